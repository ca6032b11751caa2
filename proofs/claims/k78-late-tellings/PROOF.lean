import PyProof.Rows.All
import Wide.All
import OpenK.AllK
import Wide.FinOn
import PyProof.Rows.SortShellAny
import KE.KTupSum
import KE.GoesEnum
import KE.GoesMore
import HandS.ForMost
import HandS.Walk
import PyProof.StrHeap
import PyProof.ReprHeadsTuple
import HandS.EndBits
import HandS.FStrTup
import HandS.Set
import HandS.SetFor
import HandS.SortInts
import HandS.Wide
import HandS.WideBits
import HandS.IsInst
import HandS.DictComp
import HandS.Conv
import HandS.More
import HandS.TupAny
import HandS.Style
import HandS.Text
import HandS.Flow
import PySem.Challenge.RW_faxhouse_k78_whole_late_tellings_by_all
set_option Elab.async false
set_option linter.all false
set_option maxRecDepth 100000
set_option maxHeartbeats 4000000
/-! K78m: the mirror: lines as lists of Bool (true: black); what the program and the law compute, in plain Lean -/
namespace K8
abbrev Ln := List Bool
/-- a mode -/
inductive Md where
  | stay (d : Int) | pass | runs (n m : Nat) | full (rs : List Nat)
  deriving DecidableEq
/-- the dot ahead of a place (white ahead of the first) -/
def ahd (r : Ln) (k : Nat) : Bool := if k = 0 then false else r.getD (k - 1) false
/-- the first place from k on where the colour c ends -/
def chgN (r : Ln) (c : Bool) : Nat → Nat → Nat
  | 0, _ => r.length
  | n + 1, k => if ahd r k = c ∧ r.getD k false ≠ c then k else chgN r c n (k + 1)
def chg (r : Ln) (c : Bool) (k : Nat) : Nat := chgN r c (r.length - k) k
/-- the first place from k on with the colour c -/
def bckN (r : Ln) (c : Bool) : Nat → Nat → Nat
  | 0, _ => r.length
  | n + 1, k => if r.getD k false = c then k else bckN r c n (k + 1)
def bck (r : Ln) (c : Bool) (k : Nat) : Nat := bckN r c (r.length - k) k
theorem chg_end {r : Ln} {c : Bool} {k : Nat} (h : r.length ≤ k) : chg r c k = r.length := by
  unfold chg
  rw [show r.length - k = 0 by omega]
  rfl
theorem chg_step {r : Ln} {c : Bool} {k : Nat} (h : k < r.length) : chg r c k = if ahd r k = c ∧ r.getD k false ≠ c then k else chg r c (k + 1) := by
  unfold chg
  rw [show r.length - k = (r.length - (k + 1)) + 1 by omega]
  rfl
theorem bck_end {r : Ln} {c : Bool} {k : Nat} (h : r.length ≤ k) : bck r c k = r.length := by
  unfold bck
  rw [show r.length - k = 0 by omega]
  rfl
theorem bck_step {r : Ln} {c : Bool} {k : Nat} (h : k < r.length) : bck r c k = if r.getD k false = c then k else bck r c (k + 1) := by
  unfold bck
  rw [show r.length - k = (r.length - (k + 1)) + 1 by omega]
  rfl
theorem chgN_bd (r : Ln) (c : Bool) : ∀ n k, k + n = r.length → k ≤ chgN r c n k ∧ chgN r c n k ≤ r.length
  | 0, k, h => ⟨by show k ≤ r.length; omega, Nat.le_refl _⟩
  | n + 1, k, h => by
    unfold chgN
    split
    · omega
    · have := chgN_bd r c n (k + 1) (by omega)
      omega
theorem chg_le (r : Ln) (c : Bool) (k : Nat) : chg r c k ≤ r.length := by
  by_cases h : k ≤ r.length
  · exact (chgN_bd r c _ k (by omega)).2
  · rw [chg_end (by omega)]
    exact Nat.le_refl _
theorem chg_ge {r : Ln} {c : Bool} {k : Nat} (h : k ≤ r.length) : k ≤ chg r c k := (chgN_bd r c _ k (by omega)).1
theorem bckN_bd (r : Ln) (c : Bool) : ∀ n k, k + n = r.length → k ≤ bckN r c n k ∧ bckN r c n k ≤ r.length
  | 0, k, h => ⟨by show k ≤ r.length; omega, Nat.le_refl _⟩
  | n + 1, k, h => by
    unfold bckN
    split
    · omega
    · have := bckN_bd r c n (k + 1) (by omega)
      omega
theorem bck_le (r : Ln) (c : Bool) (k : Nat) : bck r c k ≤ r.length := by
  by_cases h : k ≤ r.length
  · exact (bckN_bd r c _ k (by omega)).2
  · rw [bck_end (by omega)]
    exact Nat.le_refl _
theorem bck_ge {r : Ln} {c : Bool} {k : Nat} (h : k ≤ r.length) : k ≤ bck r c k := (bckN_bd r c _ k (by omega)).1
/-- where the colour ends, as a mode asks for it -/
def chA (r : Ln) (p : Nat) (c told : Bool) : Nat := chg r c (p + if told then 1 else 0)
/-- the place and the colour behind a mode, or none -/
def step (r : Ln) (m : Md) (p : Nat) (c told : Bool) : Option (Nat × Bool) := match m with
  | .runs n k => if p + n + k > r.length ∨ (n = 0 ∧ told = true) ∨ (k = 0 ∧ p + n < r.length) then none else some (p + n + k, c)
  | .pass => if chA r p c told < r.length then some (bck r c (chA r p c told + 1), c) else none
  | .stay d => if (chA r p c told : Int) + d > r.length ∨ (chA r p c told : Int) + d < 0 ∨ ((chA r p c told : Int) + d ≤ p ∧ told = true) then none else some (((chA r p c told : Int) + d).toNat, !c)
  | .full _ => none
def dots (m : Md) (p e : Nat) (c : Bool) : Ln := match m with
  | .runs n k => List.replicate n c ++ List.replicate k (!c)
  | _ => List.replicate (e - p) c
def readM (r : Ln) : List Md → Nat → Bool → Bool → Ln → Option Ln
  | [], p, _, _, acc => if p = r.length then some acc else none
  | m :: ms, p, c, told, acc => if p < r.length then (match step r m p c told with
    | none => none
    | some (e, c2) => readM r ms e c2 true (acc ++ dots m p e c)) else none
/-- the line of runs, from a colour on -/
def lnAt : List Nat → Bool → Ln
  | [], _ => []
  | n :: rs, c => List.replicate n c ++ lnAt rs (!c)
def isF : List Md → Bool
  | .full _ :: _ => true
  | _ => false
def read (r : Ln) (t : List Md) : Option Ln := match t with
  | .full rs :: _ => if (lnAt rs false).length = r.length then some (lnAt rs false) else none
  | _ => readM r t 0 false false []
/-! ### good tellings -/
def RunsOk (rs : List Nat) : Prop := rs ≠ [] ∧ (∀ n ∈ rs, n ≤ 40) ∧ 0 ∉ rs.tail ∧ 1 ≤ rs.sum ∧ rs.sum ≤ 40
def MdOk : Md → Prop
  | .stay d => -3 ≤ d ∧ d ≤ 3
  | .pass => True
  | .runs n m => n ≤ 40 ∧ m ≤ 40
  | .full _ => False
def TlOk (t : List Md) : Prop := (∃ rs, t = [.full rs] ∧ RunsOk rs) ∨ (t ≠ [] ∧ t.length ≤ 80 ∧ ∀ m ∈ t, MdOk m)
/-! ### lengths -/
theorem step_bd {r : Ln} {m : Md} {p : Nat} {c told : Bool} {e : Nat} {c2 : Bool} (hp : p ≤ r.length) (h : step r m p c told = some (e, c2)) (h0 : told = false → p = 0) : p ≤ e ∧ e ≤ r.length ∧ (told = true → p < r.length → p < e) ∧ (dots m p e c).length = e - p := by
  cases m with
  | runs n k =>
    simp only [step] at h
    split at h
    · cases h
    · rename_i hn
      cases h
      refine ⟨by omega, by omega, fun ht hl => ?_, ?_⟩
      · have : ¬ (n = 0 ∧ told = true) := fun z => hn (.inr (.inl z))
        have : n ≠ 0 := fun z => this ⟨z, ht⟩
        omega
      · show (List.replicate n c ++ List.replicate k (!c)).length = _
        rw [List.length_append, List.length_replicate, List.length_replicate]
        omega
  | pass =>
    simp only [step] at h
    split at h
    · rename_i hl
      cases h
      have h1 : p + (if told then 1 else 0) ≤ r.length := by
        by_cases q : p + (if told then 1 else 0) ≤ r.length
        · exact q
        · unfold chA at hl
          rw [chg_end (by omega)] at hl
          omega
      have h2 : p + (if told then 1 else 0) ≤ chA r p c told := chg_ge h1
      have h3 := bck_ge (r := r) (c := c) (k := chA r p c told + 1) hl
      have h4 := bck_le r c (chA r p c told + 1)
      have h5 : p ≤ chA r p c told := by omega
      exact ⟨by omega, h4, fun _ _ => by omega, List.length_replicate⟩
    · cases h
  | stay d =>
    simp only [step] at h
    split at h
    · cases h
    · rename_i hn
      cases h
      have h1 : ¬ ((chA r p c told : Int) + d > r.length) := fun z => hn (.inl z)
      have h2 : ¬ ((chA r p c told : Int) + d < 0) := fun z => hn (.inr (.inl z))
      have h3 : told = true → ¬ ((chA r p c told : Int) + d ≤ p) := fun ht z => hn (.inr (.inr ⟨z, ht⟩))
      refine ⟨?_, by omega, fun ht _ => ?_, List.length_replicate⟩
      · by_cases ht : told = true
        · have := h3 ht
          omega
        · have := h0 (by simpa using ht)
          omega
      · have := h3 ht
        omega
  | full rs => cases h
theorem readM_len {r : Ln} : ∀ {ms : List Md} {p : Nat} {c told : Bool} {acc x : Ln}, readM r ms p c told acc = some x → p ≤ r.length → (told = false → p = 0) → acc.length = p → x.length = r.length
  | [], p, c, told, acc, x, h, _, _, ha => by
    unfold readM at h
    split at h
    · cases h
      omega
    · cases h
  | m :: ms, p, c, told, acc, x, h, hp, h0, ha => by
    unfold readM at h
    split at h
    · split at h
      · cases h
      · rename_i e c2 hs
        obtain ⟨h1, h2, _, h4⟩ := step_bd hp hs h0
        refine readM_len h h2 (fun z => nomatch z) ?_
        rw [List.length_append, h4, ha]
        omega
    · cases h
theorem read_len {r : Ln} {t : List Md} {x : Ln} (h : read r t = some x) : x.length = r.length := by
  unfold read at h
  split at h
  · split at h
    · cases h
      assumption
    · cases h
  · exact readM_len h (Nat.zero_le _) (fun _ => rfl) rfl
/-! ### what may be known -/
def putL (acc : List Ln) (x : Ln) : List Ln := if x ∈ acc then acc else acc ++ [x]
def putO (acc : List Ln) : Option Ln → List Ln
  | some x => putL acc x
  | none => acc
def nxt (ls : List Ln) (t : List Md) : List Ln := ls.foldl (fun acc l => putO acc (read l t)) []
theorem putO_mem {acc : List Ln} {o : Option Ln} {x : Ln} : x ∈ putO acc o ↔ x ∈ acc ∨ o = some x := by
  cases o with
  | none => simp [putO]
  | some y =>
    show x ∈ putL acc y ↔ _
    unfold putL
    split
    · rename_i h
      constructor
      · exact .inl
      · rintro (h2 | h2)
        · exact h2
        · cases h2
          exact h
    · simp [eq_comm]
theorem putO_nodup {acc : List Ln} {o : Option Ln} (h : acc.Nodup) : (putO acc o).Nodup := by
  cases o with
  | none => exact h
  | some y =>
    show (putL acc y).Nodup
    unfold putL
    split
    · exact h
    · rename_i hn
      rw [List.nodup_append]
      refine ⟨h, by simp, fun a ha b hb e => ?_⟩
      rw [List.mem_singleton.mp hb] at e
      exact hn (e ▸ ha)
theorem putO_length (acc : List Ln) (o : Option Ln) : (putO acc o).length ≤ acc.length + 1 := by
  cases o with
  | none => exact Nat.le_succ _
  | some y =>
    show (putL acc y).length ≤ _
    unfold putL
    split
    · exact Nat.le_succ _
    · simp
theorem nxtF_mem (t : List Md) (x : Ln) : ∀ (ls acc : List Ln), x ∈ ls.foldl (fun acc l => putO acc (read l t)) acc ↔ x ∈ acc ∨ ∃ l ∈ ls, read l t = some x
  | [], acc => by simp
  | l :: ls, acc => by
    rw [List.foldl_cons, nxtF_mem t x ls, putO_mem]
    simp [or_assoc]
theorem nxtF_nodup (t : List Md) : ∀ (ls acc : List Ln), acc.Nodup → (ls.foldl (fun acc l => putO acc (read l t)) acc).Nodup
  | [], acc, h => h
  | l :: ls, acc, h => nxtF_nodup t ls _ (putO_nodup h)
theorem nxtF_length (t : List Md) : ∀ (ls acc : List Ln), (ls.foldl (fun acc l => putO acc (read l t)) acc).length ≤ acc.length + ls.length
  | [], acc => by simp
  | l :: ls, acc => by
    have h1 := nxtF_length t ls (putO acc (read l t))
    have h2 := putO_length acc (read l t)
    simp only [List.foldl_cons, List.length_cons]
    omega
theorem nxt_mem {ls : List Ln} {t : List Md} {x : Ln} : x ∈ nxt ls t ↔ ∃ l ∈ ls, read l t = some x := by
  unfold nxt
  rw [nxtF_mem]
  simp
theorem nxt_nodup (ls : List Ln) (t : List Md) : (nxt ls t).Nodup := nxtF_nodup t ls [] (by simp)
theorem nxt_length (ls : List Ln) (t : List Md) : (nxt ls t).length ≤ ls.length := by
  have := nxtF_length t ls []
  simpa [nxt] using this
theorem nxt_width {ls : List Ln} {t : List Md} {w : Nat} (h : ∀ l ∈ ls, l.length = w) : ∀ l ∈ nxt ls t, l.length = w := fun x hx => by
  obtain ⟨l, hl, e⟩ := nxt_mem.mp hx
  rw [read_len e]
  exact h l hl
/-- behind several -/
def aft (ls : List Ln) (ts : List (List Md)) : List Ln := ts.foldl nxt ls
theorem aft_nodup {ls : List Ln} (h : ls.Nodup) : ∀ ts : List (List Md), (aft ls ts).Nodup := fun ts => by
  unfold aft
  induction ts generalizing ls with
  | nil => exact h
  | cons t ts ih => exact ih (nxt_nodup ls t)
theorem aft_length (ls : List Ln) (ts : List (List Md)) : (aft ls ts).length ≤ ls.length := by
  unfold aft
  induction ts generalizing ls with
  | nil => exact Nat.le_refl _
  | cons t ts ih => exact Nat.le_trans (ih (nxt ls t)) (nxt_length ls t)
theorem aft_width {ls : List Ln} {w : Nat} (h : ∀ l ∈ ls, l.length = w) (ts : List (List Md)) : ∀ l ∈ aft ls ts, l.length = w := by
  unfold aft
  induction ts generalizing ls with
  | nil => exact h
  | cons t ts ih => exact ih (nxt_width h)
theorem aft_snoc (ls : List Ln) (ts : List (List Md)) (t : List Md) : aft ls (ts ++ [t]) = nxt (aft ls ts) t := by
  unfold aft
  rw [List.foldl_append]
  rfl
/-- all lines of a width -/
def allL : Nat → List Ln
  | 0 => [[]]
  | n + 1 => (allL n).flatMap fun l => [l ++ [true], l ++ [false]]
theorem allL_mem : ∀ {n : Nat} {x : Ln}, x ∈ allL n ↔ x.length = n
  | 0, x => by
    show x ∈ [[]] ↔ _
    simp [List.length_eq_zero_iff]
  | n + 1, x => by
    show x ∈ (allL n).flatMap (fun l => [l ++ [true], l ++ [false]]) ↔ _
    rw [List.mem_flatMap]
    constructor
    · rintro ⟨l, hl, hx⟩
      have h1 := allL_mem.mp hl
      simp only [List.mem_cons, List.not_mem_nil, or_false] at hx
      rcases hx with e | e
      · rw [e, List.length_append, h1]
        rfl
      · rw [e, List.length_append, h1]
        rfl
    · intro h
      have hne : x ≠ [] := fun e => by rw [e] at h; cases h
      have hd : x = x.dropLast ++ [x.getLast hne] := (List.dropLast_concat_getLast hne).symm
      refine ⟨x.dropLast, allL_mem.mpr (by rw [List.length_dropLast]; omega), ?_⟩
      rw [hd]
      cases x.getLast hne <;> simp
theorem allL_length : ∀ n : Nat, (allL n).length = 2 ^ n
  | 0 => rfl
  | n + 1 => by
    show ((allL n).flatMap fun l => [l ++ [true], l ++ [false]]).length = _
    rw [List.length_flatMap]
    have : ∀ (L : List Ln), (L.map fun l => ([l ++ [true], l ++ [false]] : List Ln).length).sum = 2 * L.length := by
      intro L
      induction L with
      | nil => rfl
      | cons a L ih =>
        rw [List.map_cons, List.sum_cons, ih]
        show 2 + 2 * L.length = 2 * (L.length + 1)
        omega
    rw [this, allL_length n, Nat.pow_succ]
    omega
theorem allL_nodup : ∀ n : Nat, (allL n).Nodup
  | 0 => by
    show ([[]] : List Ln).Nodup
    simp
  | n + 1 => by
    show ((allL n).flatMap fun l => [l ++ [true], l ++ [false]]).Nodup
    have ih := allL_nodup n
    generalize allL n = L at ih
    induction L with
    | nil => simp
    | cons a L ihL =>
      obtain ⟨h1, h2⟩ := List.nodup_cons.mp ih
      rw [List.flatMap_cons, List.nodup_append]
      refine ⟨by simp, ihL h2, fun x hx y hy e => ?_⟩
      subst e
      obtain ⟨l, hl, hy⟩ := List.mem_flatMap.mp hy
      simp only [List.mem_cons, List.not_mem_nil, or_false] at hx hy
      have : a = l := by
        rcases hx with e1 | e1 <;> rcases hy with e2 | e2 <;> (rw [e1] at e2; exact (List.append_inj' e2 rfl).1)
      exact h1 (this ▸ hl)
/-! ### rows -/
def cp (b : Bool) : Nat := if b then 35 else 46
theorem cp_inj {a b : Bool} (h : cp a = cp b) : a = b := by
  cases a <;> cases b <;> first | rfl | (exact absurd h (by decide))
/-- the sign of a row at a place -/
def sgn (ls : List Ln) (k : Nat) : Nat := match ls with
  | [] => 63
  | l :: _ => if ls.all (fun x => x.getD k false == l.getD k false) then cp (l.getD k false) else 63
def rowL (w : Nat) (ls : List Ln) : Option (List Nat) := if ls = [] then none else some ((List.range w).map (sgn ls))
theorem sgn_some {ls : List Ln} {k : Nat} {b : Bool} (h : ls ≠ []) (hb : ∀ x ∈ ls, x.getD k false = b) : sgn ls k = cp b := by
  cases ls with
  | nil => exact absurd rfl h
  | cons l r =>
    have h1 := hb l List.mem_cons_self
    have : ((l :: r).all fun x => x.getD k false == l.getD k false) = true := List.all_eq_true.mpr fun x hx => by
      rw [hb x hx, h1]
      simp
    show (if ((l :: r).all fun x => x.getD k false == l.getD k false) = true then cp (l.getD k false) else 63) = _
    rw [if_pos this, h1]
theorem sgn_none {ls : List Ln} {k : Nat} {x y : Ln} (hx : x ∈ ls) (hy : y ∈ ls) (h : x.getD k false ≠ y.getD k false) : sgn ls k = 63 := by
  cases ls with
  | nil => rfl
  | cons l r =>
    have : ¬ ((l :: r).all fun x => x.getD k false == l.getD k false) = true := fun z => by
      have z1 := List.all_eq_true.mp z x hx
      have z2 := List.all_eq_true.mp z y hy
      simp only [beq_iff_eq] at z1 z2
      exact h (z1.trans z2.symm)
    show (if ((l :: r).all fun x => x.getD k false == l.getD k false) = true then cp (l.getD k false) else 63) = _
    rw [if_neg this]
theorem sgn_congr {ls ms : List Ln} (h : ∀ x, x ∈ ls ↔ x ∈ ms) (k : Nat) : sgn ls k = sgn ms k := by
  cases ls with
  | nil =>
    have : ms = [] := List.eq_nil_iff_forall_not_mem.mpr fun x hx => by
      have := (h x).mpr hx
      cases this
    rw [this]
  | cons l r =>
    by_cases q : ∀ x ∈ l :: r, x.getD k false = l.getD k false
    · rw [sgn_some (by simp) q, sgn_some (b := l.getD k false) (fun e => by have := (h l).mp List.mem_cons_self; rw [e] at this; cases this) fun x hx => q x ((h x).mpr hx)]
    · obtain ⟨x, hx⟩ := Classical.not_forall.mp q
      obtain ⟨hx, hne⟩ := Classical.not_imp.mp hx
      rw [sgn_none hx List.mem_cons_self hne, sgn_none ((h x).mp hx) ((h l).mp List.mem_cons_self) hne]
theorem nil_congr {ls ms : List Ln} (h : ∀ x, x ∈ ls ↔ x ∈ ms) : ls = [] ↔ ms = [] := by
  constructor <;> intro e
  · exact List.eq_nil_iff_forall_not_mem.mpr fun x hx => by
      have := (h x).mpr hx
      rw [e] at this
      cases this
  · exact List.eq_nil_iff_forall_not_mem.mpr fun x hx => by
      have := (h x).mp hx
      rw [e] at this
      cases this
theorem rowL_congr {w : Nat} {ls ms : List Ln} (h : ∀ x, x ∈ ls ↔ x ∈ ms) : rowL w ls = rowL w ms := by
  unfold rowL
  by_cases e : ls = []
  · rw [if_pos e, if_pos ((nil_congr h).mp e)]
  · rw [if_neg e, if_neg (fun z => e ((nil_congr h).mpr z))]
    congr 1
    exact List.map_congr_left fun k _ => sgn_congr h k
theorem sgn_cases (ls : List Ln) (k : Nat) : sgn ls k = 35 ∨ sgn ls k = 46 ∨ sgn ls k = 63 := by
  cases ls with
  | nil => exact .inr (.inr rfl)
  | cons l r =>
    by_cases q : ((l :: r).all fun x => x.getD k false == l.getD k false) = true
    · have e : sgn (l :: r) k = cp (l.getD k false) := if_pos q
      rw [e]
      cases l.getD k false
      · exact .inr (.inl rfl)
      · exact .inl rfl
    · exact .inr (.inr (if_neg q))
theorem rowL_sgn {w : Nat} {ls : List Ln} {r : List Nat} (h : rowL w ls = some r) : r.length = w ∧ ∀ c ∈ r, c = 35 ∨ c = 46 ∨ c = 63 := by
  unfold rowL at h
  split at h
  · cases h
  · cases h
    refine ⟨by simp, fun c hc => ?_⟩
    obtain ⟨k, _, rfl⟩ := List.mem_map.mp hc
    exact sgn_cases ls k
/-- the rows behind tellings, up to one that is refused -/
def rws (w : Nat) : List Ln → List (List Md) → List (Option (List Nat))
  | _, [] => []
  | ls, t :: ts => if nxt ls t = [] then [none] else rowL w (nxt ls t) :: rws w (nxt ls t) ts
theorem nxt_nil (t : List Md) : nxt [] t = [] := rfl
theorem aft_nil : ∀ ts : List (List Md), aft [] ts = []
  | [] => rfl
  | t :: ts => aft_nil ts
theorem rws_snoc (w : Nat) (t : List Md) : ∀ (ls : List Ln) (ts : List (List Md)), rws w ls (ts ++ [t]) = if none ∈ rws w ls ts then rws w ls ts else rws w ls ts ++ [rowL w (nxt (aft ls ts) t)]
  | ls, [] => by
    show (if nxt ls t = [] then [none] else rowL w (nxt ls t) :: []) = _
    rw [if_neg (show ¬ none ∈ rws w ls [] from by simp [rws])]
    show _ = [] ++ [rowL w (nxt ls t)]
    split
    · rename_i e
      rw [e]
      rfl
    · rfl
  | ls, u :: ts => by
    show (if nxt ls u = [] then [none] else rowL w (nxt ls u) :: rws w (nxt ls u) (ts ++ [t])) = _
    show _ = if none ∈ (if nxt ls u = [] then [none] else rowL w (nxt ls u) :: rws w (nxt ls u) ts) then (if nxt ls u = [] then [none] else rowL w (nxt ls u) :: rws w (nxt ls u) ts) else (if nxt ls u = [] then [none] else rowL w (nxt ls u) :: rws w (nxt ls u) ts) ++ [rowL w (nxt (aft (nxt ls u) ts) t)]
    by_cases e : nxt ls u = []
    · simp [e]
    · rw [if_neg e, if_neg e, rws_snoc w t (nxt ls u) ts]
      have hn : rowL w (nxt ls u) ≠ none := by
        unfold rowL
        rw [if_neg e]
        exact fun z => nomatch z
      by_cases q : none ∈ rws w (nxt ls u) ts
      · rw [if_pos q, if_pos (List.mem_cons_of_mem _ q)]
      · rw [if_neg q, if_neg (fun z => (List.mem_cons.mp z).elim (fun z => hn z.symm) q)]
        rfl
/-- a refused row is the last one, and then nothing is known -/
theorem rws_none (w : Nat) : ∀ (ls : List Ln) (ts : List (List Md)), none ∈ rws w ls ts → aft ls ts = [] ∧ (rws w ls ts).getLast? = some none
  | ls, [], h => by simp [rws] at h
  | ls, t :: ts, h => by
    unfold rws at h ⊢
    show aft (nxt ls t) ts = [] ∧ _
    split at h
    · rename_i e
      rw [if_pos e, e]
      exact ⟨aft_nil ts, rfl⟩
    · rename_i e
      rw [if_neg e]
      have hn : rowL w (nxt ls t) ≠ none := by
        unfold rowL
        rw [if_neg e]
        exact fun z => nomatch z
      have q := (List.mem_cons.mp h).resolve_left fun z => hn z.symm
      obtain ⟨h1, h2⟩ := rws_none w (nxt ls t) ts q
      refine ⟨h1, ?_⟩
      cases hr : rws w (nxt ls t) ts with
      | nil => rw [hr] at q; cases q
      | cons a r =>
        rw [hr] at h2
        rw [List.getLast?_cons_cons]
        exact h2
theorem rws_full (w : Nat) : ∀ (ls : List Ln) (ts : List (List Md)), none ∉ rws w ls ts → (rws w ls ts).length = ts.length ∧ (ts ≠ [] → aft ls ts ≠ [])
  | ls, [], _ => ⟨rfl, fun z => absurd rfl z⟩
  | ls, t :: ts, h => by
    unfold rws at h ⊢
    show _ ∧ (_ → aft (nxt ls t) ts ≠ [])
    split at h
    · exact absurd List.mem_cons_self h
    · rename_i e
      rw [if_neg e]
      obtain ⟨h1, h2⟩ := rws_full w (nxt ls t) ts fun z => h (List.mem_cons_of_mem _ z)
      refine ⟨by rw [List.length_cons, List.length_cons, h1], fun _ => ?_⟩
      cases ts with
      | nil => exact e
      | cons a r => exact h2 (by simp)
theorem rws_length (w : Nat) : ∀ (ls : List Ln) (ts : List (List Md)), (rws w ls ts).length ≤ ts.length
  | ls, [] => Nat.le_refl _
  | ls, t :: ts => by
    unfold rws
    split
    · simp
    · have := rws_length w (nxt ls t) ts
      simp only [List.length_cons]
      omega
theorem rws_ok (w : Nat) : ∀ (ls : List Ln) (ts : List (List Md)) (r : List Nat), some r ∈ rws w ls ts → r.length = w ∧ ∀ c ∈ r, c = 35 ∨ c = 46 ∨ c = 63
  | ls, [], r, h => by simp [rws] at h
  | ls, t :: ts, r, h => by
    unfold rws at h
    split at h
    · simp at h
    · rcases List.mem_cons.mp h with e | e
      · exact rowL_sgn e.symm
      · exact rws_ok w _ ts r e
/-! ### from which number on all is sure -/
def sureO : Option (List Nat) → Bool
  | some r => !r.contains 63
  | none => false
/-- as the law goes on, row by row -/
def stl (rs : List (Option (List Nat))) : Option Nat := (rs.zipIdx).foldl (fun f p => if sureO p.1 then some (f.getD p.2) else none) none
theorem stl_snoc (rs : List (Option (List Nat))) (r : Option (List Nat)) : stl (rs ++ [r]) = if sureO r then some ((stl rs).getD rs.length) else none := by
  unfold stl
  rw [List.zipIdx_append, List.foldl_append]
  simp
/-- one more than the number of the last row that isn't sure, or 0 -/
def lastU (rs : List (Option (List Nat))) : Nat := (rs.zipIdx).foldl (fun f p => if sureO p.1 then f else p.2 + 1) 0
theorem lastU_snoc (rs : List (Option (List Nat))) (r : Option (List Nat)) : lastU (rs ++ [r]) = if sureO r then lastU rs else rs.length + 1 := by
  unfold lastU
  rw [List.zipIdx_append, List.foldl_append]
  simp
theorem rev_ind {α : Type} {P : List α → Prop} (h0 : P []) (h1 : ∀ l x, P l → P (l ++ [x])) : ∀ l, P l := fun l => by
  rw [← List.reverse_reverse l]
  induction l.reverse with
  | nil => exact h0
  | cons x l ih =>
    rw [List.reverse_cons]
    exact h1 _ _ ih
theorem lastU_le (rs : List (Option (List Nat))) : lastU rs ≤ rs.length := by
  refine rev_ind (P := fun rs => lastU rs ≤ rs.length) (Nat.le_refl _) (fun l x ih => ?_) rs
  rw [lastU_snoc, List.length_append]
  split
  · show lastU l ≤ l.length + 1
    omega
  · exact Nat.le_refl _
theorem stl_eq (rs : List (Option (List Nat))) : stl rs = if lastU rs < rs.length then some (lastU rs) else none := by
  refine rev_ind (P := fun rs => stl rs = if lastU rs < rs.length then some (lastU rs) else none) rfl (fun l x ih => ?_) rs
  have hle := lastU_le l
  rw [stl_snoc, lastU_snoc, List.length_append, ih]
  show _ = if (if sureO x then lastU l else l.length + 1) < l.length + 1 then _ else _
  cases sureO x with
  | true =>
    simp only [if_true]
    rw [if_pos (show lastU l < l.length + 1 by omega)]
    by_cases h : lastU l < l.length
    · rw [if_pos h]
      rfl
    · rw [if_neg h]
      show some l.length = some (lastU l)
      rw [show lastU l = l.length by omega]
  | false =>
    simp
/-- what is told of tellings in a row: none where they are refused -/
def stlD (rs : List (Option (List Nat))) : Option Nat := if none ∈ rs then none else stl rs
end K8
/-! K78r1: rules that the layer lacks: text times int, sum of a tuple, sorted of any number of texts, enumerate of a tuple, of a text -/
namespace K8
open PySem PySem.Spec PyProof.Rows L2

section
variable {X : Cx}
/-- a text, k times -/
def rMulS : V → V → Hp → VK → Prop := fun x y H Q => ∃ (z : Str) (i : Int), x = .str z ∧ y = .int i ∧ (-1000 ≤ i ∧ i ≤ 1000) ∧ z.length ≤ 1000 ∧ Q (.str (Txt.mul z i)) H
theorem mulOk_small {z : Str} {i : Int} (h1 : -1000 ≤ i) (h2 : i ≤ 1000) (hz : z.length ≤ 1000) : MulOk z i := by
  refine ⟨?_, fun h3 _ => ?_, fun h3 _ => ?_⟩
  · rw [decide_eq_false (by omega), decide_eq_false (by omega)]
    rfl
  · have h4 : (1000 : Int) ≤ (2 ^ 63 - 1) / i := by
      rw [Int.le_ediv_iff_mul_le (by omega)]
      omega
    omega
  · show decide (z.length * i.toNat > sizeLine) = false
    have h5 : z.length * i.toNat ≤ 1000 * 1000 := Nat.mul_le_mul hz (by omega)
    rw [sizeLine_eq]
    exact decide_eq_false (by omega)
theorem op_mulS : OpR X (binaryOp .Mult) rMulS := by
  intro pins s σ H x y v u Q I rx ry hq
  obtain ⟨z, i, rfl, rfl, ⟨h1, h2⟩, hz, q⟩ := hq
  obtain ⟨t, rfl⟩ := rx
  obtain ⟨t2, rfl⟩ := ry
  exact SB.mul (mulOk_small h1 h2 hz) fun t3 k => ⟨.str _, H, I.tok k, ⟨t3, rfl⟩, q⟩
/-- a += b of texts -/
theorem ip_addS : PIp X .Add (fun x y H Q => ∃ i j : Str, x = .str i ∧ y = .str j ∧ i.length + j.length ≤ sizeLine ∧ Q (.str (i ++ j)) H) :=
  fun pins s σ H x y v u Q I r1 r2 hq => iop_add_str pins s σ H x y v u Q I r1 r2 hq

/-- sum of a tuple of ints -/
def rSumT (K : PySem.W.Frag) : List V → Hp → VK → Prop := fun vs H Q => ∃ (a : Addr) (ns : List Int), vs = [V.ref a] ∧ SqT K H a (ns.map V.int) ∧ Q (.int ns.sum) H
theorem cr_sumT (hc : X.calm = true) : CallR X (.builtin "sum") (rSumT X.K) := by
  intro pins s σ H vs us Q I r hq
  obtain ⟨a, ns, rfl, hs, q⟩ := hq
  obtain ⟨its, rv, ht, _⟩ := I.tuple hs
  rw [Vals.ref1 r]
  obtain ⟨xs, e⟩ := rv.ints.allInts.items
  have hn : numsOf (intItems xs).toList = ns := by
    rw [← e]
    exact rv.ints.numsOf
  rw [nums_intItems] at hn
  have ht2 : s.heap.IsTuple a (intItems xs) := by
    rw [← e]
    exact ht
  refine PySem.W.ktm_sumG (I.ok.hd hc) ht2 fun h2 tk t2 hk => ?_
  have e2 : preSum (numAt xs) xs.size = ns.sum := by
    rw [preSum_eq, List.take_of_length_le (by simp), hn]
  rw [e2]
  exact ⟨.int _, H, I.kept hk, ⟨_, rfl⟩, q⟩

/-- sorted of texts, any number of them -/
def rSortS (K : PySem.W.Frag) : List V → Hp → VK → Prop := fun vs H Q => ∃ (a : Addr) (xs : List Str), vs = [V.ref a] ∧ SqL K H a (xs.map V.str) ∧
  ∀ (ys : List Str) (p : Addr), ys.Perm xs → sortedS ys = true → H p = none → Q (.ref p) (upd H p (.lst (ys.map V.str)))
theorem cr_sortS : CallR X (.builtin "sorted") (rSortS X.K) := by
  intro pins s σ H vs us Q I r hq
  obtain ⟨a, xs, rfl, hs, q⟩ := hq
  obtain ⟨its, rv, hl, hz⟩ := I.list hs
  rw [Vals.ref1 r]
  have hlen0 := rv.length
  refine PyProof.Rows.sorted_strsAny hl.isList rv.strs (by omega) fun out ys h1 h2 h3 => ?_
  obtain ⟨ep, he⟩ := PyProof.Rows.sortedAll_at s.heap its out
  have hlen : (ys.map V.str).length ≤ sizeLine := by
    rw [List.length_map, h2.length_eq]
    rw [List.length_map] at hz
    exact hz
  exact ⟨.ref _, upd H (s.heap.objs.size + 1) (.lst (ys.map V.str)), I.laid (t' := s.toks) (fun _ _ => PyProof.Rows.sortedAll_old) (Nat.le_succ _) ⟨hlen, out.toList, ep, vals_of_strs h1, he⟩, rfl, q ys _ h2 h3 (I.hok.fresh (Nat.le_succ _))⟩
end

/-! ### enumerate of a tuple, of a text -/
/-- the tuple's items, each in a new pair -/
def ItnT (K : PySem.W.Frag) (a : Addr) : It :=
  ⟨fun i H => ∃ (xs : List V) (x : V), SqT K H a xs ∧ xs[i]? = some x, fun i H v H1 => ∃ T x, v = .ref T ∧ H T = none ∧ H1 = upd H T (.tup [.int (i : Nat), x]) ∧ ∀ xs, SqT K H a xs → xs[i]? = some x, fun i H => ∃ xs : List V, SqT K H a xs ∧ xs.length ≤ i⟩
/-- the text's signs, each in a new pair -/
def ItnS (z : Str) : It :=
  ⟨fun i _ => i < z.cps.size, fun i H v H1 => ∃ T c, v = .ref T ∧ H T = none ∧ H1 = upd H T (.tup [.int (i : Nat), .str ⟨#[c]⟩]) ∧ z.cps[i]? = some c, fun i _ => i = z.cps.size⟩
theorem cls_ne {a b : Heap → Prop} {h : Heap} {p q : Addr} {o u : Obj} (hp : h.get? p = some o) (hq : h.get? q = some u) (d : o.cls ≠ u.cls) : p ≠ q := fun e => by
  subst e
  rw [hp] at hq
  cases hq
  exact d rfl
section
variable {P : Program} {w : World} {K : PySem.W.Frag}
/-- one item drawn, paired, given out -/
theorem enum_turn {X : Cx} {pins : List (Addr × Obj)} {s : Shared} {σ : L2.St} {H : Hp} {E : Value → Shared → Prop} {e it : Addr} {fp : List Addr} {n i : Nat} {old : Value} {Pv : Nat → Value → Prop} {Sv : Nat → Heap → Prop} {elts : List Expr} {kk : Nat} {tpos : Pos} {R : Value → Shared → Prop}
    (D : Draws X.prog X.w X.A.in1 it fp n Pv Sv) (I : Inv X pins σ H s) (hf : ∀ b ∈ [e, it], FpOk X pins H b) (he : IsEnum s.heap e it ((i : Nat) : Int) old) (hst : Sv i s.heap) (hi : i < n) (hne : e ≠ it) (hef : e ∉ fp)
    (hR : ∀ (x : Value) (y : V) (s2 : Shared), Pv i x → RelV y x → Inv X pins σ (upd H s.heap.objs.size (.tup [.int (i : Nat), y])) s2 → (∃ o2, IsEnum s2.heap e it ((i + 1 : Nat) : Int) o2) → Sv (i + 1) s2.heap → R (.ref s.heap.objs.size) s2) (hv : ∀ x, Pv i x → ∃ y, RelV y x) :
    wpAny (model X.prog X.w) X.A (pyNext (.ref e)) (fun r s1 => ∃ u, r = some u ∧ wpAny (model X.prog X.w) X.A (letOwnedTupleGo (.Tuple elts kk tpos) (.ref e) u) (fun _ s2 => R u s2) E s1) E s := by
  have hel : e < s.heap.objs.size := Heap.lt_size he
  refine wpAny_pyNext_enum_itemC D he hst hi hne hef fun x h1 tk hP ho hs1 hT hsz hk => ?_
  obtain ⟨y, ry⟩ := hv x hP
  refine ⟨_, rfl, wpAny_letOwnedTupleGo_enum (s := { s with heap := h1, toks := tk + 1 }) ho fun h2 he2 sb => ?_⟩
  have hT2 : h2.get? s.heap.objs.size = some { cls := .type "tuple", data := .seq #[.int i tk, x] } := (sb.2 _ (Nat.ne_of_gt hel)).trans hT
  have new : ObjOk X.prog X.w (upd H s.heap.objs.size (.tup [.int (i : Nat), y])) h2 s.heap.objs.size (.tup [.int (i : Nat), y]) :=
    ⟨by show 2 ≤ sizeLine; decide, [.int i tk, x], .cons ⟨_, rfl⟩ (.cons ry .nil), ⟨_, hT2, rfl, _, rfl⟩⟩
  have I1 : Inv X pins σ (upd H s.heap.objs.size (.tup [.int (i : Nat), y])) { s with heap := h2, toks := tk + 1 } :=
    I.turnedNew (ch := [e, it]) (fun b ob hb q => (sb.2 b (fun z => hb (by simp [z]))).trans (hk b ob (fun z => hb (by simp [z])) (fun z => hb (by simp [z])) q)) hf (Nat.le_refl _) new
  refine hR x y _ hP ry I1 ⟨x, ?_⟩ (D.frame _ _ _ hs1 fun b hb o q => (sb.2 b fun z => hef (z ▸ hb)).trans q)
  have e1 : ((i + 1 : Nat) : Int) = (i : Int) + 1 := by omega
  rw [e1]
  exact he2
theorem turn_enumT {elts : List Expr} {kk : Nat} {tpos : Pos} (a e it : Addr) :
    Turn P w K (.Tuple elts kk tpos) (ItnT K a) [e, it] e (fun i h => (∃ old, IsEnum h e it ((i : Nat) : Int) old) ∧ h.IsTupleIter it a i ∧ e ≠ it) where
  mem := by simp
  obj := fun i h st b hb => by
    obtain ⟨⟨old, he⟩, ⟨o, ho, hc, hd⟩, _⟩ := st
    have e2 : b = e ∨ b = it := by simpa using hb
    rcases e2 with z | z
    · rw [z]; exact ⟨_, he, fun v q => nomatch q⟩
    · rw [z]; exact ⟨o, ho, fun v q => by rw [hd] at q; cases q⟩
  keep := fun i h h2 st k => let ⟨⟨old, he⟩, hi, hne⟩ := st; ⟨⟨old, k e (by simp) _ he⟩, hi.at fun o q => k it (by simp) o q, hne⟩
  item := by
    intro X hP hw hK hc i pins s σ H E I hf st hg
    subst hP hw hK
    obtain ⟨⟨old, he⟩, hit, hne⟩ := st
    obtain ⟨xs, x, hq, hx⟩ := hg
    obtain ⟨its, rv, p, hz⟩ := I.tuple hq
    have hl := rv.length
    have hxi : i < xs.length := (List.getElem?_eq_some_iff.mp hx).1
    have d1 : a ≠ it := by
      obtain ⟨o1, q1, c1, _⟩ := hit
      obtain ⟨o2, q2, c2, _⟩ := p
      exact cls_ne (a := fun _ => True) (b := fun _ => True) q2 q1 (by rw [c1, c2]; decide)
    have d2 : e ≠ a := by
      obtain ⟨o2, q2, c2, _⟩ := p
      exact cls_ne (a := fun _ => True) (b := fun _ => True) he q2 (by rw [c2]; show Value.type "enumerate" ≠ Value.type "tuple"; decide)
    have D := Draws.tuple (prog := X.prog) (w := X.w) (A := X.A.in1) (I.ok.hd hc) it a d1 its.toArray
    refine enum_turn D I hf he ⟨hit, p⟩ (by simp; omega) hne (by simp; exact ⟨hne, d2⟩) (fun x2 y s2 hP ry I2 he2 hs2 => ?_) (fun x2 hP => ?_)
    · refine ⟨.ref s.heap.objs.size, _, I2, rfl, ⟨_, y, rfl, I.hok.fresh (Nat.le_refl _), rfl, fun ys hy => ?_⟩, ⟨he2, hs2.1, hne⟩, fun b hb => ?_⟩
      · rw [I.tuple_inj hy hq]
        obtain ⟨u, hu, ru⟩ := rv.get hx
        have hP2 : its[i]? = some x2 := by simpa using hP
        rw [hu] at hP2
        cases hP2
        rw [hx, RelV.inj ry ru]
      · have hlt : b < s.heap.objs.size := by
          have e2 : b = e ∨ b = it := by simpa using hb
          rcases e2 with z | z
          · rw [z]; exact Heap.lt_size he
          · rw [z]; obtain ⟨_, q, _⟩ := hit; exact Heap.lt_size q
        rw [upd_ne (Nat.ne_of_lt hlt)]
        exact (hf b hb).1
    · have hP2 : its[i]? = some x2 := by simpa using hP
      obtain ⟨u, hu, ru⟩ := rv.get hx
      rw [hu] at hP2
      cases hP2
      exact ⟨_, ru⟩
  done := by
    intro X hP hw hK hc i pins s σ H E I hf st hg
    subst hP hw hK
    obtain ⟨⟨old, he⟩, hit, hne⟩ := st
    obtain ⟨xs, hq, hx⟩ := hg
    obtain ⟨its, rv, p, hz⟩ := I.tuple hq
    obtain ⟨f0, f1, f2, f3, f4, f5⟩ := hf it (by simp)
    have hl := rv.length
    have hT : s.TypeIs (.ref e) "enumerate" := ⟨_, he, rfl⟩
    unfold pyNext
    refine wpAny_bind (wpAny_attempt (wpAny_callSpecial?_slot (name := Str.ofString "__next__") hT F.slot_enumerate_next
      (wpAny_call_entry F.slot_enumerate_next hT F.entry_enumerate_next ?_ (F.args_enumerate_next_1 _))))
    show wpAny _ _ (field (.ref e) 2 >>= _) _ _ _
    refine wpAny_bind (wpAny_field he rfl (x := .ref it) rfl ?_)
    refine wpAny_bind (wpAny_nextOf_tuple_end (A := X.A.in1) (I.ok.hd hc) hit (show s.heap.IsTuple a its.toArray from p) (by simp; omega) fun h2 x he2 hx2 => ?_)
    obtain ⟨o, ho, hcl⟩ := hx2
    refine wpAny_bind (wpAny_isInstance (T := "StopIteration") (b := true) ⟨o, ho, hcl⟩ isSubtype_stop ?_)
    exact wpAny_pure ⟨rfl, I.turned (t' := s.toks) (fun b o hb q => he2 b o hb q) f0 f1 f3 f4 f5⟩
  self := fun A i s Q E st h => let ⟨⟨_, he⟩, _⟩ := st; wpAny_pyIter_enum he h
theorem turn_enumS {elts : List Expr} {kk : Nat} {tpos : Pos} (z : Str) (t : Tok) (e it : Addr) :
    Turn P w K (.Tuple elts kk tpos) (ItnS z) [e, it] e (fun i h => (∃ old, IsEnum h e it ((i : Nat) : Int) old) ∧ h.IsStrIter it (strIterType z) z t i ∧ e ≠ it) where
  mem := by simp
  obj := fun i h st b hb => by
    obtain ⟨⟨old, he⟩, ⟨o, ho, hc, hd⟩, _⟩ := st
    have e2 : b = e ∨ b = it := by simpa using hb
    rcases e2 with z | z
    · rw [z]; exact ⟨_, he, fun v q => nomatch q⟩
    · rw [z]; exact ⟨o, ho, fun v q => by rw [hd] at q; cases q⟩
  keep := fun i h h2 st k => let ⟨⟨old, he⟩, ⟨o, ho, r⟩, hne⟩ := st; ⟨⟨old, k e (by simp) _ he⟩, ⟨o, k it (by simp) o ho, r⟩, hne⟩
  item := by
    intro X hP hw hK hc i pins s σ H E I hf st hg
    subst hP hw hK
    obtain ⟨⟨old, he⟩, hit, hne⟩ := st
    have hi : i < z.cps.size := hg
    have D := Draws.text (prog := X.prog) (w := X.w) (A := X.A.in1) (I.ok.hd hc) it z t
    refine enum_turn D I hf he hit hi hne (by simpa using hne) (fun x2 y s2 hP ry I2 he2 hs2 => ?_) (fun x2 hP => ?_)
    · obtain ⟨c, u, hcp, rfl⟩ := hP
      have ey : y = .str ⟨#[c]⟩ := RelV.inj ry ⟨u, rfl⟩
      subst ey
      refine ⟨.ref s.heap.objs.size, _, I2, rfl, ⟨_, c, rfl, I.hok.fresh (Nat.le_refl _), rfl, hcp⟩, ⟨he2, hs2, hne⟩, fun b hb => ?_⟩
      have hlt : b < s.heap.objs.size := by
        have e2 : b = e ∨ b = it := by simpa using hb
        rcases e2 with z | z
        · rw [z]; exact Heap.lt_size he
        · rw [z]; obtain ⟨_, q, _⟩ := hit; exact Heap.lt_size q
      rw [upd_ne (Nat.ne_of_lt hlt)]
      exact (hf b hb).1
    · obtain ⟨c, u, hcp, rfl⟩ := hP
      exact ⟨.str ⟨#[c]⟩, u, rfl⟩
  done := by
    intro X hP hw hK hc i pins s σ H E I hf st hg
    subst hP hw hK
    obtain ⟨⟨old, he⟩, hit, hne⟩ := st
    obtain ⟨f0, f1, f2, f3, f4, f5⟩ := hf it (by simp)
    have hi : i = z.cps.size := hg
    subst hi
    have D := Draws.text (prog := X.prog) (w := X.w) (A := X.A.in1) (I.ok.hd hc) it z t
    exact wpAny_pyNext_enum_endD D he hit fun h2 hx => ⟨rfl, I.turned (t' := s.toks) (fun b o hb q => hx b o hb q) f0 f1 f3 f4 f5⟩
  self := fun A i s Q E st h => let ⟨⟨_, he⟩, _⟩ := st; wpAny_pyIter_enum he h
end
/-! the call of enumerate with one tuple -/
set_option maxHeartbeats 1000000 in
theorem meets_enumT (l : Addr) (items : Array Value) (n : Nat) (dct : Option Addr) (sl : Array (Option Value)) :
    Meets (Builtin.«enumerate.__new__» ⟨[.type "enumerate", .ref l], []⟩) (fun _ R s => s.heap.get? l = some { cls := .type "tuple", dict := dct, data := .seq items n, slots := sl } ∧
      R (.ok (.ret (.ref (s.heap.push { cls := .type "tuple_iterator", data := .fields #[.ref l, .int 0 0] }).objs.size)))
        { s with heap := (s.heap.push { cls := .type "tuple_iterator", data := .fields #[.ref l, .int 0 0] }).push { cls := .type "enumerate", data := .fields #[.none, .bool false, .ref s.heap.objs.size, rawInt 0, .none, .none] } }) :=
  .of_wp fun prog w A R s h => by
    obtain ⟨hp, g, d, tk, os⟩ := s; obtain ⟨hl, h⟩ := h
    have hsub := sub_enumerate
    have hL : Heap.IsTuple (Shared.heap ⟨hp, g, d, tk, os⟩) l items := ⟨_, hl, rfl, n, rfl⟩
    wp_walk using AutoSeq1.wpAny_loadPart' hl
    refine wpAny_stack_any fun st => wpAny_pure ?_
    split
    · rename_i c _ _ _ _ _
      cases (c == Value.type "enumerate")
      · wp_walk using AutoSeq1.wpAny_loadPart' hl, wpAny_pyIter_tuple hL
        exact ⟨_, rfl, h⟩
      · wp_walk using AutoSeq1.wpAny_loadPart' hl, wpAny_pyIter_tuple hL
        exact ⟨_, rfl, h⟩
    · wp_walk using AutoSeq1.wpAny_loadPart' hl, wpAny_pyIter_tuple hL
      exact ⟨_, rfl, h⟩
section
variable {prog : Program} {w : World} {A : Around} {E : Value → Shared → Prop} {s : Shared}
theorem call_enumT {l : Addr} {items : Array Value} {Q : Value → Shared → Prop} (hL : s.heap.IsTuple l items)
    (h : ∀ h2, IsEnum h2 (s.heap.objs.size + 1) s.heap.objs.size 0 .none → h2.IsTupleIter s.heap.objs.size l 0 → (∀ b o, s.heap.get? b = some o → h2.get? b = some o) → Q (.ref (s.heap.objs.size + 1)) { s with heap := h2 }) :
    wpAny (model prog w) A (call (.type "enumerate") [.ref l]) Q E s := by
  obtain ⟨⟨c, dct, dt, sl⟩, hl, hc, n, hd⟩ := hL
  replace hc : c = .type "tuple" := hc
  replace hd : dt = .seq items n := hd
  subst hc hd
  refine callType_new F.called_enumerate (by decide) (F.typeCall_enumerate_1 _) (F.newCall_enumerate_1 _) (fun obj => F.args_object_init_2 obj _) F.entry_enumerate_new (meets_enumT l items n dct sl) ⟨hl, ?_⟩
  have hz : (s.heap.push { cls := .type "tuple_iterator", data := .fields #[.ref l, .int 0 0] }).objs.size = s.heap.objs.size + 1 := Heap.size_push ..
  show _ ∧ _
  rw [hz]
  have he : IsEnum ((s.heap.push { cls := .type "tuple_iterator", data := .fields #[.ref l, .int 0 0] }).push { cls := .type "enumerate", data := .fields #[.none, .bool false, .ref s.heap.objs.size, rawInt 0, .none, .none] })
      (s.heap.objs.size + 1) s.heap.objs.size 0 .none := by
    have q := Heap.get?_push_size (s.heap.push { cls := .type "tuple_iterator", data := .fields #[.ref l, .int 0 0] }) (o := { cls := .type "enumerate", data := .fields #[.none, .bool false, .ref s.heap.objs.size, rawInt 0, .none, .none] }) rfl
    rw [hz] at q
    exact q
  exact ⟨⟨_, he, rfl⟩, h _ he ⟨_, Heap.get?_push_of_some _ (Heap.get?_push_size _ rfl), rfl, rfl⟩ fun b o x => Heap.get?_push_of_some _ (Heap.get?_push_of_some _ x)⟩
end
section
variable {X : Cx} {e : Expr} {ta : TA} {p pos tpos : Pos} {elts : List Expr} {kk : Nat}
def iEnumT (K : PySem.W.Frag) (ta : TA) : TI := fun σ H R => ta σ H fun vs H1 => ∃ a xs, vs = [.ref a] ∧ SqT K H1 a xs ∧ R (ItnT K a) H1
def iEnumS (ta : TA) : TI := fun σ H R => ta σ H fun vs H1 => ∃ z, vs = [.str z] ∧ R (ItnS z) H1
theorem two_new {H : Hp} {s : Shared} {pins : List (Addr × Obj)} {σ : L2.St} (I : Inv X pins σ H s) : ∀ b ∈ [s.heap.objs.size + 1, s.heap.objs.size], FpOk X pins H b := fun b hb => by
  have e2 : b = s.heap.objs.size + 1 ∨ b = s.heap.objs.size := by simpa using hb
  have hle : s.heap.objs.size ≤ b := by
    rcases e2 with z | z
    · rw [z]; exact Nat.le_add_right _ _
    · rw [z]; exact Nat.le_refl _
  exact I.fpOk hle (I.hok.fresh hle)
theorem pi_enumT (hg : Gl X "enumerate") (hm : X.mg "enumerate" = none) (ha : PA X [e] ta) (hs : starEach [e] X.env = [(false, eval e X.env)] := by rfl) :
    PI X (.Tuple elts kk tpos) (.Call (.Name "enumerate" p) [e] [] pos) (iEnumT X.K ta) := by
  refine ⟨fun pins s σ H R I h => ?_⟩
  refine Call_ (ld_blt I hg hm boot_enumerate (PyProof.Rows.callWith_type1 (thn (ha.run pos pins s σ H _ I h) fun us s1 ⟨vs, H1, I1, r1, q1⟩ => ?_) hs rfl))
  obtain ⟨a, xs, ex, hq, q⟩ := q1
  subst ex
  rw [Vals.ref1 r1]
  obtain ⟨its, rv, pp, hz⟩ := I1.tuple hq
  refine call_enumT pp fun h2 he hit hk => wpAny_pyIter_enum he ?_
  exact ⟨s1.heap.objs.size + 1, [s1.heap.objs.size + 1, s1.heap.objs.size], _, _, H1, rfl, I1.kept (t' := s1.toks) hk, turn_enumT a (s1.heap.objs.size + 1) s1.heap.objs.size, ⟨⟨.none, he⟩, hit, Nat.succ_ne_self _⟩, two_new I1, q⟩
theorem pi_enumS (hg : Gl X "enumerate") (hm : X.mg "enumerate" = none) (ha : PA X [e] ta) (hs : starEach [e] X.env = [(false, eval e X.env)] := by rfl) :
    PI X (.Tuple elts kk tpos) (.Call (.Name "enumerate" p) [e] [] pos) (iEnumS ta) := by
  refine ⟨fun pins s σ H R I h => ?_⟩
  refine Call_ (ld_blt I hg hm boot_enumerate (PyProof.Rows.callWith_type1 (thn (ha.run pos pins s σ H _ I h) fun us s1 ⟨vs, H1, I1, r1, q1⟩ => ?_) hs rfl))
  obtain ⟨z, ex, q⟩ := q1
  subst ex
  cases r1 with
  | cons r rr =>
    cases rr
    obtain ⟨t, rfl⟩ := r
    refine call_enumerate_str fun h2 he hit hsz hk => wpAny_pyIter_enum he ?_
    exact ⟨s1.heap.objs.size + 1, [s1.heap.objs.size + 1, s1.heap.objs.size], _, _, H1, rfl, I1.kept (t' := s1.toks) hk, turn_enumS z t (s1.heap.objs.size + 1) s1.heap.objs.size, ⟨⟨.none, he⟩, hit, Nat.succ_ne_self _⟩, two_new I1, q⟩
theorem walk_enumT {K : PySem.W.Frag} {a : Addr} {xs : List V} : Walk (ItnT K a) xs.length (fun H => SqT K H a xs) (YPair (fun i => some (.int (i : Nat))) (fun i => xs[i]?)) := by
  refine ⟨fun i _ hi q => ⟨xs, xs[i], q, by simp [hi]⟩, fun _ q => ⟨xs, q, Nat.le_refl _⟩, fun i H v H1 _ q y => ?_⟩
  obtain ⟨T, x, h1, h2, h3, h4⟩ := y
  exact ⟨T, .int (i : Nat), x, h1, h2, h3, rfl, h4 xs q⟩
theorem walk_enumS {z : Str} : Walk (ItnS z) z.cps.size (fun _ => True) (YPair (fun i => some (.int (i : Nat))) (fun i => z.cps[i]?.map fun c => V.str ⟨#[c]⟩)) := by
  refine ⟨fun i _ hi q => hi, fun _ q => rfl, fun i H v H1 _ q y => ?_⟩
  obtain ⟨T, c, h1, h2, h3, h4⟩ := y
  exact ⟨T, .int (i : Nat), .str ⟨#[c]⟩, h1, h2, h3, rfl, by simp [h4]⟩
end
end K8
/-! K78r2: repr of a tuple of texts and None, of None, of an int, where no repr is under way; defs that are called where none is -/
namespace K8
open PySem PySem.Spec PyProof.Rows L2

/-! ### defs that run where no repr is under way -/
structure FnG (P : Program) (w : World) (K : PySem.W.Frag) (mg : Str → Option Value) (base : Heap) (CX : CXT) (k : Nat) (f : Addr) (fd : FuncData) (ps : List Str) (sp : Sp) : Prop where
  len : ∀ vs H Q E, sp vs H Q E → vs.length = ps.length
  go : ∀ (A : Around) (outer : List Env) (s : Shared) (H : Hp) (args : Args) (us : List Value) (vs : List V) (Q : VK) (E : XK), A.guards = some [] → Room k A → Env0 P w K mg base A outer s H → BindsTo s fd args (ps.zip us) →
    Vals vs us → sp vs H Q E → codeAny (model P w) A (.call (.ref f) args) (CR CX outer P w H s Q E) s

section
variable {P : Program} {w : World} {K : PySem.W.Frag} {mg : Str → Option Value} {base : Heap}
theorem Fun_okG {x qual : Str} {st : Stmt} {f : Addr} {fd : FuncData} {N ps : List Str} {k : Nat} {sp : Sp} (F : Fun K x qual st f fd) (S : FnScope N ps (defScope st)) (len : ∀ vs H Q E, sp vs H Q E → vs.length = ps.length)
    (hbody : ∀ (cdv : Value) (A : Around) (outer : List Env) (s : Shared) (H : Hp) (vs : List V) (Q : VK) (E : XK), (A.deeper (envOfC qual (defScope st) s.heap.objs.size f cdv)).guards = some [] →
      Room k (A.deeper (envOfC qual (defScope st) s.heap.objs.size f cdv)) → sp vs H Q E →
      ∃ t, PSs (cxOf CX0 P w K mg base N qual (defScope st) f cdv A outer s H E).nox (defBody st) t ∧ t { nx := fun _ H1 => Q .non H1, rt := Q } (start N vs) H) : FnG P w K mg base CX0 (k + 1) f fd ps sp := by
  obtain ⟨oc, od, kV, doc, pm, an, cdv, ct, osl, rfl, lk, hcd⟩ := F.ex
  refine ⟨len, fun A outer s H args us vs Q E hgd hr e0 hb r hsp => ?_⟩
  have hl := len _ _ _ _ hsp
  have KX : K.In s.heap := e0.mod.kin.keeps fun b o e => (e0.bs b o e).1
  have lim : s.heap.NoLimit := e0.mod.nolimit.keeps fun b o e => (e0.bs b o e).1
  have hkind : ∀ y ∈ ps.zip us, (defScope st).names.lookup y.1 = some .local ∨ ((defScope st).names.lookup y.1 = some .cell ∧ ((cellsFrom (s.heap.objs.size + 1) (defScope st).names []).lookup y.1).isSome = true) := fun ⟨n, v⟩ hy => by
    rcases S.par n (List.of_mem_zip hy).1 with q | q
    · exact .inl q
    · exact .inr ⟨q, PySem.W.cellsFrom_some _ _ _ (.inl q)⟩
  refine codeAny_call_function hr.depth (KX _ _ lk) rfl S.co S.gen rfl (PySem.W.codeRec_of KX hcd) (hb _ _ _ _ ?_)
  refine wpAny_newFunctionEnv_cells S.kind hkind fun env he s1 z => ?_
  subst he
  refine ⟨lim.keeps z.toInCall.keep, codeAny_func ?_⟩
  obtain ⟨t, ht, hq⟩ := hbody cdv A outer s H vs Q E hgd (hr.deeper _) hsp
  have I : Inv (cxOf CX0 P w K mg base N qual (defScope st) f cdv A outer s H E) [] (start N vs) H s1 := inv_start S hr.hd e0 hl r z
  refine wpAny_mono (ht.nox.run [] s1 (start N vs) H _ I hq) (fun fl s2 hs => ?_) fun e s2 hs => hs
  have fin : ∀ {σ2 : L2.St} {H2 : Hp} {v : V} {u : Value}, Inv (cxOf CX0 P w K mg base N qual (defScope st) f cdv A outer s H E) [] σ2 H2 s2 → RelV v u → Q v H2 → CE outer P w H s Q u s2 :=
    fun {σ2 H2 v u} J rv q => ⟨v, H2, J.os, J.bare, J.base, J.hok, rv, q⟩
  cases fl with
  | ret u =>
    obtain ⟨v, σ2, H2, J, rv, q⟩ := hs
    exact fin J rv q
  | next =>
    obtain ⟨σ2, H2, J, q⟩ := hs
    exact fin (v := V.non) (u := Value.none) J rfl q
  | brk => exact hs.elim fun _ z => z.elim fun _ z => z.2.elim
  | cont => exact hs.elim fun _ z => z.elim fun _ z => z.2.elim
end
section
variable {X : Cx} {k : Nat} {f : Addr} {fd : FuncData} {ps : List Str} {sp : Sp} {x : Str} {p pos : Pos} {e : Expr} {es : List Expr} {t : TA}
/-- f(e, ..) of such a def -/
theorem pe_callG (G : FnG X.prog X.w X.K X.mg X.base CX0 k f fd ps sp) (hgd : X.A.guards = some []) (hr : Room k X.A) (hg : Gl X x) (hm : X.mg x = some (.ref f)) (hk : PySem.W.keepIn X.K (.ref f) = true) (hb : Binds X.K fd ps [])
    (ha : PA X (e :: es) t) (hdb : (x == ("__debug__" : Str)) = false := by decide) (he : starEach (e :: es) X.env = (false, eval e X.env) :: starEach es X.env := by rfl) (hpl : (backTo pos (starEach es X.env)).any (·.1) = false := by rfl) :
    PE X (.Call (.Name x p) (e :: es) [] pos) (tCall sp [] E0 t) := by
  refine ⟨fun pins s σ H Q I hq => ?_⟩
  refine wpAny_Call_Name_kw (ld_glob I hg hm ?_ hdb)
  refine PySem.W.callWith_K (h₀ := X.base) I.ok.mod.kin hk (thn (ha.run pos pins s σ H _ I hq) fun us s1 ⟨vs, H1, I1, r, q⟩ => ⟨I1.kIn, ?_⟩) he hpl
  have q2 : sp vs H1 Q E0 := by
    have z : sp (vs ++ []) H1 Q E0 := q
    rw [List.append_nil] at z
    exact z
  have hl : us.length = ps.length := by
    rw [← r.length]
    exact G.len _ _ _ _ q2
  have hb2 : BindsTo s1 fd ⟨us, []⟩ (ps.zip us) := by
    have z := hb s1 us I1.kIn (by rw [List.append_nil]; exact hl)
    rw [List.append_nil] at z
    exact z
  refine wpAny_call (codeAny_mono (G.go X.A X.stack s1 H1 ⟨us, []⟩ us vs Q E0 hgd hr I1.env0 hb2 r q2) fun rr s2 hq2 => ?_)
  cases rr with
  | error e => exact False.elim hq2
  | ok fl =>
    cases fl with
    | ret u => exact I1.after hq2
    | next => exact False.elim hq2
    | brk => exact False.elim hq2
    | cont => exact False.elim hq2
end

/-! ### repr -/
/-- what repr shows of a text, None, an int -/
def shV : V → Str
  | .str x => reprText x
  | .int i => toString i
  | _ => "None"
/-- a text of few plain signs, or None -/
def ShOk : V → Prop
  | .str x => x.length ≤ 100 ∧ ∀ c ∈ x.cps.toList, c < 16 ^ 8
  | .non => True
  | _ => False
def shT (ys : List V) : Str := tupleText (ys.map shV)
theorem shV_le {y : V} (h : ShOk y) : (shV y).length ≤ 1002 := by
  cases y with
  | str x =>
    have q := StrLaws.reprText_len x h.2
    have z := h.1
    show (reprText x).length ≤ 1002
    omega
  | non => decide +kernel
  | _ => exact h.elim
theorem shs_piled : ∀ (ys : List V), (∀ y ∈ ys, ShOk y) → piled (ys.map shV) ≤ 1004 * ys.length
  | [], _ => Nat.zero_le _
  | y :: ys, h => by
    rw [List.map_cons, piled_cons, List.length_cons]
    have q := shV_le (h y List.mem_cons_self)
    have z := shs_piled ys fun u hu => h u (List.mem_cons_of_mem _ hu)
    omega
theorem reprs_of {prog : Program} {w : World} : ∀ {ys : List V} {its : List Value}, Vals ys its → (∀ y ∈ ys, ShOk y) → ReprAll prog w its (ys.map shV)
  | [], _, r, _ => by
    cases r
    exact .nil
  | y :: l, _, r, h => by
    cases r with
    | cons r1 r2 =>
      refine .cons ?_ (reprs_of r2 fun z hz => h z (List.mem_cons_of_mem _ hz))
      have hy := h y List.mem_cons_self
      cases y with
      | str x =>
        obtain ⟨t, rfl⟩ := r1
        have q := StrLaws.reprText_len x hy.2
        have z := hy.1
        exact ReprIs.str x t (by rw [sizeLine_eq]; omega)
      | non =>
        cases (show _ = Value.none from r1)
        exact ReprIs.none
      | _ => exact hy.elim
def rRepr (K : PySem.W.Frag) : List V → Hp → VK → Prop := fun xs H Q =>
  (∃ (a : Addr) (ys : List V), xs = [.ref a] ∧ SqT K H a ys ∧ ys.length ≤ 1000 ∧ (∀ y ∈ ys, ShOk y) ∧ Q (.str (shT ys)) H) ∨ (xs = [.non] ∧ Q (.str (shV .non)) H) ∨ ∃ i : Int, xs = [.int i] ∧ i.natAbs ≤ 1000 ∧ Q (.str (shV (.int i))) H
theorem cr_repr {X : Cx} (hgd : X.A.guards = some []) (hu : X.A.units + 64 < cLine) : CallR X (.builtin "repr") (rRepr X.K) := by
  intro pins s σ H xs us Q I r hq
  rcases hq with ⟨a, ys, rfl, ht, hl, hok, q⟩ | ⟨rfl, q⟩ | ⟨i, rfl, hi, q⟩
  · rw [Vals.ref1 r]
    obtain ⟨its, rv, ⟨o, ho, hc, n, hd⟩, hz⟩ := I.tuple ht
    have hp := shs_piled ys hok
    have htx := fmt_text (ys.map shV)
    have hsz : (tupleText (ys.map shV)).length ≤ sizeLine := by
      rw [sizeLine_eq]
      omega
    refine call_repr_slot (T := "tuple") (by omega) ⟨o, ho, hc⟩ F.slot_tuple_repr (call_tuple_repr (g := []) ⟨o, ho, hc⟩ hgd (fun c hc => absurd hc (by simp)) ho hd (reprs_of rv hok) (fun u tk => ?_) hsz)
    exact ⟨_, _, rfl, .str _, H, I.tok tk, ⟨u, rfl⟩, q⟩
  · obtain ⟨u, rfl, ru⟩ : ∃ u, us = [u] ∧ RelV .non u := by
      cases r with
      | cons r1 r2 =>
        cases r2
        exact ⟨_, rfl, r1⟩
    cases (show u = Value.none from ru)
    exact P.repr_of_none ⟨.str _, H, I.tok _, ⟨_, rfl⟩, q⟩
  · obtain ⟨u, rfl, ru⟩ : ∃ u, us = [u] ∧ RelV (.int i) u := by
      cases r with
      | cons r1 r2 =>
        cases r2
        exact ⟨_, rfl, r1⟩
    obtain ⟨t, rfl⟩ := ru
    have h2 : i.natAbs < 2 ^ 1920 := Nat.lt_of_le_of_lt hi (Nat.lt_of_lt_of_le (by decide : 1000 < 2 ^ 10) (Nat.pow_le_pow_right (by decide) (by decide)))
    have h1 : i.natAbs.log2 < 1920 := by
      by_cases h0 : i.natAbs = 0
      · rw [h0]
        decide
      · exact (Nat.log2_lt h0).mpr h2
    exact P.repr_of_int h1 ⟨.str _, H, I.tok _, ⟨_, rfl⟩, q⟩

/-! ### the law's own head over such a def -/
theorem law_callG {P : Program} {w : World} {K : PySem.W.Frag} {mg mb : Str → Option Value} {k : Nat} {fa a : Addr} {fd : FuncData} {x : Str} {sp : Sp} {s₁ : Shared} {vs : List Value} {ns : List Int}
    (KX : K.In s₁.heap) (hns : s₁.heap.Ns mainGlobals mg) (hb : s₁.heap.Ns builtinsNs mb) (hbb : ∀ x : Str, x ≠ "__name__" → mb x = bootBuiltins x) (hlim : s₁.heap.NoLimit) (hg : s₁.gens = #[])
    (ha : s₁.heap.get? a = some { cls := .type "list", data := .seq vs.toArray }) (hi : IntsAre vs ns) (hl : ns.length ≤ sizeLine) (hr : Room k callerA)
    (F : ∀ base : Heap, K.In base → base.Ns mainGlobals mg → FnG P w K mg base CX0 k fa fd [x] sp) (hbind : ∀ (s : Shared) (u : Value), BindsTo s fd ⟨[u], []⟩ [(x, u)])
    (hsp : ∀ H : Hp, Only H → SqL K H a (ns.map V.int) → sp [.ref a] H (fun v _ => v = .bl true) fun _ _ _ => False) :
    codeAny (model P w) callerA (.call (.ref fa) ⟨[.ref a], []⟩) (fun r s2 => r = .ok (.ret (.bool true)) ∧ PySem.OldK s₁.heap s2.heap ∧ s2.os = s₁.os ∧ AllBare s2.gens) s₁ := by
  have rv := vals_ints hi
  have lenV := hi.length
  have core : ∀ H : Hp, Only H → SqL K H a (ns.map V.int) → HOk P w H s₁.heap → (∀ b, H b ≠ none → b = a) → (H a ≠ none → K.lookup a = none) →
      codeAny (model P w) callerA (.call (.ref fa) ⟨[.ref a], []⟩) (fun r s2 => r = .ok (.ret (.bool true)) ∧ PySem.OldK s₁.heap s2.heap ∧ s2.os = s₁.os ∧ AllBare s2.gens) s₁ := by
    intro H hO hS hok hA hK
    have noA : ∀ {b : Addr} {o : Obj} {es : Array DictEntry} {ep : Nat}, s₁.heap.get? b = some o → o.data = .dict es ep → H b = none := fun {b o es ep} e d => by
      cases q : H b with
      | none => rfl
      | some u =>
        have e1 : b = a := hA b (by rw [q]; simp)
        subst e1
        rw [ha] at e
        cases e
        exact nomatch (show Data.seq vs.toArray _ = Data.dict es ep from d)
    have nsK : ∀ {b : Addr} {m : Str → Option Value}, s₁.heap.Ns b m → (hidT s₁.heap H).Ns b m := fun {b m} ⟨o, es, ep, e, d, r⟩ => ⟨o, es, ep, hidT_get e (noA e d), d, r⟩
    have hKb : K.In (hidT s₁.heap H) := fun b o e => hidT_get (KX b o e) (by
      cases q : H b with
      | none => rfl
      | some u =>
        have e1 : b = a := hA b (by rw [q]; simp)
        subst e1
        rw [hK (by rw [q]; simp)] at e
        cases e)
    have hM : Mod K mg (hidT s₁.heap H) := ⟨hKb, nsK hns, ⟨mb, nsK hb, hbb⟩, let ⟨mc, h1, h2⟩ := hlim; ⟨mc, nsK h1, h2⟩⟩
    have e0 : Env0 P w K mg (hidT s₁.heap H) callerA [] s₁ H := ⟨rfl, hM, fun b o e => of_hidT e, Nat.le_of_eq (hidT_size _ _), trivial, fun b hb => absurd (show b ∈ ([] : List Addr) from hb) (by simp), hok, .of_eq hg⟩
    refine codeAny_mono ((F _ hKb (nsK hns)).go callerA [] s₁ H ⟨[.ref a], []⟩ [.ref a] [.ref a] _ _ rfl hr e0 (hbind s₁ (.ref a)) (.cons rfl .nil) (hsp H hO hS)) fun r s2 h => ?_
    match r, h with
    | .ok (.ret u), ⟨v, H2, os, bare, un, hok2, r2, q⟩ =>
      have q2 : v = .bl true := q
      subst q2
      obtain rfl : u = Value.bool true := r2
      refine ⟨rfl, PySem.OldK.of_keep fun b o e => ?_, os, bare⟩
      cases q : H b with
      | none => exact un.keep b o e q (fun z => absurd (show b ∈ ([] : List Addr) from z) (by simp)) (by simp)
      | some u =>
        rcases hO b with z | ⟨ob, xs, z⟩
        · rw [q] at z
          cases z
        · have z2 := un.frzs b ob _ z
          have e1 := (hok b _ z).1
          have e2 := (hok2 b _ z2).1
          rw [e] at e1
          cases e1
          exact e2
  cases hk : K.lookup a with
  | some o =>
    have e := KX a o hk
    rw [ha] at e
    cases e
    exact core (fun _ => none) (fun _ => .inl rfl) (.inr ⟨_, vs.toArray, _, hk, rfl, rfl, rfl, by rw [List.size_toArray, lenV]; exact hl, by simpa using rv⟩) (fun b u z => nomatch (show (none : Option HO) = some u from z)) (fun b z => absurd rfl z) fun z => absurd rfl z
  | none =>
    refine core (fun b => if b = a then some (.frz { cls := .type "list", data := .seq vs.toArray } (.lst (ns.map V.int))) else none) (fun b => ?_) (.inl (.inr ⟨{ cls := .type "list", data := .seq vs.toArray }, if_pos rfl⟩)) (fun b u z => ?_) (fun b z => ?_) fun _ => hk
    · by_cases hb : b = a
      · exact .inr ⟨_, _, if_pos hb⟩
      · exact .inl (if_neg hb)
    · by_cases hb : b = a
      · have z1 := (if_pos hb).symm.trans z
        cases z1
        subst hb
        exact ⟨ha, by rw [List.length_map]; exact hl, vs, _, rv, ha⟩
      · exact nomatch (if_neg hb).symm.trans z
    · by_cases hb : b = a
      · exact hb
      · exact absurd (if_neg hb) z
theorem walk_ofG {l : PySem.W.OpenLaw} {n k : Nat} {q : Program} {loose : List Str} {XP : (Str → Option Value) → Heap → Prop} {YP : World → Heap → Prop} {d : PySem.DefRec} {K : Params → PySem.W.Frag} {sp : World → Sp} {x : Str}
    (hn : l.most = some n) (hn2 : n ≤ sizeLine) (hdf : d.params.defaults = []) (hr : Room k callerA) (hY : ∀ (w : World) (h : Heap), YP w h → (K w.params).In h)
    (F : ∀ (w : World) (mg : Str → Option Value) (fa : Addr) (h : Heap), (K w.params).In h → h.Ns mainGlobals mg → mg d.name = some (.ref fa) →
      ∃ fd : FuncData, (∀ (s : Shared) (u : Value), BindsTo s fd ⟨[u], []⟩ [(x, u)]) ∧ ∀ base : Heap, (K w.params).In base → base.Ns mainGlobals mg → FnG l.prog w (K w.params) mg base CX0 k fa fd [x] (sp w))
    (hsp : ∀ (w : World) (H : Hp) (a : Addr) (ns : List Int), ns.length ≤ n → (∀ z ∈ ns, Builtin.Int.intBits z ≤ 1048576) → Only H → SqL (K w.params) H a (ns.map V.int) → sp w [.ref a] H (fun v _ => v = .bl true) fun _ _ _ => False) :
    PySem.W.WalkO q loose XP YP l.row.toRowW d [] (fun f vs => PySem.call f vs) := by
  refine Att.attach_callB hn hdf fun w s₀ s₁ mg mb fa o pm cd doc a vs ns G Y ho hd hcd hmg hobj hints hlen hbits hg => ?_
  have KX := hY w _ Y
  obtain ⟨fd, hb, hF⟩ := F w mg fa _ KX G.T.g hmg
  exact law_callG KX G.T.g G.T.b G.T.builtins G.T.nolimit hg hobj hints (Nat.le_trans hlen hn2) hr hF hb fun H hO hS => hsp w H a ns hlen hbits hO hS
end K8
set_option maxHeartbeats 8000000
/-! K78r3: sorted(set(a list of texts)): the texts, each once, ascending -/
namespace K8
open PySem PySem.Spec PyProof.Rows L2

/-! ### a set of texts as it stands in the heap: the entries, their table rising -/
def txtOf (e : Int × Value) : Str := match e.2 with | .str k _ => k | _ => Str.empty
def TxE (w : World) (e : Int × Value) : Prop := ∃ k tk, e.2 = Value.str k tk ∧ e.1 = hashStr w k
structure TxSet (w : World) (h : Heap) (a : Addr) (L : List Str) (n : Nat) (o : Obj) (es : Array (Int × Value)) (ep : Nat) (t : SetTable) : Prop where
  at_ : h.get? a = some o
  exact_ : o.ExactSet
  data : o.data = .set es ep t
  good : ∀ e ∈ es.toList, TxE w e
  nodup : (es.toList.map txtOf).Nodup
  mem : ∀ k, k ∈ L ↔ k ∈ es.toList.map txtOf
  few : es.size < scanBound
  fits : t.fits es.size = true
  size : es.size = n
  ris : Ris t.place.toList
  led : w.params.followText "set-order" = true ∨ t.led = true
/-- the set at a has the texts of L, n of them -/
def TxS (w : World) (h : Heap) (a : Addr) (L : List Str) (n : Nat) : Prop := ∃ o es ep t, TxSet w h a L n o es ep t
section
variable {P : Program} {w : World} {h h2 : Heap} {a : Addr} {L L2' : List Str} {n : Nat}
theorem TxS.at (R : TxS w h a L n) (k : ∀ o, h.get? a = some o → h2.get? a = some o) : TxS w h2 a L n := by
  obtain ⟨o, es, ep, t, r⟩ := R
  exact ⟨o, es, ep, t, { r with at_ := k o r.at_ }⟩
theorem TxS.congr (R : TxS w h a L n) (e : ∀ k, k ∈ L ↔ k ∈ L2') : TxS w h a L2' n := by
  obtain ⟨o, es, ep, t, r⟩ := R
  exact ⟨o, es, ep, t, { r with mem := fun k => (e k).symm.trans (r.mem k) }⟩
theorem tx_elems {l : List (Int × Value)} (g : ∀ e ∈ l, TxE w e) : ElemsOf (PySem.strKind P w) l := fun e he => by
  obtain ⟨k, tk, h1, h3⟩ := g e he
  exact ⟨⟨k, by rw [h1]; exact strKind_is P w k tk, h3⟩, by rw [h1]; rfl⟩
theorem tx_is {e : Int × Value} (g : TxE w e) (k : Str) : (PySem.strKind P w).is k e.2 = true ↔ txtOf e = k := by
  obtain ⟨k0, tk, h1, _⟩ := g
  unfold txtOf
  rw [h1]
  show Value.isStrOf k (.str k0 tk) = true ↔ k0 = k
  simp [Value.isStrOf]
theorem tx_mem {l : List (Int × Value)} (g : ∀ e ∈ l, TxE w e) (k : Str) : k ∈ l.map txtOf ↔ ∃ e ∈ l, (PySem.strKind P w).is k e.2 = true := by
  rw [List.mem_map]
  exact ⟨fun ⟨e, he, q⟩ => ⟨e, he, (tx_is (g e he) k).2 q⟩, fun ⟨e, he, q⟩ => ⟨e, he, (tx_is (g e he) k).1 q⟩⟩
end

section
variable {P : Program} {w : World} {A : Around} {E : Value → Shared → Prop} {s : Shared} {a : Addr} {L : List Str} {n : Nat}
/-- a table is stored, and laid anew where it is too full -/
theorem tx_tail {g : Bool → Sem Unit} (hg : ∀ (b : Bool) (s₁ : Shared) (Q1 : Unit → Shared → Prop), Q1 () s₁ → wpAny (model P w) A (g b) Q1 E s₁)
    {o : Obj} {es : Array (Int × Value)} {ep : Nat} {t : SetTable} (ho : s.heap.get? a = some o) (hex : o.ExactSet) (hd : o.data = .set es ep t)
    {es1 : Array (Int × Value)} {t2 : SetTable} {L1 : List Str} (g1 : ∀ e ∈ es1.toList, TxE w e) (nd1 : (es1.toList.map txtOf).Nodup) (m1 : ∀ k, k ∈ L1 ↔ k ∈ es1.toList.map txtOf)
    (hb1 : es1.size < scanBound) (hf2 : t2.fits es1.size = true) (hr : Ris t2.place.toList) (hl : w.params.followText "set-order" = true ∨ t2.led = true) {wasDummy : Bool} {R : Option Bool → Shared → Prop}
    (hR : ∀ h1, Heap.SameBut a s.heap h1 → TxS w h1 a L1 es1.size → R (some true) { s with heap := h1 }) :
    wpAny (model P w) A (do
        storeSet a es1 t2
        if (!wasDummy && t2.tooFull) = true then do
            g (relayAll t2 es1 (SetTable.grown es1.size)).2.2
            storeSet a (relayAll t2 es1 (SetTable.grown es1.size)).1 (relayAll t2 es1 (SetTable.grown es1.size)).2.1
            pure (some true)
          else pure (some true)) R E s := by
  refine wpAny_bind (wpAny_storeSet_of ho hd ?_ (fits_of_scanBound hb1))
  have ho1 := store_at (es' := es1) (t' := t2) ho hd
  have sb1 := Heap.SameBut.update s.heap a (Obj.putSet es1 t2)
  split
  · have pm := relayAll_perm t2 es1 (SetTable.grown es1.size)
    have hf3 := relayAll_fits t2 es1 (SetTable.grown es1.size)
    have hr3 := relayAll_ris t2 es1 (SetTable.grown es1.size)
    have hl3 := relayAll_led t2 es1 (SetTable.grown es1.size)
    generalize relayAll t2 es1 (SetTable.grown es1.size) = Z at pm hf3 hr3 hl3 ⊢
    obtain ⟨es2, t3, gave⟩ := Z
    dsimp only at pm hf3 hr3 hl3 ⊢
    have hsz : es2.size = es1.size := by
      rw [← Array.length_toList, pm.length_eq, Array.length_toList]
    have hb2 : es2.size < scanBound := hsz ▸ hb1
    refine wpAny_bind (hg _ _ _ (wpAny_bind (wpAny_storeSet_of ho1 rfl ?_ (fits_of_scanBound hb2))))
    have ho2 := store_at (es' := es2) (t' := t3) ho1 rfl
    exact wpAny_pure (hR _ (sb1.trans (Heap.SameBut.update _ a _)) ⟨_, es2, _, t3,
      { at_ := ho2, exact_ := hex, data := rfl, good := fun e he => g1 e (pm.mem_iff.mp he), nodup := (pm.map txtOf).nodup_iff.mpr nd1, mem := fun k => (m1 k).trans (pm.map txtOf).mem_iff.symm,
        few := hb2, fits := hf3, size := hsz, ris := hr3, led := hl.imp id fun z => by rw [hl3]; exact z }⟩)
  · exact wpAny_pure (hR _ sb1 ⟨_, es1, _, t2, { at_ := ho1, exact_ := hex, data := rfl, good := g1, nodup := nd1, mem := m1, few := hb1, fits := hf2, size := rfl, ris := hr, led := hl }⟩)

theorem tx_add {k : Str} {tk : Tok} {Q : Bool → Shared → Prop} (R : TxS w s.heap a L n) (room : n + 1 < scanBound)
    (hQ : ∀ b h1 m, Heap.SameBut a s.heap h1 → TxS w h1 a (k :: L) m → m ≤ n + 1 → Q b { s with heap := h1 }) :
    wpAny (model P w) A (setAddHashed a (.str k tk) ((PySem.strKind P w).hash k)) Q E s := by
  obtain ⟨o, es, ep, t, r⟩ := R
  have hkey : (PySem.strKind P w).is k (.str k tk) = true := strKind_is P w k tk
  have hsc : (Value.str k tk).scannable = true := rfl
  have hel : ElemsOf (PySem.strKind P w) es.toList := tx_elems r.good
  have hgw : ∀ (b : Bool) {s₁ : Shared} {Q1 : Unit → Shared → Prop}, Q1 () s₁ → wpAny (model P w) A (match b with | true => rule "set.scan.the-table-gave-way" | false => pure ()) Q1 E s₁ :=
    fun b s₁ Q1 q => by cases b <;> first | exact wpAny_pure q | exact wpAny_rule q
  unfold setAddHashed setAddHashedIn
  refine wpAny_holding (wpAny_bind (wpAny_setState_of r.at_ r.data r.fits ?_))
  dsimp only
  rw [byScan_of hsc r.few hel]
  simp only [↓reduceIte]
  unfold setAddByScan
  refine wpAny_bind (wpAny_bind (wpAny_rule (wpAny_bind (wpAny_setScan_of hkey r.at_ r.data r.fits hel ?_))))
  cases hfi : List.findIdx? (fun e => (PySem.strKind P w).is k e.2) es.toList with
  | some j =>
    dsimp only
    obtain ⟨hj, pj, _⟩ := List.findIdx?_eq_some_iff_getElem.mp hfi
    have hk : k ∈ L := (r.mem k).2 ((tx_mem (P := P) r.good k).2 ⟨es.toList[j], List.getElem_mem hj, pj⟩)
    refine wpAny_pure (wpAny_pure (hQ _ s.heap n (Heap.SameBut.refl a s.heap) ⟨o, es, ep, t, { r with mem := fun i => ?_ }⟩ (Nat.le_succ _)))
    rw [← r.mem i, List.mem_cons]
    exact ⟨fun z => z.elim (fun e => e ▸ hk) id, .inr⟩
  | none =>
    dsimp only
    have hnk : k ∉ es.toList.map txtOf := fun z => by
      obtain ⟨e, he, q⟩ := (tx_mem (P := P) r.good k).1 z
      have c := List.findIdx?_eq_none_iff.mp hfi e he
      rw [q] at c
      cases c
    have pm := layNew_perm t es ((PySem.strKind P w).hash k) (.str k tk)
    have hf1 := layNew_fits t es ((PySem.strKind P w).hash k) (.str k tk)
    have hr1 := layNew_ris t es ((PySem.strKind P w).hash k) (.str k tk) r.ris
    have hl1 := layNew_led t es ((PySem.strKind P w).hash k) (.str k tk)
    generalize layNew t es ((PySem.strKind P w).hash k) (.str k tk) = Z at pm hf1 hr1 hl1 ⊢
    obtain ⟨es1, t1, wasDummy, gave⟩ := Z
    dsimp only at pm hf1 hr1 hl1 ⊢
    rw [Array.toList_push] at pm
    have pc : es1.toList.Perm (((PySem.strKind P w).hash k, Value.str k tk) :: es.toList) := pm.trans (List.perm_append_singleton _ _)
    have pk : (es1.toList.map txtOf).Perm (k :: es.toList.map txtOf) := pc.map txtOf
    have g1 : ∀ e ∈ es1.toList, TxE w e := fun e he => by
      rcases List.mem_cons.mp (pc.mem_iff.mp he) with z | z
      · exact z ▸ ⟨k, tk, rfl, rfl⟩
      · exact r.good e z
    have nd1 : (es1.toList.map txtOf).Nodup := pk.nodup_iff.mpr (List.nodup_cons.mpr ⟨hnk, r.nodup⟩)
    have m1 : ∀ i, i ∈ k :: L ↔ i ∈ es1.toList.map txtOf := fun i => by
      rw [pk.mem_iff, List.mem_cons, List.mem_cons, r.mem i]
    have hsz : es1.size = n + 1 := by
      rw [← Array.length_toList, pc.length_eq, List.length_cons, Array.length_toList, r.size]
    have hb1 : es1.size < scanBound := hsz ▸ room
    have hled : w.params.followText "set-order" = true ∨ t1.led = true := r.led.imp id fun z => by rw [hl1]; exact z
    have fin : ∀ b h1, Heap.SameBut a s.heap h1 → TxS w h1 a (k :: L) es1.size → Q b { s with heap := h1 } := fun b h1 sb q => hQ b h1 es1.size sb q (Nat.le_of_eq hsz)
    refine wpAny_bind (hgw _ ?_)
    split
    · refine wpAny_bind ?_
      rw [hashByValue_scannable 8 hsc]
      refine wpAny_pure ?_
      refine tx_tail ?_ r.at_ r.exact_ r.data g1 nd1 m1 hb1 ?_ ?_ ?_ ?_
      · intro b s₁ Q1 q; cases b <;> first | exact wpAny_pure q | exact wpAny_rule q
      · first | (split <;> first | exact hf1 | exact SetTable.fits_plain_off hf1) | exact hf1
      · first | (split <;> exact hr1) | exact hr1
      · first | (split <;> exact hled) | exact hled
      · intro h1 sb q; dsimp only; exact wpAny_pure (fin _ h1 sb q)
    · refine wpAny_bind (wpAny_pure ?_)
      simp only [↓reduceIte]
      refine tx_tail ?_ r.at_ r.exact_ r.data g1 nd1 m1 hb1 hf1 hr1 hled ?_
      · intro b s₁ Q1 q; cases b <;> first | exact wpAny_pure q | exact wpAny_rule q
      · intro h1 sb q; dsimp only; exact wpAny_pure (fin _ h1 sb q)

/-- the loop that fills the set -/
theorem tx_update {R : Result → Shared → Prop} {I : Addr} {fp wr : List Addr} {G : Array GenState → Array GenState → Prop} {m : Nat} {Pv : Nat → Value → Prop} {Sv : Nat → Shared → Prop}
    (W : WalksS P w A.in1 I fp wr G m Pv Sv) (S : Addr) (hSf : S ∉ fp) (ks : List Str) (hm : m = ks.length) (hb : ks.length + 1 < scanBound) (hval : ∀ i v, Pv i v → ∃ k t, ks[i]? = some k ∧ v = .str k t) :
    ∀ (j i : Nat) (s : Shared), m - i = j → i ≤ m → Sv i s → (∃ c, c ≤ i ∧ TxS w s.heap S (ks.take i) c) →
      (∀ s2 c, Moved (S :: wr) G s s2 → c ≤ m → TxS w s2.heap S ks c → R (.ok (.ret .none)) s2) →
      codeAny (model P w) A (.builtin "set.update.loop" ⟨[.ref S, .ref I], []⟩) R s := by
  have hSw : S ∉ wr := fun z => hSf (W.sub _ z)
  have hsub : ∀ b ∈ wr, b ∈ S :: wr := fun b hb => List.mem_cons_of_mem _ hb
  intro j
  induction j with
  | zero =>
    intro i s hj hi hst ⟨c, hc, hS⟩ hR
    have hin : i = m := by omega
    subst hin
    refine codeAny_builtin PyProof.Rows.F.entry_set_update_loop ?_
    rw [Around.under_plainId PyProof.Rows.F.plain_set_update_loop _]
    show wpAny _ A.in1 (pyNext (.ref I) >>= _) _ _ s
    refine wpAny_bind (W.done s _ _ hst fun s2 hmv => ?_)
    show wpAny _ A.in1 (ret Value.none) _ _ s2
    rw [List.take_of_length_le (by omega)] at hS
    exact wpAny_pure (hR s2 c (hmv.mono hsub) hc (hS.at fun o e => hmv.heap S o hSw e))
  | succ j ih =>
    intro i s hj hi hst ⟨c, hc, hS⟩ hR
    have hlt : i < m := by omega
    refine codeAny_builtin PyProof.Rows.F.entry_set_update_loop ?_
    rw [Around.under_plainId PyProof.Rows.F.plain_set_update_loop _]
    show wpAny _ A.in1 (pyNext (.ref I) >>= _) _ _ s
    refine wpAny_bind (W.item i s _ _ hlt hst fun v s2 hP hst2 hmv => ?_)
    obtain ⟨z, t, hz, rfl⟩ := hval i v hP
    have hS2 : TxS w s2.heap S (ks.take i) c := hS.at fun o e => hmv.heap S o hSw e
    show wpAny _ A.in1 (holding [Value.str z t] (setAdd S (.str z t)) >>= _) _ _ s2
    refine wpAny_bind (wpAny_holding ?_)
    unfold setAdd
    refine wpAny_holding (wpAny_bind ((PySem.strKind P w).pyHash (k := z) (strKind_is _ _ _ _) ?_))
    refine tx_add (s := { s2 with toks := s2.toks + 1 }) hS2 (by omega) fun b h1 c2 hsb hS3 hc2 => ?_
    have hS4 : TxS w h1 S (ks.take (i + 1)) c2 := hS3.congr fun k => by
      rw [List.take_add_one, hz, List.mem_cons, List.mem_append]
      simp [or_comm]
    refine wpAny_pure ⟨plainId_quiet PyProof.Rows.F.plain_set_update_loop _, ih (i + 1) _ (by omega) hlt (W.frame _ s2 _ _ hst2 (Nat.le_succ _) fun b hb o e => ?_) ⟨_, by omega, hS4⟩ fun s3 c3 hmv3 hc3 hS5 => ?_⟩
    · rw [hsb.2 b fun e2 => hSf (e2 ▸ hb)]
      exact e
    · refine hR s3 c3 (Moved.trans W.gtrans ((hmv.mono hsub).then_heap (Nat.le_succ _) fun b o hb e => ?_) hmv3) hc3 hS5
      rw [hsb.2 b fun e2 => hb (e2 ▸ List.mem_cons_self)]
      exact e
end
end K8
set_option maxHeartbeats 8000000
/-! K78r4: set(a list of texts), sorted of it -/
namespace K8
open PySem PySem.Spec PyProof.Rows L2
section
variable {P : Program} {w : World} {A : Around} {E : Value → Shared → Prop} {s : Shared}
/-- the set object as it is made -/
def newSetO (w : World) : Obj := { cls := .type "set", dict := none, data := .set #[] 0 (.fresh 0 0 (!w.params.followText "set-order")) }
theorem txS_new {h : Heap} {a : Addr} (ho : h.get? a = some (newSetO w)) : TxS w h a [] 0 := by
  have hl : w.params.followText "set-order" = true ∨ (!w.params.followText "set-order") = true := by
    cases w.params.followText "set-order"
    · exact .inr rfl
    · exact .inl rfl
  exact ⟨_, #[], 0, _, TxSet.mk ho ⟨rfl, rfl, rfl⟩ rfl (fun e he => by simp at he) (by simp) (fun k => by simp) (by decide) (by rfl) rfl List.Pairwise.nil hl⟩
theorem call_setL {l : Addr} {items : Array Value} (ks : List Str) {Q : Value → Shared → Prop} (hh : A.handled = none) (hl : s.heap.IsList l items) (hit : StrsAre items.toList ks) (hb : ks.length + 1 < scanBound)
    (h : ∀ (h2 : Heap) (tk c : Nat), TxS w h2 s.heap.objs.size ks c → c ≤ ks.length → (∀ b o, s.heap.get? b = some o → h2.get? b = some o) → Q (.ref s.heap.objs.size) { s with heap := h2, toks := tk }) :
    wpAny (model P w) A (call (.type "set") [.ref l]) Q E s := by
  have hisz : items.size = ks.length := by
    have q := StrsAre.len_eq hit
    rw [Array.length_toList] at q
    exact q
  obtain ⟨c, tl, hmro⟩ := F.called_set.mro
  have hmade := F.called_set.made
  have hsub := F.called_set.sub
  refine wpAny_call (codeAny_of_tree ?_)
  show wpAny _ _ (callAny (.type "set") _) _ _ _
  refine wpAny_pure ⟨Code.quiet_builtin _ (by decide +kernel), codeAny_builtin F.entry_type_call ?_⟩
  rw [Around.under_plain (weight_type_call_type "set" [.ref l] []) rfl]
  have h1 := F.called_set.notType
  have h3 := F.called_set.canCreate
  have hct := F.typeCall_set_1 (.ref l)
  repeat (any_goals (first | assumption | wp_step))
  refine codeAny_mono (code_set_led1 (.ref l) (E := E) (Q₁ := fun obj s₁ => obj = .ref s.heap.objs.size ∧ s₁ = { s with heap := s.heap.push (newSetO w) }) ⟨rfl, rfl⟩) fun r s₁ hr => ?_
  cases r with
  | error e => exact hr
  | ok fl =>
    cases fl with
    | next => exact hr.elim
    | brk => exact hr.elim
    | cont => exact hr.elim
    | ret obj =>
      obtain ⟨rfl, rfl⟩ := hr
      have hS : (s.heap.push (newSetO w)).get? s.heap.objs.size = some (newSetO w) := Heap.get?_push_size _ rfl
      have hT : Shared.TypeIs { s with heap := s.heap.push (newSetO w) } (.ref s.heap.objs.size) "set" := ⟨_, hS, rfl⟩
      have hli := F.called_set.init.lookup
      have hbi := F.called_set.init.bind (.ref s.heap.objs.size)
      repeat (any_goals (first | assumption | wp_step))
      refine codeAny_mono (codeAny_call_builtin (R := wants (fun r s₂ => r = .none ∧ ∃ h2 tk c, s₂ = { s with heap := h2, toks := tk } ∧ TxS w h2 s.heap.objs.size ks c ∧ c ≤ ks.length ∧ (∀ b o, s.heap.get? b = some o → h2.get? b = some o)) E)
        F.called_set.init.plain F.entry_set_init (check_set_init_1 hT ?_)) fun r₂ s₂ hr₂ => ?_
      · obtain ⟨ol, hol, hcl, nl, hdl⟩ := hl
        obtain ⟨ocls, odict, odata, oslots⟩ := ol
        simp only at hcl hdl
        subst hcl; subst hdl
        have hol2 : (s.heap.push (newSetO w)).get? l = some { cls := .type "list", dict := odict, data := .seq items nl, slots := oslots } := Heap.get?_push_of_some _ hol
        have hsls := F.sub_list_set
        have hslf := F.sub_list_frozenset
        have hne : (Value.type "list" == Value.type "dict") = false := by decide
        have hl1 : (s.heap.push (newSetO w)).IsList l items := ⟨_, hol2, rfl, nl, rfl⟩
        have hlS : l < s.heap.objs.size := Heap.lt_size hol
        have hz1 : (s.heap.push (newSetO w)).objs.size = s.heap.objs.size + 1 := Heap.size_push ..
        unfold Builtin.«set.__init__» noKeywords Builtin.Frozenset.updateFrom
        generalize hPI : pyIter = PI
        wp_walk
        subst hPI
        refine wpAny_pyIter_list hl1 (wpAny_bind (wpAny_runValue ?_))
        have hh3 : A.in1.in1.in1.handled = none := by simp [hh]
        have hneI : l ≠ (s.heap.push (newSetO w)).objs.size := by
          rw [hz1]
          exact Nat.ne_of_lt (Nat.lt_succ_of_lt hlS)
        have hSf : s.heap.objs.size ∉ [(s.heap.push (newSetO w)).objs.size, l] := by
          rw [hz1]
          simp only [List.mem_cons, List.mem_singleton, List.not_mem_nil, or_false, not_or]
          exact ⟨Nat.ne_of_lt (Nat.lt_succ_self _), Nat.ne_of_gt hlS⟩
        have hval : ∀ (i : Nat) (v : Value), items[i]? = some v → ∃ k t, ks[i]? = some k ∧ v = .str k t := fun i v hv => by
          have hi : i < ks.length := by
            rw [← hisz]
            exact (Array.getElem?_eq_some_iff.mp hv).1
          have q : ∀ {us : List Value} {ys : List Str} (j : Nat), StrsAre us ys → us[j]? = some v → ∃ k t, ys[j]? = some k ∧ v = .str k t := by
            intro us ys j r
            induction r generalizing j with
            | nil => intro z; simp at z
            | cons n t r ih =>
              intro z
              cases j with
              | zero =>
                simp at z
                exact ⟨n, t, by simp, z.symm⟩
              | succ j =>
                simp only [List.getElem?_cons_succ] at z ⊢
                exact ih j z
          exact q i hit (by rw [Array.getElem?_toList]; exact hv)
        refine tx_update ((Walks.list hh3 _ l hneI items).toS) s.heap.objs.size hSf ks hisz hb hval (items.size - 0) 0 _ (by omega) (Nat.zero_le _) ⟨⟨_, Heap.get?_push_size _ rfl, rfl, rfl⟩, (hl1.push _)⟩ ?hS0 ?hR
        case hS0 =>
          have hget : ((s.heap.push (newSetO w)).push { cls := .type "list_iterator", data := .fields #[.ref l, .int 0 0] }).get? s.heap.objs.size = some (newSetO w) := Heap.get?_push_of_some _ hS
          exact ⟨0, Nat.le_refl 0, txS_new hget⟩
        case hR =>
          intro s2 c2 hm hc2 hS2
          obtain ⟨h2, g2, d2, tk2, os2⟩ := s2
          have eg : g2 = s.gens := hm.gens
          have ed : d2 = s.drawn := hm.drawn
          have eo : os2 = s.os := hm.os
          subst eg; subst ed; subst eo
          show wpAny _ _ _ _ _ _
          refine wpAny_pure ?_
          show wpAny _ _ (ret Value.none) _ _ _
          rw [hisz] at hc2
          refine wpAny_pure ⟨rfl, h2, tk2, c2, rfl, hS2, hc2, fun b o e => ?_⟩
          have hb0 : b < s.heap.objs.size := Heap.lt_size e
          refine hm.heap b o ?_ (Heap.get?_push_of_some _ (Heap.get?_push_of_some _ e))
          rw [hz1]
          simp only [List.mem_cons, List.mem_singleton, List.not_mem_nil, or_false, not_or]
          exact ⟨Nat.ne_of_lt hb0, Nat.ne_of_lt (Nat.lt_succ_of_lt hb0)⟩
      · cases r₂ with
        | error e => exact hr₂
        | ok fl₂ =>
          cases fl₂ with
          | next => exact hr₂.elim
          | brk => exact hr₂.elim
          | cont => exact hr₂.elim
          | ret r =>
            obtain ⟨rfl, h2, tk, c2, rfl, hS2, hc2, hk2⟩ := hr₂
            repeat (any_goals (first | assumption | wp_step))
            exact h _ _ _ hS2 hc2 hk2

end
end K8
set_option maxHeartbeats 8000000
/-! K78r5: sorted of a set of texts; sorted(set(a list of texts)) -/
namespace K8
open PySem PySem.Spec PyProof.Rows L2
section
variable {P : Program} {w : World} {A : Around} {E : Value → Shared → Prop} {s : Shared}
theorem strs_of_txt : ∀ (l : List Value), (∀ v ∈ l, ∃ k tk, v = Value.str k tk) → StrsAre l (l.map fun v => txtOf (0, v))
  | [], _ => .nil
  | v :: l, h => by
    obtain ⟨k, tk, rfl⟩ := h v List.mem_cons_self
    exact .cons k tk (strs_of_txt l fun u hu => h u (List.mem_cons_of_mem _ hu))
theorem sorted_txS {a : Addr} {L : List Str} {n : Nat} {Q : Value → Shared → Prop} (R : TxS w s.heap a L n) (hh : A.handled = none)
    (hQ : ∀ s2 p (out : Array Value) (c : Nat) (ys : List Str), (∀ b o, s.heap.get? b = some o → s2.heap.get? b = some o) → s2.gens = s.gens → s2.os = s.os → s.heap.objs.size ≤ p →
      s2.heap.get? p = some (seqObj "list" out c) → StrsAre out.toList ys → sortedS ys = true → ys.Nodup → (∀ k, k ∈ ys ↔ k ∈ L) → ys.length = n → Q (.ref p) s2) :
    wpAny (model P w) A (call (.builtin "sorted") [.ref a]) Q E s := by
  obtain ⟨o, es, ep, t, r⟩ := R
  refine Calls.call_function_entry kind_sorted plain_sorted entry_sorted (args_sorted1 _) ?_
  unfold Builtin.«sorted»
  refine wpAny_bind (m := checkCount "sorted" 1 1 _) (wpAny_pure ?_)
  refine wpAny_bind (collect_set (A := A.in1) hh ⟨o, r.at_, r.exact_.1, r.data⟩ r.fits r.few r.ris r.led fun s1 vs k1 hz g1 o1 pm => ?_)
  have hvl : vs.length = n := by
    rw [pm.length_eq, List.length_map, Array.length_toList]
    exact r.size
  have hI : StrsAre vs (vs.map fun v => txtOf (0, v)) := strs_of_txt vs fun v hv => by
    obtain ⟨e, he, q⟩ := List.mem_map.mp (pm.mem_iff.mp hv)
    obtain ⟨k, tk, h1, _⟩ := r.good e he
    exact ⟨k, tk, by rw [← q]; exact h1⟩
  have pk : (vs.map fun v => txtOf (0, v)).Perm (es.toList.map txtOf) := by
    have q := pm.map fun v => txtOf (0, v)
    rw [List.map_map] at q
    exact q
  have hfit : vs.length ≤ sizeLine := by
    rw [hvl, ← r.size]
    exact fits_of_scanBound r.few
  refine wpAny_bind (wpAny_newList ?_ hfit)
  have hoL : (s1.heap.push (seqObj "list" vs.toArray 0)).get? s1.heap.objs.size = some (seqObj "list" vs.toArray 0) := Heap.get?_push_size _ rfl
  refine wpAny_bind (wpAny_holding (wpAny_call_entry slot_list_sort ⟨_, hoL, rfl⟩ entry_list_sort (list_sort_treeKAny strKind_oneLt hoL hI.keysOf (fun v₁ v₂ rest e => keyKind_strs (by rw [← e]; exact hI)) hfit fun st2 hp hs => ⟨_, rfl, ?_⟩) (args_list_sort _)))
  obtain ⟨ys, y1, y2, y3⟩ := sorted_out_str hI hp hs
  obtain ⟨c, hc⟩ := sortedHeap_at (vs := vs) (out := (arrOf st2).map (·.2)) hoL
  have pn : ys.Perm (es.toList.map txtOf) := y2.trans pk
  refine wpAny_pure ⟨_, rfl, hQ _ s1.heap.objs.size _ c ys (fun b u e => ?_) g1 o1 hz hc y1 y3 (pn.nodup_iff.mpr r.nodup) (fun k => by rw [pn.mem_iff, ← r.mem k]) ?_⟩
  · have q := k1 b u e
    have hlt := Heap.lt_size q
    show (sortedHeap (s1.heap.push (seqObj "list" vs.toArray 0)) s1.heap.objs.size vs _).get? b = some u
    rw [sortedHeap_old (Nat.ne_of_lt hlt) (by rw [size_push']; exact Nat.lt_succ_of_lt hlt)]
    exact Heap.get?_push_of_some _ q
  · rw [pn.length_eq, List.length_map, Array.length_toList]
    exact r.size
end

/-! ### sorted(set(e)), e a list of texts -/
def tSortSet (K : PySem.W.Frag) (ta : TE) : TE := fun σ H Q => ta σ H fun x H1 => ∃ (l : Addr) (xs : List Str), x = .ref l ∧ SqL K H1 l (xs.map V.str) ∧ xs.length ≤ 1000 ∧
  ∀ (ys : List Str) (p : Addr), sortedS ys = true → ys.Nodup → (∀ k, k ∈ ys ↔ k ∈ xs) → H1 p = none → Q (.ref p) (upd H1 p (.lst (ys.map V.str)))
section
variable {X : Cx} {a : Expr} {ta : TE} {p p2 q q2 : Pos}
theorem pe_sortSet (hc : X.calm = true) (hg : Gl X "sorted") (hm : X.mg "sorted" = none) (hg2 : Gl X "set") (hm2 : X.mg "set" = none) (ha : PE X a ta)
    (he2 : starEach [a] X.env = (false, eval a X.env) :: starEach [] X.env := by rfl)
    (he : starEach [.Call (.Name "set" p2) [a] [] q2] X.env = (false, eval (.Call (.Name "set" p2) [a] [] q2) X.env) :: starEach [] X.env := by rfl) :
    PE X (.Call (.Name "sorted" p) [.Call (.Name "set" p2) [a] [] q2] [] q) (tSortSet X.K ta) := by
  refine ⟨fun pins s σ H Q I h => ?_⟩
  refine wpAny_Call_Name_kw (ld_blt I hg hm (by decide +kernel : bootBuiltins "sorted" = some (.builtin "sorted")) ?_)
  refine PyProof.Rows.callWith_builtin1 (PyProof.Rows.args_cons ?_ rfl) he rfl
  refine wpAny_Call_Name_kw (ld_blt I hg2 hm2 boot_set ?_)
  refine PyProof.Rows.callWith_type1 (PyProof.Rows.args_cons (thn (ha.run pins s σ H _ I h) fun v s1 ⟨x, H1, I1, r1, q1⟩ => PyProof.Rows.args_nil ?_) he2) he2 rfl
  obtain ⟨l, xs, rfl, hs, hz, hq⟩ := q1
  cases r1
  obtain ⟨its, rv, pl, _⟩ := I1.list hs
  refine call_setL (ks := xs) (I1.ok.hd hc) pl.isList (by simpa using rv.strs) (by unfold scanBound; omega) fun h2 tk c hS hc2 hk => PyProof.Rows.args_nil ?_
  have I2 : Inv X pins σ H1 { s1 with heap := h2, toks := tk } := I1.kept hk
  refine sorted_txS (s := { s1 with heap := h2, toks := tk }) hS (I1.ok.hd hc) fun s3 pp out cc ys k3 g3 o3 hp hob hsa hso hnd hmem hlen => ?_
  have hn : H1 pp = none := I2.hok.fresh hp
  have hlen2 : (ys.map V.str).length ≤ sizeLine := by
    rw [List.length_map, hlen, sizeLine_eq]
    omega
  have J : Inv X pins σ (upd H1 pp (.lst (ys.map V.str))) { ({ s1 with heap := h2, toks := tk } : Shared) with heap := s3.heap, gens := s3.gens, drawn := s3.drawn, toks := s3.toks } :=
    Inv.call (s := { s1 with heap := h2, toks := tk }) (ch := []) I2 (Un.laid k3 hp hn) (I2.hok.laid k3 hp ⟨hlen2, out.toList, cc, vals_of_strs hsa, hob⟩) (by rw [g3]; exact I2.bare) (fun _ z => nomatch z)
  have e : s3 = { s1 with heap := s3.heap, gens := s3.gens, drawn := s3.drawn, toks := s3.toks } := by
    cases s3
    cases s1
    cases o3
    rfl
  rw [e]
  exact ⟨.ref pp, _, J, rfl, hq ys pp hso hnd hmem hn⟩
end
end K8
/-! K78b: the base: texts of lines, the program's defs by place, heaps -/
namespace K8
open PySem PySem.Spec PyProof.Rows L2
/-! ### the text -/
def topS (i : Nat) : Stmt := PySem.Challenge.pw_faxhouse_k78_whole_late_tellings_by_all.main.body.getD i (.Pass ⟨0, 0, 0, 0⟩)
/-! ### texts -/
def R (r : List Nat) : Str := ⟨r.toArray⟩
def S (l : Ln) : Str := ⟨(l.map cp).toArray⟩
theorem R_length (r : List Nat) : (R r).length = r.length := by
  show (r.toArray).size = _
  simp
theorem R_inj {a b : List Nat} (h : R a = R b) : a = b := List.toArray_inj (congrArg Str.cps h)
theorem R_append (a b : List Nat) : R a ++ R b = R (a ++ b) := by
  show (⟨a.toArray ++ b.toArray⟩ : Str) = ⟨(a ++ b).toArray⟩
  simp
theorem S_length (l : Ln) : (S l).length = l.length := by
  show ((l.map cp).toArray).size = _
  simp
theorem S_inj {a b : Ln} (h : S a = S b) : a = b := by
  have h2 : (a.map cp).toArray = (b.map cp).toArray := congrArg Str.cps h
  have h3 : a.map cp = b.map cp := List.toArray_inj h2
  exact (List.map_inj_right (fun _ _ => cp_inj)).mp h3
theorem S_append (a b : Ln) : S a ++ S b = S (a ++ b) := by
  show (⟨(a.map cp).toArray ++ (b.map cp).toArray⟩ : Str) = ⟨((a ++ b).map cp).toArray⟩
  simp
theorem l_w : ("." : Str) = S [false] := by decide +kernel
theorem l_b : ("#" : Str) = S [true] := by decide +kernel
theorem l_e : ("" : Str) = S [] := by decide +kernel
theorem l_wb : (".#" : Str) = S [false, true] := by decide +kernel
theorem l_q : ("?" : Str) = R [63] := by decide +kernel
theorem l_ww : (".." : Str) = S [false, false] := by decide +kernel
theorem S_atI {l : Ln} {k : Nat} {b : Bool} (h : l[k]? = some b) : atI (S l).cps.toList (k : Int) = some (cp b) := by
  refine atI_nat ?_
  show ((l.map cp).toArray).toList[k]? = _
  simp [h]
theorem S_one (b : Bool) : (⟨#[cp b]⟩ : Str) = S [b] := rfl
theorem S_eq_dec (a b : Ln) : decide ((V.str (S a)) = V.str (S b)) = decide (a = b) := by
  by_cases h : a = b
  · rw [h]
    simp
  · rw [decide_eq_false h]
    exact decide_eq_false fun z => h (S_inj (V.str.inj z))
theorem S_dot_dec (a b : Bool) : decide ((V.str (S [a])) = V.str (S [b])) = decide (a = b) := by
  rw [S_eq_dec]
  cases a <;> cases b <;> rfl
theorem fold_app (z : Array Nat) : ∀ (n : Nat) (acc : Array Nat), ((List.replicate n z).foldl (· ++ ·) acc).toList = acc.toList ++ (List.replicate n z.toList).flatten
  | 0, acc => by simp
  | n + 1, acc => by
    rw [List.replicate_succ, List.foldl_cons, fold_app z n, List.replicate_succ]
    simp
theorem mul_dot (c : Bool) (n : Nat) : Txt.mul (S [c]) (n : Int) = S (List.replicate n c) := by
  unfold Txt.mul
  cases n with
  | zero => rfl
  | succ n =>
    rw [if_neg (by omega)]
    cases n with
    | zero => rfl
    | succ n =>
      rw [if_neg (by
        have h1 : (((n + 1 + 1 : Nat) : Int) == 1) = false := by
          rw [beq_eq_false_iff_ne]
          omega
        rw [h1]
        cases c <;> decide)]
      show (⟨_⟩ : Str) = ⟨_⟩
      congr 1
      apply Array.toList_inj.mp
      rw [fold_app]
      show [] ++ (List.replicate (((n + 1 + 1 : Nat) : Int)).toNat [cp c]).flatten = (List.map cp (List.replicate (n + 1 + 1) c)).toArray.toList
      rw [Int.toNat_natCast, List.map_replicate, List.nil_append, List.flatten_replicate_singleton]
theorem nat_small {n : Nat} (h : n ≤ 1000) : n ≤ sizeLine := Nat.le_of_lt (small1000 h)
/-! ### terms -/
section
variable {X : Cx}
theorem pe_k {x : Str} {v : V} {pos : Pos} (hg : Gl X x) (h : ∃ u, X.mg x = some u ∧ RelV v u) (hd : (x == ("__debug__" : Str)) = false := by decide) : PE X (.Name x pos) (tC v) := by
  obtain ⟨u, h1, h2⟩ := h
  exact pe_glob hg h1 h2 hd
theorem pe_lit {x y : Str} {j pos} (h : x = y) : PE X (.Constant (.str x) j pos) (tC (.str y)) := by
  rw [← h]
  exact pe_str
/-- several ways that meet: what holds behind the first statement is named -/
def tMidS (t u : TS) : TS := fun D σ H => ∃ M : L2.St → Hp → Prop, t { D with nx := M } σ H ∧ ∀ σ' H', M σ' H' → u D σ' H'
theorem pss_mid {st : Stmt} {rest : List Stmt} {t u : TS} (h1 : PS X st t) (h2 : PSs X rest u) : PSs X (st :: rest) (tMidS t u) := by
  refine ⟨fun pins s σ H D I h => ?_⟩
  obtain ⟨M, h3, h4⟩ := h
  refine wpAny_execs_cons (thn (h1.run pins s σ H { D with nx := M } I h3) fun f s1 q => ?_)
  cases f with
  | next =>
    obtain ⟨σ', H', I', q⟩ := q
    exact h2.run pins s1 σ' H' D I' (h4 _ _ q)
  | ret v => exact q
  | brk => exact q
  | cont => exact q
/-- the same of an expression -/
def tMidE (t : TE) : TE := fun σ H Q => ∃ M : VK, t σ H M ∧ ∀ x H', M x H' → Q x H'
theorem pe_mid {e : Expr} {t : TE} (h : PE X e t) : PE X e (tMidE t) := by
  refine ⟨fun pins s σ H Q I q => ?_⟩
  obtain ⟨M, h1, h2⟩ := q
  refine thn (h.run pins s σ H M I h1) fun u s1 z => ?_
  obtain ⟨v, H1, I1, r, q1⟩ := z
  exact ⟨v, H1, I1, r, h2 _ _ q1⟩
end
/-! ### the defs -/
abbrev s_is_whole : Stmt := topS 9
abbrev N_is_whole : List Str := ["thing", "least", "most"]
theorem sc_is_whole : FnScope N_is_whole ["thing", "least", "most"] (defScope s_is_whole) := ⟨rfl, rfl, rfl, by decide +kernel, rfl, by decide +kernel, by decide +kernel⟩
abbrev s_need_line : Stmt := topS 10
abbrev N_need_line : List Str := ["thing", "place", "dot"]
theorem sc_need_line : FnScope N_need_line ["thing"] (defScope s_need_line) := ⟨rfl, rfl, rfl, by decide +kernel, rfl, by decide +kernel, by decide +kernel⟩
abbrev s_other_colour : Stmt := topS 11
abbrev N_other_colour : List Str := ["colour"]
theorem sc_other_colour : FnScope N_other_colour ["colour"] (defScope s_other_colour) := ⟨rfl, rfl, rfl, by decide +kernel, rfl, by decide +kernel, by decide +kernel⟩
abbrev s_colour_end : Stmt := topS 12
abbrev N_colour_end : List Str := ["line", "place", "colour"]
theorem sc_colour_end : FnScope N_colour_end ["line", "place", "colour"] (defScope s_colour_end) := ⟨rfl, rfl, rfl, by decide +kernel, rfl, by decide +kernel, by decide +kernel⟩
abbrev s_runs_in : Stmt := topS 13
abbrev N_runs_in : List Str := ["line", "found", "place", "colour", "end"]
theorem sc_runs_in : FnScope N_runs_in ["line"] (defScope s_runs_in) := ⟨rfl, rfl, rfl, by decide +kernel, rfl, by decide +kernel, by decide +kernel⟩
abbrev s_are_runs : Stmt := topS 14
abbrev N_are_runs : List Str := ["thing", "run"]
theorem sc_are_runs : FnScope N_are_runs ["thing"] (defScope s_are_runs) := ⟨rfl, rfl, rfl, by decide +kernel, rfl, by decide +kernel, by decide +kernel⟩
abbrev s_line_in : Stmt := topS 15
abbrev N_line_in : List Str := ["runs", "found", "colour", "run"]
theorem sc_line_in : FnScope N_line_in ["runs"] (defScope s_line_in) := ⟨rfl, rfl, rfl, by decide +kernel, rfl, by decide +kernel, by decide +kernel⟩
abbrev s_is_mode : Stmt := topS 23
abbrev N_is_mode : List Str := ["thing"]
theorem sc_is_mode : FnScope N_is_mode ["thing"] (defScope s_is_mode) := ⟨rfl, rfl, rfl, by decide +kernel, rfl, by decide +kernel, by decide +kernel⟩
abbrev s_is_full : Stmt := topS 24
abbrev N_is_full : List Str := ["telling"]
theorem sc_is_full : FnScope N_is_full ["telling"] (defScope s_is_full) := ⟨rfl, rfl, rfl, by decide +kernel, rfl, by decide +kernel, by decide +kernel⟩
abbrev s_need_telling : Stmt := topS 25
abbrev N_need_telling : List Str := ["thing", "number", "mode"]
theorem sc_need_telling : FnScope N_need_telling ["thing"] (defScope s_need_telling) := ⟨rfl, rfl, rfl, by decide +kernel, rfl, by decide +kernel, by decide +kernel⟩
abbrev s_change_from : Stmt := topS 26
abbrev N_change_from : List Str := ["reference", "place", "colour", "is_told", "here", "ahead"]
theorem sc_change_from : FnScope N_change_from ["reference", "place", "colour", "is_told"] (defScope s_change_from) := ⟨rfl, rfl, rfl, by decide +kernel, rfl, by decide +kernel, by decide +kernel⟩
abbrev s_change_back : Stmt := topS 27
abbrev N_change_back : List Str := ["reference", "place", "colour", "here"]
theorem sc_change_back : FnScope N_change_back ["reference", "place", "colour"] (defScope s_change_back) := ⟨rfl, rfl, rfl, by decide +kernel, rfl, by decide +kernel, by decide +kernel⟩
abbrev s_after_mode : Stmt := topS 28
abbrev N_after_mode : List Str := ["reference", "mode", "place", "colour", "is_told", "width", "middle", "end", "change"]
theorem sc_after_mode : FnScope N_after_mode ["reference", "mode", "place", "colour", "is_told"] (defScope s_after_mode) := ⟨rfl, rfl, rfl, by decide +kernel, rfl, by decide +kernel, by decide +kernel⟩
abbrev s_dots_of : Stmt := topS 29
abbrev N_dots_of : List Str := ["mode", "place", "end", "colour"]
theorem sc_dots_of : FnScope N_dots_of ["mode", "place", "end", "colour"] (defScope s_dots_of) := ⟨rfl, rfl, rfl, by decide +kernel, rfl, by decide +kernel, by decide +kernel⟩
abbrev s_read_beside : Stmt := topS 30
abbrev N_read_beside : List Str := ["reference", "telling", "line", "place", "colour", "found", "is_told", "mode", "there"]
theorem sc_read_beside : FnScope N_read_beside ["reference", "telling"] (defScope s_read_beside) := ⟨rfl, rfl, rfl, by decide +kernel, rfl, by decide +kernel, by decide +kernel⟩
abbrev s_full : Stmt := topS 31
abbrev N_full : List Str := ["line"]
theorem sc_full : FnScope N_full ["line"] (defScope s_full) := ⟨rfl, rfl, rfl, by decide +kernel, rfl, by decide +kernel, by decide +kernel⟩
abbrev s_need_width : Stmt := topS 34
abbrev N_need_width : List Str := ["width"]
theorem sc_need_width : FnScope N_need_width ["width"] (defScope s_need_width) := ⟨rfl, rfl, rfl, by decide +kernel, rfl, by decide +kernel, by decide +kernel⟩
abbrev s_lines_of_width : Stmt := topS 35
abbrev N_lines_of_width : List Str := ["width", "found", "place", "line", "dot"]
theorem sc_lines_of_width : FnScope N_lines_of_width ["width"] (defScope s_lines_of_width) := ⟨rfl, rfl, rfl, by decide +kernel, rfl, by decide +kernel, by decide +kernel⟩
abbrev s_need_late : Stmt := topS 39
abbrev N_need_late : List Str := ["width", "tellings", "telling"]
theorem sc_need_late : FnScope N_need_late ["width", "tellings"] (defScope s_need_late) := ⟨rfl, rfl, rfl, by decide +kernel, rfl, by decide +kernel, by decide +kernel⟩
abbrev s_next_known : Stmt := topS 40
abbrev N_next_known : List Str := ["lines", "telling", "found", "line", "told"]
theorem sc_next_known : FnScope N_next_known ["lines", "telling"] (defScope s_next_known) := ⟨rfl, rfl, rfl, by decide +kernel, rfl, by decide +kernel, by decide +kernel⟩
abbrev s_known : Stmt := topS 41
abbrev N_known : List Str := ["width", "tellings", "lines", "telling"]
theorem sc_known : FnScope N_known ["width", "tellings"] (defScope s_known) := ⟨rfl, rfl, rfl, by decide +kernel, rfl, by decide +kernel, by decide +kernel⟩
abbrev s_row_of : Stmt := topS 42
abbrev N_row_of : List Str := ["width", "lines", "some", "found", "place", "dots", "line"]
theorem sc_row_of : FnScope N_row_of ["width", "lines"] (defScope s_row_of) := ⟨rfl, rfl, rfl, by decide +kernel, rfl, by decide +kernel, by decide +kernel⟩
abbrev s_rows_in : Stmt := topS 43
abbrev N_rows_in : List Str := ["width", "tellings", "lines", "found", "telling"]
theorem sc_rows_in : FnScope N_rows_in ["width", "tellings"] (defScope s_rows_in) := ⟨rfl, rfl, rfl, by decide +kernel, rfl, by decide +kernel, by decide +kernel⟩
abbrev s_sure_rows : Stmt := topS 44
abbrev N_sure_rows : List Str := ["width", "tellings"]
theorem sc_sure_rows : FnScope N_sure_rows ["width", "tellings"] (defScope s_sure_rows) := ⟨rfl, rfl, rfl, by decide +kernel, rfl, by decide +kernel, by decide +kernel⟩
abbrev s_settled : Stmt := topS 45
abbrev N_settled : List Str := ["width", "tellings", "rows", "unsure", "first", "number", "row"]
theorem sc_settled : FnScope N_settled ["width", "tellings"] (defScope s_settled) := ⟨rfl, rfl, rfl, by decide +kernel, rfl, by decide +kernel, by decide +kernel⟩
abbrev s__law_mix : Stmt := topS 47
abbrev N__law_mix : List Str := ["_law_cell", "_law_spot", "_law_first", "_law_second"]
theorem sc__law_mix : FnScope N__law_mix ["_law_cell", "_law_spot"] (defScope s__law_mix) := ⟨rfl, rfl, rfl, by decide +kernel, rfl, by decide +kernel, by decide +kernel⟩
abbrev s__law_begun : Stmt := topS 48
abbrev N__law_begun : List Str := ["_law_script", "_law_some_here", "_law_cell"]
theorem sc__law_begun : FnScope N__law_begun ["_law_script"] (defScope s__law_begun) := ⟨rfl, rfl, rfl, by decide +kernel, rfl, by decide +kernel, by decide +kernel⟩
abbrev s__law_draw : Stmt := topS 49
abbrev N__law_draw : List Str := ["_law_m", "_law_limit", "_law_spot", "_law_here", "_law_left"]
theorem sc__law_draw : FnScope N__law_draw ["_law_m", "_law_limit"] (defScope s__law_draw) := ⟨rfl, rfl, rfl, by decide +kernel, rfl, by decide +kernel, by decide +kernel⟩
abbrev s__law_change : Stmt := topS 50
abbrev N__law_change : List Str := ["_law_ahead", "_law_spot", "_law_colour", "_law_begun_here", "_law_k", "_law_before"]
theorem sc__law_change : FnScope N__law_change ["_law_ahead", "_law_spot", "_law_colour", "_law_begun_here"] (defScope s__law_change) := ⟨rfl, rfl, rfl, by decide +kernel, rfl, by decide +kernel, by decide +kernel⟩
abbrev s__law_again : Stmt := topS 51
abbrev N__law_again : List Str := ["_law_ahead", "_law_spot", "_law_colour", "_law_k"]
theorem sc__law_again : FnScope N__law_again ["_law_ahead", "_law_spot", "_law_colour"] (defScope s__law_again) := ⟨rfl, rfl, rfl, by decide +kernel, rfl, by decide +kernel, by decide +kernel⟩
abbrev s__law_step : Stmt := topS 52
abbrev N__law_step : List Str := ["_law_ahead", "_law_mode", "_law_spot", "_law_colour", "_law_begun_here", "_law_other", "_law_wide", "_law_mid", "_law_end", "_law_change_here"]
theorem sc__law_step : FnScope N__law_step ["_law_ahead", "_law_mode", "_law_spot", "_law_colour", "_law_begun_here"] (defScope s__law_step) := ⟨rfl, rfl, rfl, by decide +kernel, rfl, by decide +kernel, by decide +kernel⟩
abbrev s__law_read : Stmt := topS 53
abbrev N__law_read : List Str := ["_law_ahead", "_law_modes", "_law_spot", "_law_colour", "_law_dots", "_law_begun_here", "_law_k", "_law_many", "_law_mode", "_law_here"]
theorem sc__law_read : FnScope N__law_read ["_law_ahead", "_law_modes"] (defScope s__law_read) := ⟨rfl, rfl, rfl, by decide +kernel, rfl, by decide +kernel, by decide +kernel⟩
abbrev s__law_line : Stmt := topS 54
abbrev N__law_line : List Str := ["_law_m", "_law_wide", "_law_dots", "_law_k"]
theorem sc__law_line : FnScope N__law_line ["_law_m", "_law_wide"] (defScope s__law_line) := ⟨rfl, rfl, rfl, by decide +kernel, rfl, by decide +kernel, by decide +kernel⟩
abbrev s__law_walk : Stmt := topS 55
abbrev N__law_walk : List Str := ["_law_m", "_law_ahead", "_law_spot", "_law_colour", "_law_begun_here", "_law_modes", "_law_here", "_law_mode", "_law_way", "_law_more"]
theorem sc__law_walk : FnScope N__law_walk ["_law_m", "_law_ahead"] (defScope s__law_walk) := ⟨rfl, rfl, rfl, by decide +kernel, rfl, by decide +kernel, by decide +kernel⟩
abbrev s__law_every : Stmt := topS 56
abbrev N__law_every : List Str := ["_law_wide", "_law_found", "_law_k", "_law_dots"]
theorem sc__law_every : FnScope N__law_every ["_law_wide"] (defScope s__law_every) := ⟨rfl, rfl, rfl, by decide +kernel, rfl, by decide +kernel, by decide +kernel⟩
abbrev s__law_row : Stmt := topS 57
abbrev N__law_row : List Str := ["_law_wide", "_law_some_here", "_law_dots", "_law_k", "_law_kinds", "_law_line_here"]
theorem sc__law_row : FnScope N__law_row ["_law_wide", "_law_some_here"] (defScope s__law_row) := ⟨rfl, rfl, rfl, by decide +kernel, rfl, by decide +kernel, by decide +kernel⟩
abbrev s__law_some : Stmt := topS 58
abbrev N__law_some : List Str := ["_law_m", "_law_wide", "_law_found", "_law_here", "_law_k", "_law_way", "_law_line_here"]
theorem sc__law_some : FnScope N__law_some ["_law_m", "_law_wide"] (defScope s__law_some) := ⟨rfl, rfl, rfl, by decide +kernel, rfl, by decide +kernel, by decide +kernel⟩
abbrev s__law_right : Stmt := topS 59
abbrev N__law_right : List Str := ["_law_wide", "_law_some_here", "_law_lines", "_law_rows", "_law_first", "_law_k", "_law_modes", "_law_is_sure", "_law_line_here", "_law_ahead"]
theorem sc__law_right : FnScope N__law_right ["_law_wide", "_law_some_here"] (defScope s__law_right) := ⟨rfl, rfl, rfl, by decide +kernel, rfl, by decide +kernel, by decide +kernel⟩
abbrev s_law : Stmt := topS 60
abbrev N_law : List Str := ["_law_script", "_law_m", "_law_turn", "_law_wide"]
theorem sc_law : FnScope N_law ["_law_script"] (defScope s_law) := ⟨rfl, rfl, rfl, by decide +kernel, rfl, by decide +kernel, by decide +kernel⟩
structure Df (K : PySem.W.Frag) (mg : Str → Option Value) (x : Str) (st : Stmt) (ps : List Str) (f : Addr) (d : FuncData) : Prop where
  F : Fun K x x st f d
  b : Binds K d ps []
  g : mg x = some (.ref f)
structure Tx (K : PySem.W.Frag) (mg : Str → Option Value) (A : Nat → Addr) (D : Nat → FuncData) : Prop where
  o_is_whole : Df K mg "is_whole" s_is_whole ["thing", "least", "most"] (A 9) (D 9)
  o_need_line : Df K mg "need_line" s_need_line ["thing"] (A 10) (D 10)
  o_other_colour : Df K mg "other_colour" s_other_colour ["colour"] (A 11) (D 11)
  o_colour_end : Df K mg "colour_end" s_colour_end ["line", "place", "colour"] (A 12) (D 12)
  o_runs_in : Df K mg "runs_in" s_runs_in ["line"] (A 13) (D 13)
  o_are_runs : Df K mg "are_runs" s_are_runs ["thing"] (A 14) (D 14)
  o_line_in : Df K mg "line_in" s_line_in ["runs"] (A 15) (D 15)
  o_is_mode : Df K mg "is_mode" s_is_mode ["thing"] (A 23) (D 23)
  o_is_full : Df K mg "is_full" s_is_full ["telling"] (A 24) (D 24)
  o_need_telling : Df K mg "need_telling" s_need_telling ["thing"] (A 25) (D 25)
  o_change_from : Df K mg "change_from" s_change_from ["reference", "place", "colour", "is_told"] (A 26) (D 26)
  o_change_back : Df K mg "change_back" s_change_back ["reference", "place", "colour"] (A 27) (D 27)
  o_after_mode : Df K mg "after_mode" s_after_mode ["reference", "mode", "place", "colour", "is_told"] (A 28) (D 28)
  o_dots_of : Df K mg "dots_of" s_dots_of ["mode", "place", "end", "colour"] (A 29) (D 29)
  o_read_beside : Df K mg "read_beside" s_read_beside ["reference", "telling"] (A 30) (D 30)
  o_full : Df K mg "full" s_full ["line"] (A 31) (D 31)
  o_need_width : Df K mg "need_width" s_need_width ["width"] (A 34) (D 34)
  o_lines_of_width : Df K mg "lines_of_width" s_lines_of_width ["width"] (A 35) (D 35)
  o_need_late : Df K mg "need_late" s_need_late ["width", "tellings"] (A 39) (D 39)
  o_next_known : Df K mg "next_known" s_next_known ["lines", "telling"] (A 40) (D 40)
  o_known : Df K mg "known" s_known ["width", "tellings"] (A 41) (D 41)
  o_row_of : Df K mg "row_of" s_row_of ["width", "lines"] (A 42) (D 42)
  o_rows_in : Df K mg "rows_in" s_rows_in ["width", "tellings"] (A 43) (D 43)
  o_sure_rows : Df K mg "sure_rows" s_sure_rows ["width", "tellings"] (A 44) (D 44)
  o_settled : Df K mg "settled" s_settled ["width", "tellings"] (A 45) (D 45)
  o__law_mix : Df K mg "_law_mix" s__law_mix ["_law_cell", "_law_spot"] (A 47) (D 47)
  o__law_begun : Df K mg "_law_begun" s__law_begun ["_law_script"] (A 48) (D 48)
  o__law_draw : Df K mg "_law_draw" s__law_draw ["_law_m", "_law_limit"] (A 49) (D 49)
  o__law_change : Df K mg "_law_change" s__law_change ["_law_ahead", "_law_spot", "_law_colour", "_law_begun_here"] (A 50) (D 50)
  o__law_again : Df K mg "_law_again" s__law_again ["_law_ahead", "_law_spot", "_law_colour"] (A 51) (D 51)
  o__law_step : Df K mg "_law_step" s__law_step ["_law_ahead", "_law_mode", "_law_spot", "_law_colour", "_law_begun_here"] (A 52) (D 52)
  o__law_read : Df K mg "_law_read" s__law_read ["_law_ahead", "_law_modes"] (A 53) (D 53)
  o__law_line : Df K mg "_law_line" s__law_line ["_law_m", "_law_wide"] (A 54) (D 54)
  o__law_walk : Df K mg "_law_walk" s__law_walk ["_law_m", "_law_ahead"] (A 55) (D 55)
  o__law_every : Df K mg "_law_every" s__law_every ["_law_wide"] (A 56) (D 56)
  o__law_row : Df K mg "_law_row" s__law_row ["_law_wide", "_law_some_here"] (A 57) (D 57)
  o__law_some : Df K mg "_law_some" s__law_some ["_law_m", "_law_wide"] (A 58) (D 58)
  o__law_right : Df K mg "_law_right" s__law_right ["_law_wide", "_law_some_here"] (A 59) (D 59)
  o_law : Df K mg "law" s_law ["_law_script"] (A 60) (D 60)
  c_WHITE : ∃ u, mg "WHITE" = some u ∧ RelV (.str (S [false])) u
  c_BLACK : ∃ u, mg "BLACK" = some u ∧ RelV (.str (S [true])) u
  c_MOST_WIDTH : ∃ u, mg "MOST_WIDTH" = some u ∧ RelV (.int 40) u
  c_MOST_MODES : ∃ u, mg "MOST_MODES" = some u ∧ RelV (.int 80) u
  c_MOST_STAY : ∃ u, mg "MOST_STAY" = some u ∧ RelV (.int 3) u
  c_STAY : ∃ u, mg "STAY" = some u ∧ RelV (.str "stay") u
  c_PASS : ∃ u, mg "PASS" = some u ∧ RelV (.str "pass") u
  c_RUNS : ∃ u, mg "RUNS" = some u ∧ RelV (.str "runs") u
  c_FULL : ∃ u, mg "FULL" = some u ∧ RelV (.str "full") u
  c_UNSURE : ∃ u, mg "UNSURE" = some u ∧ RelV (.str (R [63])) u
  c_MOST_LATE : ∃ u, mg "MOST_LATE" = some u ∧ RelV (.int 10) u
  c_MOST_TELLINGS : ∃ u, mg "MOST_TELLINGS" = some u ∧ RelV (.int 60) u
  n_isinstance : mg "isinstance" = none
  n_int : mg "int" = none
  n_bool : mg "bool" = none
  n_str : mg "str" = none
  n_tuple : mg "tuple" = none
  n_len : mg "len" = none
  n_enumerate : mg "enumerate" = none
  n_range : mg "range" = none
  n_all : mg "all" = none
  n_sum : mg "sum" = none
  n_list : mg "list" = none
  n_sorted : mg "sorted" = none
  n_set : mg "set" = none
  n_repr : mg "repr" = none
  n_min : mg "min" = none
/-! ### heaps -/
theorem same_upd {H : Hp} {p : Addr} {o : HO} (h : H p = none) : Same H (upd H p o) := fun b x e => by
  rw [upd_ne (ne_of_none e h)]
  exact e
/-- tuples stay -/
def Keep (H H' : Hp) : Prop := ∀ b xs, H b = some (.tup xs) → H' b = some (.tup xs)
theorem Keep.of {H H' : Hp} (h : Same H H') : Keep H H' := fun b xs e => h b _ e
theorem Keep.refl (H : Hp) : Keep H H := fun _ _ h => h
theorem Keep.trans {H H1 H2 : Hp} (a : Keep H H1) (b : Keep H1 H2) : Keep H H2 := fun c o h => b c o (a c o h)
/-- the mode m stands at a -/
def MdAt (H : Hp) (a : Addr) : Md → Prop
  | .stay d => H a = some (.tup [.str "stay", .int d])
  | .pass => H a = some (.tup [.str "pass"])
  | .runs n m => H a = some (.tup [.str "runs", .int n, .int m])
  | .full rs => ∃ b, H a = some (.tup [.str "full", .ref b]) ∧ H b = some (.tup (rs.map fun n => V.int (n : Nat)))
/-- the telling t stands at a -/
def Tl (H : Hp) (a : Addr) (t : List Md) : Prop := ∃ bs : List Addr, H a = some (.tup (bs.map V.ref)) ∧ bs.length = t.length ∧ ∀ (i : Nat) (b : Addr) (m : Md), bs[i]? = some b → t[i]? = some m → MdAt H b m
/-- the tellings ts stand at a -/
def Ts (H : Hp) (a : Addr) (ts : List (List Md)) : Prop := ∃ bs : List Addr, H a = some (.tup (bs.map V.ref)) ∧ bs.length = ts.length ∧ ∀ (i : Nat) (b : Addr) (t : List Md), bs[i]? = some b → ts[i]? = some t → Tl H b t
theorem MdAt.keep {H H' : Hp} {a : Addr} {m : Md} (k : Keep H H') (h : MdAt H a m) : MdAt H' a m := by
  cases m with
  | full rs =>
    obtain ⟨b, h1, h2⟩ := h
    exact ⟨b, k _ _ h1, k _ _ h2⟩
  | _ => exact k _ _ h
theorem Tl.keep {H H' : Hp} {a : Addr} {t : List Md} (k : Keep H H') (h : Tl H a t) : Tl H' a t := by
  obtain ⟨bs, h1, h2, h3⟩ := h
  exact ⟨bs, k _ _ h1, h2, fun i b m e1 e2 => (h3 i b m e1 e2).keep k⟩
theorem Ts.keep {H H' : Hp} {a : Addr} {t : List (List Md)} (k : Keep H H') (h : Ts H a t) : Ts H' a t := by
  obtain ⟨bs, h1, h2, h3⟩ := h
  exact ⟨bs, k _ _ h1, h2, fun i b m e1 e2 => (h3 i b m e1 e2).keep k⟩
theorem tupT {K : PySem.W.Frag} {H : Hp} {a : Addr} {xs : List V} (h : H a = some (.tup xs)) : SqT K H a xs := .inl (.inl h)
theorem lstL {K : PySem.W.Frag} {H : Hp} {a : Addr} {xs : List V} (h : H a = some (.lst xs)) : SqL K H a xs := .inl (.inl h)
/-- a line or None; a row or None; a number or None -/
def oS : Option Ln → V
  | none => .non
  | some x => .str (S x)
def oR : Option (List Nat) → V
  | none => .non
  | some x => .str (R x)
def oN : Option Nat → V
  | none => .non
  | some n => .int (n : Nat)
def vS (l : Ln) : V := .str (S l)
/-- a line as a key -/
def kS (l : Ln) : Key × V := (.inr (S l), .bl true)
end K8
/-! K78p1: the program's small defs over lines and runs -/
namespace K8
open PySem PySem.Spec PyProof.Rows L2
/-! ### isinstance -/
section
variable {K : PySem.W.Frag}
theorem kI : PySem.W.kitOne K (.type "int") (.type "int") = some true := kit_ty (by decide +kernel)
theorem kB : PySem.W.kitOne K (.type "int") (.type "bool") = some false := kit_ty (by decide +kernel)
theorem kT : PySem.W.kitOne K (.type "str") (.type "str") = some true := kit_ty (by decide +kernel)
theorem kP : PySem.W.kitOne K (.type "tuple") (.type "tuple") = some true := kit_ty (by decide +kernel)
end
section
variable {P : Program} {w : World} {K : PySem.W.Frag} {mg : Str → Option Value} {base : Heap} {A : Nat → Addr} {D : Nat → FuncData}
/-! ### is_whole -/
def sp_is_whole : Sp := fun vs H Q _ => ∃ z lo hi : Int, vs = [.int z, .int lo, .int hi] ∧ Q (.bl (decide (lo ≤ z ∧ z ≤ hi))) H
theorem ok_is_whole (T : Tx K mg A D) : FnOk P w K mg base CX0 1 (A 9) (D 9) ["thing", "least", "most"] sp_is_whole := by
  refine T.o_is_whole.F.ok sc_is_whole (fun vs H Q E h => ?_) (fun cdv Ar outer s H vs Q E hr h => ?_)
  · obtain ⟨_, _, _, rfl, _⟩ := h
    rfl
  · obtain ⟨z, lo, hi, rfl, q⟩ := h
    refine ⟨_, (pss_cons (ps_if (PW.pt (pw_or (pt_not (pt_val (pe_callB call_isi (by rfl) T.n_isinstance (by decide +kernel) (pa_cons (pv 0) (pa_cons (pe_bltn (v := .ty "int") (by rfl) T.n_int (by decide +kernel) rfl) pa_nil))))) (pw_or1 (pt_val (pe_callB call_isi (by rfl) T.n_isinstance (by decide +kernel) (pa_cons (pv 0) (pa_cons (pe_bltn (v := .ty "bool") (by rfl) T.n_bool (by decide +kernel) rfl) pa_nil))))))) (pss_one (ps_ret pe_bl)) pss_nil)
      (pss_one (ps_ret (pe_and (pe_or (pe_cmpR op_isN (pv 1) pe_non (nomark _)) (pe_one (pe_cmpR op_ge (pv 0) (pv 1) (nomark _)))) (pe_one (pe_or (pe_cmpR op_isN (pv 2) pe_non (nomark _)) (pe_one (pe_cmpR op_le (pv 0) (pv 2) (nomark _))))))))), ?_⟩
    refine ⟨_, rfl, _, _, _, _, _, rfl, ClsV.ty _, .base (.int _), kI, _, rfl, iteF ⟨_, rfl, _, _, _, _, _, rfl, ClsV.ty _, .base (.int _), kB, _, rfl, iteF ?_⟩⟩
    refine ⟨_, rfl, rfl, _, rfl, iteF ⟨_, rfl, _, rfl, _, _, rfl, rfl, _, rfl, ?_⟩⟩
    by_cases h1 : z ≥ lo
    · rw [decide_eq_true h1]
      refine iteT ⟨_, rfl, rfl, _, rfl, iteF ⟨_, rfl, _, rfl, _, _, rfl, rfl, ?_⟩⟩
      have e : decide (z ≤ hi) = decide (lo ≤ z ∧ z ≤ hi) := by simp [show lo ≤ z from h1]
      have q2 : Q (.bl (decide (z ≤ hi))) H := by
        rw [e]
        exact q
      exact q2
    · rw [decide_eq_false h1]
      have e : decide (lo ≤ z ∧ z ≤ hi) = false := decide_eq_false fun z => h1 z.1
      rw [e] at q
      exact iteF q
/-! ### other_colour -/
def sp_other : Sp := fun vs H Q _ => ∃ c : Bool, vs = [.str (S [c])] ∧ Q (.str (S [!c])) H
theorem ok_other_colour (T : Tx K mg A D) : FnOk P w K mg base CX0 1 (A 11) (D 11) ["colour"] sp_other := by
  refine T.o_other_colour.F.ok sc_other_colour (fun vs H Q E h => ?_) (fun cdv Ar outer s H vs Q E hr h => ?_)
  · obtain ⟨_, rfl, _⟩ := h
    rfl
  · obtain ⟨c, rfl, q⟩ := h
    refine ⟨_, (pss_one (ps_ret (pe_ifExp (pt_cmpR op_eq (pv 0) (pe_k (by rfl) T.c_WHITE) (nomark _)) (pe_k (by rfl) T.c_BLACK) (pe_k (by rfl) T.c_WHITE)))), ?_⟩
    refine ⟨_, rfl, rfl, _, rfl, ?_⟩
    rw [S_dot_dec]
    cases c with
    | true => exact iteF q
    | false => exact iteT q
/-! ### colour_end -/
def sp_colour_end : Sp := fun vs H Q _ => ∃ (l : Ln) (k : Nat) (c : Bool), vs = [.str (S l), .int (k : Nat), .str (S [c])] ∧ l.length ≤ 1000 ∧ k ≤ l.length ∧
  ∀ e : Nat, k ≤ e → e ≤ l.length → (e < l.length → l.getD e false = !c) → (k < l.length → l.getD k false = c → k < e) → Q (.int (e : Nat)) H
theorem getD_at {l : Ln} {k : Nat} (h : k < l.length) : l[k]? = some (l.getD k false) := by
  rw [List.getD_eq_getElem?_getD, List.getElem?_eq_getElem h]
  rfl
theorem ok_colour_end (T : Tx K mg A D) : FnOk P w K mg base CX0 1 (A 12) (D 12) ["line", "place", "colour"] sp_colour_end := by
  refine T.o_colour_end.F.ok sc_colour_end (fun vs H Q E h => ?_) (fun cdv Ar outer s H vs Q E hr h => ?_)
  · obtain ⟨_, _, _, rfl, _⟩ := h
    rfl
  · obtain ⟨l, k, c, rfl, hl, hk, q⟩ := h
    refine ⟨_, (pss_cons (ps_while PassesOwn.never (PW.pt (pw_and (pt_cmpR op_lt (pv 1) (pe_callB call_len_str (by rfl) T.n_len (by decide +kernel) (pa_cons (pv 0) pa_nil)) (nomark _)) (pw_and1 (pt_cmpR op_eq (pe_ix ix_str (pv 0) (pv 1) (fun _ _ => rfl)) (pv 2) (nomark _))))) (pss_one (ps_aug (i := 1) sc_colour_end.nd rfl (Or.inl rfl) pe_int ip_add)))
      (pss_one (ps_ret (pv 1)))), ?_⟩
    refine ⟨fun m σ H' => ∃ e : Nat, σ = [some (.str (S l)), some (.int (e : Nat)), some (.str (S [c]))] ∧ H = H' ∧ m + e = l.length ∧ k ≤ e ∧ (k < e ∨ e = k), ⟨l.length - k, k, rfl, rfl, by omega, Nat.le_refl _, .inr rfl⟩, fun m σ H' hW => ?_⟩
    obtain ⟨e, rfl, rfl, hm, hke, hd⟩ := hW
    refine ⟨_, rfl, _, rfl, _, rfl, by rw [S_length]; exact nat_small hl, _, _, rfl, rfl, _, rfl, ?_⟩
    rw [S_length]
    by_cases h1 : e < l.length
    · rw [decide_eq_true (show (e : Int) < (l.length : Nat) by omega)]
      refine iteT ⟨_, rfl, _, rfl, _, _, _, rfl, rfl, by rw [S_length]; exact nat_small hl, S_atI (getD_at h1), _, rfl, rfl, _, rfl, ?_⟩
      rw [S_one, S_dot_dec]
      by_cases h2 : l.getD e false = c
      · rw [decide_eq_true h2]
        refine iteT ⟨fun σ' H' => σ' = [some (.str (S l)), some (.int ((e : Nat) + 1)), some (.str (S [c]))] ∧ H = H', fun σ' H' hN => ?_, _, rfl, _, _, rfl, rfl, rfl, rfl⟩
        obtain ⟨rfl, rfl⟩ := hN
        exact ⟨m - 1, by omega, e + 1, rfl, rfl, by omega, by omega, .inl (by omega)⟩
      · rw [decide_eq_false h2]
        refine iteF ⟨_, rfl, q e hke (by omega) (fun _ => ?_) fun h3 h4 => ?_⟩
        · cases c <;> cases hx : l.getD e false <;> simp_all
        · rcases hd with z | z
          · exact z
          · rw [z] at h2
            exact absurd h4 h2
    · rw [decide_eq_false (show ¬ (e : Int) < (l.length : Nat) by omega)]
      refine iteF (iteF ⟨_, rfl, q e hke (by omega) (fun z => absurd z h1) fun h3 _ => by omega⟩)
end
end K8
/-! K78p2: need_line, runs_in, are_runs, line_in, full -/
namespace K8
open PySem PySem.Spec PyProof.Rows L2
theorem le_sum : ∀ {rs : List Nat} {n : Nat}, n ∈ rs → n ≤ rs.sum
  | a :: rs, n, h => by
    rw [List.sum_cons]
    rcases List.mem_cons.mp h with e | e
    · omega
    · have := le_sum e
      omega
theorem cast_sum : ∀ rs : List Nat, (rs.map fun n => ((n : Nat) : Int)).sum = ((rs.sum : Nat) : Int)
  | [] => rfl
  | a :: rs => by
    rw [List.map_cons, List.sum_cons, List.sum_cons, cast_sum rs]
    omega
theorem lnAt_length : ∀ (rs : List Nat) (c : Bool), (lnAt rs c).length = rs.sum
  | [], _ => rfl
  | n :: rs, c => by
    show (List.replicate n c ++ lnAt rs (!c)).length = _
    rw [List.length_append, List.length_replicate, lnAt_length rs, List.sum_cons]
/-! ### data, empty or not -/
section
variable {K : PySem.W.Frag} {H : Hp}
/-- a datum of a depth -/
def Da (K : PySem.W.Frag) (H : Hp) (n : Nat) (v : V) : Prop := ∃ d, Dp K H v d ∧ d.canLay0 = true ∧ d.depth ≤ n
theorem Da.int {n : Nat} (i : Int) : Da K H n (.int i) := ⟨_, .int i, rfl, Nat.zero_le _⟩
theorem Da.non {n : Nat} : Da K H n .non := ⟨_, .non, rfl, Nat.zero_le _⟩
theorem Da.str {n : Nat} {x : Str} (h : PyData.strOk x = true) : Da K H n (.str x) := ⟨_, .str x, by unfold PyData.canLay0; exact h, Nat.zero_le _⟩
theorem Da.all {n : Nat} : ∀ {xs : List V}, (∀ x ∈ xs, Da K H n x) → ∃ ds, DpAll K H xs ds ∧ PyData.canLayAll0 ds = true ∧ PyData.depthAll ds ≤ n ∧ ds.isEmpty = xs.isEmpty
  | [], _ => ⟨[], .nil, rfl, Nat.zero_le _, rfl⟩
  | x :: xs, h => by
    obtain ⟨d, h1, h2, h3⟩ := h x List.mem_cons_self
    obtain ⟨ds, g1, g2, g3, _⟩ := Da.all (xs := xs) fun y hy => h y (List.mem_cons_of_mem _ hy)
    refine ⟨d :: ds, .cons h1 g1, ?_, ?_, rfl⟩
    · simp only [PyData.canLayAll0, h2, g2, Bool.and_self]
    · simp only [PyData.depthAll]
      omega
theorem Da.tup {n : Nat} {a : Addr} {xs : List V} (hs : SqT K H a xs) (h : ∀ x ∈ xs, Da K H n x) : Da K H (n + 1) (.ref a) := by
  obtain ⟨ds, h1, h2, h3, _⟩ := Da.all h
  exact ⟨_, .tup hs h1, by simp only [PyData.canLay0]; exact h2, by simp only [PyData.depth]; omega⟩
theorem shaped_of {d : PyData} {n : Nat} (h1 : d.canLay0 = true) (h2 : d.depth ≤ n) (h3 : n ≤ 64) : SeqAt.shaped d = true := by
  show (d.canLay0 && decide (d.depth ≤ 64)) = true
  rw [h1, decide_eq_true (by omega)]
  rfl
theorem nilT {a p : Addr} {xs : List V} (hs : SqT K H a xs) (h : ∀ x ∈ xs, Da K H 60 x) (hp : SqT K H p []) : ∃ d e, Dp K H (.ref a) d ∧ Dp K H (.ref p) e ∧ SeqAt.shaped d = true ∧ SeqAt.shaped e = true ∧ PyData.eqv d e = xs.isEmpty := by
  obtain ⟨ds, h1, h2, h3, h4⟩ := Da.all h
  refine ⟨_, .tuple [], .tup hs h1, .tup hp .nil, shaped_of (n := 61) (by simp only [PyData.canLay0]; exact h2) (by simp only [PyData.depth]; omega) (by decide), by decide, ?_⟩
  rw [← h4]
  cases ds <;> simp [PyData.eqv, PyData.eqvAll]
theorem nilL {a p : Addr} {xs : List V} (hs : SqL K H a xs) (h : ∀ x ∈ xs, Da K H 60 x) (hp : SqL K H p []) : ∃ d e, Dp K H (.ref a) d ∧ Dp K H (.ref p) e ∧ SeqAt.shaped d = true ∧ SeqAt.shaped e = true ∧ PyData.eqv d e = xs.isEmpty := by
  obtain ⟨ds, h1, h2, h3, h4⟩ := Da.all h
  refine ⟨_, .list [], .lst hs h1, .lst hp .nil, shaped_of (n := 61) (by simp only [PyData.canLay0]; exact h2) (by simp only [PyData.depth]; omega) (by decide), by decide, ?_⟩
  rw [← h4]
  cases ds <;> simp [PyData.eqv, PyData.eqvAll]
theorem strOk_S (l : Ln) : PyData.strOk (S l) = true := by
  show ((l.map cp).toArray).all (· < 0x110000) = true
  rw [← Array.all_toList, List.all_eq_true]
  intro x hx
  obtain ⟨b, _, rfl⟩ := List.mem_map.mp hx
  cases b <;> rfl
end
section
variable {P : Program} {w : World} {K : PySem.W.Frag} {mg : Str → Option Value} {base : Heap} {A : Nat → Addr} {D : Nat → FuncData}
/-! ### need_line -/
theorem S_mem (b : Bool) : decide (cp b ∈ (S [false] ++ S [true]).cps.toList) = true := by cases b <;> decide
def sp_need_line : Sp := fun vs H Q _ => ∃ l : Ln, vs = [.str (S l)] ∧ 1 ≤ l.length ∧ l.length ≤ 40 ∧ ∀ H', Same H H' → Q (.str (S l)) H'
theorem ok_need_line (T : Tx K mg A D) : FnOk P w K mg base CX0 1 (A 10) (D 10) ["thing"] sp_need_line := by
  refine T.o_need_line.F.ok sc_need_line (fun vs H Q E h => ?_) (fun cdv Ar outer s H vs Q E hr h => ?_)
  · obtain ⟨_, rfl, _⟩ := h
    rfl
  · obtain ⟨l, rfl, h1, h40, q⟩ := h
    refine ⟨_, (pss_cons (ps_if (PW.pt (pw_or (pt_not (pt_val (pe_callB call_isi (by rfl) T.n_isinstance (by decide +kernel) (pa_cons (pv 0) (pa_cons (pe_bltn (v := .ty "str") (by rfl) T.n_str (by decide +kernel) rfl) pa_nil))))) (pw_or1 (pt_not (pt_chain op_le op_le pe_int (pe_callB call_len_str (by rfl) T.n_len (by decide +kernel) (pa_cons (pv 0) pa_nil)) (pe_k (by rfl) T.c_MOST_WIDTH)))))) (pss_one ps_never) pss_nil)
      (pss_cons (ps_for PassesOwn.never rfl (pi_enumS (by rfl) T.n_enumerate (pa_cons (pv 0) pa_nil)) (pg_tup rfl (pgs_cons (pg_name (i := 1) sc_need_line.nd rfl (Or.inl rfl)) (pgs_cons (pg_name (i := 2) sc_need_line.nd rfl (Or.inl rfl)) pgs_nil))) (pss_one (ps_if (pt_cmpR op_notIn_sign (pv 2) (pe_op op_add_str (pe_k (by rfl) T.c_WHITE) (pe_k (by rfl) T.c_BLACK)) rfl) (pss_one ps_never) pss_nil)))
      (pss_one (ps_ret (pv 0))))), ?_⟩
    refine ⟨_, rfl, _, _, _, _, _, rfl, ClsV.ty _, .base (.str _), kT, _, rfl, iteF ⟨_, rfl, _, rfl, by rw [S_length]; exact nat_small (by omega), _, _, rfl, rfl, _, rfl, ?_⟩⟩
    rw [S_length, decide_eq_true (show (1 : Int) ≤ (l.length : Nat) by omega)]
    refine iteT ⟨_, _, rfl, rfl, _, rfl, ?_⟩
    rw [decide_eq_true (show ((l.length : Nat) : Int) ≤ 40 by omega)]
    refine iteF ?_
    refine ⟨_, rfl, _, rfl, for_it walk_enumS (fun i σ H' => Same H H' ∧ ∃ a b, σ = [some (.str (S l)), a, b]) ⟨Same.refl _, none, none, rfl⟩ (fun _ _ _ _ _ => trivial) (fun i x σ H1 H2 hi hP hY => ?_) fun σ H1 hP => ?_⟩
    · obtain ⟨sm, a, b, rfl⟩ := hP
      obtain ⟨p, x1, x2, rfl, np, rfl, e1, e2⟩ := hY
      cases e1
      have e3 : ∃ c, x2 = .str (S [c]) := by
        have hi2 : i < l.length := by
          have z := S_length l
          unfold Str.length at z
          omega
        have e4 : (S l).cps[i]? = some (cp l[i]) := by
          show ((l.map cp).toArray)[i]? = _
          simp [hi2]
        simp only [e4, Option.map_some] at e2
        cases e2
        exact ⟨l[i], rfl⟩
      obtain ⟨c, rfl⟩ := e3
      refine ⟨p, _, rfl, .inl (.inl upd_same), rfl, _, _, rfl, _, [], rfl, rfl, ?_⟩
      refine ⟨_, rfl, _, _, rfl, rfl, by decide, cp c, _, rfl, rfl, _, rfl, ?_⟩
      rw [S_mem]
      exact iteF ⟨sm.trans (same_upd np), _, _, rfl⟩
    · obtain ⟨sm, a, b, rfl⟩ := hP
      exact ⟨_, rfl, q _ sm⟩
/-! ### runs_in -/
def sp_runs_in : Sp := fun vs H Q _ => ∃ l : Ln, vs = [.str (S l)] ∧ 1 ≤ l.length ∧ l.length ≤ 40 ∧ ∀ H' p rs, Same H H' → RunsOk rs → H' p = some (.tup (rs.map fun n => V.int (n : Nat))) → Q (.ref p) H'
theorem ok_runs_in (T : Tx K mg A D) : FnOk P w K mg base CX0 2 (A 13) (D 13) ["line"] sp_runs_in := by
  have G_colour_end := ok_colour_end (P := P) (w := w) (base := base) T
  have G_other_colour := ok_other_colour (P := P) (w := w) (base := base) T
  refine T.o_runs_in.F.ok sc_runs_in (fun vs H Q E h => ?_) (fun cdv Ar outer s H vs Q E hr h => ?_)
  · obtain ⟨_, rfl, _⟩ := h
    rfl
  · obtain ⟨l, rfl, h1, h40, q⟩ := h
    refine ⟨_, (pss_cons (ps_par3 (i := 1) (j := 2) (l := 3) rfl sc_runs_in.nd rfl rfl rfl (by decide) (by decide) (by decide) rfl rfl rfl (pa_cons (pe_lst pa_nil) (pa_cons pe_int (pa_cons (pe_k (by rfl) T.c_WHITE) pa_nil))) (by rfl))
      (pss_cons (ps_while PassesOwn.never (pt_cmpR op_lt (pv 2) (pe_callB call_len_str (by rfl) T.n_len (by decide +kernel) (pa_cons (pv 0) pa_nil)) (nomark _)) (pss_cons (ps_set (i := 4) sc_runs_in.nd rfl (Or.inl rfl) (pe_call G_colour_end (hr.mono (by decide)) (by rfl) T.o_colour_end.g T.o_colour_end.F.kp T.o_colour_end.b .nil pass0 (pa_cons (pv 0) (pa_cons (pv 2) (pa_cons (pv 3) pa_nil)))))
      (pss_cons (ps_expr (pe_bm PySem.F.plainAttrs_list PySem.F.slot_list_append PySem.F.type_list_append mt_append (pv 1) (pa_cons (pe_op op_sub (pv 4) (pv 2)) pa_nil)))
      (pss_one (ps_par (i := 2) (j := 3) rfl sc_runs_in.nd rfl rfl (by decide) rfl rfl (pa_cons (pv 4) (pa_cons (pe_call G_other_colour (hr.mono (by decide)) (by rfl) T.o_other_colour.g T.o_other_colour.F.kp T.o_other_colour.b .nil pass0 (pa_cons (pv 3) pa_nil)) pa_nil)) (by rfl))))))
      (pss_one (ps_ret (pe_callTy call_tuple_of (by rfl) T.n_tuple (by decide +kernel) (pa_cons (pv 1) pa_nil)))))), ?_⟩
    refine ⟨Nat.zero_le _, fun o no => ⟨_, _, _, rfl, ?_⟩⟩
    refine ⟨fun m σ H' => ∃ (k : Nat) (c : Bool) (e : Option V) (rs : List Nat), σ = [some (.str (S l)), some (.ref o), some (.int (k : Nat)), some (.str (S [c])), e] ∧ Same H H' ∧ H' o = some (.lst (rs.map fun n => V.int (n : Nat))) ∧
        k ≤ l.length ∧ rs.sum = k ∧ 0 ∉ rs.tail ∧ (rs ≠ [] → k < l.length → l.getD k false = c) ∧ m = 2 * (l.length - k) + (if rs = [] then 1 else 0) ∧ rs.length ≤ k + 1,
      ⟨_, 0, false, none, [], rfl, same_upd no, upd_same, Nat.zero_le _, rfl, by simp, fun z => absurd rfl z, rfl, by simp⟩, fun m σ H' hW => ?_⟩
    obtain ⟨k, c, e, rs, rfl, sm, ho, hk, hs, h0, hc, hm, hln⟩ := hW
    refine ⟨_, rfl, _, rfl, _, rfl, by rw [S_length]; exact nat_small (by omega), _, _, rfl, rfl, _, rfl, ?_⟩
    rw [S_length]
    by_cases hlt : k < l.length
    · rw [decide_eq_true (show ((k : Nat) : Int) < (l.length : Nat) by omega)]
      refine iteT ⟨fun σ' H1 => ∃ (k' : Nat) (c' : Bool) (e : Option V) (rs' : List Nat), σ' = [some (.str (S l)), some (.ref o), some (.int (k' : Nat)), some (.str (S [c'])), e] ∧ Same H H1 ∧ H1 o = some (.lst (rs'.map fun n => V.int (n : Nat))) ∧
        k' ≤ l.length ∧ rs'.sum = k' ∧ 0 ∉ rs'.tail ∧ (rs' ≠ [] → k' < l.length → l.getD k' false = c') ∧ rs' ≠ [] ∧ (rs = [] ∨ k < k') ∧ k ≤ k' ∧ rs'.length ≤ k' + 1, fun σ' H1 hN => ?_, ?_⟩
      · obtain ⟨k', c', e', rs', e1, e2, e3, e4, e5, e6, e7, e8, e9, e10, e11⟩ := hN
        refine ⟨_, ?_, k', c', e', rs', e1, e2, e3, e4, e5, e6, e7, rfl, e11⟩
        rw [if_neg e8, hm]
        rcases e9 with z | z
        · rw [if_pos z]
          omega
        · omega
      · refine ⟨_, rfl, _, rfl, _, rfl, l, k, c, rfl, by omega, hk, fun e' g1 g2 g3 g4 => ?_⟩
        refine ⟨_, rfl, .inl ⟨rfl, _, lstL ho⟩, _, rfl, _, rfl, _, _, rfl, rfl, o, _, _, rfl, rfl, ho, ?_, ?_⟩
        · rw [List.length_map]
          exact small1000 (by omega)
        · refine ⟨_, rfl, _, rfl, c, rfl, _, _, rfl, ?_⟩
          have hpos : rs ≠ [] → k < e' := fun z => g4 hlt (hc z hlt)
          refine ⟨e', !c, _, rs ++ [e' - k], rfl, fun b z hz => ?_, ?_, g2, ?_, ?_, fun _ hz => g3 hz, by simp, ?_, g1, ?_⟩
          · rw [upd_ne (ne_of_none hz no)]
            exact sm _ _ hz
          · rw [upd_same, List.map_append]
            show some (HO.lst (_ ++ [V.int ((e' : Int) - (k : Int))])) = some (HO.lst (_ ++ [V.int ((e' - k : Nat) : Int)]))
            rw [Int.ofNat_sub g1]
          · rw [List.sum_append, hs]
            simp
            omega
          · cases rs with
            | nil => simp
            | cons r rs =>
              have := hpos (by simp)
              simp only [List.cons_append, List.tail_cons] at h0 ⊢
              simp only [List.mem_append, List.mem_singleton, not_or]
              exact ⟨h0, by omega⟩
          · by_cases z : rs = []
            · exact .inl z
            · exact .inr (hpos z)
          · by_cases z : rs = []
            · rw [z]
              simp
            · have := hpos z
              simp only [List.length_append, List.length_singleton]
              omega
    · rw [decide_eq_false (show ¬ ((k : Nat) : Int) < (l.length : Nat) by omega)]
      refine iteF ⟨_, rfl, o, _, rfl, .inl ⟨lstL ho, fun p np => ?_⟩⟩
      have hk2 : k = l.length := by omega
      refine q _ p rs (sm.trans (same_upd np)) ⟨?_, ?_, h0, by omega, by omega⟩ upd_same
      · intro z
        rw [z] at hs
        simp at hs
        omega
      · intro n hn
        have := le_sum hn
        omega
/-! ### are_runs -/
abbrev vN (n : Nat) : V := .int (n : Nat)
def sp_are_runs : Sp := fun vs H Q _ => ∃ (a : Addr) (rs : List Nat), vs = [.ref a] ∧ H a = some (.tup (rs.map vN)) ∧ RunsOk rs ∧ ∀ H', Same H H' → Q (.bl true) H'
theorem ok_are_runs (T : Tx K mg A D) : FnOk P w K mg base CX0 2 (A 14) (D 14) ["thing"] sp_are_runs := by
  have G_is_whole := ok_is_whole (P := P) (w := w) (base := base) T
  refine T.o_are_runs.F.ok sc_are_runs (fun vs H Q E h => ?_) (fun cdv Ar outer s H vs Q E hr h => ?_)
  · obtain ⟨_, _, rfl, _⟩ := h
    rfl
  · obtain ⟨a, rs, rfl, ha, ⟨hne, h40, h0, hs1, hs2⟩, q⟩ := h
    have hsum : rs.length ≤ 41 := by
      have z : ∀ l : List Nat, 0 ∉ l → l.length ≤ l.sum := fun l => by
        induction l with
        | nil => simp
        | cons x l ih =>
          intro hx
          simp only [List.mem_cons, not_or] at hx
          have := ih hx.2
          simp only [List.length_cons, List.sum_cons]
          omega
      cases rs with
      | nil => simp
      | cons x l =>
        have := z l h0
        simp only [List.length_cons, List.sum_cons] at *
        omega
    refine ⟨_, (pss_cons (ps_if (PW.pt (pw_or (pt_not (pt_val (pe_callB call_isi (by rfl) T.n_isinstance (by decide +kernel) (pa_cons (pv 0) (pa_cons (pe_bltn (v := .ty "tuple") (by rfl) T.n_tuple (by decide +kernel) rfl) pa_nil))))) (pw_or (pt_cmpR (op_eqD hr.units) (pv 0) (pe_tup pa_nil) (nomark _)) (pw_or1 (pt_not (pt_val (pe_callB (cr_all rfl) (by rfl) T.n_all (by decide +kernel) (pa_cons (pe_lc (own := [("run", 1)]) (g := gName 1) (tt := tYes) rfl sc_are_runs.nd (pi_tup (pv 0)) (blkOk_by (own := [("run", 1)]) (N := N_are_runs) (sc := defScope s_are_runs) (by decide +kernel)) (fun _ _ _ _ _ => pg_name (i := 1) sc_are_runs.nd rfl (Or.inl rfl)) (fun _ _ _ _ _ => pts_nil) (fun _ _ _ _ _ => (pe_call G_is_whole (hr.mono (by decide)) (by rfl) T.o_is_whole.g T.o_is_whole.F.kp T.o_is_whole.b .nil pass0 (pa_cons (pv 1) (pa_cons pe_int (pa_cons (pe_k (by rfl) T.c_MOST_WIDTH) pa_nil)))))) pa_nil)))))))) (pss_one (ps_ret pe_bl)) pss_nil)
      (pss_one (ps_ret (pe_and (pe_cmpR op_notIn_seq pe_int (pe_slice sl_tupA (pv 0) (po_some pe_int) po_none) rfl) (pe_one (pe_chain op_le op_le pe_int (pe_callB (cr_sumT rfl) (by rfl) T.n_sum (by decide +kernel) (pa_cons (pv 0) pa_nil)) (pe_k (by rfl) T.c_MOST_WIDTH))))))), ?_⟩
    refine ⟨_, rfl, _, _, _, _, _, rfl, ClsV.ty _, .base (.tup ha), kP, _, rfl, iteF ⟨_, rfl, Nat.zero_le _, fun p np => ?_⟩⟩
    have s1 : Same H (upd H p (.tup [])) := same_upd np
    obtain ⟨d, e, d1, d2, d3, d4, d5⟩ := nilT (K := K) (H := upd H p (.tup [])) (tupT (s1 _ _ ha)) (fun x hx => by
      obtain ⟨n, _, rfl⟩ := List.mem_map.mp hx
      exact .int _) (tupT (a := p) (xs := []) upd_same)
    refine ⟨d, e, d1, d2, d3, d4, _, rfl, ?_⟩
    rw [d5, show (rs.map vN).isEmpty = false by cases rs with | nil => exact absurd rfl hne | cons _ _ => rfl]
    refine iteF ⟨_, rfl, a, rfl, ⟨_, tupT (s1 _ _ ha)⟩, fun o no => ?_⟩
    refine lc_tup (xs := rs.map vN) (fun i H' => Same H H' ∧ H' o = some (.lst (List.replicate i (.bl true)))) ⟨s1.trans (same_upd no), upd_same⟩ (fun i H' _ hP => tupT (hP.1 _ _ ha)) (fun i x H' hx hP => ?_) fun H' hP => ?_
    · obtain ⟨sm, ho⟩ := hP
      rw [List.getElem?_map] at hx
      obtain ⟨n, hn, rfl⟩ := Option.map_eq_some_iff.mp hx
      have hn40 := h40 n (List.mem_of_getElem? hn)
      refine ⟨rfl, _, rfl, _, 0, 40, rfl, ?_⟩
      rw [decide_eq_true (show (0 : Int) ≤ (n : Nat) ∧ ((n : Nat) : Int) ≤ 40 by omega)]
      have hi := (List.getElem?_eq_some_iff.mp hn).1
      refine ⟨_, ho, by rw [List.length_replicate]; exact small1000 (by omega), fun b z hz => ?_, ?_⟩
      · rw [upd_ne (ne_of_none (s1 _ _ hz) no)]
        exact sm _ _ hz
      · rw [upd_same, List.replicate_succ']
    · obtain ⟨sm, ho⟩ := hP
      rw [List.length_map] at ho
      refine ⟨o, List.replicate rs.length true, rfl, lstL (by rw [ho, List.map_replicate]), ?_⟩
      rw [show (List.replicate rs.length true).all id = true by simp]
      refine ⟨_, rfl, iteF ⟨_, rfl, 1, rfl, a, _, rfl, tupT (sm _ _ ha), fun z => ?_, fun _ r nr => ?_⟩⟩
      · exfalso
        have z1 := z.1
        rw [show HT.sIx (rs.map vN).length 0 (some 1) = min 1 (rs.map vN).length from HT.sIx_nat _ 0 1, List.length_map] at z1
        cases rs with
        | nil => exact hne rfl
        | cons _ _ =>
          rw [List.length_cons] at z1
          omega
      · have hcut : cutV (rs.map vN) (some 1) none = rs.tail.map vN := by
          unfold cutV
          rw [show HT.sIx (rs.map vN).length 0 (some 1) = min 1 (rs.map vN).length from HT.sIx_nat _ 0 1, HT.sIx_none]
          cases rs with
          | nil => rfl
          | cons x l =>
            rw [List.length_map, List.length_cons, show min 1 (l.length + 1) = 1 by omega]
            show List.take (l.length + 1 - 1) (l.map vN) = l.map vN
            exact List.take_of_length_le (by simp)
        rw [hcut]
        have s2 : Same H (upd H' r (.tup (rs.tail.map vN))) := sm.trans (same_upd nr)
        refine ⟨r, _, rfl, .inr (tupT upd_same), rfl, ?_, ?_⟩
        · rw [List.all_map]
          simp [flatV, Function.comp_def]
        · have hin : inV (.int 0) (rs.tail.map vN) = false := by
            unfold inV
            rw [List.any_map, List.any_eq_false]
            intro n hn
            have : n ≠ 0 := fun z => h0 (z ▸ hn)
            show ¬ eqV (V.int (n : Nat)) (.int 0) = true
            simp [eqV]
            omega
          rw [hin]
          refine ⟨_, rfl, iteT ⟨_, rfl, a, rs.map fun n => ((n : Nat) : Int), rfl, tupT ?_, _, _, rfl, rfl, _, rfl, ?_⟩⟩
          · rw [List.map_map]
            exact s2 _ _ ha
          · rw [cast_sum, decide_eq_true (show (1 : Int) ≤ (rs.sum : Nat) by omega)]
            refine iteT ⟨_, _, rfl, rfl, ?_⟩
            have e : decide (((rs.sum : Nat) : Int) ≤ 40) = true := decide_eq_true (by omega)
            show Q (.bl (decide (((rs.sum : Nat) : Int) ≤ 40))) _
            rw [e]
            exact q _ s2
/-! ### line_in -/
def sp_line_in : Sp := fun vs H Q _ => ∃ (a : Addr) (rs : List Nat), vs = [.ref a] ∧ H a = some (.tup (rs.map vN)) ∧ RunsOk rs ∧ Q (.str (S (lnAt rs false))) H
theorem ok_line_in (T : Tx K mg A D) : FnOk P w K mg base CX0 2 (A 15) (D 15) ["runs"] sp_line_in := by
  have G_other_colour := ok_other_colour (P := P) (w := w) (base := base) T
  refine T.o_line_in.F.ok sc_line_in (fun vs H Q E h => ?_) (fun cdv Ar outer s H vs Q E hr h => ?_)
  · obtain ⟨_, _, rfl, _⟩ := h
    rfl
  · obtain ⟨a, rs, rfl, ha, ⟨hne, h40, h0, hs1, hs2⟩, q⟩ := h
    refine ⟨_, (pss_cons (ps_par (i := 1) (j := 2) rfl sc_line_in.nd rfl rfl (by decide) rfl rfl (pa_cons (pe_lit l_e) (pa_cons (pe_k (by rfl) T.c_WHITE) pa_nil)) (by rfl))
      (pss_cons (ps_for PassesOwn.never rfl (pi_tup (pv 0)) (pg_name (i := 3) sc_line_in.nd rfl (Or.inl rfl)) (pss_cons (ps_aug (i := 1) sc_line_in.nd rfl (Or.inl rfl) (pe_op op_mulS (pv 2) (pv 3)) ip_addS)
      (pss_one (ps_set (i := 2) sc_line_in.nd rfl (Or.inl rfl) (pe_call G_other_colour (hr.mono (by decide)) (by rfl) T.o_other_colour.g T.o_other_colour.F.kp T.o_other_colour.b .nil pass0 (pa_cons (pv 2) pa_nil))))))
      (pss_one (ps_ret (pv 1))))), ?_⟩
    refine ⟨_, _, rfl, ?_⟩
    refine ⟨_, rfl, a, rfl, ⟨_, tupT ha⟩, for_tup (xs := rs.map vN) (fun i σ H' => H = H' ∧ ∃ (acc : Ln) (c : Bool) (r : Option V), σ = [some (.ref a), some (.str (S acc)), some (.str (S [c])), r] ∧ acc ++ lnAt (rs.drop i) c = lnAt rs false) ⟨rfl, [], false, none, rfl, rfl⟩
      (fun i σ H' _ hP => hP.1 ▸ tupT ha) (fun i x σ H' hx hP => ?_) fun σ H' hP => ?_⟩
    · obtain ⟨rfl, acc, c, r, rfl, hacc⟩ := hP
      rw [List.getElem?_map] at hx
      obtain ⟨n, hn, rfl⟩ := Option.map_eq_some_iff.mp hx
      have hn40 := h40 n (List.mem_of_getElem? hn)
      have hdr : rs.drop i = n :: rs.drop (i + 1) := by
        obtain ⟨h1, h2⟩ := List.getElem?_eq_some_iff.mp hn
        rw [List.drop_eq_getElem_cons h1, h2]
      rw [hdr] at hacc
      have hacc2 : acc ++ (List.replicate n c ++ lnAt (rs.drop (i + 1)) (!c)) = lnAt rs false := hacc
      have hl : acc.length + n ≤ 40 := by
        have := congrArg List.length hacc2
        rw [List.length_append, List.length_append, List.length_replicate, lnAt_length rs] at this
        omega
      refine ⟨_, rfl, _, rfl, _, rfl, S [c], ((n : Nat) : Int), rfl, rfl, ⟨by omega, by omega⟩, by rw [S_length]; show 1 ≤ 1000; decide, ?_⟩
      rw [mul_dot]
      refine ⟨_, _, rfl, rfl, by rw [S_length, S_length, List.length_replicate]; exact nat_small (by omega), ?_⟩
      rw [S_append]
      refine ⟨_, rfl, c, rfl, rfl, _, !c, _, rfl, ?_⟩
      rw [List.append_assoc]
      exact hacc2
    · obtain ⟨rfl, acc, c, r, rfl, hacc⟩ := hP
      rw [List.length_map, List.drop_length] at hacc
      have e : acc = lnAt rs false := by
        rw [← hacc]
        show acc = acc ++ []
        simp
      rw [e]
      exact ⟨_, rfl, q⟩
/-! ### full -/
def sp_full : Sp := fun vs H Q _ => ∃ l : Ln, vs = [.str (S l)] ∧ 1 ≤ l.length ∧ l.length ≤ 40 ∧ ∀ H' p rs, Same H H' → RunsOk rs → Tl H' p [.full rs] → Q (.ref p) H'
theorem ok_full (T : Tx K mg A D) : FnOk P w K mg base CX0 3 (A 31) (D 31) ["line"] sp_full := by
  have G_need_line := ok_need_line (P := P) (w := w) (base := base) T
  have G_runs_in := ok_runs_in (P := P) (w := w) (base := base) T
  refine T.o_full.F.ok sc_full (fun vs H Q E h => ?_) (fun cdv Ar outer s H vs Q E hr h => ?_)
  · obtain ⟨_, rfl, _⟩ := h
    rfl
  · obtain ⟨l, rfl, h1, h40, q⟩ := h
    refine ⟨_, (pss_one (ps_ret (pe_tup (pa_cons (pe_tup (pa_cons (pe_k (by rfl) T.c_FULL) (pa_cons (pe_call G_runs_in (hr.mono (by decide)) (by rfl) T.o_runs_in.g T.o_runs_in.F.kp T.o_runs_in.b .nil pass0 (pa_cons (pe_call G_need_line (hr.mono (by decide)) (by rfl) T.o_need_line.g T.o_need_line.F.kp T.o_need_line.b .nil pass0 (pa_cons (pv 0) pa_nil)) pa_nil)) pa_nil))) pa_nil)))), ?_⟩
    refine ⟨_, rfl, l, rfl, h1, h40, fun H1 s1 => ⟨l, rfl, h1, h40, fun H2 p rs s2 hrs hp => ⟨(by show 2 ≤ sizeLine; decide), fun r nr => ⟨(by show 1 ≤ sizeLine; decide), fun t nt => ?_⟩⟩⟩⟩
    have s3 : Same H2 (upd H2 r (.tup [.str "full", .ref p])) := same_upd nr
    have s4 : Same (upd H2 r (.tup [.str "full", .ref p])) (upd (upd H2 r (.tup [.str "full", .ref p])) t (.tup [.ref r])) := same_upd nt
    refine q _ t rs (((s1.trans s2).trans s3).trans s4) hrs ⟨[r], upd_same, rfl, fun i b m e1 e2 => ?_⟩
    cases i with
    | zero =>
      cases e1
      cases e2
      exact ⟨p, s4 _ _ upd_same, s4 _ _ (s3 _ _ hp)⟩
    | succ i => simp at e1
end
end K8
/-! K78p3: is_mode, is_full, need_telling, change_from, change_back -/
namespace K8
open PySem PySem.Spec PyProof.Rows L2
theorem iteD {p : Prop} [Decidable p] {A B : Prop} (h1 : p → A) (h2 : ¬ p → B) : if decide p = true then A else B := by
  by_cases h : p
  · rw [decide_eq_true h]
    exact iteT (h1 h)
  · rw [decide_eq_false h]
    exact iteF (h2 h)
theorem iteN {p : Prop} [Decidable p] {A B : Prop} (h1 : ¬ p → A) (h2 : p → B) : if (!decide p) = true then A else B := by
  by_cases h : p
  · rw [decide_eq_true h]
    exact iteF (h2 h)
  · rw [decide_eq_false h]
    exact iteT (h1 h)
/-- the name of a mode -/
def mdS : Md → Str
  | .stay _ => "stay"
  | .pass => "pass"
  | .runs _ _ => "runs"
  | .full _ => "full"
theorem so1 : PyData.strOk "stay" = true := by decide +kernel
theorem so2 : PyData.strOk "pass" = true := by decide +kernel
theorem so3 : PyData.strOk "runs" = true := by decide +kernel
theorem so4 : PyData.strOk "full" = true := by decide +kernel
theorem mdS_ok (m : Md) : PyData.strOk (mdS m) = true := match m with
  | .stay _ => so1
  | .pass => so2
  | .runs _ _ => so3
  | .full _ => so4
theorem n1 : V.str "stay" ≠ V.str "pass" := by decide +kernel
theorem n2 : V.str "stay" ≠ V.str "runs" := by decide +kernel
theorem n3 : V.str "stay" ≠ V.str "full" := by decide +kernel
theorem n4 : V.str "pass" ≠ V.str "runs" := by decide +kernel
theorem n5 : V.str "pass" ≠ V.str "full" := by decide +kernel
theorem n6 : V.str "runs" ≠ V.str "full" := by decide +kernel
theorem n7 : V.str "runs" ≠ V.str "pass" := by decide +kernel
theorem n8 : V.str "runs" ≠ V.str "stay" := by decide +kernel
theorem n9 : V.str "full" ≠ V.str "pass" := by decide +kernel
theorem n10 : V.str "full" ≠ V.str "stay" := by decide +kernel
theorem n11 : V.str "full" ≠ V.str "runs" := by decide +kernel
def MdGood : Md → Prop
  | .full rs => RunsOk rs
  | m => MdOk m
/-- the tuple of a mode -/
theorem MdAt.tup {K : PySem.W.Frag} {H : Hp} {a : Addr} {m : Md} (h : MdAt H a m) : ∃ r, H a = some (.tup (.str (mdS m) :: r)) ∧ ∀ x ∈ r, Da K H 50 x := by
  cases m with
  | stay d => exact ⟨_, h, fun x hx => by
      rw [List.mem_singleton.mp hx]
      exact .int _⟩
  | pass => exact ⟨_, h, fun x hx => by cases hx⟩
  | runs n k => exact ⟨_, h, fun x hx => by
      simp only [List.mem_cons, List.not_mem_nil, or_false] at hx
      rcases hx with e | e <;> (rw [e]; exact .int _)⟩
  | full rs =>
    obtain ⟨b, h1, h2⟩ := h
    exact ⟨_, h1, fun x hx => by
      rw [List.mem_singleton.mp hx]
      exact Da.tup (n := 49) (tupT h2) fun y hy => by
        obtain ⟨n, _, rfl⟩ := List.mem_map.mp hy
        exact .int _⟩
section
variable {P : Program} {w : World} {K : PySem.W.Frag} {mg : Str → Option Value} {base : Heap} {A : Nat → Addr} {D : Nat → FuncData}
/-! ### is_mode -/
def sp_is_mode : Sp := fun vs H Q _ => ∃ (a : Addr) (m : Md), vs = [.ref a] ∧ MdAt H a m ∧ MdGood m ∧ ∀ H', Same H H' → Q (.bl true) H'
theorem ok_is_mode (T : Tx K mg A D) : FnOk P w K mg base CX0 3 (A 23) (D 23) ["thing"] sp_is_mode := by
  have G_is_whole := ok_is_whole (P := P) (w := w) (base := base) T
  have G_are_runs := ok_are_runs (P := P) (w := w) (base := base) T
  refine T.o_is_mode.F.ok sc_is_mode (fun vs H Q E h => ?_) (fun cdv Ar outer s H vs Q E hr h => ?_)
  · obtain ⟨_, _, rfl, _⟩ := h
    rfl
  · obtain ⟨a, m, rfl, ha, hm, q⟩ := h
    refine ⟨_, (pss_cons (ps_if (PW.pt (pw_or (pt_not (pt_val (pe_callB call_isi (by rfl) T.n_isinstance (by decide +kernel) (pa_cons (pv 0) (pa_cons (pe_bltn (v := .ty "tuple") (by rfl) T.n_tuple (by decide +kernel) rfl) pa_nil))))) (pw_or (pt_cmpR (op_eqD hr.units) (pv 0) (pe_tup pa_nil) (nomark _)) (pw_or1 (pt_not (pt_val (pe_callB call_isi (by rfl) T.n_isinstance (by decide +kernel) (pa_cons (pe_ix ix_tup (pv 0) pe_int (fun _ _ => rfl)) (pa_cons (pe_bltn (v := .ty "str") (by rfl) T.n_str (by decide +kernel) rfl) pa_nil))))))))) (pss_one (ps_ret pe_bl)) pss_nil)
      (pss_cons (ps_if (pt_cmpR op_eq (pe_ix ix_tup (pv 0) pe_int (fun _ _ => rfl)) (pe_k (by rfl) T.c_PASS) (nomark _)) (pss_one (ps_ret (pe_cmpR op_eq (pe_callB call_len_seq (by rfl) T.n_len (by decide +kernel) (pa_cons (pv 0) pa_nil)) pe_int (nomark _)))) pss_nil)
      (pss_cons (ps_if (pt_cmpR op_eq (pe_ix ix_tup (pv 0) pe_int (fun _ _ => rfl)) (pe_k (by rfl) T.c_STAY) (nomark _)) (pss_one (ps_ret (pe_and (pe_cmpR op_eq (pe_callB call_len_seq (by rfl) T.n_len (by decide +kernel) (pa_cons (pv 0) pa_nil)) pe_int (nomark _)) (pe_one (pe_call G_is_whole (hr.mono (by decide)) (by rfl) T.o_is_whole.g T.o_is_whole.F.kp T.o_is_whole.b .nil pass0 (pa_cons (pe_ix ix_tup (pv 0) pe_int (fun _ _ => rfl)) (pa_cons (pe_un un_neg (pe_k (by rfl) T.c_MOST_STAY)) (pa_cons (pe_k (by rfl) T.c_MOST_STAY) pa_nil)))))))) pss_nil)
      (pss_cons (ps_if (pt_cmpR op_eq (pe_ix ix_tup (pv 0) pe_int (fun _ _ => rfl)) (pe_k (by rfl) T.c_FULL) (nomark _)) (pss_one (ps_ret (pe_and (pe_cmpR op_eq (pe_callB call_len_seq (by rfl) T.n_len (by decide +kernel) (pa_cons (pv 0) pa_nil)) pe_int (nomark _)) (pe_one (pe_call G_are_runs (hr.mono (by decide)) (by rfl) T.o_are_runs.g T.o_are_runs.F.kp T.o_are_runs.b .nil pass0 (pa_cons (pe_ix ix_tup (pv 0) pe_int (fun _ _ => rfl)) pa_nil)))))) pss_nil)
      (pss_cons (ps_if (PW.pt (pw_or (pt_cmpR op_ne (pe_ix ix_tup (pv 0) pe_int (fun _ _ => rfl)) (pe_k (by rfl) T.c_RUNS) (nomark _)) (pw_or1 (pt_cmpR op_ne (pe_callB call_len_seq (by rfl) T.n_len (by decide +kernel) (pa_cons (pv 0) pa_nil)) pe_int (nomark _))))) (pss_one (ps_ret pe_bl)) pss_nil)
      (pss_one (ps_ret (pe_and (pe_call G_is_whole (hr.mono (by decide)) (by rfl) T.o_is_whole.g T.o_is_whole.F.kp T.o_is_whole.b .nil pass0 (pa_cons (pe_ix ix_tup (pv 0) pe_int (fun _ _ => rfl)) (pa_cons pe_int (pa_cons (pe_k (by rfl) T.c_MOST_WIDTH) pa_nil)))) (pe_one (pe_call G_is_whole (hr.mono (by decide)) (by rfl) T.o_is_whole.g T.o_is_whole.F.kp T.o_is_whole.b .nil pass0 (pa_cons (pe_ix ix_tup (pv 0) pe_int (fun _ _ => rfl)) (pa_cons pe_int (pa_cons (pe_k (by rfl) T.c_MOST_WIDTH) pa_nil))))))))))))), ?_⟩
    obtain ⟨r, hx, hr⟩ := ha.tup (K := K)
    refine ⟨_, rfl, _, _, _, _, _, rfl, ClsV.ty _, .base (.tup hx), kP, _, rfl, iteF ⟨_, rfl, Nat.zero_le _, fun p np => ?_⟩⟩
    have s1 : Same H (upd H p (.tup [])) := same_upd np
    have hx1 := s1 _ _ hx
    have ha1 := ha.keep (Keep.of s1)
    obtain ⟨r, hx1b, hr1⟩ := ha1.tup (K := K)
    rw [hx1] at hx1b
    cases hx1b
    obtain ⟨d, e, d1, d2, d3, d4, d5⟩ := nilT (K := K) (H := upd H p (.tup [])) (tupT hx1) (fun x hx => by
      rcases List.mem_cons.mp hx with e | e
      · rw [e]
        exact .str (mdS_ok m)
      · obtain ⟨d, z1, z2, z3⟩ := hr1 x e
        exact ⟨d, z1, z2, by omega⟩) (tupT (a := p) (xs := []) upd_same)
    refine ⟨d, e, d1, d2, d3, d4, _, rfl, ?_⟩
    rw [d5]
    have i0 : atI (V.str (mdS m) :: r) 0 = some (.str (mdS m)) := atI_nat (j := 0) rfl
    refine iteF ⟨_, rfl, a, _, _, _, rfl, rfl, tupT hx1, i0, _, _, _, _, _, rfl, ClsV.ty _, .base (.str _), kT, _, rfl, iteF ?_⟩
    refine ⟨_, rfl, a, _, _, _, rfl, rfl, tupT hx1, i0, rfl, _, rfl, ?_⟩
    cases m with
    | pass =>
      rw [show upd H p (.tup []) a = _ from ha1] at hx1
      cases hx1
      refine iteD (fun _ => ⟨_, rfl, a, _, rfl, .inr (tupT ha1), rfl, ?_⟩) fun z => absurd rfl z
      exact q _ s1
    | stay d =>
      rw [show upd H p (.tup []) a = _ from ha1] at hx1
      cases hx1
      refine iteD (fun z => absurd z n1) fun _ => ⟨_, rfl, a, _, _, _, rfl, rfl, tupT ha1, i0, rfl, _, rfl, iteD (fun _ => ?_) fun z => absurd rfl z⟩
      refine ⟨_, rfl, a, _, rfl, .inr (tupT ha1), rfl, _, rfl, iteD (fun _ => ?_) fun z => absurd rfl z⟩
      refine ⟨_, rfl, a, _, _, _, rfl, rfl, tupT ha1, atI_nat (j := 1) rfl, _, rfl, d, -3, 3, rfl, ?_⟩
      rw [decide_eq_true (show -3 ≤ d ∧ d ≤ 3 from hm)]
      exact q _ s1
    | full rs =>
      obtain ⟨b, z1, z2⟩ := ha1
      rw [z1] at hx1
      cases hx1
      refine iteD (fun z => absurd z n9) fun _ => ⟨_, rfl, a, _, _, _, rfl, rfl, tupT z1, i0, rfl, _, rfl, iteD (fun z => absurd z n10) fun _ => ?_⟩
      refine ⟨_, rfl, a, _, _, _, rfl, rfl, tupT z1, i0, rfl, _, rfl, iteD (fun _ => ?_) fun z => absurd rfl z⟩
      refine ⟨_, rfl, a, _, rfl, .inr (tupT z1), rfl, _, rfl, iteD (fun _ => ?_) fun z => absurd rfl z⟩
      exact ⟨_, rfl, a, _, _, _, rfl, rfl, tupT z1, atI_nat (j := 1) rfl, b, rs, rfl, z2, hm, fun H' s2 => q _ (s1.trans s2)⟩
    | runs n k =>
      rw [show upd H p (.tup []) a = _ from ha1] at hx1
      cases hx1
      refine iteD (fun z => absurd z n7) fun _ => ⟨_, rfl, a, _, _, _, rfl, rfl, tupT ha1, i0, rfl, _, rfl, iteD (fun z => absurd z n8) fun _ => ?_⟩
      refine ⟨_, rfl, a, _, _, _, rfl, rfl, tupT ha1, i0, rfl, _, rfl, iteD (fun z => absurd z n6) fun _ => ?_⟩
      refine ⟨_, rfl, a, _, _, _, rfl, rfl, tupT ha1, i0, rfl, _, rfl, iteN (fun z => absurd rfl z) fun _ => ?_⟩
      refine ⟨_, rfl, a, _, rfl, .inr (tupT ha1), rfl, _, rfl, iteN (fun z => absurd rfl z) fun _ => ?_⟩
      obtain ⟨h1, h2⟩ : n ≤ 40 ∧ k ≤ 40 := hm
      refine ⟨_, rfl, a, _, _, _, rfl, rfl, tupT ha1, atI_nat (j := 1) rfl, (n : Nat), 0, 40, rfl, _, rfl, iteD (fun _ => ?_) fun z => absurd (by omega) z⟩
      refine ⟨_, rfl, a, _, _, _, rfl, rfl, tupT ha1, atI_nat (j := 2) rfl, (k : Nat), 0, 40, rfl, ?_⟩
      rw [decide_eq_true (show (0 : Int) ≤ (k : Nat) ∧ ((k : Nat) : Int) ≤ 40 by omega)]
      exact q _ s1
/-! ### is_full -/
def sp_is_full : Sp := fun vs H Q _ => ∃ (a : Addr) (t : List Md), vs = [.ref a] ∧ Tl H a t ∧ Q (.bl (isF t)) H
theorem isF_cons (m : Md) (t : List Md) : isF (m :: t) = decide (V.str (mdS m) = V.str "full") := by
  cases m with
  | full rs => exact (decide_eq_true rfl).symm
  | stay d => exact (decide_eq_false n3).symm
  | pass => exact (decide_eq_false n5).symm
  | runs n k => exact (decide_eq_false n6).symm
theorem ok_is_full (T : Tx K mg A D) : FnOk P w K mg base CX0 1 (A 24) (D 24) ["telling"] sp_is_full := by
  refine T.o_is_full.F.ok sc_is_full (fun vs H Q E h => ?_) (fun cdv Ar outer s H vs Q E hr h => ?_)
  · obtain ⟨_, _, rfl, _⟩ := h
    rfl
  · obtain ⟨a, t, rfl, ⟨bs, h1, h2, h3⟩, q⟩ := h
    refine ⟨_, (pss_one (ps_ret (pe_and (pe_cmpR op_gt (pe_callB call_len_seq (by rfl) T.n_len (by decide +kernel) (pa_cons (pv 0) pa_nil)) pe_int (nomark _)) (pe_one (pe_cmpR op_eq (pe_ix ix_tup (pe_ix ix_tup (pv 0) pe_int (fun _ _ => rfl)) pe_int (fun _ _ => rfl)) (pe_k (by rfl) T.c_FULL) (nomark _)))))), ?_⟩
    refine ⟨_, rfl, a, _, rfl, .inr (tupT h1), _, _, rfl, rfl, _, rfl, iteD (fun hl => ?_) fun hl => ?_⟩
    · cases bs with
      | nil => exact absurd hl (by decide)
      | cons b bs =>
        cases t with
        | nil => cases h2
        | cons m t =>
          have hb := h3 0 b m rfl rfl
          obtain ⟨r, hx, _⟩ := hb.tup (K := K)
          refine ⟨_, rfl, a, _, _, _, rfl, rfl, tupT h1, atI_nat (j := 0) rfl, b, _, _, _, rfl, rfl, tupT hx, atI_nat (j := 0) rfl, rfl, ?_⟩
          rw [isF_cons] at q
          exact q
    · cases t with
      | nil => exact q
      | cons m t =>
        cases bs with
        | nil => cases h2
        | cons b bs =>
          refine absurd ?_ hl
          rw [List.map_cons, List.length_cons]
          omega
/-! ### need_telling -/
theorem TlOk.good {t : List Md} (h : TlOk t) : ∀ m ∈ t, MdGood m := by
  rcases h with ⟨rs, rfl, h⟩ | ⟨_, _, h⟩
  · intro m hm
    rw [List.mem_singleton.mp hm]
    exact h
  · intro m hm
    have := h m hm
    cases m with
    | full rs => exact this.elim
    | _ => exact this
theorem TlOk.len {t : List Md} (h : TlOk t) : t.length ≤ 80 := by
  rcases h with ⟨rs, rfl, h⟩ | ⟨_, h, _⟩
  · show 1 ≤ 80
    decide
  · exact h
theorem TlOk.ne {t : List Md} (h : TlOk t) : t ≠ [] := by
  rcases h with ⟨rs, rfl, h⟩ | ⟨h, _⟩
  · simp
  · exact h
/-- a telling of several modes names no full one -/
theorem TlOk.notF {t : List Md} (h : TlOk t) {i : Nat} (hi : 0 < i) (hl : i < t.length) : ∀ m ∈ t, V.str (mdS m) ≠ V.str "full" := by
  rcases h with ⟨rs, rfl, h⟩ | ⟨_, _, h⟩
  · simp at hl
    omega
  · intro m hm
    have := h m hm
    cases m with
    | full rs => exact this.elim
    | stay d => exact n3
    | pass => exact n5
    | runs n k => exact n6
def sp_need_telling : Sp := fun vs H Q _ => ∃ (a : Addr) (t : List Md), vs = [.ref a] ∧ Tl H a t ∧ TlOk t ∧ ∀ H', Same H H' → Q (.ref a) H'
theorem ok_need_telling (T : Tx K mg A D) : FnOk P w K mg base CX0 4 (A 25) (D 25) ["thing"] sp_need_telling := by
  have G_is_mode := ok_is_mode (P := P) (w := w) (base := base) T
  refine T.o_need_telling.F.ok sc_need_telling (fun vs H Q E h => ?_) (fun cdv Ar outer s H vs Q E hr h => ?_)
  · obtain ⟨_, _, rfl, _⟩ := h
    rfl
  · obtain ⟨a, t, rfl, ht, hok, q⟩ := h
    refine ⟨_, (pss_cons (ps_if (PW.pt (pw_or (pt_not (pt_val (pe_callB call_isi (by rfl) T.n_isinstance (by decide +kernel) (pa_cons (pv 0) (pa_cons (pe_bltn (v := .ty "tuple") (by rfl) T.n_tuple (by decide +kernel) rfl) pa_nil))))) (pw_or1 (pt_cmpR op_gt (pe_callB call_len_seq (by rfl) T.n_len (by decide +kernel) (pa_cons (pv 0) pa_nil)) (pe_k (by rfl) T.c_MOST_MODES) (nomark _))))) (pss_one ps_never) pss_nil)
      (pss_cons (ps_for PassesOwn.never rfl (pi_enumT (by rfl) T.n_enumerate (pa_cons (pv 0) pa_nil)) (pg_tup rfl (pgs_cons (pg_name (i := 1) sc_need_telling.nd rfl (Or.inl rfl)) (pgs_cons (pg_name (i := 2) sc_need_telling.nd rfl (Or.inl rfl)) pgs_nil))) (pss_one (ps_if (PW.pt (pw_or (pt_not (pt_val (pe_call G_is_mode (hr.mono (by decide)) (by rfl) T.o_is_mode.g T.o_is_mode.F.kp T.o_is_mode.b .nil pass0 (pa_cons (pv 2) pa_nil)))) (pw_or1 (PW.pt (pw_and (pt_cmpR op_gt (pv 1) pe_int (nomark _)) (pw_and1 (pt_cmpR op_in_seq (pe_k (by rfl) T.c_FULL) (pe_tup (pa_cons (pe_ix ix_tup (pv 2) pe_int (fun _ _ => rfl)) (pa_cons (pe_ix ix_tup (pe_ix ix_tup (pv 0) pe_int (fun _ _ => rfl)) pe_int (fun _ _ => rfl)) pa_nil))) rfl))))))) (pss_one ps_never) pss_nil)))
      (pss_one (ps_ret (pv 0))))), ?_⟩
    have ht0 := ht
    obtain ⟨bs, h1, h2, h3⟩ := ht
    have h80 := hok.len
    have hlb : (bs.map V.ref).length = t.length := by rw [List.length_map, h2]
    refine ⟨_, rfl, _, _, _, _, _, rfl, ClsV.ty _, .base (.tup h1), kP, _, rfl, iteF ⟨_, rfl, a, _, rfl, .inr (tupT h1), _, _, rfl, rfl, _, rfl, iteD (fun z => ?_) fun _ => ?_⟩⟩
    · rw [hlb] at z
      omega
    · refine ⟨_, rfl, a, _, rfl, tupT h1, for_it walk_enumT (fun i σ H' => Same H H' ∧ ∃ x y, σ = [some (.ref a), x, y]) ⟨Same.refl _, none, none, rfl⟩ (fun _ _ _ _ hP => tupT (hP.1 _ _ h1)) (fun i x σ H1 H2 hi hP hY => ?_) fun σ H1 hP => ?_⟩
      · obtain ⟨sm, x0, y0, rfl⟩ := hP
        obtain ⟨p, x1, x2, rfl, np, rfl, e1, e2⟩ := hY
        cases e1
        have sm2 := sm.trans (same_upd (o := .tup [.int (i : Nat), x2]) np)
        replace e2 : (bs.map V.ref)[i]? = some x2 := e2
        rw [List.getElem?_map] at e2
        obtain ⟨b, hb, rfl⟩ := Option.map_eq_some_iff.mp e2
        rw [hlb] at hi
        have hti : t[i]? = some t[i] := List.getElem?_eq_getElem hi
        have hm := (h3 i b _ hb hti).keep (Keep.of sm2)
        refine ⟨p, _, rfl, .inl (.inl upd_same), rfl, _, _, rfl, _, [], rfl, rfl, ?_⟩
        refine ⟨_, rfl, b, _, rfl, hm, hok.good _ (List.getElem_mem hi), fun H3 s3 => ⟨_, rfl, iteF ?_⟩⟩
        refine ⟨_, rfl, _, _, rfl, rfl, _, rfl, iteD (fun hpos => ?_) fun _ => ?_⟩
        · have hpos2 : 0 < i := by omega
          have hm3 := hm.keep (Keep.of s3)
          have h13 := s3 _ _ (sm2 _ _ h1)
          have ht3 := (ht0.keep (Keep.of (sm2.trans s3)))
          obtain ⟨bs', g1, g2, g3⟩ := ht3
          obtain ⟨r, hr3, _⟩ := hm3.tup (K := K)
          cases bs' with
          | nil =>
            rw [List.length_nil] at g2
            omega
          | cons b0 bs' =>
            have h0 : t[0]? = some t[0] := List.getElem?_eq_getElem (by omega)
            obtain ⟨r0, hr0, _⟩ := (g3 0 b0 _ rfl h0).tup (K := K)
            refine ⟨_, rfl, b, _, _, _, rfl, rfl, tupT hr3, atI_nat (j := 0) rfl, ?_⟩
            refine ⟨_, rfl, a, _, _, _, rfl, rfl, tupT g1, atI_nat (j := 0) rfl, b0, _, _, _, rfl, rfl, tupT hr0, atI_nat (j := 0) rfl, ?_⟩
            refine ⟨(by show 2 ≤ sizeLine; decide), fun r np => ⟨r, _, rfl, .inr (tupT upd_same), rfl, rfl, ?_⟩⟩
            have z1 := hok.notF hpos2 hi _ (List.getElem_mem hi)
            have z2 := hok.notF hpos2 hi _ (List.getElem_mem (show 0 < t.length by omega))
            have hin : inV (.str "full") [.str (mdS t[i]), .str (mdS t[0])] = false := by
              unfold inV
              rw [List.any_eq_false]
              intro x hx
              simp only [List.mem_cons, List.not_mem_nil, or_false] at hx
              have ez : ∀ x y : Str, V.str x ≠ V.str y → ¬ eqV (.str x) (.str y) = true := fun x y h => by
                unfold eqV
                simpa using h
              rcases hx with e | e
              · rw [e]
                exact ez _ _ z1
              · rw [e]
                exact ez _ _ z2
            rw [hin]
            exact ⟨_, rfl, iteF ⟨(sm2.trans s3).trans (same_upd np), _, _, rfl⟩⟩
        · exact iteF ⟨sm2.trans s3, _, _, rfl⟩
      · obtain ⟨sm, x, y, rfl⟩ := hP
        exact ⟨_, rfl, q _ sm⟩
/-! ### change_from, change_back -/
theorem pl62 {n : Nat} (h : n ≤ 100000) : -(2 ^ 62) ≤ ((n : Nat) : Int) ∧ ((n : Nat) : Int) < 2 ^ 62 := by
  constructor <;> omega
def sp_change_from : Sp := fun vs H Q _ => ∃ (l : Ln) (p : Nat) (c b : Bool), vs = [.str (S l), .int (p : Nat), .str (S [c]), .bl b] ∧ l.length ≤ 1000 ∧ p ≤ l.length ∧ Q (.int (chA l p c b : Nat)) H
theorem ok_change_from (T : Tx K mg A D) : FnOk P w K mg base CX0 1 (A 26) (D 26) ["reference", "place", "colour", "is_told"] sp_change_from := by
  refine T.o_change_from.F.ok sc_change_from (fun vs H Q E h => ?_) (fun cdv Ar outer s H vs Q E hr h => ?_)
  · obtain ⟨_, _, _, _, rfl, _⟩ := h
    rfl
  · obtain ⟨l, p, c, b, rfl, hl, hp, q⟩ := h
    refine ⟨_, (pss_cons (ps_for PassesOwn.never rfl (pi_range2 (by rfl) T.n_range (pa_cons (pe_mid (pe_ifExp (pt_val (pv 3)) (pe_op op_add (pv 1) pe_int) (pv 1))) (pa_cons (pe_callB call_len_str (by rfl) T.n_len (by decide +kernel) (pa_cons (pv 0) pa_nil)) pa_nil))) (pg_name (i := 4) sc_change_from.nd rfl (Or.inl rfl)) (pss_mid (ps_set (i := 5) sc_change_from.nd rfl (Or.inl rfl) (pe_ifExp (pt_cmpR op_gt (pv 4) pe_int (nomark _)) (pe_ix ix_str (pv 0) (pe_op op_sub (pv 4) pe_int) (fun _ _ => rfl)) (pe_k (by rfl) T.c_WHITE)))
      (pss_one (ps_if (PW.pt (pw_and (pt_cmpR op_eq (pv 5) (pv 2) (nomark _)) (pw_and1 (pt_cmpR op_ne (pe_ix ix_str (pv 0) (pv 4) (fun _ _ => rfl)) (pv 2) (nomark _))))) (pss_one (ps_ret (pv 4))) pss_nil))))
      (pss_one (ps_ret (pe_callB call_len_str (by rfl) T.n_len (by decide +kernel) (pa_cons (pv 0) pa_nil))))), ?_⟩
    have hsz : (S l).length ≤ sizeLine := by rw [S_length]; exact nat_small hl
    obtain ⟨k0, hk0, hk1⟩ : ∃ k0, k0 = p + (if b then 1 else 0) ∧ k0 ≤ l.length + 1 := ⟨_, rfl, by split <;> omega⟩
    refine ⟨fun x H' => H = H' ∧ x = .int (k0 : Nat), ?_, fun x H' hM => ?_⟩
    · refine ⟨_, rfl, b, rfl, ?_⟩
      cases b with
      | true => exact iteT ⟨_, rfl, _, _, rfl, rfl, rfl, by rw [hk0]; rfl⟩
      | false => exact iteF ⟨_, rfl, rfl, by rw [hk0]; rfl⟩
    · obtain ⟨rfl, rfl⟩ := hM
      refine ⟨_, rfl, _, rfl, hsz, _, _, rfl, (by rw [S_length]; omega), ?_⟩
      rw [S_length]
      have q2 : Q (.int (chg l c k0 : Nat)) H := by
        rw [hk0]
        exact q
      refine for_range (lo := (k0 : Nat)) (n := ((l.length : Nat) - (k0 : Nat) : Int).toNat) (fun i σ H' => H = H' ∧ (∃ x y, σ = [some (.str (S l)), some (.int (p : Nat)), some (.str (S [c])), some (.bl b), x, y]) ∧ chg l c k0 = chg l c (k0 + i)) ⟨rfl, ⟨none, none, rfl⟩, rfl⟩ (fun i σ H' hi hP => ?_) fun σ H' hP => ?_
      · obtain ⟨rfl, ⟨x, y, rfl⟩, hc⟩ := hP
        have hk : k0 + i < l.length := by omega
        refine ⟨fun σ' H' => H = H' ∧ σ' = [some (.str (S l)), some (.int (p : Nat)), some (.str (S [c])), some (.bl b), some (.int (k0 + i : Nat)), some (.str (S [ahd l (k0 + i)]))], ?_, fun σ' H' hM => ?_⟩
        · refine ⟨_, rfl, _, _, rfl, rfl, _, rfl, iteD (fun hpos => ?_) fun hpos => ?_⟩
          · have hpos2 : 0 < k0 + i := by omega
            refine ⟨_, rfl, _, rfl, _, _, rfl, rfl, _, _, cp (ahd l (k0 + i)), rfl, rfl, hsz, ?_, rfl, ?_⟩
            · have e1 : ((k0 : Nat) : Int) + (i : Nat) - 1 = ((k0 + i - 1 : Nat) : Int) := by omega
              rw [e1]
              unfold ahd
              rw [if_neg (by omega)]
              exact S_atI (getD_at (by omega))
            · rfl
          · have e0 : k0 + i = 0 := by omega
            refine ⟨rfl, ?_⟩
            have e1 : ahd l (k0 + i) = false := by
              rw [e0]
              rfl
            rw [e1]
            rfl
        · obtain ⟨rfl, rfl⟩ := hM
          have hst := chg_step (c := c) hk
          refine ⟨_, rfl, _, rfl, rfl, _, rfl, ?_⟩
          rw [S_dot_dec]
          refine iteD (fun h1 => ⟨_, rfl, _, rfl, _, _, _, rfl, rfl, hsz, S_atI (getD_at hk), _, rfl, rfl, _, rfl, ?_⟩) fun h1 => iteF ?_
          · rw [S_one, S_dot_dec]
            refine iteN (fun h2 => ⟨_, rfl, ?_⟩) fun h2 => ?_
            · rw [hc, hst, if_pos ⟨h1, h2⟩] at q2
              exact q2
            · refine ⟨rfl, ⟨_, _, rfl⟩, ?_⟩
              rw [hc, hst, if_neg fun z => z.2 h2]
              rfl
          · refine ⟨rfl, ⟨_, _, rfl⟩, ?_⟩
            rw [hc, hst, if_neg fun z => h1 z.1]
            rfl
      · obtain ⟨rfl, ⟨x, y, rfl⟩, hc⟩ := hP
        rw [hc, chg_end (by omega)] at q2
        refine ⟨_, rfl, _, rfl, hsz, ?_⟩
        rw [S_length]
        exact q2
def sp_change_back : Sp := fun vs H Q _ => ∃ (l : Ln) (p : Nat) (c : Bool), vs = [.str (S l), .int (p : Nat), .str (S [c])] ∧ l.length ≤ 1000 ∧ p ≤ l.length ∧ Q (.int (bck l c (p + 1) : Nat)) H
theorem ok_change_back (T : Tx K mg A D) : FnOk P w K mg base CX0 1 (A 27) (D 27) ["reference", "place", "colour"] sp_change_back := by
  refine T.o_change_back.F.ok sc_change_back (fun vs H Q E h => ?_) (fun cdv Ar outer s H vs Q E hr h => ?_)
  · obtain ⟨_, _, _, rfl, _⟩ := h
    rfl
  · obtain ⟨l, p, c, rfl, hl, hp, q⟩ := h
    refine ⟨_, (pss_cons (ps_for PassesOwn.never rfl (pi_range2 (by rfl) T.n_range (pa_cons (pe_op op_add (pv 1) pe_int) (pa_cons (pe_callB call_len_str (by rfl) T.n_len (by decide +kernel) (pa_cons (pv 0) pa_nil)) pa_nil))) (pg_name (i := 3) sc_change_back.nd rfl (Or.inl rfl)) (pss_one (ps_if (pt_cmpR op_eq (pe_ix ix_str (pv 0) (pv 3) (fun _ _ => rfl)) (pv 2) (nomark _)) (pss_one (ps_ret (pv 3))) pss_nil)))
      (pss_one (ps_ret (pe_callB call_len_str (by rfl) T.n_len (by decide +kernel) (pa_cons (pv 0) pa_nil))))), ?_⟩
    have hsz : (S l).length ≤ sizeLine := by rw [S_length]; exact nat_small hl
    refine ⟨_, rfl, _, _, rfl, rfl, _, rfl, _, rfl, hsz, _, _, rfl, (by rw [S_length]; omega), ?_⟩
    rw [S_length]
    refine for_range (lo := (p + 1 : Nat)) (n := ((l.length : Nat) - (p + 1 : Nat) : Int).toNat) (fun i σ H' => H = H' ∧ (∃ x, σ = [some (.str (S l)), some (.int (p : Nat)), some (.str (S [c])), x]) ∧ bck l c (p + 1) = bck l c (p + 1 + i)) ⟨rfl, ⟨none, rfl⟩, rfl⟩ (fun i σ H' hi hP => ?_) fun σ H' hP => ?_
    · obtain ⟨rfl, ⟨x, rfl⟩, hc⟩ := hP
      have hk : p + 1 + i < l.length := by omega
      have hst := bck_step (c := c) hk
      refine ⟨_, rfl, _, rfl, _, _, _, rfl, rfl, hsz, S_atI (getD_at hk), _, rfl, rfl, _, rfl, ?_⟩
      rw [S_one, S_dot_dec]
      refine iteD (fun h2 => ⟨_, rfl, ?_⟩) fun h2 => ⟨rfl, ⟨_, rfl⟩, ?_⟩
      · rw [hc, hst, if_pos h2] at q
        exact q
      · rw [hc, hst, if_neg h2]
        rfl
    · obtain ⟨rfl, ⟨x, rfl⟩, hc⟩ := hP
      rw [hc, bck_end (by omega)] at q
      refine ⟨_, rfl, _, rfl, hsz, ?_⟩
      rw [S_length]
      exact q
end
end K8
/-! K78p4: after_mode, dots_of, read_beside -/
namespace K8
open PySem PySem.Spec PyProof.Rows L2
theorem iteB {b : Bool} {A B : Prop} (h1 : b = true → A) (h2 : b = false → B) : if b = true then A else B := by
  cases b with
  | true => exact iteT (h1 rfl)
  | false => exact iteF (h2 rfl)
section
variable {P : Program} {w : World} {K : PySem.W.Frag} {mg : Str → Option Value} {base : Heap} {A : Nat → Addr} {D : Nat → FuncData}
/-! ### after_mode -/
def vP (e : Nat) (c : Bool) : List V := [.int (e : Nat), .str (S [c])]
def sp_after_mode : Sp := fun vs H Q _ => ∃ (l : Ln) (a : Addr) (m : Md) (p : Nat) (c b : Bool), vs = [.str (S l), .ref a, .int (p : Nat), .str (S [c]), .bl b] ∧ MdAt H a m ∧ MdOk m ∧ l.length ≤ 1000 ∧ p ≤ l.length ∧
  (step l m p c b = none → Q .non H) ∧ ∀ e c2 q, step l m p c b = some (e, c2) → H q = none → Q (.ref q) (upd H q (.tup (vP e c2)))
theorem ok_after_mode (T : Tx K mg A D) : FnOk P w K mg base CX0 2 (A 28) (D 28) ["reference", "mode", "place", "colour", "is_told"] sp_after_mode := by
  have G_change_from := ok_change_from (P := P) (w := w) (base := base) T
  have G_change_back := ok_change_back (P := P) (w := w) (base := base) T
  have G_other_colour := ok_other_colour (P := P) (w := w) (base := base) T
  refine T.o_after_mode.F.ok sc_after_mode (fun vs H Q E h => ?_) (fun cdv Ar outer s H vs Q E hr h => ?_)
  · obtain ⟨_, _, _, _, _, _, rfl, _⟩ := h
    rfl
  · obtain ⟨l, a, m, p, c, b, rfl, ha, hm, hl, hp, q0, q1⟩ := h
    refine ⟨_, (pss_cons (ps_set (i := 5) sc_after_mode.nd rfl (Or.inl rfl) (pe_callB call_len_str (by rfl) T.n_len (by decide +kernel) (pa_cons (pv 0) pa_nil)))
      (pss_cons (ps_if (pt_cmpR op_eq (pe_ix ix_tup (pv 1) pe_int (fun _ _ => rfl)) (pe_k (by rfl) T.c_RUNS) (nomark _)) (pss_cons (ps_set (i := 6) sc_after_mode.nd rfl (Or.inl rfl) (pe_op op_add (pv 2) (pe_ix ix_tup (pv 1) pe_int (fun _ _ => rfl))))
      (pss_cons (ps_set (i := 7) sc_after_mode.nd rfl (Or.inl rfl) (pe_op op_add (pv 6) (pe_ix ix_tup (pv 1) pe_int (fun _ _ => rfl))))
      (pss_cons (ps_if (PW.pt (pw_or (pt_cmpR op_gt (pv 7) (pv 5) (nomark _)) (pw_or (PW.pt (pw_and (pt_cmpR op_eq (pe_ix ix_tup (pv 1) pe_int (fun _ _ => rfl)) pe_int (nomark _)) (pw_and1 (pt_val (pv 4))))) (pw_or1 (PW.pt (pw_and (pt_cmpR op_eq (pe_ix ix_tup (pv 1) pe_int (fun _ _ => rfl)) pe_int (nomark _)) (pw_and1 (pt_cmpR op_lt (pv 6) (pv 5) (nomark _))))))))) (pss_one (ps_ret pe_non)) pss_nil)
      (pss_one (ps_ret (pe_tup (pa_cons (pv 7) (pa_cons (pv 3) pa_nil)))))))) pss_nil)
      (pss_cons (ps_set (i := 8) sc_after_mode.nd rfl (Or.inl rfl) (pe_call G_change_from (hr.mono (by decide)) (by rfl) T.o_change_from.g T.o_change_from.F.kp T.o_change_from.b .nil pass0 (pa_cons (pv 0) (pa_cons (pv 2) (pa_cons (pv 3) (pa_cons (pv 4) pa_nil))))))
      (pss_cons (ps_if (pt_cmpR op_eq (pe_ix ix_tup (pv 1) pe_int (fun _ _ => rfl)) (pe_k (by rfl) T.c_PASS) (nomark _)) (pss_one (ps_ret (pe_ifExp (pt_cmpR op_lt (pv 8) (pv 5) (nomark _)) (pe_tup (pa_cons (pe_call G_change_back (hr.mono (by decide)) (by rfl) T.o_change_back.g T.o_change_back.F.kp T.o_change_back.b .nil pass0 (pa_cons (pv 0) (pa_cons (pv 8) (pa_cons (pv 3) pa_nil)))) (pa_cons (pv 3) pa_nil))) pe_non))) pss_nil)
      (pss_cons (ps_set (i := 7) sc_after_mode.nd rfl (Or.inl rfl) (pe_op op_add (pv 8) (pe_ix ix_tup (pv 1) pe_int (fun _ _ => rfl))))
      (pss_cons (ps_if (PW.pt (pw_or (pt_cmpR op_gt (pv 7) (pv 5) (nomark _)) (pw_or (pt_cmpR op_lt (pv 7) pe_int (nomark _)) (pw_or1 (PW.pt (pw_and (pt_cmpR op_le (pv 7) (pv 2) (nomark _)) (pw_and1 (pt_val (pv 4))))))))) (pss_one (ps_ret pe_non)) pss_nil)
      (pss_one (ps_ret (pe_tup (pa_cons (pv 7) (pa_cons (pe_call G_other_colour (hr.mono (by decide)) (by rfl) T.o_other_colour.g T.o_other_colour.F.kp T.o_other_colour.b .nil pass0 (pa_cons (pv 3) pa_nil)) pa_nil))))))))))), ?_⟩
    have hsz : (S l).length ≤ sizeLine := by rw [S_length]; exact nat_small hl
    refine ⟨_, rfl, _, rfl, hsz, ?_⟩
    rw [S_length]
    cases m with
    | full rs => exact hm.elim
    | runs n k =>
      have ha2 : H a = some (.tup [.str "runs", .int n, .int k]) := ha
      refine ⟨_, rfl, a, _, _, _, rfl, rfl, tupT ha2, atI_nat (j := 0) rfl, rfl, _, rfl, iteD (fun _ => ?_) fun z => absurd rfl z⟩
      refine ⟨_, rfl, _, rfl, a, _, _, _, rfl, rfl, tupT ha2, atI_nat (j := 1) rfl, _, _, rfl, rfl, ?_⟩
      refine ⟨_, rfl, _, rfl, a, _, _, _, rfl, rfl, tupT ha2, atI_nat (j := 2) rfl, _, _, rfl, rfl, ?_⟩
      have hno : (p + n + k > l.length ∨ (n = 0 ∧ b = true) ∨ (k = 0 ∧ p + n < l.length)) → Q .non H := fun z => q0 (by simp only [step]; rw [if_pos z])
      have hyes : ¬ (p + n + k > l.length ∨ (n = 0 ∧ b = true) ∨ (k = 0 ∧ p + n < l.length)) → ∀ q, H q = none → Q (.ref q) (upd H q (.tup (vP (p + n + k) c))) := fun z q nq => q1 _ _ q (by simp only [step]; rw [if_neg z]) nq
      have fin : ¬ (p + n + k > l.length ∨ (n = 0 ∧ b = true) ∨ (k = 0 ∧ p + n < l.length)) → ∀ q, H q = none → Q (.ref q) (upd H q (.tup [.int ((p : Nat) + (n : Nat) + (k : Nat)), .str (S [c])])) := hyes
      refine ⟨_, rfl, _, rfl, _, _, rfl, rfl, _, rfl, iteD (fun h1 => iteT (hno (.inl (by omega)))) fun h1 => ?_⟩
      have h1' : ¬ (p + n + k > l.length) := by omega
      refine ⟨_, rfl, a, _, _, _, rfl, rfl, tupT ha2, atI_nat (j := 1) rfl, rfl, _, rfl, iteD (fun h2 => ?_) fun h2 => ?_⟩
      · have h2' : n = 0 := by
          have := V.int.inj h2
          omega
        refine ⟨_, rfl, b, rfl, iteB (fun hb => iteT (hno (.inr (.inl ⟨h2', hb⟩)))) fun hb => ?_⟩
        refine ⟨_, rfl, a, _, _, _, rfl, rfl, tupT ha2, atI_nat (j := 2) rfl, rfl, _, rfl, iteD (fun h3 => ?_) fun h3 => iteF ?_⟩
        · refine ⟨_, rfl, _, rfl, _, _, rfl, rfl, _, rfl, iteD (fun h4 => hno (.inr (.inr ⟨?_, by omega⟩))) fun h4 => ⟨_, rfl, _, rfl, (by show 2 ≤ sizeLine; decide), fun q nq => fin ?_ q nq⟩⟩
          · have := V.int.inj h3
            omega
          · rintro (z | z | z)
            · exact h1' z
            · rw [hb] at z
              exact nomatch z.2
            · omega
        · refine ⟨_, rfl, _, rfl, (by show 2 ≤ sizeLine; decide), fun q nq => fin ?_ q nq⟩
          rintro (z | z | z)
          · exact h1' z
          · rw [hb] at z
            exact nomatch z.2
          · exact h3 (congrArg V.int (by omega))
      · have h2' : n ≠ 0 := fun z => h2 (congrArg V.int (by omega))
        refine ⟨_, rfl, a, _, _, _, rfl, rfl, tupT ha2, atI_nat (j := 2) rfl, rfl, _, rfl, iteD (fun h3 => ?_) fun h3 => iteF ?_⟩
        · refine ⟨_, rfl, _, rfl, _, _, rfl, rfl, _, rfl, iteD (fun h4 => hno (.inr (.inr ⟨?_, by omega⟩))) fun h4 => ⟨_, rfl, _, rfl, (by show 2 ≤ sizeLine; decide), fun q nq => fin ?_ q nq⟩⟩
          · have := V.int.inj h3
            omega
          · rintro (z | z | z)
            · exact h1' z
            · exact h2' z.1
            · omega
        · refine ⟨_, rfl, _, rfl, (by show 2 ≤ sizeLine; decide), fun q nq => fin ?_ q nq⟩
          rintro (z | z | z)
          · exact h1' z
          · exact h2' z.1
          · exact h3 (congrArg V.int (by omega))
    | pass =>
      have ha2 : H a = some (.tup [.str "pass"]) := ha
      refine ⟨_, rfl, a, _, _, _, rfl, rfl, tupT ha2, atI_nat (j := 0) rfl, rfl, _, rfl, iteD (fun z => absurd z n4) fun _ => ?_⟩
      refine ⟨_, rfl, _, rfl, _, rfl, _, rfl, l, p, c, b, rfl, hl, hp, ?_⟩
      refine ⟨_, rfl, a, _, _, _, rfl, rfl, tupT ha2, atI_nat (j := 0) rfl, rfl, _, rfl, iteD (fun _ => ?_) fun z => absurd rfl z⟩
      refine ⟨_, rfl, _, rfl, _, _, rfl, rfl, _, rfl, iteD (fun h1 => ?_) fun h1 => ?_⟩
      · have h1' : chA l p c b < l.length := by omega
        refine ⟨_, rfl, _, rfl, _, rfl, l, chA l p c b, c, rfl, hl, by omega, _, rfl, (by show 2 ≤ sizeLine; decide), fun q nq => ?_⟩
        exact q1 _ _ q (by simp only [step]; rw [if_pos h1']) nq
      · exact q0 (by simp only [step]; rw [if_neg (by omega)])
    | stay d =>
      have ha2 : H a = some (.tup [.str "stay", .int d]) := ha
      refine ⟨_, rfl, a, _, _, _, rfl, rfl, tupT ha2, atI_nat (j := 0) rfl, rfl, _, rfl, iteD (fun z => absurd z n2) fun _ => ?_⟩
      refine ⟨_, rfl, _, rfl, _, rfl, _, rfl, l, p, c, b, rfl, hl, hp, ?_⟩
      refine ⟨_, rfl, a, _, _, _, rfl, rfl, tupT ha2, atI_nat (j := 0) rfl, rfl, _, rfl, iteD (fun z => absurd z n1) fun _ => ?_⟩
      refine ⟨_, rfl, _, rfl, a, _, _, _, rfl, rfl, tupT ha2, atI_nat (j := 1) rfl, _, _, rfl, rfl, ?_⟩
      have hno : ((chA l p c b : Int) + d > l.length ∨ (chA l p c b : Int) + d < 0 ∨ ((chA l p c b : Int) + d ≤ p ∧ b = true)) → Q .non H := fun z => q0 (by simp only [step]; rw [if_pos z])
      have fin : ¬ ((chA l p c b : Int) + d > l.length ∨ (chA l p c b : Int) + d < 0 ∨ ((chA l p c b : Int) + d ≤ p ∧ b = true)) → ∀ q, H q = none → Q (.ref q) (upd H q (.tup [.int ((chA l p c b : Nat) + d), .str (S [!c])])) := fun z q nq => by
        have h := q1 _ _ q (by simp only [step]; rw [if_neg z]) nq
        unfold vP at h
        rw [Int.toNat_of_nonneg (by omega)] at h
        exact h
      refine ⟨_, rfl, _, rfl, _, _, rfl, rfl, _, rfl, iteD (fun h1 => iteT (hno (.inl h1))) fun h1 => ?_⟩
      refine ⟨_, rfl, _, _, rfl, rfl, _, rfl, iteD (fun h2 => iteT (hno (.inr (.inl h2)))) fun h2 => ?_⟩
      refine ⟨_, rfl, _, rfl, _, _, rfl, rfl, _, rfl, iteD (fun h3 => ?_) fun h3 => iteF ?_⟩
      · refine ⟨_, rfl, b, rfl, iteB (fun hb => hno (.inr (.inr ⟨h3, hb⟩))) fun hb => ⟨_, rfl, _, rfl, c, rfl, (by show 2 ≤ sizeLine; decide), fun q nq => fin ?_ q nq⟩⟩
        rintro (z | z | z)
        · exact h1 z
        · exact h2 z
        · rw [hb] at z
          exact nomatch z.2
      · refine ⟨_, rfl, _, rfl, c, rfl, (by show 2 ≤ sizeLine; decide), fun q nq => fin ?_ q nq⟩
        rintro (z | z | z)
        · exact h1 z
        · exact h2 z
        · exact h3 z.1
/-! ### dots_of -/
def sp_dots_of : Sp := fun vs H Q _ => ∃ (a : Addr) (m : Md) (p e : Nat) (c : Bool), vs = [.ref a, .int (p : Nat), .int (e : Nat), .str (S [c])] ∧ MdAt H a m ∧ MdOk m ∧ p ≤ e ∧ e ≤ 1000 ∧ Q (.str (S (dots m p e c))) H
theorem ok_dots_of (T : Tx K mg A D) : FnOk P w K mg base CX0 2 (A 29) (D 29) ["mode", "place", "end", "colour"] sp_dots_of := by
  have G_other_colour := ok_other_colour (P := P) (w := w) (base := base) T
  refine T.o_dots_of.F.ok sc_dots_of (fun vs H Q E h => ?_) (fun cdv Ar outer s H vs Q E hr h => ?_)
  · obtain ⟨_, _, _, _, _, rfl, _⟩ := h
    rfl
  · obtain ⟨a, m, p, e, c, rfl, ha, hm, hpe, he, q⟩ := h
    refine ⟨_, (pss_cons (ps_if (pt_cmpR op_eq (pe_ix ix_tup (pv 0) pe_int (fun _ _ => rfl)) (pe_k (by rfl) T.c_RUNS) (nomark _)) (pss_one (ps_ret (pe_op op_add_str (pe_op op_mulS (pv 3) (pe_ix ix_tup (pv 0) pe_int (fun _ _ => rfl))) (pe_op op_mulS (pe_call G_other_colour (hr.mono (by decide)) (by rfl) T.o_other_colour.g T.o_other_colour.F.kp T.o_other_colour.b .nil pass0 (pa_cons (pv 3) pa_nil)) (pe_ix ix_tup (pv 0) pe_int (fun _ _ => rfl)))))) pss_nil)
      (pss_one (ps_ret (pe_op op_mulS (pv 3) (pe_op op_sub (pv 2) (pv 1)))))), ?_⟩
    have gap : ∀ c2 : Bool, Q (.str (S (List.replicate (e - p) c2))) H → Q (.str (Txt.mul (S [c2]) (((e : Nat) : Int) - (p : Nat)))) H := fun c2 h => by
      rw [show ((e : Nat) : Int) - (p : Nat) = ((e - p : Nat) : Int) by omega, mul_dot]
      exact h
    have one : (S [c]).length ≤ 1000 := by
      rw [S_length]
      show 1 ≤ 1000
      decide
    cases m with
    | full rs => exact hm.elim
    | runs n k =>
      obtain ⟨hn, hk⟩ : n ≤ 40 ∧ k ≤ 40 := hm
      have ha2 : H a = some (.tup [.str "runs", .int n, .int k]) := ha
      refine ⟨_, rfl, a, _, _, _, rfl, rfl, tupT ha2, atI_nat (j := 0) rfl, rfl, _, rfl, iteD (fun _ => ?_) fun z => absurd rfl z⟩
      refine ⟨_, rfl, _, rfl, a, _, _, _, rfl, rfl, tupT ha2, atI_nat (j := 1) rfl, S [c], (n : Nat), rfl, rfl, ⟨by omega, by omega⟩, one, ?_⟩
      refine ⟨_, rfl, c, rfl, _, rfl, a, _, _, _, rfl, rfl, tupT ha2, atI_nat (j := 2) rfl, S [!c], (k : Nat), rfl, rfl, ⟨by omega, by omega⟩, (by rw [S_length]; show 1 ≤ 1000; decide), ?_⟩
      rw [mul_dot, mul_dot]
      refine ⟨_, _, rfl, rfl, by rw [S_length, S_length, List.length_replicate, List.length_replicate]; exact nat_small (by omega), ?_⟩
      rw [S_append]
      exact q
    | pass =>
      have ha2 : H a = some (.tup [.str "pass"]) := ha
      refine ⟨_, rfl, a, _, _, _, rfl, rfl, tupT ha2, atI_nat (j := 0) rfl, rfl, _, rfl, iteD (fun z => absurd z n4) fun _ => ?_⟩
      exact ⟨_, rfl, _, rfl, _, rfl, _, _, rfl, rfl, S [c], _, rfl, rfl, ⟨by omega, by omega⟩, one, gap c q⟩
    | stay d =>
      have ha2 : H a = some (.tup [.str "stay", .int d]) := ha
      refine ⟨_, rfl, a, _, _, _, rfl, rfl, tupT ha2, atI_nat (j := 0) rfl, rfl, _, rfl, iteD (fun z => absurd z n2) fun _ => ?_⟩
      exact ⟨_, rfl, _, rfl, _, rfl, _, _, rfl, rfl, S [c], _, rfl, rfl, ⟨by omega, by omega⟩, one, gap c q⟩
/-! ### read_beside -/
theorem read_notF {l : Ln} {t : List Md} (h : isF t = false) : read l t = readM l t 0 false false [] := by
  cases t with
  | nil => rfl
  | cons m t =>
    cases m with
    | full rs => cases h
    | _ => rfl
theorem TlOk.cases {t : List Md} (h : TlOk t) : (∃ rs, t = [.full rs] ∧ RunsOk rs) ∨ (isF t = false ∧ t.length ≤ 80 ∧ ∀ m ∈ t, MdOk m) := by
  rcases h with h | ⟨h1, h2, h3⟩
  · exact .inl h
  · refine .inr ⟨?_, h2, h3⟩
    cases t with
    | nil => rfl
    | cons m t =>
      cases m with
      | full rs => exact (h3 _ List.mem_cons_self).elim
      | _ => rfl
def sp_read_beside : Sp := fun vs H Q _ => ∃ (l : Ln) (a : Addr) (t : List Md), vs = [.str (S l), .ref a] ∧ Tl H a t ∧ TlOk t ∧ l.length ≤ 40 ∧ ∀ H', Same H H' → Q (oS (read l t)) H'
theorem ok_read_beside (T : Tx K mg A D) : FnOk P w K mg base CX0 3 (A 30) (D 30) ["reference", "telling"] sp_read_beside := by
  have G_is_full := ok_is_full (P := P) (w := w) (base := base) T
  have G_line_in := ok_line_in (P := P) (w := w) (base := base) T
  have G_after_mode := ok_after_mode (P := P) (w := w) (base := base) T
  have G_dots_of := ok_dots_of (P := P) (w := w) (base := base) T
  refine T.o_read_beside.F.ok sc_read_beside (fun vs H Q E h => ?_) (fun cdv Ar outer s H vs Q E hr h => ?_)
  · obtain ⟨_, _, _, rfl, _⟩ := h
    rfl
  · obtain ⟨l, a, t, rfl, ht, hok, hl, q⟩ := h
    refine ⟨_, (pss_cons (ps_if (pt_val (pe_call G_is_full (hr.mono (by decide)) (by rfl) T.o_is_full.g T.o_is_full.F.kp T.o_is_full.b .nil pass0 (pa_cons (pv 1) pa_nil))) (pss_cons (ps_set (i := 2) sc_read_beside.nd rfl (Or.inl rfl) (pe_call G_line_in (hr.mono (by decide)) (by rfl) T.o_line_in.g T.o_line_in.F.kp T.o_line_in.b .nil pass0 (pa_cons (pe_ix ix_tup (pe_ix ix_tup (pv 1) pe_int (fun _ _ => rfl)) pe_int (fun _ _ => rfl)) pa_nil)))
      (pss_one (ps_ret (pe_ifExp (pt_cmpR op_eq (pe_callB call_len_str (by rfl) T.n_len (by decide +kernel) (pa_cons (pv 2) pa_nil)) (pe_callB call_len_str (by rfl) T.n_len (by decide +kernel) (pa_cons (pv 0) pa_nil)) (nomark _)) (pv 2) pe_non)))) pss_nil)
      (pss_cons (ps_asg (pe_tup (pa_cons pe_int (pa_cons (pe_k (by rfl) T.c_WHITE) (pa_cons (pe_lit l_e) (pa_cons pe_bl pa_nil))))) (pg_tup rfl (pgs_cons (pg_name (i := 3) sc_read_beside.nd rfl (Or.inl rfl)) (pgs_cons (pg_name (i := 4) sc_read_beside.nd rfl (Or.inl rfl)) (pgs_cons (pg_name (i := 5) sc_read_beside.nd rfl (Or.inl rfl)) (pgs_cons (pg_name (i := 6) sc_read_beside.nd rfl (Or.inl rfl)) pgs_nil))))))
      (pss_cons (ps_for PassesOwn.never rfl (pi_tup (pv 1)) (pg_name (i := 7) sc_read_beside.nd rfl (Or.inl rfl)) (pss_mid (ps_set (i := 8) sc_read_beside.nd rfl (Or.inl rfl) (pe_ifExp (pt_cmpR op_lt (pv 3) (pe_callB call_len_str (by rfl) T.n_len (by decide +kernel) (pa_cons (pv 0) pa_nil)) (nomark _)) (pe_call G_after_mode (hr.mono (by decide)) (by rfl) T.o_after_mode.g T.o_after_mode.F.kp T.o_after_mode.b .nil pass0 (pa_cons (pv 0) (pa_cons (pv 7) (pa_cons (pv 3) (pa_cons (pv 4) (pa_cons (pv 6) pa_nil)))))) pe_non))
      (pss_cons (ps_if (pt_cmpR op_isN (pv 8) pe_non (nomark _)) (pss_one (ps_ret pe_non)) pss_nil)
      (pss_cons (ps_aug (i := 5) sc_read_beside.nd rfl (Or.inl rfl) (pe_call G_dots_of (hr.mono (by decide)) (by rfl) T.o_dots_of.g T.o_dots_of.F.kp T.o_dots_of.b .nil pass0 (pa_cons (pv 7) (pa_cons (pv 3) (pa_cons (pe_ix ix_tup (pv 8) pe_int (fun _ _ => rfl)) (pa_cons (pv 4) pa_nil))))) ip_addS)
      (pss_cons (ps_asg (pv 8) (pg_tup rfl (pgs_cons (pg_name (i := 3) sc_read_beside.nd rfl (Or.inl rfl)) (pgs_cons (pg_name (i := 4) sc_read_beside.nd rfl (Or.inl rfl)) pgs_nil))))
      (pss_one (ps_set (i := 6) sc_read_beside.nd rfl (Or.inl rfl) pe_bl)))))))
      (pss_one (ps_ret (pe_ifExp (pt_cmpR op_eq (pv 3) (pe_callB call_len_str (by rfl) T.n_len (by decide +kernel) (pa_cons (pv 0) pa_nil)) (nomark _)) (pv 5) pe_non)))))), ?_⟩
    have hsz : (S l).length ≤ sizeLine := by rw [S_length]; exact nat_small (by omega)
    refine ⟨_, rfl, a, t, rfl, ht, _, rfl, ?_⟩
    obtain ⟨bs, h1, h2, h3⟩ := ht
    rcases hok.cases with ⟨rs, rfl, hrs⟩ | ⟨hF, h80, hmd⟩
    · refine iteT ?_
      cases bs with
      | nil => cases h2
      | cons b0 bs =>
        obtain ⟨b, g1, g2⟩ := h3 0 b0 _ rfl rfl
        have hrl := lnAt_length rs false
        have hsz2 : (S (lnAt rs false)).length ≤ sizeLine := by
          rw [S_length, hrl]
          exact nat_small (by have := hrs.2.2.2.2; omega)
        refine ⟨_, rfl, a, _, _, _, rfl, rfl, tupT h1, atI_nat (j := 0) rfl, b0, _, _, _, rfl, rfl, tupT g1, atI_nat (j := 1) rfl, b, rs, rfl, g2, hrs, ?_⟩
        refine ⟨_, rfl, _, rfl, hsz2, _, rfl, _, rfl, hsz, rfl, _, rfl, ?_⟩
        rw [S_length, S_length]
        have q2 := q H (Same.refl H)
        refine iteD (fun e => ⟨_, rfl, ?_⟩) fun e => ?_
        · have e2 := V.int.inj e
          have : read l [.full rs] = some (lnAt rs false) := if_pos (by omega)
          rw [this] at q2
          exact q2
        · have : read l [.full rs] = none := if_neg fun z => e (congrArg V.int (by omega))
          rw [this] at q2
          exact q2
    · rw [hF]
      refine iteF ?_
      rw [read_notF hF] at q
      refine ⟨(by show 4 ≤ sizeLine; decide), fun u nu => ⟨u, _, rfl, tupT upd_same, rfl, _, _, rfl, _, _, rfl, _, _, rfl, _, [], rfl, rfl, ?_⟩⟩
      have s1 : Same H (upd H u (.tup [.int 0, .str (S [false]), .str (S []), .bl false])) := same_upd nu
      refine ⟨_, rfl, a, rfl, ⟨_, tupT (s1 _ _ h1)⟩, for_tup (xs := bs.map V.ref) (fun i σ H' => Same H H' ∧ ∃ (x : Option V) (p : Nat) (c : Bool) (acc : Ln) (y z : Option V), σ = [some (.str (S l)), some (.ref a), x, some (.int (p : Nat)), some (.str (S [c])), some (.str (S acc)), some (.bl (decide (0 < i))), y, z] ∧
        p ≤ l.length ∧ acc.length = p ∧ (i = 0 → p = 0) ∧ readM l t 0 false false [] = readM l (t.drop i) p c (decide (0 < i)) acc)
        ⟨s1, none, 0, false, [], none, none, rfl, Nat.zero_le _, rfl, fun _ => rfl, rfl⟩ (fun i σ H' _ hP => tupT (hP.1 _ _ h1)) (fun i x σ H' hx hP => ?_) fun σ H' hP => ?_⟩
      · obtain ⟨sm, x0, p, c, acc, y, z, rfl, hp, hacc, hi0, hrd⟩ := hP
        rw [List.getElem?_map] at hx
        obtain ⟨b, hb, rfl⟩ := Option.map_eq_some_iff.mp hx
        have hi : i < t.length := by
          rw [← h2]
          exact (List.getElem?_eq_some_iff.mp hb).1
        have hti : t[i]? = some t[i] := List.getElem?_eq_getElem hi
        have hm := (h3 i b _ hb hti).keep (Keep.of sm)
        have hmo := hmd _ (List.getElem_mem hi)
        have hdr : t.drop i = t[i] :: t.drop (i + 1) := List.drop_eq_getElem_cons hi
        rw [hdr] at hrd
        generalize t[i] = m at hm hmo hrd
        -- there
        refine ⟨fun σ' H2 => Same H' H2 ∧ ∃ v, σ' = [some (.str (S l)), some (.ref a), x0, some (.int (p : Nat)), some (.str (S [c])), some (.str (S acc)), some (.bl (decide (0 < i))), some (.ref b), some v] ∧
          ((v = .non ∧ (p < l.length → step l m p c (decide (0 < i)) = none)) ∨ ∃ (r : Addr) (e : Nat) (c2 : Bool), v = .ref r ∧ H2 r = some (.tup (vP e c2)) ∧ p < l.length ∧ step l m p c (decide (0 < i)) = some (e, c2)), ?_, fun σ' H2 hM => ?_⟩
        · refine ⟨_, rfl, _, rfl, _, rfl, hsz, _, _, rfl, rfl, _, rfl, ?_⟩
          rw [S_length]
          refine iteD (fun hlt => ?_) fun hlt => ?_
          · refine ⟨_, rfl, _, rfl, _, rfl, _, rfl, _, rfl, l, b, m, p, c, _, rfl, hm, hmo, by omega, hp, fun e => ?_, fun e c2 r hs nr => ?_⟩
            · exact ⟨Same.refl _, _, rfl, .inl ⟨rfl, fun _ => e⟩⟩
            · exact ⟨same_upd nr, _, rfl, .inr ⟨r, e, c2, rfl, upd_same, by omega, hs⟩⟩
          · exact ⟨Same.refl _, _, rfl, .inl ⟨rfl, fun z => absurd (by omega) hlt⟩⟩
        · obtain ⟨sm2, v, rfl, hv⟩ := hM
          have sm3 := sm.trans sm2
          rcases hv with ⟨rfl, hn⟩ | ⟨r, e, c2, rfl, hr2, hlt, hs⟩
          · have : readM l (m :: t.drop (i + 1)) p c (decide (0 < i)) acc = none := by
              unfold readM
              split
              · rename_i hlt
                rw [hn hlt]
              · rfl
            rw [this] at hrd
            rw [hrd] at q
            exact ⟨_, rfl, rfl, _, rfl, iteT (q _ sm3)⟩
          · refine ⟨_, rfl, rfl, _, rfl, iteF ?_⟩
            have hm2 := hm.keep (Keep.of sm2)
            have h0 : decide (0 < i) = false → p = 0 := fun z => hi0 (by
              have := of_decide_eq_false z
              omega)
            obtain ⟨b1, b2, b3, b4⟩ := step_bd hp hs h0
            refine ⟨_, rfl, _, rfl, _, rfl, _, rfl, r, _, _, _, rfl, rfl, tupT hr2, atI_nat (j := 0) rfl, _, rfl, b, m, p, e, c, rfl, hm2, hmo, b1, by omega, ?_⟩
            refine ⟨_, _, rfl, rfl, by rw [S_length, S_length, b4]; exact nat_small (by omega), ?_⟩
            rw [S_append]
            refine ⟨_, rfl, r, _, rfl, tupT hr2, rfl, _, _, rfl, _, [], rfl, rfl, ?_⟩
            refine ⟨sm3, x0, e, c2, acc ++ dots m p e c, some (.ref b), some (.ref r), ?_, b2, ?_, fun z => (nomatch z), ?_⟩
            · rw [decide_eq_true (Nat.succ_pos i)]
              rfl
            · rw [List.length_append, b4]
              omega
            · rw [hrd, decide_eq_true (Nat.succ_pos i)]
              conv => lhs; unfold readM
              rw [if_pos hlt, hs]
      · obtain ⟨sm, x0, p, c, acc, y, z, rfl, hp, hacc, hi0, hrd⟩ := hP
        rw [List.length_map, h2, List.drop_length] at hrd
        refine ⟨_, rfl, _, rfl, _, rfl, hsz, rfl, _, rfl, ?_⟩
        rw [S_length]
        have q2 := q _ sm
        rw [hrd] at q2
        unfold readM at q2
        refine iteD (fun e => ⟨_, rfl, ?_⟩) fun e => ?_
        · have e2 := V.int.inj e
          rw [if_pos (by omega)] at q2
          exact q2
        · rw [if_neg fun z => e (congrArg V.int (by omega))] at q2
          exact q2
end
end K8
/-! K78p5: need_width, lines_of_width, need_late, next_known, known -/
namespace K8
open PySem PySem.Spec PyProof.Rows L2
/-! ### a comprehension's dict, by what its walk gives -/
theorem dc_it {J : It} {n : Nat} {G : Hp → Prop} {Y : Nat → Hp → V → Hp → Prop} (w : Walk J n G Y) {g : TG} {tt : TT} {tk tv : TE} {vs : List Nat} {σ : L2.St} {H1 : Hp} {D : Addr} {Qd : Hp → Prop} (Pv : Nat → Hp → Prop) (h0 : Pv 0 (upd H1 D (.dK []))) (hG : ∀ i H, i ≤ n → Pv i H → G H)
    (hs : ∀ i x H H', i < n → Pv i H → Y i H x H' → g x (wipe σ vs) H' fun σ2 H2 => wipe σ2 vs = wipe σ vs ∧ tt σ2 H2 fun b H3 =>
      if b = true then tk σ2 H3 fun y H4 => tv σ2 H4 fun z H5 => ∃ kvs k, y = kV k ∧ H5 D = some (.dK kvs) ∧ kvs.length < sizeLine ∧ Pv (i + 1) (upd H5 D (.dK (putK kvs k z))) else Pv (i + 1) H3) (hd : ∀ H, Pv n H → Qd H) :
    ∃ W : Nat → Nat → Hp → Prop, (∃ m, W 0 m (upd H1 D (.dK []))) ∧ ∀ i m H, W i m H →
      (J.stop i H ∧ Qd H) ∨ (J.go i H ∧ ∃ Nx : Hp → Prop, (∀ H', Nx H' → ∃ m', m' < m ∧ W (i + 1) m' H') ∧ ∀ x H', J.yld i H x H' → g x (wipe σ vs) H' fun σ2 H2 => wipe σ2 vs = wipe σ vs ∧ tt σ2 H2 fun b H3 =>
        if b = true then tk σ2 H3 fun y H4 => tv σ2 H4 fun z H5 => ∃ kvs k, y = kV k ∧ H5 D = some (.dK kvs) ∧ kvs.length < sizeLine ∧ Nx (upd H5 D (.dK (putK kvs k z))) else Nx H3) := by
  refine ⟨fun i m H => m = n - i ∧ i ≤ n ∧ Pv i H, ⟨n, by simp, Nat.zero_le _, h0⟩, ?_⟩
  rintro i m H ⟨rfl, hi, p⟩
  have q := hG i H hi p
  by_cases hlt : i < n
  · exact .inr ⟨w.goes i H hlt q, Pv (i + 1), fun H' p' => ⟨n - (i + 1), by omega, rfl, hlt, p'⟩, fun x H' y => hs i x H H' hlt p (w.yields i H x H' hlt q y)⟩
  · have e : i = n := by omega
    subst e
    exact .inl ⟨w.stops H q, hd H p⟩
/-! ### dicts of lines -/
theorem put_kS (ls : List Ln) (x : Ln) : putK (ls.map kS) (.inr (S x)) (.bl true) = (putL ls x).map kS := by
  unfold putK putL
  have hany : ((ls.map kS).any fun kv => decide (kv.1 = Sum.inr (S x))) = decide (x ∈ ls) := by
    rw [List.any_map]
    by_cases h : x ∈ ls
    · rw [decide_eq_true h]
      exact List.any_eq_true.mpr ⟨x, h, decide_eq_true rfl⟩
    · rw [decide_eq_false h]
      exact List.any_eq_false.mpr fun y hy z => h (by
        have z2 : (Sum.inr (S y) : Key) = Sum.inr (S x) := of_decide_eq_true z
        rw [← S_inj (Sum.inr.inj z2)]
        exact hy)
  rw [hany]
  by_cases h : x ∈ ls
  · rw [if_pos h, if_pos (decide_eq_true h), List.map_map]
    refine List.map_congr_left fun y _ => ?_
    show (if (kS y).1 = Sum.inr (S x) then ((kS y).1, V.bl true) else kS y) = kS y
    split <;> rfl
  · rw [if_neg h, if_neg (by simpa using h), List.map_append]
    rfl
theorem map_kS (ls : List Ln) : ((ls.map kS).map fun kv => kV kv.1) = ls.map vS := by
  rw [List.map_map]
  rfl
theorem map_vS (ls : List Ln) : ls.map vS = (ls.map S).map V.str := by
  rw [List.map_map]
  rfl
theorem nxt_take (ls : List Ln) (t : List Md) {i : Nat} {l : Ln} (h : ls[i]? = some l) : nxt (ls.take (i + 1)) t = putO (nxt (ls.take i) t) (read l t) := by
  unfold nxt
  rw [List.take_add_one, h, List.foldl_append]
  rfl
theorem small {n : Nat} (h : n ≤ 1000) : n < sizeLine := small1000 h
section
variable {P : Program} {w : World} {K : PySem.W.Frag} {mg : Str → Option Value} {base : Heap} {A : Nat → Addr} {D : Nat → FuncData}
/-! ### need_width -/
def sp_need_width : Sp := fun vs H Q _ => ∃ z : Nat, vs = [.int (z : Nat)] ∧ 1 ≤ z ∧ z ≤ 40 ∧ Q .non H
theorem ok_need_width (T : Tx K mg A D) : FnOk P w K mg base CX0 2 (A 34) (D 34) ["width"] sp_need_width := by
  have G_is_whole := ok_is_whole (P := P) (w := w) (base := base) T
  refine T.o_need_width.F.ok sc_need_width (fun vs H Q E h => ?_) (fun cdv Ar outer s H vs Q E hr h => ?_)
  · obtain ⟨_, rfl, _⟩ := h
    rfl
  · obtain ⟨z, rfl, h1, h2, q⟩ := h
    refine ⟨_, (pss_one (ps_if (pt_not (pt_val (pe_call G_is_whole (hr.mono (by decide)) (by rfl) T.o_is_whole.g T.o_is_whole.F.kp T.o_is_whole.b .nil pass0 (pa_cons (pv 0) (pa_cons pe_int (pa_cons (pe_k (by rfl) T.c_MOST_WIDTH) pa_nil)))))) (pss_one ps_never) pss_nil)), ?_⟩
    refine ⟨_, rfl, _, 1, 40, rfl, ?_⟩
    rw [decide_eq_true (show (1 : Int) ≤ (z : Nat) ∧ ((z : Nat) : Int) ≤ 40 by omega)]
    exact ⟨_, rfl, iteF q⟩
/-! ### lines_of_width -/
def sp_lines : Sp := fun vs H Q _ => ∃ z : Nat, vs = [.int (z : Nat)] ∧ z ≤ 6 ∧ ∀ H' p, Same H H' → H p = none → H' p = some (.lst ((allL z).map vS)) → Q (.ref p) H'
theorem pow_le6 {z : Nat} (h : z ≤ 6) : 2 ^ z ≤ 64 := Nat.le_trans (Nat.pow_le_pow_right (by decide) h) (by decide)
/-- the lines behind one turn, made so far: those of the first i, of the next one the first j -/
def two (L : List Ln) : List Ln := L.flatMap fun l => [l ++ [true], l ++ [false]]
theorem two_snoc (L : List Ln) (l : Ln) : two (L ++ [l]) = two L ++ [l ++ [true], l ++ [false]] := by
  unfold two
  rw [List.flatMap_append]
  rfl
theorem two_length : ∀ L : List Ln, (two L).length = 2 * L.length
  | [] => rfl
  | l :: L => by
    show ([l ++ [true], l ++ [false]] ++ two L).length = 2 * (L.length + 1)
    rw [List.length_append, two_length L]
    show 2 + 2 * L.length = _
    omega
theorem ok_lines_of_width (T : Tx K mg A D) : FnOk P w K mg base CX0 1 (A 35) (D 35) ["width"] sp_lines := by
  refine T.o_lines_of_width.F.ok sc_lines_of_width (fun vs H Q E h => ?_) (fun cdv Ar outer s H vs Q E hr h => ?_)
  · obtain ⟨_, rfl, _⟩ := h
    rfl
  · obtain ⟨z, rfl, hz, q⟩ := h
    refine ⟨_, (pss_cons (ps_set (i := 1) sc_lines_of_width.nd rfl (Or.inl rfl) (pe_lst (pa_cons (pe_lit l_e) pa_nil)))
      (pss_cons (ps_for PassesOwn.never rfl (pi_range1 (by rfl) T.n_range (pa_cons (pv 0) pa_nil)) (pg_name (i := 2) sc_lines_of_width.nd rfl (Or.inl rfl)) (pss_one (ps_setLc2 (i := 1) (own := [("line", 3), ("dot", 4)]) (g := gName 3) (tt := tYes) (wi1 := iTup K (tTup (tCons (tC (.str (S [true]))) (tCons (tC (.str (S [false]))) tNil)))) (vs1 := [4])  rfl sc_lines_of_width.nd rfl rfl (sw_true rfl rfl rfl (by decide +kernel)) (pi_list (pv 1)) (blkOk_by (own := [("line", 3), ("dot", 4)]) (N := N_lines_of_width) (sc := defScope s_lines_of_width) (by decide +kernel)) (by decide) (fun _ _ _ _ _ => pg_name (i := 3) sc_lines_of_width.nd rfl (Or.inl rfl)) (fun _ _ _ _ _ => pts_nil) (fun _ _ _ _ _ => (pi_tup (pe_tup (pa_cons (pe_k (by rfl) T.c_BLACK) (pa_cons (pe_k (by rfl) T.c_WHITE) pa_nil))))) (fun _ _ _ _ _ => pg_name (i := 4) sc_lines_of_width.nd rfl (Or.inl rfl)) (fun _ _ _ _ _ => pts_nil) (fun _ _ _ _ _ => (pe_op op_add_str (pv 3) (pv 4))))))
      (pss_one (ps_ret (pv 1))))), ?_⟩
    refine ⟨(by show 1 ≤ sizeLine; decide), fun o no => ?_⟩
    refine ⟨_, rfl, (z : Nat), rfl, by omega, by omega, for_range (lo := 0) (n := ((z : Nat) : Int).toNat) (fun i σ H' => Same H H' ∧ ∃ (p : Addr) (x : Option V), σ = [some (.int (z : Nat)), some (.ref p), x, none, none] ∧ H p = none ∧ H' p = some (.lst ((allL i).map vS)))
      ⟨same_upd no, o, none, rfl, no, upd_same⟩ (fun i σ H' hi hP => ?_) fun σ H' hP => ?_⟩
    · obtain ⟨sm, p, x, rfl, np, hp⟩ := hP
      have hlen : (allL i).length ≤ 64 := by
        rw [allL_length]
        exact pow_le6 (by omega)
      refine ⟨_, rfl, p, rfl, ⟨_, lstL hp⟩, fun Dd nD => ?_⟩
      have nD0 : H Dd = none := sm.free nD
      refine ⟨fun k m H2 => m + k = (allL i).length ∧ Same H' H2 ∧ H2 Dd = some (.lst ((two ((allL i).take k)).map vS)), ⟨(allL i).length, by omega, same_upd nD, upd_same⟩, fun k m H2 hW => ?_⟩
      obtain ⟨hm, sm2, hD⟩ := hW
      have hp2 := sm2 _ _ hp
      by_cases hk : k < (allL i).length
      · have hkg : (allL i)[k]? = some (allL i)[k] := List.getElem?_eq_getElem hk
        generalize (allL i)[k] = l at hkg
        have htk : (allL i).take (k + 1) = (allL i).take k ++ [l] := by
          rw [List.take_add_one, hkg]
          rfl
        have hl2 : (two ((allL i).take k)).length ≤ 128 := by
          rw [two_length, List.length_take]
          omega
        have hll : l.length ≤ 6 := by
          rw [allL_mem.mp (List.mem_of_getElem? hkg)]
          omega
        refine .inr ⟨⟨_, _, lstL hp2, by rw [List.getElem?_map, hkg]; rfl⟩, fun H3 => Same H' H3 ∧ H3 Dd = some (.lst ((two ((allL i).take (k + 1))).map vS)), fun H3 hN => ⟨m - 1, by omega, by omega, hN⟩, fun x2 H3 hy => ?_⟩
        obtain ⟨rfl, hx⟩ := hy
        have hx2 : x2 = vS l := by
          have := hx _ (lstL hp2)
          rw [List.getElem?_map, hkg] at this
          exact (Option.some.inj this).symm
        subst hx2
        refine ⟨rfl, (by show 2 ≤ sizeLine; decide), fun u nu => ⟨u, rfl, ⟨_, tupT upd_same⟩, ?_⟩⟩
        have uD : u ≠ Dd := (ne_of_none hD nu).symm
        refine ⟨fun j n H4 => n + j = 2 ∧ Same H' H4 ∧ H4 u = some (.tup [.str (S [true]), .str (S [false])]) ∧ H4 Dd = some (.lst ((two ((allL i).take k) ++ [l ++ [true], l ++ [false]].take j).map vS)), ⟨2, rfl, sm2.trans (same_upd nu), upd_same, ?_⟩, fun j n H4 hV => ?_⟩
        · rw [upd_ne uD.symm, hD]
          simp
        · obtain ⟨hj, sm4, hu, hD4⟩ := hV
          have step1 : ∀ (H5 : Hp) (c : Bool), Same H' H5 → H5 u = some (.tup [.str (S [true]), .str (S [false])]) → H5 Dd = some (.lst ((two ((allL i).take k) ++ [l ++ [true], l ++ [false]].take j).map vS)) → [l ++ [true], l ++ [false]].take j ++ [l ++ [c]] = [l ++ [true], l ++ [false]].take (j + 1) → j ≤ 1 →
              Same H' (upd H5 Dd (.lst ((two ((allL i).take k) ++ [l ++ [true], l ++ [false]].take j).map vS ++ [vS (l ++ [c])]))) ∧ upd H5 Dd (.lst ((two ((allL i).take k) ++ [l ++ [true], l ++ [false]].take j).map vS ++ [vS (l ++ [c])])) u = some (.tup [.str (S [true]), .str (S [false])]) ∧
                upd H5 Dd (.lst ((two ((allL i).take k) ++ [l ++ [true], l ++ [false]].take j).map vS ++ [vS (l ++ [c])])) Dd = some (.lst ((two ((allL i).take k) ++ [l ++ [true], l ++ [false]].take (j + 1)).map vS)) := fun H5 c s5 u5 D5 e5 _ => by
            refine ⟨fun b y hb => ?_, ?_, ?_⟩
            · rw [upd_ne (ne_of_none hb nD)]
              exact s5 _ _ hb
            · rw [upd_ne uD]
              exact u5
            · rw [upd_same, ← e5]
              simp
          by_cases h2 : j = 2
          · subst h2
            refine .inl ⟨⟨_, tupT hu, Nat.le_refl _⟩, sm4, ?_⟩
            rw [hD4, htk, two_snoc]
            rfl
          · have hj1 : j = 0 ∨ j = 1 := by omega
            refine .inr ⟨⟨_, V.str (S [decide (j = 0)]), tupT hu, ?_⟩, fun H5 => Same H' H5 ∧ H5 u = some (.tup [.str (S [true]), .str (S [false])]) ∧ H5 Dd = some (.lst ((two ((allL i).take k) ++ [l ++ [true], l ++ [false]].take (j + 1)).map vS)), fun H5 hN => ⟨n - 1, by omega, by omega, hN⟩, fun x3 H5 hy => ?_⟩
            · rcases hj1 with e | e <;> (rw [e]; rfl)
            · obtain ⟨rfl, hx⟩ := hy
              have hx3 := hx _ (tupT hu)
              have e3 : x3 = .str (S [decide (j = 0)]) := by
                rcases hj1 with e | e
                · rw [e] at hx3 ⊢
                  exact (Option.some.inj hx3).symm
                · rw [e] at hx3 ⊢
                  exact (Option.some.inj hx3).symm
              subst e3
              refine ⟨rfl, _, rfl, _, rfl, S l, S [decide (j = 0)], rfl, rfl, by rw [S_length, S_length]; exact nat_small (by simp; omega), ?_⟩
              rw [S_append]
              refine ⟨_, hD4, ?_, step1 _ _ sm4 hu hD4 ?_ (by omega)⟩
              · rw [List.length_map, List.length_append, List.length_take]
                exact small (by
                  have : min j [l ++ [true], l ++ [false]].length ≤ j := Nat.min_le_left _ _
                  omega)
              · rcases hj1 with e | e <;> (rw [e]; rfl)
      · have hk2 : k = (allL i).length := by omega
        refine .inl ⟨⟨_, lstL hp2, by rw [List.length_map]; omega⟩, sm.trans sm2, Dd, _, rfl, nD0, ?_⟩
        rw [hD, hk2, List.take_length]
        rfl
    · obtain ⟨sm, p, x, rfl, np, hp⟩ := hP
      exact ⟨_, rfl, q _ p sm np (by simpa using hp)⟩
/-! ### need_late -/
def sp_need_late : Sp := fun vs H Q _ => ∃ (z : Nat) (a : Addr) (ts : List (List Md)), vs = [.int (z : Nat), .ref a] ∧ 1 ≤ z ∧ z ≤ 6 ∧ Ts H a ts ∧ ts.length ≤ 20 ∧ (∀ t ∈ ts, TlOk t) ∧ ∀ H', Same H H' → Q .non H'
theorem ok_need_late (T : Tx K mg A D) : FnOk P w K mg base CX0 5 (A 39) (D 39) ["width", "tellings"] sp_need_late := by
  have G_need_width := ok_need_width (P := P) (w := w) (base := base) T
  have G_need_telling := ok_need_telling (P := P) (w := w) (base := base) T
  refine T.o_need_late.F.ok sc_need_late (fun vs H Q E h => ?_) (fun cdv Ar outer s H vs Q E hr h => ?_)
  · obtain ⟨_, _, _, rfl, _⟩ := h
    rfl
  · obtain ⟨z, a, ts, rfl, z1, z2, ⟨bs, h1, h2, h3⟩, hl, hok, q⟩ := h
    refine ⟨_, (pss_cons (ps_expr (pe_call G_need_width (hr.mono (by decide)) (by rfl) T.o_need_width.g T.o_need_width.F.kp T.o_need_width.b .nil pass0 (pa_cons (pv 0) pa_nil)))
      (pss_cons (ps_if (pt_cmpR op_gt (pv 0) (pe_k (by rfl) T.c_MOST_LATE) (nomark _)) (pss_one ps_never) pss_nil)
      (pss_cons (ps_if (PW.pt (pw_or (pt_not (pt_val (pe_callB call_isi (by rfl) T.n_isinstance (by decide +kernel) (pa_cons (pv 1) (pa_cons (pe_bltn (v := .ty "tuple") (by rfl) T.n_tuple (by decide +kernel) rfl) pa_nil))))) (pw_or1 (pt_cmpR op_gt (pe_callB call_len_seq (by rfl) T.n_len (by decide +kernel) (pa_cons (pv 1) pa_nil)) (pe_k (by rfl) T.c_MOST_TELLINGS) (nomark _))))) (pss_one ps_never) pss_nil)
      (pss_one (ps_for PassesOwn.never rfl (pi_tup (pv 1)) (pg_name (i := 2) sc_need_late.nd rfl (Or.inl rfl)) (pss_one (ps_expr (pe_call G_need_telling (hr.mono (by decide)) (by rfl) T.o_need_telling.g T.o_need_telling.F.kp T.o_need_telling.b .nil pass0 (pa_cons (pv 2) pa_nil))))))))), ?_⟩
    have hlb : (bs.map V.ref).length = ts.length := by rw [List.length_map, h2]
    refine ⟨_, rfl, z, rfl, z1, by omega, ?_⟩
    refine ⟨_, rfl, _, _, rfl, rfl, _, rfl, iteD (fun h => absurd h (by omega)) fun _ => ?_⟩
    refine ⟨_, rfl, _, _, _, _, _, rfl, ClsV.ty _, .base (.tup h1), kP, _, rfl, iteF ⟨_, rfl, a, _, rfl, .inr (tupT h1), _, _, rfl, rfl, _, rfl, iteD (fun h => absurd h (by rw [hlb]; omega)) fun _ => ?_⟩⟩
    refine ⟨_, rfl, a, rfl, ⟨_, tupT h1⟩, for_tup (xs := bs.map V.ref) (fun i σ H' => Same H H' ∧ ∃ x, σ = [some (.int (z : Nat)), some (.ref a), x]) ⟨Same.refl _, none, rfl⟩ (fun i σ H' _ hP => tupT (hP.1 _ _ h1)) (fun i x σ H' hx hP => ?_) fun σ H' hP => ?_⟩
    · obtain ⟨sm, x0, rfl⟩ := hP
      rw [List.getElem?_map] at hx
      obtain ⟨b, hb, rfl⟩ := Option.map_eq_some_iff.mp hx
      have hi : i < ts.length := by
        rw [← h2]
        exact (List.getElem?_eq_some_iff.mp hb).1
      have hti : ts[i]? = some ts[i] := List.getElem?_eq_getElem hi
      exact ⟨_, rfl, b, _, rfl, (h3 i b _ hb hti).keep (Keep.of sm), hok _ (List.getElem_mem hi), fun H2 s2 => ⟨sm.trans s2, _, rfl⟩⟩
    · exact q _ hP.1
end
end K8
/-! K78p6: next_known, known -/
namespace K8
open PySem PySem.Spec PyProof.Rows L2
section
variable {P : Program} {w : World} {K : PySem.W.Frag} {mg : Str → Option Value} {base : Heap} {A : Nat → Addr} {D : Nat → FuncData}
/-- the lines ls stand at a: as a list, or as a dict's keys -/
def Lns (H : Hp) (a : Addr) (ls : List Ln) : Prop := H a = some (.lst (ls.map vS)) ∨ H a = some (.dK (ls.map kS))
theorem keep_lock {H : Hp} {a : Addr} {od : Obj} {u : HO} (h : ∀ xs, H a ≠ some (.tup xs)) : Keep H (upd H a (.frz od u)) := fun b xs hb => by
  rw [upd_ne (fun e => by
    rw [e] at hb
    exact h xs hb)]
  exact hb
def sp_next_known : Sp := fun vs H Q _ => ∃ (a b : Addr) (ls : List Ln) (t : List Md), vs = [.ref a, .ref b] ∧ Lns H a ls ∧ Tl H b t ∧ TlOk t ∧ (∀ l ∈ ls, l.length ≤ 6) ∧ ls.length ≤ 64 ∧
  ∀ H' p, Same H H' → H' p = some (.dK ((nxt ls t).map kS)) → Q (.ref p) H'
theorem ok_next_known (T : Tx K mg A D) : FnOk P w K mg base CX0 4 (A 40) (D 40) ["lines", "telling"] sp_next_known := by
  have G_read_beside := ok_read_beside (P := P) (w := w) (base := base) T
  refine T.o_next_known.F.ok sc_next_known (fun vs H Q E h => ?_) (fun cdv Ar outer s H vs Q E hr h => ?_)
  · obtain ⟨_, _, _, _, rfl, _⟩ := h
    rfl
  · obtain ⟨a, b, ls, t, rfl, ha, ht, hok, hwid, hll, q⟩ := h
    rcases ha with ha | ha
    · refine ⟨_, (pss_cons (ps_set (i := 2) sc_next_known.nd rfl (Or.inl rfl) pe_dnewK)
      (pss_cons (ps_for PassesOwn.never rfl (pi_list (pv 0)) (pg_name (i := 3) sc_next_known.nd rfl (Or.inl rfl)) (pss_cons (ps_set (i := 4) sc_next_known.nd rfl (Or.inl rfl) (pe_call G_read_beside (hr.mono (by decide)) (by rfl) T.o_read_beside.g T.o_read_beside.F.kp T.o_read_beside.b .nil pass0 (pa_cons (pv 3) (pa_cons (pv 1) pa_nil))))
      (pss_one (ps_if (pt_cmpR op_notN (pv 4) pe_non (nomark _)) (pss_one (ps_dput (hu_of hr) (pv 2) (pv 4) pe_bl rfl)) pss_nil))))
      (pss_one (ps_ret (pv 2))))), ?_⟩
      refine fun o no => ⟨_, rfl, a, rfl, ⟨_, lstL (same_upd no _ _ ha)⟩, for_list (xs := ls.map vS) (fun i σ H' => Same H H' ∧ (∃ x y, σ = [some (.ref a), some (.ref b), some (.ref o), x, y]) ∧ H' o = some (.dK ((nxt (ls.take i) t).map kS)))
        ⟨same_upd no, ⟨none, none, rfl⟩, upd_same⟩ (fun i σ H' _ hP => lstL (hP.1 _ _ ha)) (fun i x σ H' hx hP => ?_) fun σ H' hP => ?_⟩
      · rw [List.getElem?_map] at hx
        obtain ⟨l, hli, rfl⟩ := Option.map_eq_some_iff.mp hx
        obtain ⟨sm, ⟨x0, y0, rfl⟩, ho⟩ := hP
        have hl := List.mem_of_getElem? hli
        have hw := hwid _ hl
        have hlen : (nxt (ls.take i) t).length ≤ 64 := Nat.le_trans (nxt_length _ _) (by rw [List.length_take]; omega)
        refine ⟨_, rfl, _, rfl, l, b, t, rfl, ht.keep (Keep.of sm), hok, by omega, fun H2 s2 => ?_⟩
        have ho2 := s2 _ _ ho
        have sm2 := sm.trans s2
        refine ⟨_, rfl, rfl, _, rfl, ?_⟩
        cases hrd : read l t with
        | none =>
          refine iteF ⟨sm2, ⟨_, _, rfl⟩, ?_⟩
          rw [nxt_take ls t hli, hrd]
          exact ho2
        | some x =>
          refine iteT ⟨_, rfl, _, rfl, _, _, rfl, DPut.k (k := Sum.inr (S x)) ho2 (by rw [List.length_map]; exact small (by omega)), ?_⟩
          refine ⟨fun c y hc => ?_, ⟨_, _, rfl⟩, ?_⟩
          · rw [upd_ne (ne_of_none hc no)]
            exact sm2 _ _ hc
          · rw [upd_same, put_kS, nxt_take ls t hli, hrd]
            rfl
      · obtain ⟨sm, ⟨x, y, rfl⟩, ho⟩ := hP
        refine ⟨_, rfl, q _ o sm ?_⟩
        rw [ho, List.length_map, List.take_length]
    · refine ⟨_, (pss_cons (ps_set (i := 2) sc_next_known.nd rfl (Or.inl rfl) pe_dnewK)
      (pss_cons (ps_lock (ps_for PassesOwn.never rfl (pi_keys (pv 0)) (pg_name (i := 3) sc_next_known.nd rfl (Or.inl rfl)) (pss_cons (ps_set (i := 4) sc_next_known.nd rfl (Or.inl rfl) (pe_call G_read_beside (hr.mono (by decide)) (by rfl) T.o_read_beside.g T.o_read_beside.F.kp T.o_read_beside.b .nil pass0 (pa_cons (pv 3) (pa_cons (pv 1) pa_nil))))
      (pss_one (ps_if (pt_cmpR op_notN (pv 4) pe_non (nomark _)) (pss_one (ps_dput (hu_of hr) (pv 2) (pv 4) pe_bl rfl)) pss_nil)))))
      (pss_one (ps_ret (pv 2))))), ?_⟩
      refine fun o no => ?_
      have s0 : Same H (upd H o (.dK [])) := same_upd no
      have oa : o ≠ a := (ne_of_none ha no).symm
      refine ⟨a, _, s0 _ _ ha, trivial, fun od => ?_⟩
      have k0 : Keep H (upd (upd H o (.dK [])) a (.frz od (.dK (ls.map kS)))) := (Keep.of s0).trans (keep_lock fun xs z => by
        rw [s0 _ _ ha] at z
        cases z)
      have no2 : ∀ c y, H c = some y → c ≠ o := fun c y hc => ne_of_none hc no
      refine ⟨_, rfl, a, od, rfl, .inl ⟨_, upd_same, for_it walk_keys (fun i σ H' => (∀ c y, H c = some y → c ≠ a → H' c = some y) ∧ H' a = some (.frz od (.dK (ls.map kS))) ∧ (∃ x y, σ = [some (.ref a), some (.ref b), some (.ref o), x, y]) ∧ H' o = some (.dK ((nxt (ls.take i) t).map kS)))
        ⟨fun c y hc hca => by rw [upd_ne hca]; exact s0 _ _ hc, upd_same, ⟨none, none, rfl⟩, by rw [upd_ne oa, upd_same]; rfl⟩ (fun i σ H' _ hP => hP.2.1) (fun i x σ H' H'' hi hP hY => ?_) fun σ H' hP => ?_⟩⟩
      · obtain ⟨rfl, k, v, hk, rfl⟩ := hY
        rw [List.getElem?_map] at hk
        obtain ⟨l, hli, hkv⟩ := Option.map_eq_some_iff.mp hk
        cases hkv
        obtain ⟨sm, hfz, ⟨x0, y0, rfl⟩, ho⟩ := hP
        have hl := List.mem_of_getElem? hli
        have hw := hwid _ hl
        have hlen : (nxt (ls.take i) t).length ≤ 64 := Nat.le_trans (nxt_length _ _) (by rw [List.length_take]; omega)
        have kp : Keep H H'' := fun c xs hc => sm c _ hc (fun e => by
          rw [e, ha] at hc
          cases hc)
        refine ⟨_, rfl, _, rfl, l, b, t, rfl, ht.keep kp, hok, by omega, fun H2 s2 => ?_⟩
        have ho2 := s2 _ _ ho
        have sm2 : ∀ c y, H c = some y → c ≠ a → H2 c = some y := fun c y hc hca => s2 _ _ (sm c y hc hca)
        have hfz2 := s2 _ _ hfz
        refine ⟨_, rfl, rfl, _, rfl, ?_⟩
        cases hrd : read l t with
        | none =>
          refine iteF ⟨sm2, hfz2, ⟨_, _, rfl⟩, ?_⟩
          rw [nxt_take ls t hli, hrd]
          exact ho2
        | some x =>
          refine iteT ⟨_, rfl, _, rfl, _, _, rfl, DPut.k (k := Sum.inr (S x)) ho2 (by rw [List.length_map]; exact small (by omega)), ?_⟩
          refine ⟨fun c y hc hca => ?_, ?_, ⟨_, _, rfl⟩, ?_⟩
          · rw [upd_ne (no2 c y hc)]
            exact sm2 _ _ hc hca
          · rw [upd_ne oa.symm]
            exact hfz2
          · rw [upd_same, put_kS, nxt_take ls t hli, hrd]
            rfl
      · obtain ⟨sm, hfz, ⟨x, y, rfl⟩, ho⟩ := hP
        refine ⟨hfz, _, rfl, q _ o (fun c y hc => ?_) ?_⟩
        · by_cases e : c = a
          · rw [e] at hc ⊢
            rw [upd_same, ← ha, hc]
          · rw [upd_ne e]
            exact sm c y hc e
        · rw [upd_ne oa, ho, List.length_map, List.take_length]
/-! ### known -/
def sp_known : Sp := fun vs H Q _ => ∃ (z : Nat) (a : Addr) (ts : List (List Md)), vs = [.int (z : Nat), .ref a] ∧ 1 ≤ z ∧ z ≤ 6 ∧ Ts H a ts ∧ ts.length ≤ 20 ∧ (∀ t ∈ ts, TlOk t) ∧
  ∀ H' p (ys : List Str), Same H H' → ys.Perm ((aft (allL z) ts).map S) → sortedS ys = true → H' p = some (.tup (ys.map V.str)) → Q (.ref p) H'
theorem aft_take (ls : List Ln) (ts : List (List Md)) {i : Nat} {t : List Md} (h : ts[i]? = some t) : aft ls (ts.take (i + 1)) = nxt (aft ls (ts.take i)) t := by
  rw [List.take_add_one, h]
  exact aft_snoc ls _ t
theorem all_len6 {z : Nat} (h : z ≤ 6) : (allL z).length ≤ 64 := by
  rw [allL_length]
  exact pow_le6 h
theorem aft_len6 {z : Nat} (h : z ≤ 6) (ts : List (List Md)) : (aft (allL z) ts).length ≤ 64 := Nat.le_trans (aft_length _ _) (all_len6 h)
theorem aft_wid (z : Nat) (ts : List (List Md)) : ∀ l ∈ aft (allL z) ts, l.length = z := aft_width (fun _ h => allL_mem.mp h) ts
theorem ok_known (T : Tx K mg A D) : FnOk P w K mg base CX0 6 (A 41) (D 41) ["width", "tellings"] sp_known := by
  have G_need_late := ok_need_late (P := P) (w := w) (base := base) T
  have G_lines_of_width := ok_lines_of_width (P := P) (w := w) (base := base) T
  have G_next_known := ok_next_known (P := P) (w := w) (base := base) T
  refine T.o_known.F.ok sc_known (fun vs H Q E h => ?_) (fun cdv Ar outer s H vs Q E hr h => ?_)
  · obtain ⟨_, _, _, rfl, _⟩ := h
    rfl
  · obtain ⟨z, a, ts, rfl, z1, z2, hts, hl, hok, q⟩ := h
    by_cases hn : ts = []
    · refine ⟨_, (pss_cons (ps_expr (pe_call G_need_late (hr.mono (by decide)) (by rfl) T.o_need_late.g T.o_need_late.F.kp T.o_need_late.b .nil pass0 (pa_cons (pv 0) (pa_cons (pv 1) pa_nil))))
      (pss_cons (ps_set (i := 2) sc_known.nd rfl (Or.inl rfl) (pe_call G_lines_of_width (hr.mono (by decide)) (by rfl) T.o_lines_of_width.g T.o_lines_of_width.F.kp T.o_lines_of_width.b .nil pass0 (pa_cons (pv 0) pa_nil)))
      (pss_cons (ps_for PassesOwn.never rfl (pi_tup (pv 1)) (pg_name (i := 3) sc_known.nd rfl (Or.inl rfl)) (pss_one (ps_set (i := 2) sc_known.nd rfl (Or.inl rfl) (pe_call G_next_known (hr.mono (by decide)) (by rfl) T.o_next_known.g T.o_next_known.F.kp T.o_next_known.b .nil pass0 (pa_cons (pv 2) (pa_cons (pv 3) pa_nil))))))
      (pss_one (ps_ret (pe_callTy call_tuple_of (by rfl) T.n_tuple (by decide +kernel) (pa_cons (pe_callB cr_sortS (by rfl) T.n_sorted (by decide +kernel) (pa_cons (pe_callTy call_list_of (by rfl) T.n_list (by decide +kernel) (pa_cons (pv 2) pa_nil)) pa_nil)) pa_nil))))))), ?_⟩
      refine ⟨_, rfl, _, rfl, z, a, ts, rfl, z1, z2, hts, hl, hok, fun H1 s1 => ?_⟩
      refine ⟨_, rfl, z, rfl, z2, fun H2 p s2 np hp => ?_⟩
      have s12 := s1.trans s2
      have hts0 := hts
      obtain ⟨bs, h1, h2, h3⟩ := hts
      refine ⟨_, rfl, a, rfl, ⟨_, tupT (s12 _ _ h1)⟩, for_tup (xs := bs.map V.ref) (fun i σ H' => Same H H' ∧ ∃ (p : Addr) (x : Option V), σ = [some (.int (z : Nat)), some (.ref a), some (.ref p), x] ∧ ((i = 0 ∧ H' p = some (.lst ((aft (allL z) (ts.take i)).map vS))) ∨ (0 < i ∧ H' p = some (.dK ((aft (allL z) (ts.take i)).map kS)))))
        ⟨s12, p, none, rfl, .inl ⟨rfl, hp⟩⟩ (fun i σ H' _ hP => tupT (hP.1 _ _ h1)) (fun i x σ H' hx hP => ?_) fun σ H' hP => ?_⟩
      · obtain ⟨sm, p, x0, rfl, hLn⟩ := hP
        rw [List.getElem?_map] at hx
        obtain ⟨b, hb, rfl⟩ := Option.map_eq_some_iff.mp hx
        have hi : i < ts.length := by
          rw [← h2]
          exact (List.getElem?_eq_some_iff.mp hb).1
        have hti : ts[i]? = some ts[i] := List.getElem?_eq_getElem hi
        refine ⟨_, rfl, _, rfl, p, b, aft (allL z) (ts.take i), ts[i], rfl, ?_, (h3 i b _ hb hti).keep (Keep.of sm), hok _ (List.getElem_mem hi), fun l hl => by rw [aft_wid z _ l hl]; exact z2, aft_len6 z2 _, fun H3 p3 s3 hp3 => ?_⟩
        · rcases hLn with e | e
          · exact .inl e.2
          · exact .inr e.2
        · refine ⟨sm.trans s3, p3, _, rfl, .inr ⟨Nat.succ_pos _, ?_⟩⟩
          rw [hp3, aft_take _ _ hti]
      · obtain ⟨sm, p, x0, rfl, hLn⟩ := hP
        rw [List.length_map, h2, List.take_length] at hLn
        have hp : H' p = some (.lst ((aft (allL z) ts).map vS)) := by
          rcases hLn with e | e
          · exact e.2
          · rw [hn] at e
            exact absurd e.1 (Nat.lt_irrefl 0)
        have cont : ∀ p3, H' p3 = none → ∀ ys p, ys.Perm ((aft (allL z) ts).map S) → sortedS ys = true → (upd H' p3 (.lst ((aft (allL z) ts).map vS))) p = none → ∀ p4, (upd (upd H' p3 (.lst ((aft (allL z) ts).map vS))) p (.lst (ys.map V.str))) p4 = none → Q (.ref p4) (upd (upd (upd H' p3 (.lst ((aft (allL z) ts).map vS))) p (.lst (ys.map V.str))) p4 (.tup (ys.map V.str))) := fun p3 n3 ys p hp hs np p4 n4 =>
          q _ p4 ys (((sm.trans (same_upd n3)).trans (same_upd np)).trans (same_upd n4)) hp hs upd_same
        refine ⟨_, rfl, p, _, rfl, .inl (lstL hp), fun p3 n3 => ?_⟩
        refine ⟨p3, (aft (allL z) ts).map S, rfl, lstL (by rw [upd_same, map_vS]), fun ys p5 hperm hsort n5 => ⟨p5, _, rfl, .inl ⟨lstL upd_same, fun p4 n4 => cont p3 n3 ys p5 hperm hsort n5 p4 n4⟩⟩⟩
    · refine ⟨_, (pss_cons (ps_expr (pe_call G_need_late (hr.mono (by decide)) (by rfl) T.o_need_late.g T.o_need_late.F.kp T.o_need_late.b .nil pass0 (pa_cons (pv 0) (pa_cons (pv 1) pa_nil))))
      (pss_cons (ps_set (i := 2) sc_known.nd rfl (Or.inl rfl) (pe_call G_lines_of_width (hr.mono (by decide)) (by rfl) T.o_lines_of_width.g T.o_lines_of_width.F.kp T.o_lines_of_width.b .nil pass0 (pa_cons (pv 0) pa_nil)))
      (pss_cons (ps_for PassesOwn.never rfl (pi_tup (pv 1)) (pg_name (i := 3) sc_known.nd rfl (Or.inl rfl)) (pss_one (ps_set (i := 2) sc_known.nd rfl (Or.inl rfl) (pe_call G_next_known (hr.mono (by decide)) (by rfl) T.o_next_known.g T.o_next_known.F.kp T.o_next_known.b .nil pass0 (pa_cons (pv 2) (pa_cons (pv 3) pa_nil))))))
      (pss_one (ps_ret (pe_callTy call_tuple_of (by rfl) T.n_tuple (by decide +kernel) (pa_cons (pe_callB cr_sortS (by rfl) T.n_sorted (by decide +kernel) (pa_cons (pe_callTy (call_listD rfl) (by rfl) T.n_list (by decide +kernel) (pa_cons (pv 2) pa_nil)) pa_nil)) pa_nil))))))), ?_⟩
      refine ⟨_, rfl, _, rfl, z, a, ts, rfl, z1, z2, hts, hl, hok, fun H1 s1 => ?_⟩
      refine ⟨_, rfl, z, rfl, z2, fun H2 p s2 np hp => ?_⟩
      have s12 := s1.trans s2
      have hts0 := hts
      obtain ⟨bs, h1, h2, h3⟩ := hts
      refine ⟨_, rfl, a, rfl, ⟨_, tupT (s12 _ _ h1)⟩, for_tup (xs := bs.map V.ref) (fun i σ H' => Same H H' ∧ ∃ (p : Addr) (x : Option V), σ = [some (.int (z : Nat)), some (.ref a), some (.ref p), x] ∧ ((i = 0 ∧ H' p = some (.lst ((aft (allL z) (ts.take i)).map vS))) ∨ (0 < i ∧ H' p = some (.dK ((aft (allL z) (ts.take i)).map kS)))))
        ⟨s12, p, none, rfl, .inl ⟨rfl, hp⟩⟩ (fun i σ H' _ hP => tupT (hP.1 _ _ h1)) (fun i x σ H' hx hP => ?_) fun σ H' hP => ?_⟩
      · obtain ⟨sm, p, x0, rfl, hLn⟩ := hP
        rw [List.getElem?_map] at hx
        obtain ⟨b, hb, rfl⟩ := Option.map_eq_some_iff.mp hx
        have hi : i < ts.length := by
          rw [← h2]
          exact (List.getElem?_eq_some_iff.mp hb).1
        have hti : ts[i]? = some ts[i] := List.getElem?_eq_getElem hi
        refine ⟨_, rfl, _, rfl, p, b, aft (allL z) (ts.take i), ts[i], rfl, ?_, (h3 i b _ hb hti).keep (Keep.of sm), hok _ (List.getElem_mem hi), fun l hl => by rw [aft_wid z _ l hl]; exact z2, aft_len6 z2 _, fun H3 p3 s3 hp3 => ?_⟩
        · rcases hLn with e | e
          · exact .inl e.2
          · exact .inr e.2
        · refine ⟨sm.trans s3, p3, _, rfl, .inr ⟨Nat.succ_pos _, ?_⟩⟩
          rw [hp3, aft_take _ _ hti]
      · obtain ⟨sm, p, x0, rfl, hLn⟩ := hP
        rw [List.length_map, h2, List.take_length] at hLn
        have hp : H' p = some (.dK ((aft (allL z) ts).map kS)) := by
          rcases hLn with e | e
          · exact absurd (List.length_eq_zero_iff.mp e.1) hn
          · exact e.2
        have cont : ∀ p3, H' p3 = none → ∀ ys p, ys.Perm ((aft (allL z) ts).map S) → sortedS ys = true → (upd H' p3 (.lst ((aft (allL z) ts).map vS))) p = none → ∀ p4, (upd (upd H' p3 (.lst ((aft (allL z) ts).map vS))) p (.lst (ys.map V.str))) p4 = none → Q (.ref p4) (upd (upd (upd H' p3 (.lst ((aft (allL z) ts).map vS))) p (.lst (ys.map V.str))) p4 (.tup (ys.map V.str))) := fun p3 n3 ys p hp hs np p4 n4 =>
          q _ p4 ys (((sm.trans (same_upd n3)).trans (same_upd np)).trans (same_upd n4)) hp hs upd_same
        refine ⟨_, rfl, p, _, rfl, .inl hp, fun p3 n3 => ?_⟩
        rw [map_kS]
        refine ⟨p3, (aft (allL z) ts).map S, rfl, lstL (by rw [upd_same, map_vS]), fun ys p5 hperm hsort n5 => ⟨p5, _, rfl, .inl ⟨lstL upd_same, fun p4 n4 => cont p3 n3 ys p5 hperm hsort n5 p4 n4⟩⟩⟩
end
end K8
/-! K78p7: row_of, rows_in, sure_rows, settled -/
namespace K8
open PySem PySem.Spec PyProof.Rows L2
/-! ### y = {k: v for x in xs} -/
section
variable {X : Cx}
theorem sw_trueD {ka va : Expr} {gs : List Comprehension} {sco : Scope} {pos py : Pos} {y : Str} {l : Nat} {env : Env} (h1 : env.scope.kind = .function) (h2 : env.scope.names.lookup y = some .local) (h3 : (py.line == pos.line) = true)
    (h4 : (sco.names.any fun (n, k) => n == y && (k == .local || k == .cell)) = false) : swapsWith (.DictComp ka va gs sco pos) (some (.Name y py)) l env = pure true := by
  have q1 : env.kindOf y = some .local := h2
  have q2 : env.blockKind = .function := by
    unfold Env.blockKind
    rw [h1]
    rfl
  unfold swapsWith
  simp only [q2, q1, h4, Expr.pos, h3]
  rfl
theorem ps_setDc {i : Nat} {y : Str} {py : Pos} {kx vx tg iter : Expr} {ifs : List Expr} {sco : Scope} {own : List (Str × Nat)} {pos spos : Pos} {wi : TI} {g : TG} {tt : TT} {tk tv : TE} (hc : X.calm = true) (hN : X.N.Nodup) (hy : X.N[i]? = some y) (hyl : X.env.scope.names.lookup y = some .local)
    (hsw : swapsWith (.DictComp kx vx [⟨tg, iter, ifs, 0⟩] sco pos) (some (.Name y py)) spos.line X.env = pure true) (hi : PI X tg iter wi) (ok : BlkOk X.N X.env.scope sco own)
    (hg : ∀ (s : Shared) (H : Hp) (C : Addr) (cl : List (Str × Addr)) (fp : List Addr), PG (X.blk s H sco (compEnvC sco cl C X.env) fp) tg g) (ht : ∀ (s : Shared) (H : Hp) (C : Addr) (cl : List (Str × Addr)) (fp : List Addr), PTs (X.blk s H sco (compEnvC sco cl C X.env) fp) ifs tt)
    (hk : ∀ (s : Shared) (H : Hp) (C : Addr) (cl : List (Str × Addr)) (fp : List Addr), PE (X.blk s H sco (compEnvC sco cl C X.env) fp) kx tk)
    (he : ∀ (s : Shared) (H : Hp) (C : Addr) (cl : List (Str × Addr)) (fp : List Addr), PE (X.blk s H sco (compEnvC sco cl C X.env) fp) vx tv) (hs : ∀ x, foldedSetIterable iter X.env x = pure x := by intro _; rfl) :
    PS X (.Assign [.Name y py] (.DictComp kx vx [⟨tg, iter, ifs, 0⟩] sco pos) spos) (tAsg (tDc wi g tt tk tv (own.map (·.2))) (gName i)) := by
  refine ⟨fun pins s σ H D I h0 => ?_⟩
  rw [exec_Assign_Name_used _ _ _ _ hsw]
  refine wpAny_bind (wpAny_standAt (wpAny_bind ?_))
  show wpAny _ X.A (do let _ ← comprehension (.DictComp kx vx [⟨tg, iter, ifs, 0⟩] sco pos) sco X.env (firstIterPos [⟨tg, iter, ifs, 0⟩] pos) newDict false (eval iter X.env) (some (assign (.Name y py) X.env))) _ _ s
  have h1 : tDc wi g tt tk tv (own.map (·.2)) σ H (fun x H1 => gName i x σ H1 D.nx) := h0
  refine wpAny_bind (thn (dc_core (Qf := fun _ z => SP X pins D .next z) hc hN I hi ok hg ht hk he hs h1 fun L C z m G J q hn f => ?_) fun _ z hq => wpAny_pure (wpAny_pure hq))
  show wpAny _ _ (assign (.Name y py) X.env (.ref L)) _ _ _
  refine wpAny_assign_Name (store_ok2 (v := V.ref L) J hN hy (.inl hyl) rfl (fun t J2 ⟨a, sb, ha⟩ => ?_) (.inr hyl))
  obtain ⟨f0, f1, f2, f3, f4, f5⟩ := f
  have hCa : C ≠ a := by
    rcases ha with e | e
    · rw [e]
      exact f1
    · exact fun e2 => f4 y a e e2.symm
  exact ⟨m, hn.sameBut sb hCa, fun h3 sb3 => ⟨_, G, J2.turned (t' := t.toks) (fun b o hb e => (sb3.2 b hb).trans e) f0 f1 f3 f4 f5, q⟩⟩
end
/-! ### the kinds of dots at a place -/
def kin (ls : List Ln) (k : Nat) : List Ln := ls.foldl (fun acc l => putL acc [l.getD k false]) []
theorem kin_memF (k : Nat) (x : Ln) : ∀ (ls acc : List Ln), x ∈ ls.foldl (fun acc l => putL acc [l.getD k false]) acc ↔ x ∈ acc ∨ ∃ l ∈ ls, [l.getD k false] = x
  | [], acc => by simp
  | l :: ls, acc => by
    rw [List.foldl_cons, kin_memF k x ls, show putL acc [l.getD k false] = putO acc (some [l.getD k false]) from rfl, putO_mem]
    simp [or_assoc]
theorem kin_nodupF (k : Nat) : ∀ (ls acc : List Ln), acc.Nodup → (ls.foldl (fun acc l => putL acc [l.getD k false]) acc).Nodup
  | [], acc, h => h
  | l :: ls, acc, h => kin_nodupF k ls _ (putO_nodup (o := some [l.getD k false]) h)
theorem kin_len : ∀ (ls : List Ln) (k : Nat), (kin ls k).length ≤ ls.length := by
  intro ls k
  have h : ∀ (ls acc : List Ln), (ls.foldl (fun acc l => putL acc [l.getD k false]) acc).length ≤ acc.length + ls.length := by
    intro ls
    induction ls with
    | nil => intro acc; exact Nat.le_refl _
    | cons l ls ih =>
      intro acc
      have h1 := ih (putL acc [l.getD k false])
      have h2 := putO_length acc (some [l.getD k false])
      simp only [List.foldl_cons, List.length_cons]
      have h3 : (putL acc [l.getD k false]).length ≤ acc.length + 1 := h2
      omega
  have := h ls []
  simpa [kin] using this
theorem kin_take (ls : List Ln) (k : Nat) {i : Nat} {l : Ln} (h : ls[i]? = some l) : kin (ls.take (i + 1)) k = putL (kin (ls.take i) k) [l.getD k false] := by
  unfold kin
  rw [List.take_add_one, h, List.foldl_append]
  rfl
/-- one kind: the sign is the first line's; else it is unsure -/
theorem kin_sgn {l : Ln} {ls : List Ln} {k : Nat} : sgn (l :: ls) k = if (kin (l :: ls) k).length = 1 then cp (l.getD k false) else 63 := by
  have hm : ∀ x, x ∈ kin (l :: ls) k ↔ ∃ y ∈ l :: ls, [y.getD k false] = x := fun x => by
    unfold kin
    rw [kin_memF]
    simp
  have hn : (kin (l :: ls) k).Nodup := kin_nodupF k _ [] (by simp)
  by_cases h : ∀ y ∈ l :: ls, y.getD k false = l.getD k false
  · rw [sgn_some (by simp) h, if_pos]
    have hone : ∀ x ∈ kin (l :: ls) k, x = [l.getD k false] := fun x hx => by
      obtain ⟨y, hy, rfl⟩ := (hm x).mp hx
      rw [h y hy]
    have hin : [l.getD k false] ∈ kin (l :: ls) k := (hm _).mpr ⟨l, List.mem_cons_self, rfl⟩
    cases hk : kin (l :: ls) k with
    | nil =>
      rw [hk] at hin
      cases hin
    | cons a r =>
      rw [hk] at hone hn
      cases r with
      | nil => rfl
      | cons b r =>
        have e1 := hone a (by simp)
        have e2 := hone b (by simp)
        simp [e1, e2] at hn
  · obtain ⟨y, hy⟩ := Classical.not_forall.mp h
    obtain ⟨hy, hne⟩ := Classical.not_imp.mp hy
    rw [sgn_none hy List.mem_cons_self hne, if_neg]
    intro h1
    have i1 : [y.getD k false] ∈ kin (l :: ls) k := (hm _).mpr ⟨y, hy, rfl⟩
    have i2 : [l.getD k false] ∈ kin (l :: ls) k := (hm _).mpr ⟨l, List.mem_cons_self, rfl⟩
    obtain ⟨a, ha⟩ := List.length_eq_one_iff.mp h1
    rw [ha] at i1 i2
    have e1 := List.mem_singleton.mp i1
    have e2 := List.mem_singleton.mp i2
    rw [← e2] at e1
    exact hne (List.head_eq_of_cons_eq e1)
section
variable {P : Program} {w : World} {K : PySem.W.Frag} {mg : Str → Option Value} {base : Heap} {A : Nat → Addr} {D : Nat → FuncData}
/-! ### row_of -/
def sp_row_of : Sp := fun vs H Q _ => ∃ (z : Nat) (a : Addr) (ls : List Ln), vs = [.int (z : Nat), .ref a] ∧ z ≤ 6 ∧ H a = some (.dK (ls.map kS)) ∧ (∀ l ∈ ls, l.length = z) ∧ ls.length ≤ 64 ∧ ∀ H', Same H H' → Q (oR (rowL z ls)) H'
theorem ok_row_of (T : Tx K mg A D) : FnOk P w K mg base CX0 1 (A 42) (D 42) ["width", "lines"] sp_row_of := by
  refine T.o_row_of.F.ok sc_row_of (fun vs H Q E h => ?_) (fun cdv Ar outer s H vs Q E hr h => ?_)
  · obtain ⟨_, _, _, rfl, _⟩ := h
    rfl
  · obtain ⟨z, a, ls, rfl, hz, ha, hwid, hl, q⟩ := h
    refine ⟨_, (pss_cons (ps_set (i := 2) sc_row_of.nd rfl (Or.inl rfl) (pe_callTy (call_listD rfl) (by rfl) T.n_list (by decide +kernel) (pa_cons (pv 1) pa_nil)))
      (pss_cons (ps_if (pt_cmpR (op_eqD hr.units) (pv 2) (pe_lst pa_nil) (nomark _)) (pss_one (ps_ret pe_non)) pss_nil)
      (pss_cons (ps_set (i := 3) sc_row_of.nd rfl (Or.inl rfl) (pe_lit l_e))
      (pss_cons (ps_for PassesOwn.never rfl (pi_range1 (by rfl) T.n_range (pa_cons (pv 0) pa_nil)) (pg_name (i := 4) sc_row_of.nd rfl (Or.inr rfl)) (pss_cons (ps_setDc (i := 5) (own := [("line", 6)]) (g := gName 6) (tt := tYes) rfl sc_row_of.nd rfl rfl (sw_trueD rfl rfl rfl (by decide +kernel)) (pi_list (pv 2)) (blkOk_by (own := [("line", 6)]) (N := N_row_of) (sc := defScope s_row_of) (by decide +kernel)) (fun _ _ _ _ _ => pg_name (i := 6) sc_row_of.nd rfl (Or.inl rfl)) (fun _ _ _ _ _ => pts_nil) (fun _ _ _ _ _ => (pe_ix ix_str (pv 6) (pv 4) (fun _ _ => rfl))) (fun _ _ _ _ _ => pe_bl))
      (pss_one (ps_aug (i := 3) sc_row_of.nd rfl (Or.inl rfl) (pe_ifExp (pt_cmpR op_eq (pe_callB call_lenD (by rfl) T.n_len (by decide +kernel) (pa_cons (pv 5) pa_nil)) pe_int (nomark _)) (pe_ix ix_str (pe_ix ix_list (pv 2) pe_int (fun _ _ => rfl)) (pv 4) (fun _ _ => rfl)) (pe_k (by rfl) T.c_UNSURE)) ip_addS))))
      (pss_one (ps_ret (pv 3))))))), ?_⟩
    refine ⟨_, rfl, a, _, rfl, .inl ha, fun p np => ?_⟩
    rw [map_kS]
    have s1 : Same H (upd H p (.lst (ls.map vS))) := same_upd np
    refine ⟨_, rfl, Nat.zero_le _, fun o no => ?_⟩
    have s2 : Same H (upd (upd H p (.lst (ls.map vS))) o (.lst [])) := s1.trans (same_upd no)
    have hp2 : (upd (upd H p (.lst (ls.map vS))) o (.lst [])) p = some (.lst (ls.map vS)) := same_upd no _ _ upd_same
    obtain ⟨d, e, d1, d2, d3, d4, d5⟩ := nilL (K := K) (lstL hp2) (fun x hx => by
      obtain ⟨l, _, rfl⟩ := List.mem_map.mp hx
      exact .str (strOk_S l)) (lstL (a := o) (xs := []) upd_same)
    refine ⟨d, e, d1, d2, d3, d4, _, rfl, ?_⟩
    rw [d5]
    cases ls with
    | nil => exact iteT (q _ s2)
    | cons l ls =>
      refine iteF ?_
      have hr1 : rowL z (l :: ls) = some ((List.range z).map (sgn (l :: ls))) := by
        unfold rowL
        rw [if_neg (by simp)]
      rw [hr1] at q
      generalize hG : l :: ls = L at *
      refine ⟨_, rfl, (z : Nat), rfl, by omega, by omega, for_range (lo := 0) (n := ((z : Nat) : Int).toNat) (fun i σ H' => Same H H' ∧ H' p = some (.lst (L.map vS)) ∧ ∃ x y, σ = [some (.int (z : Nat)), some (.ref a), some (.ref p), some (.str (R ((List.range i).map (sgn L)))), x, y, none])
        ⟨s2, hp2, none, none, rfl⟩ (fun i σ H' hi hP => ?_) fun σ H' hP => ?_⟩
      · obtain ⟨sm, hp, x, y, rfl⟩ := hP
        have hiz : i < z := by omega
        refine ⟨_, rfl, p, rfl, ⟨_, lstL hp⟩, fun Dd nD => ?_⟩
        refine dc_it (walk_list (xs := L.map vS)) (fun k H2 => Same H' H2 ∧ H2 Dd = some (.dK ((kin (L.take k) i).map kS))) ⟨same_upd nD, upd_same⟩ (fun k H2 _ hP => lstL (hP.1 _ _ hp)) (fun k x2 H2 H3 hk hP hY => ?_) fun H2 hP => ?_
        · obtain ⟨rfl, hx⟩ := hY
          obtain ⟨sm2, hD⟩ := hP
          rw [List.getElem?_map] at hx
          obtain ⟨l2, hl2, rfl⟩ := Option.map_eq_some_iff.mp hx
          have hlz := hwid l2 (List.mem_of_getElem? hl2)
          have hkl : (kin (L.take k) i).length ≤ 64 := Nat.le_trans (kin_len _ _) (by rw [List.length_take]; omega)
          refine ⟨rfl, _, rfl, _, rfl, _, _, _, rfl, rfl, by show (S l2).length ≤ _; rw [S_length]; exact nat_small (by omega), ?_, _, Sum.inr (S [l2.getD i false]), rfl, hD, by rw [List.length_map]; exact small (by omega), fun b u hb => ?_, ?_⟩
          · have e0 : (0 : Int) + (i : Nat) = (i : Nat) := by omega
            rw [e0]
            exact S_atI (getD_at (by omega))
          · rw [upd_ne (ne_of_none hb nD)]
            exact sm2 _ _ hb
          · rw [upd_same, put_kS, kin_take L i hl2]
        · obtain ⟨sm2, hD⟩ := hP
          rw [List.length_map, List.take_length] at hD
          have hp2 := sm2 _ _ hp
          have hfin : ∀ c : Nat, c = sgn L i → R ((List.range i).map (sgn L)) ++ R [c] = R ((List.range (i + 1)).map (sgn L)) := fun c hc => by
            rw [R_append, hc, List.range_succ, List.map_append]
            rfl
          have hkin : sgn L i = if (kin L i).length = 1 then cp (l.getD i false) else 63 := by
            rw [← hG]
            exact kin_sgn
          have hl0 : L[0]? = some l := by
            rw [← hG]
            rfl
          have hlz := hwid l (List.mem_of_getElem? hl0)
          have szR : (R ((List.range i).map (sgn L))).length + 1 ≤ sizeLine := by
            rw [R_length, List.length_map, List.length_range]
            exact nat_small (by omega)
          refine ⟨_, rfl, _, rfl, Dd, _, rfl, hD, rfl, _, rfl, ?_⟩
          rw [List.length_map]
          refine iteD (fun h1 => ?_) fun h1 => ?_
          · have h1' : (kin L i).length = 1 := by
              have := V.int.inj h1
              omega
            refine ⟨_, rfl, p, _, _, vS l, rfl, rfl, lstL hp2, atI_nat (j := 0) (by rw [List.getElem?_map, hl0]; rfl), _, rfl, S l, _, cp (l.getD i false), rfl, rfl, by rw [S_length]; exact nat_small (by omega), ?_, _, _, rfl, rfl, ?_, ?_⟩
            · have e0 : (0 : Int) + (i : Nat) = (i : Nat) := by omega
              rw [e0]
              exact S_atI (getD_at (by omega))
            · exact szR
            · rw [if_pos h1'] at hkin
              exact ⟨sm.trans sm2, hp2, _, _, by rw [← hfin _ hkin.symm]; rfl⟩
          · have h1' : ¬ (kin L i).length = 1 := fun e => h1 (congrArg V.int (by omega))
            rw [if_neg h1'] at hkin
            exact ⟨_, _, rfl, rfl, szR, sm.trans sm2, hp2, _, _, by rw [← hfin _ hkin.symm]; rfl⟩
      · obtain ⟨sm, hp, x, y, rfl⟩ := hP
        rw [Int.toNat_natCast]
        exact ⟨_, rfl, q _ sm⟩
end
end K8
/-! K78p8: rows_in, sure_rows, settled -/
namespace K8
open PySem PySem.Spec PyProof.Rows L2
theorem rws_stop (z : Nat) (ls : List Ln) (ts : List (List Md)) (h : none ∈ rws z ls ts) : ∀ us, rws z ls (ts ++ us) = rws z ls ts := fun us => by
  refine rev_ind (P := fun us => rws z ls (ts ++ us) = rws z ls ts) (by rw [List.append_nil]) (fun us u ih => ?_) us
  rw [← List.append_assoc, rws_snoc, ih, if_pos h]
theorem rws_take (z : Nat) (ls : List Ln) (ts : List (List Md)) {i : Nat} {t : List Md} (h : ts[i]? = some t) (hn : none ∉ rws z ls (ts.take i)) : rws z ls (ts.take (i + 1)) = rws z ls (ts.take i) ++ [rowL z (nxt (aft ls (ts.take i)) t)] := by
  rw [List.take_add_one, h]
  show rws z ls (ts.take i ++ [t]) = _
  rw [rws_snoc, if_neg hn]
theorem oR_none {r : Option (List Nat)} : oR r = .non ↔ r = none := by
  cases r with
  | none => exact ⟨fun _ => rfl, fun _ => rfl⟩
  | some x => exact ⟨fun h => (nomatch h), fun h => (nomatch h)⟩
theorem strOk_R {r : List Nat} (h : ∀ c ∈ r, c = 35 ∨ c = 46 ∨ c = 63) : PyData.strOk (R r) = true := by
  show (r.toArray).all (· < 0x110000) = true
  rw [← Array.all_toList, List.all_eq_true]
  intro x hx
  rcases h x hx with e | e | e <;> (rw [e]; rfl)
theorem Da.oR {K : PySem.W.Frag} {H : Hp} {n z : Nat} {ls : List Ln} {ts : List (List Md)} : ∀ x ∈ (rws z ls ts).map oR, Da K H n x := fun x hx => by
  obtain ⟨r, hr, rfl⟩ := List.mem_map.mp hx
  cases r with
  | none => exact .non
  | some r => exact .str (strOk_R (rws_ok z ls ts r hr).2)
section
variable {P : Program} {w : World} {K : PySem.W.Frag} {mg : Str → Option Value} {base : Heap} {A : Nat → Addr} {D : Nat → FuncData}
/-! ### rows_in -/
def sp_rows_in : Sp := fun vs H Q _ => ∃ (z : Nat) (a : Addr) (ts : List (List Md)), vs = [.int (z : Nat), .ref a] ∧ z ≤ 6 ∧ Ts H a ts ∧ ts.length ≤ 20 ∧ (∀ t ∈ ts, TlOk t) ∧
  ∀ H' p, Same H H' → H' p = some (.lst ((rws z (allL z) ts).map oR)) → Q (.ref p) H'
theorem ok_rows_in (T : Tx K mg A D) : FnOk P w K mg base CX0 5 (A 43) (D 43) ["width", "tellings"] sp_rows_in := by
  have G_lines_of_width := ok_lines_of_width (P := P) (w := w) (base := base) T
  have G_next_known := ok_next_known (P := P) (w := w) (base := base) T
  have G_row_of := ok_row_of (P := P) (w := w) (base := base) T
  refine T.o_rows_in.F.ok sc_rows_in (fun vs H Q E h => ?_) (fun cdv Ar outer s H vs Q E hr h => ?_)
  · obtain ⟨_, _, _, rfl, _⟩ := h
    rfl
  · obtain ⟨z, a, ts, rfl, hz, ⟨bs, h1, h2, h3⟩, hl, hok, q⟩ := h
    refine ⟨_, (pss_cons (ps_par (i := 2) (j := 3) rfl sc_rows_in.nd rfl rfl (by decide) rfl rfl (pa_cons (pe_call G_lines_of_width (hr.mono (by decide)) (by rfl) T.o_lines_of_width.g T.o_lines_of_width.F.kp T.o_lines_of_width.b .nil pass0 (pa_cons (pv 0) pa_nil)) (pa_cons (pe_lst pa_nil) pa_nil)) (by rfl))
      (pss_cons (ps_for PassesOwn.never rfl (pi_tup (pv 1)) (pg_name (i := 4) sc_rows_in.nd rfl (Or.inl rfl)) (pss_cons (ps_set (i := 2) sc_rows_in.nd rfl (Or.inl rfl) (pe_call G_next_known (hr.mono (by decide)) (by rfl) T.o_next_known.g T.o_next_known.F.kp T.o_next_known.b .nil pass0 (pa_cons (pv 2) (pa_cons (pv 4) pa_nil))))
      (pss_cons (ps_expr (pe_bm PySem.F.plainAttrs_list PySem.F.slot_list_append PySem.F.type_list_append mt_append (pv 3) (pa_cons (pe_call G_row_of (hr.mono (by decide)) (by rfl) T.o_row_of.g T.o_row_of.F.kp T.o_row_of.b .nil pass0 (pa_cons (pv 0) (pa_cons (pv 2) pa_nil))) pa_nil)))
      (pss_one (ps_if (pt_cmpR op_isN (pe_ix ix_list (pv 3) (pe_un un_neg pe_int) (fun _ _ => rfl)) pe_non (nomark _)) (pss_one (ps_ret (pv 3))) pss_nil)))))
      (pss_one (ps_ret (pv 3))))), ?_⟩
    refine ⟨_, rfl, z, rfl, hz, fun H1 p s1 np hp => ⟨Nat.zero_le _, fun o no => ⟨_, _, rfl, ?_⟩⟩⟩
    have s2 : Same H (upd H1 o (.lst [])) := s1.trans (same_upd no)
    have no0 : H o = none := s1.free no
    refine ⟨_, rfl, a, rfl, ⟨_, tupT (s2 _ _ h1)⟩, for_tup (xs := bs.map V.ref) (fun i σ H' => Same H H' ∧ ∃ (p : Addr) (x : Option V), σ = [some (.int (z : Nat)), some (.ref a), some (.ref p), some (.ref o), x] ∧ Lns H' p (aft (allL z) (ts.take i)) ∧ H' o = some (.lst ((rws z (allL z) (ts.take i)).map oR)) ∧ none ∉ rws z (allL z) (ts.take i))
      ⟨s2, p, none, rfl, .inl (same_upd no _ _ hp), upd_same, by simp [rws]⟩ (fun i σ H' _ hP => tupT (hP.1 _ _ h1)) (fun i x σ H' hx hP => ?_) fun σ H' hP => ?_⟩
    · obtain ⟨sm, p, x0, rfl, hLn, ho, hnn⟩ := hP
      rw [List.getElem?_map] at hx
      obtain ⟨b, hb, rfl⟩ := Option.map_eq_some_iff.mp hx
      have hi : i < ts.length := by
        rw [← h2]
        exact (List.getElem?_eq_some_iff.mp hb).1
      have hti : ts[i]? = some ts[i] := List.getElem?_eq_getElem hi
      have hwid := aft_wid z (ts.take i)
      refine ⟨_, rfl, _, rfl, p, b, aft (allL z) (ts.take i), ts[i], rfl, hLn, (h3 i b _ hb hti).keep (Keep.of sm), hok _ (List.getElem_mem hi), fun l hl => by rw [hwid l hl]; exact hz, aft_len6 hz _, fun H3 p3 s3 hp3 => ?_⟩
      have ho3 := s3 _ _ ho
      refine ⟨_, rfl, .inl ⟨rfl, _, lstL ho3⟩, _, rfl, _, rfl, z, p3, nxt (aft (allL z) (ts.take i)) ts[i], rfl, hz, hp3, nxt_width hwid, Nat.le_trans (nxt_length _ _) (aft_len6 hz _), fun H4 s4 => ?_⟩
      have ho4 := s4 _ _ ho3
      have htk := rws_take z (allL z) ts hti hnn
      have hrl := rws_length z (allL z) (ts.take i)
      refine ⟨o, _, _, rfl, rfl, ho4, ?_, ?_⟩
      · rw [List.length_map]
        rw [List.length_take] at hrl
        exact small (by omega)
      · have hnew : (rws z (allL z) (ts.take i)).map oR ++ [oR (rowL z (nxt (aft (allL z) (ts.take i)) ts[i]))] = (rws z (allL z) (ts.take (i + 1))).map oR := by
          rw [htk, List.map_append]
          rfl
        have sm5 : Same H (upd H4 o (.lst ((rws z (allL z) (ts.take (i + 1))).map oR))) := fun c y hc => by
          rw [upd_ne (ne_of_none hc no0)]
          exact s4 _ _ (s3 _ _ (sm _ _ hc))
        refine ⟨_, rfl, 1, rfl, o, _, -1, _, rfl, rfl, lstL upd_same, atI_last _ _, rfl, _, rfl, ?_⟩
        rw [hnew]
        refine iteD (fun hnone => ?_) fun hsome => ?_
        · have hrn := oR_none.mp hnone
          have hin : none ∈ rws z (allL z) (ts.take (i + 1)) := by
            rw [htk, hrn]
            simp
          have hall : rws z (allL z) ts = rws z (allL z) (ts.take (i + 1)) := by
            have := rws_stop z (allL z) (ts.take (i + 1)) hin (ts.drop (i + 1))
            rw [List.take_append_drop] at this
            exact this
          refine ⟨_, rfl, q _ o sm5 ?_⟩
          rw [upd_same, hall]
        · refine ⟨sm5, p3, _, rfl, .inr ?_, upd_same, ?_⟩
          · have po : p3 ≠ o := fun e => by
              have h5 := s4 _ _ hp3
              rw [e, ho4] at h5
              cases h5
            rw [upd_ne po, aft_take _ _ hti]
            exact s4 _ _ hp3
          · rw [htk]
            simp only [List.mem_append, List.mem_singleton, not_or]
            exact ⟨hnn, fun e => hsome (oR_none.mpr e.symm)⟩
    · obtain ⟨sm, p, x0, rfl, hLn, ho, hnn⟩ := hP
      rw [List.length_map, h2, List.take_length] at ho
      exact ⟨_, rfl, q _ o sm ho⟩
/-! ### sure_rows -/
def sp_sure_rows : Sp := fun vs H Q _ => ∃ (z : Nat) (a : Addr) (ts : List (List Md)), vs = [.int (z : Nat), .ref a] ∧ 1 ≤ z ∧ z ≤ 6 ∧ Ts H a ts ∧ ts.length ≤ 20 ∧ (∀ t ∈ ts, TlOk t) ∧
  ∀ H' p, Same H H' → H' p = some (.tup ((rws z (allL z) ts).map oR)) → Q (.ref p) H'
theorem ok_sure_rows (T : Tx K mg A D) : FnOk P w K mg base CX0 6 (A 44) (D 44) ["width", "tellings"] sp_sure_rows := by
  have G_need_late := ok_need_late (P := P) (w := w) (base := base) T
  have G_rows_in := ok_rows_in (P := P) (w := w) (base := base) T
  refine T.o_sure_rows.F.ok sc_sure_rows (fun vs H Q E h => ?_) (fun cdv Ar outer s H vs Q E hr h => ?_)
  · obtain ⟨_, _, _, rfl, _⟩ := h
    rfl
  · obtain ⟨z, a, ts, rfl, z1, z2, hts, hl, hok, q⟩ := h
    refine ⟨_, (pss_cons (ps_expr (pe_call G_need_late (hr.mono (by decide)) (by rfl) T.o_need_late.g T.o_need_late.F.kp T.o_need_late.b .nil pass0 (pa_cons (pv 0) (pa_cons (pv 1) pa_nil))))
      (pss_one (ps_ret (pe_callTy call_tuple_of (by rfl) T.n_tuple (by decide +kernel) (pa_cons (pe_call G_rows_in (hr.mono (by decide)) (by rfl) T.o_rows_in.g T.o_rows_in.F.kp T.o_rows_in.b .nil pass0 (pa_cons (pv 0) (pa_cons (pv 1) pa_nil))) pa_nil))))), ?_⟩
    refine ⟨_, rfl, _, rfl, z, a, ts, rfl, z1, z2, hts, hl, hok, fun H1 s1 => ?_⟩
    refine ⟨_, rfl, _, rfl, z, a, ts, rfl, z2, hts.keep (Keep.of s1), hl, hok, fun H2 p s2 hp => ?_⟩
    exact ⟨p, _, rfl, .inl ⟨lstL hp, fun r nr => q _ r ((s1.trans s2).trans (same_upd nr)) upd_same⟩⟩
/-! ### settled -/
def sp_settled : Sp := fun vs H Q _ => ∃ (z : Nat) (a : Addr) (ts : List (List Md)), vs = [.int (z : Nat), .ref a] ∧ 1 ≤ z ∧ z ≤ 6 ∧ Ts H a ts ∧ ts.length ≤ 20 ∧ (∀ t ∈ ts, TlOk t) ∧
  ∀ H', Same H H' → Q (oN (stlD (rws z (allL z) ts))) H'
theorem ok_settled (T : Tx K mg A D) : FnOk P w K mg base CX0 6 (A 45) (D 45) ["width", "tellings"] sp_settled := by
  have G_need_late := ok_need_late (P := P) (w := w) (base := base) T
  have G_rows_in := ok_rows_in (P := P) (w := w) (base := base) T
  refine T.o_settled.F.ok sc_settled (fun vs H Q E h => ?_) (fun cdv Ar outer s H vs Q E hr h => ?_)
  · obtain ⟨_, _, _, rfl, _⟩ := h
    rfl
  · obtain ⟨z, a, ts, rfl, z1, z2, hts, hl, hok, q⟩ := h
    refine ⟨_, (pss_cons (ps_expr (pe_call G_need_late (hr.mono (by decide)) (by rfl) T.o_need_late.g T.o_need_late.F.kp T.o_need_late.b .nil pass0 (pa_cons (pv 0) (pa_cons (pv 1) pa_nil))))
      (pss_cons (ps_set (i := 2) sc_settled.nd rfl (Or.inl rfl) (pe_call G_rows_in (hr.mono (by decide)) (by rfl) T.o_rows_in.g T.o_rows_in.F.kp T.o_rows_in.b .nil pass0 (pa_cons (pv 0) (pa_cons (pv 1) pa_nil))))
      (pss_cons (ps_if (PW.pt (pw_or (pt_cmpR (op_eqD hr.units) (pv 2) (pe_lst pa_nil) (nomark _)) (pw_or1 (pt_cmpR op_isN (pe_ix ix_list (pv 2) (pe_un un_neg pe_int) (fun _ _ => rfl)) pe_non (nomark _))))) (pss_one (ps_ret pe_non)) pss_nil)
      (pss_cons (ps_setLc (i := 3) (own := [("number", 5), ("row", 6)]) (g := (gTup K 2 (gCons (gName 5) (gCons (gName 6) gNil)))) rfl sc_settled.nd rfl rfl (sw_true rfl rfl rfl (by decide +kernel)) (pi_enum (by rfl) T.n_enumerate (pa_cons (pv 2) pa_nil)) (blkOk_by (own := [("number", 5), ("row", 6)]) (N := N_settled) (sc := defScope s_settled) (by decide +kernel)) (fun _ _ _ _ _ => pg_tup rfl (pgs_cons (pg_name (i := 5) sc_settled.nd rfl (Or.inl rfl)) (pgs_cons (pg_name (i := 6) sc_settled.nd rfl (Or.inl rfl)) pgs_nil))) (fun _ _ _ _ _ => pts_one (pt_cmpR op_in_sign (pe_k (by rfl) T.c_UNSURE) (pv 6) rfl)) (fun _ _ _ _ _ => (pv 5)))
      (pss_mid (ps_set (i := 4) sc_settled.nd rfl (Or.inl rfl) (pe_ifExp (pt_cmpR (op_neD hr.units) (pv 3) (pe_lst pa_nil) (nomark _)) (pe_op op_add (pe_ix ix_list (pv 3) (pe_un un_neg pe_int) (fun _ _ => rfl)) pe_int) pe_int))
      (pss_one (ps_ret (pe_ifExp (pt_cmpR op_lt (pv 4) (pe_callB call_len_seq (by rfl) T.n_len (by decide +kernel) (pa_cons (pv 2) pa_nil)) (nomark _)) (pv 4) pe_non)))))))), ?_⟩
    refine ⟨_, rfl, _, rfl, z, a, ts, rfl, z1, z2, hts, hl, hok, fun H1 s1 => ?_⟩
    refine ⟨_, rfl, _, rfl, z, a, ts, rfl, z2, hts.keep (Keep.of s1), hl, hok, fun H2 p s2 hp => ?_⟩
    have s12 := s1.trans s2
    refine ⟨_, rfl, Nat.zero_le _, fun o no => ?_⟩
    have s3 : Same H2 (upd H2 o (.lst [])) := same_upd no
    obtain ⟨d, e, d1, d2, d3, d4, d5⟩ := nilL (K := K) (lstL (s3 _ _ hp)) Da.oR (lstL (a := o) (xs := []) upd_same)
    refine ⟨d, e, d1, d2, d3, d4, _, rfl, ?_⟩
    rw [d5]
    have hrok : ∀ r, some r ∈ rws z (allL z) ts → ∀ c ∈ r, c = 35 ∨ c = 46 ∨ c = 63 := fun r hr => (rws_ok z _ ts r hr).2
    have hrl := rws_length z (allL z) ts
    have hrn := rws_none z (allL z) ts
    have hp3 := s3 _ _ hp
    have s13 := s12.trans s3
    generalize rws z (allL z) ts = rs at *
    by_cases hemp : rs = []
    · subst hemp
      exact iteT (iteT (q _ s13))
    · obtain ⟨rs', r, rfl⟩ : ∃ rs' r, rs = rs' ++ [r] := ⟨rs.dropLast, rs.getLast hemp, (List.dropLast_concat_getLast hemp).symm⟩
      have hne : ((rs' ++ [r]).map oR).isEmpty = false := by
        cases rs' <;> rfl
      rw [hne]
      have hlast : atI ((rs' ++ [r]).map oR) (-1) = some (oR r) := by
        rw [List.map_append]
        exact atI_last _ _
      refine iteF ⟨_, rfl, 1, rfl, p, _, -1, _, rfl, rfl, lstL hp3, hlast, rfl, _, rfl, iteD (fun h => ?_) fun h => ?_⟩
      · have hin : none ∈ rs' ++ [r] := by
          rw [oR_none.mp h]
          simp
        have q2 := q _ s13
        unfold stlD at q2
        rw [if_pos hin] at q2
        exact q2
      · have hin : none ∉ rs' ++ [r] := fun z0 => by
          have := (hrn z0).2
          rw [List.getLast?_append] at this
          simp at this
          exact h (oR_none.mpr this)
        unfold stlD at q
        rw [if_neg hin, stl_eq] at q
        generalize rs' ++ [r] = rs at *
        refine ⟨_, rfl, p, _, rfl, lstL hp3, fun Dd nD => ?_⟩
        refine lc_it (walk_enum (xs := rs.map oR)) (fun k H' => Same (upd H2 o (.lst [])) H' ∧ ∃ ns : List Nat, H' Dd = some (.lst (ns.map vN)) ∧ ns.length ≤ k ∧ ((ns = [] ∧ lastU (rs.take k) = 0) ∨ ∃ ns' m, ns = ns' ++ [m] ∧ lastU (rs.take k) = m + 1))
          ⟨same_upd nD, [], upd_same, Nat.le_refl _, .inl ⟨rfl, rfl⟩⟩ (fun k H' _ hP => lstL (hP.1 _ _ hp3)) (fun k x H' H'' hk hP hY => ?_) fun H' hP => ?_
        · obtain ⟨sm, ns, hD, hnl, hns⟩ := hP
          obtain ⟨u, x1, x2, rfl, nu, rfl, e1, e2⟩ := hY
          cases e1
          replace e2 : (rs.map oR)[k]? = some x2 := e2
          rw [List.getElem?_map] at e2
          obtain ⟨ro, hro, rfl⟩ := Option.map_eq_some_iff.mp e2
          have hmem := List.mem_of_getElem? hro
          cases ro with
          | none => exact absurd hmem hin
          | some rr =>
            have htk : rs.take (k + 1) = rs.take k ++ [some rr] := by
              rw [List.take_add_one, hro]
              rfl
            rw [List.length_map] at hk
            have hlk : (rs.take k).length = k := by
              rw [List.length_take]
              omega
            have sm2 := sm.trans (same_upd (o := .tup [.int (k : Nat), oR (some rr)]) nu)
            refine ⟨u, _, rfl, .inl (.inl upd_same), rfl, _, _, rfl, _, [], rfl, rfl, rfl, ?_⟩
            refine ⟨_, rfl, 63, R rr, rfl, rfl, _, rfl, ?_⟩
            have hl2 := lastU_snoc (rs.take k) (some rr)
            rw [← htk, hlk] at hl2
            refine iteD (fun h63 => ?_) fun h63 => ?_
            · have hs : sureO (some rr) = false := by
                show (!rr.contains 63) = false
                have : rr.contains 63 = true := by
                  rw [List.contains_iff_mem]
                  exact h63
                rw [this]
                rfl
              rw [hs] at hl2
              have uD : Dd ≠ u := ne_of_none hD nu
              refine ⟨_, rfl, _, by rw [upd_ne uD]; exact hD, by rw [List.length_map]; exact small (by omega), fun c y hc => ?_, ns ++ [k], ?_, ?_, .inr ⟨ns, k, rfl, hl2⟩⟩
              · rw [upd_ne (ne_of_none hc nD)]
                exact sm2 _ _ hc
              · rw [upd_same, List.map_append]
                rfl
              · rw [List.length_append]
                exact Nat.succ_le_succ hnl
            · have hs : sureO (some rr) = true := by
                show (!rr.contains 63) = true
                have : rr.contains 63 = false := by
                  rw [Bool.eq_false_iff]
                  intro z0
                  exact h63 (List.contains_iff_mem.mp z0)
                rw [this]
                rfl
              rw [hs] at hl2
              have uD : Dd ≠ u := ne_of_none hD nu
              refine ⟨sm2, ns, by rw [upd_ne uD]; exact hD, Nat.le_succ_of_le hnl, ?_⟩
              rw [hl2]
              exact hns
        · obtain ⟨sm, ns, hD, hnl, hns⟩ := hP
          rw [List.length_map] at hnl
          rw [List.length_map, List.take_length] at hns
          have hp4 := sm _ _ hp3
          have s14 := s13.trans sm
          refine ⟨fun σ' H3 => Same H H3 ∧ H3 p = some (.lst (rs.map oR)) ∧ ∃ x y, σ' = [some (.int (z : Nat)), some (.ref a), some (.ref p), x, some (.int (lastU rs : Nat)), none, y], ?_, fun σ' H3 hM => ?_⟩
          · refine ⟨_, rfl, Nat.zero_le _, fun u nu => ?_⟩
            have s5 : Same H' (upd H' u (.lst [])) := same_upd nu
            obtain ⟨d, e, d1, d2, d3, d4, d5⟩ := nilL (K := K) (lstL (s5 _ _ hD)) (fun x hx => by
              obtain ⟨n, _, rfl⟩ := List.mem_map.mp hx
              exact .int _) (lstL (a := u) (xs := []) upd_same)
            refine ⟨d, e, d1, d2, d3, d4, _, rfl, ?_⟩
            rw [d5]
            rcases hns with ⟨rfl, hu⟩ | ⟨ns', m, rfl, hu⟩
            · refine iteF ⟨s14.trans s5, s5 _ _ hp4, some (.ref Dd), none, ?_⟩
              rw [hu]
              rfl
            · have hne2 : (!((ns' ++ [m]).map vN).isEmpty) = true := by cases ns' <;> rfl
              rw [hne2]
              refine iteT ⟨_, rfl, 1, rfl, Dd, _, -1, vN m, rfl, rfl, lstL (s5 _ _ hD), ?_, _, _, rfl, rfl, s14.trans s5, s5 _ _ hp4, some (.ref Dd), none, ?_⟩
              · rw [List.map_append]
                exact atI_last _ _
              · rw [hu]
                rfl
          · obtain ⟨s6, hp6, x, y, rfl⟩ := hM
            refine ⟨_, rfl, _, rfl, p, _, rfl, .inl (lstL hp6), _, _, rfl, rfl, _, rfl, ?_⟩
            rw [List.length_map]
            have q2 := q _ s6
            refine iteD (fun h5 => ⟨_, rfl, ?_⟩) fun h5 => ?_
            · rw [if_pos (by omega)] at q2
              exact q2
            · rw [if_neg (by omega)] at q2
              exact q2
end
end K8
/-! K78p9: the law's draws -/
namespace K8
open PySem PySem.Spec PyProof.Rows L2
/-- what the law draws from: its dict at m, the list of what is left at l.1, the cells at l.2; at most n draws so far -/
def MS (H : Hp) (m : Addr) (l : Addr × Addr) (n : Nat) : Prop := ∃ (k : Nat) (cs ls : List Int), H m = some (.dK [(.inr "cells", .ref l.2), (.inr "left", .ref l.1), (.inr "spot", .int (k : Nat))]) ∧ H l.2 = some (.lst (cs.map V.int)) ∧ H l.1 = some (.lst (ls.map V.int)) ∧
  l.2 ≠ l.1 ∧ cs ≠ [] ∧ ls.length = cs.length ∧ (∀ z ∈ cs, Builtin.Int.intBits z ≤ 1048576) ∧ (∀ z ∈ ls, 0 ≤ z) ∧ k ≤ n
theorem MS.le {H : Hp} {m : Addr} {l : Addr × Addr} {n n' : Nat} (h : MS H m l n) (hn : n ≤ n') : MS H m l n' := by
  obtain ⟨k, cs, ls, h1, h2, h3, h4, h5, h6, h7, h8, h9⟩ := h
  exact ⟨k, cs, ls, h1, h2, h3, h4, h5, h6, h7, h8, Nat.le_trans h9 hn⟩
theorem MS.same {H H' : Hp} {m : Addr} {l : Addr × Addr} {n : Nat} (h : MS H m l n) (s : Same H H') : MS H' m l n := by
  obtain ⟨k, cs, ls, h1, h2, h3, h4⟩ := h
  exact ⟨k, cs, ls, s _ _ h1, s _ _ h2, s _ _ h3, h4⟩
theorem MS.upd {H : Hp} {m o : Addr} {l : Addr × Addr} {n : Nat} {y : HO} (h : MS H m l n) (om : o ≠ m) (ol : o ≠ l.1) (oc : o ≠ l.2) : MS (upd H o y) m l n := by
  obtain ⟨k, cs, ls, h1, h2, h3, h4⟩ := h
  exact ⟨k, cs, ls, (upd_ne om.symm).trans h1, (upd_ne oc.symm).trans h2, (upd_ne ol.symm).trans h3, h4⟩
/-- all else stays -/
def Kept (m : Addr) (l : Addr × Addr) (H H' : Hp) : Prop := ∀ b o, b ≠ m → b ≠ l.1 → H b = some o → H' b = some o
theorem Kept.of {m : Addr} {l : Addr × Addr} {H H' : Hp} (s : Same H H') : Kept m l H H' := fun b o _ _ h => s b o h
theorem Kept.refl {m : Addr} {l : Addr × Addr} (H : Hp) : Kept m l H H := fun _ _ _ _ h => h
theorem Kept.trans {m : Addr} {l : Addr × Addr} {H H1 H2 : Hp} (a : Kept m l H H1) (b : Kept m l H1 H2) : Kept m l H H2 := fun c o h1 h2 h => b c o h1 h2 (a c o h1 h2 h)
theorem Kept.keep {m : Addr} {l : Addr × Addr} {n : Nat} {H H' : Hp} (a : Kept m l H H') (h : MS H m l n) : Keep H H' := fun b xs hb => by
  obtain ⟨k, cs, ls, h1, h2, h3, _⟩ := h
  refine a b _ (fun e => ?_) (fun e => ?_) hb
  · rw [e, h1] at hb
    cases hb
  · rw [e, h3] at hb
    cases hb
theorem MS.ne {H : Hp} {m p : Addr} {l : Addr × Addr} {n : Nat} (h : MS H m l n) (hp : H p = none) : p ≠ m ∧ p ≠ l.1 ∧ p ≠ l.2 := by
  obtain ⟨k, cs, ls, h1, h2, h3, _⟩ := h
  exact ⟨fun e => (by rw [e, h1] at hp; cases hp), fun e => (by rw [e, h3] at hp; cases hp), fun e => (by rw [e, h2] at hp; cases hp)⟩
section
variable {P : Program} {w : World} {K : PySem.W.Frag} {mg : Str → Option Value} {base : Heap} {A : Nat → Addr} {D : Nat → FuncData}
/-! ### _law_mix -/
def sp_mix : Sp := fun vs H Q _ => ∃ (z : Int) (k : Nat), vs = [.int z, .int (k : Nat)] ∧ Builtin.Int.intBits z ≤ 1048576 ∧ k ≤ 1000000 ∧ ∀ v, 0 ≤ v → v < 2147483647 → Q (.int v) H
theorem b31 {f : Int} (h1 : 0 ≤ f) (h2 : f < 2147483647) : f.natAbs < 2 ^ 31 := Nat.lt_of_lt_of_le (show f.natAbs < 2147483647 by omega) (by decide)
theorem modP (z : Int) : 0 ≤ z % 2147483647 ∧ z % 2147483647 < 2147483647 := ⟨Int.emod_nonneg _ (by decide), Int.emod_lt_of_pos _ (by decide)⟩
theorem ok_law_mix (T : Tx K mg A D) : FnOk P w K mg base CX0 1 (A 47) (D 47) ["_law_cell", "_law_spot"] sp_mix := by
  refine T.o__law_mix.F.ok sc__law_mix (fun vs H Q E h => ?_) (fun cdv Ar outer s H vs Q E hr h => ?_)
  · obtain ⟨_, _, rfl, _⟩ := h
    rfl
  · obtain ⟨z, k, rfl, hz, hk, q⟩ := h
    refine ⟨_, (pss_cons (ps_set (i := 2) sc__law_mix.nd rfl (Or.inl rfl) (pe_op op_mod (pe_callTy call_int1 (by rfl) T.n_int (by decide +kernel) (pa_cons (pe_op op_add (pe_op op_add (pe_op op_mulX (pv 0) pe_int) (pe_op op_mulX (pv 1) pe_int)) pe_int) pa_nil)) pe_int))
      (pss_cons (ps_set (i := 3) sc__law_mix.nd rfl (Or.inl rfl) (pe_op op_mod (pe_callTy call_int1 (by rfl) T.n_int (by decide +kernel) (pa_cons (pe_op op_add (pe_op op_add (pe_op op_mulX (pv 2) pe_int) (pv 0)) (pv 1)) pa_nil)) pe_int))
      (pss_one (ps_ret (pe_op op_mod (pe_callTy call_int1 (by rfl) T.n_int (by decide +kernel) (pa_cons (pe_op op_add (pe_op op_mulX (pv 3) pe_int) (pe_op op_mulX (pe_op op_mulX (pv 1) (pv 1)) pe_int)) pa_nil)) pe_int))))), ?_⟩
    have c1 : CMulX z 40503 := by
      show (Builtin.Int.intBits z : Int) + (Builtin.Int.intBits 40503 : Int) ≤ 134217728
      have : Builtin.Int.intBits 40503 = 16 := by decide
      rw [this]
      omega
    have bk : ((k : Nat) : Int).natAbs < 2 ^ 20 := Nat.lt_of_le_of_lt (show k ≤ 1000000 from hk) (by decide)
    have c2 : CMulX ((k : Nat) : Int) 69069 := mulx_ok bk (b := 20) (by decide) (by decide)
    refine ⟨_, rfl, _, _, rfl, rfl, c1, _, rfl, _, _, rfl, rfl, c2, _, _, rfl, rfl, _, _, rfl, rfl, .inl ⟨_, rfl, _, _, rfl, rfl, (by show (0 : Int) < 2147483647; decide), ?_⟩⟩
    show gName 2 (V.int ((z * 40503 + (k : Nat) * 69069 + 12345) % 2147483647)) _ _ _
    obtain ⟨f1, f2⟩ := modP (z * 40503 + (k : Nat) * 69069 + 12345)
    generalize (z * 40503 + (k : Nat) * 69069 + 12345) % 2147483647 = f at *
    have c3 : CMulX f 48271 := mulx_ok (a := 31) (b := 20) (b31 f1 f2) (by decide) (by decide)
    refine ⟨_, rfl, _, _, rfl, rfl, c3, _, rfl, _, _, rfl, rfl, _, rfl, _, _, rfl, rfl, .inl ⟨_, rfl, _, _, rfl, rfl, (by show (0 : Int) < 2147483647; decide), ?_⟩⟩
    show gName 3 (V.int ((f * 48271 + z + (k : Nat)) % 2147483647)) _ _ _
    obtain ⟨g1, g2⟩ := modP (f * 48271 + z + (k : Nat))
    generalize (f * 48271 + z + (k : Nat)) % 2147483647 = g at *
    have c4 : CMulX g 16807 := mulx_ok (a := 31) (b := 20) (b31 g1 g2) (by decide) (by decide)
    have c5 : CMulX ((k : Nat) : Int) ((k : Nat) : Int) := mulx_ok bk bk (by decide)
    have c6 : CMulX (((k : Nat) : Int) * ((k : Nat) : Int)) 7919 := mulx_ok (wide_lt bk bk) (b := 20) (by decide) (by decide)
    refine ⟨_, rfl, _, _, rfl, rfl, c4, _, rfl, _, rfl, _, _, rfl, rfl, c5, _, _, rfl, rfl, c6, _, _, rfl, rfl, .inl ⟨_, rfl, _, _, rfl, rfl, (by show (0 : Int) < 2147483647; decide), ?_⟩⟩
    exact q _ (modP _).1 (modP _).2
/-! ### _law_begun -/
def sp_begun (K : PySem.W.Frag) : Sp := fun vs H Q _ => ∃ (a : Addr) (ns : List Int), vs = [.ref a] ∧ SqL K H a (ns.map V.int) ∧ ns.length ≤ 63 ∧ (∀ z ∈ ns, Builtin.Int.intBits z ≤ 1048576) ∧ ∀ H' m l, Same H H' → MS H' m l 0 → Q (.ref m) H'
theorem ok_law_begun (T : Tx K mg A D) : FnOk P w K mg base CX0 1 (A 48) (D 48) ["_law_script"] (sp_begun K) := by
  refine T.o__law_begun.F.ok sc__law_begun (fun vs H Q E h => ?_) (fun cdv Ar outer s H vs Q E hr h => ?_)
  · obtain ⟨_, _, rfl, _⟩ := h
    rfl
  · obtain ⟨a, ns, rfl, ha, hl, hb, q⟩ := h
    refine ⟨_, (pss_mid (ps_set (i := 1) sc__law_begun.nd rfl (Or.inl rfl) (pe_ifExp (pt_cmpR (op_neD hr.units) (pv 0) (pe_lst pa_nil) (nomark _)) (pe_callTy call_list_of (by rfl) T.n_list (by decide +kernel) (pa_cons (pv 0) pa_nil)) (pe_lst (pa_cons pe_int pa_nil))))
      (pss_one (ps_ret (pe_disp (pps_cons pe_str (pv 1) (pps_cons pe_str (pe_lc (own := [("_law_cell", 2)]) (g := gName 2) (tt := tYes) rfl sc__law_begun.nd (pi_list (pv 1)) (blkOk_by (own := [("_law_cell", 2)]) (N := N__law_begun) (sc := defScope s__law_begun) (by decide +kernel)) (fun _ _ _ _ _ => pg_name (i := 2) sc__law_begun.nd rfl (Or.inl rfl)) (fun _ _ _ _ _ => pts_nil) (fun _ _ _ _ _ => (pe_ifExp (pt_cmpR op_ge (pv 2) (pe_op op_pow pe_int pe_int) (nomark _)) (pv 2) pe_int))) (pps_cons pe_str pe_int pps_nil))) (by rfl) (by rfl) (fun z => by cases z) (by decide))))), ?_⟩
    refine ⟨fun σ' H1 => Same H H1 ∧ ∃ (c : Addr) (cs : List Int), σ' = [some (.ref a), some (.ref c), none] ∧ H1 c = some (.lst (cs.map V.int)) ∧ cs ≠ [] ∧ cs.length ≤ 63 ∧ ∀ z ∈ cs, Builtin.Int.intBits z ≤ 1048576, ?_, fun σ' H1 hM => ?_⟩
    · refine ⟨_, rfl, Nat.zero_le _, fun o no => ?_⟩
      have s1 : Same H (upd H o (.lst [])) := same_upd no
      obtain ⟨d, e, d1, d2, d3, d4, d5⟩ := nilL (K := K) (s1.seq ha) (fun x hx => by
        obtain ⟨n, _, rfl⟩ := List.mem_map.mp hx
        exact .int _) (lstL (a := o) (xs := []) upd_same)
      refine ⟨d, e, d1, d2, d3, d4, _, rfl, ?_⟩
      rw [d5]
      cases ns with
      | nil =>
        refine iteF ⟨(by show 1 ≤ sizeLine; decide), fun c nc => ⟨s1.trans (same_upd nc), c, [0], rfl, upd_same, by simp, by decide, fun z hz => ?_⟩⟩
        rw [List.mem_singleton.mp hz]
        decide
      | cons n ns =>
        exact iteT ⟨_, rfl, a, _, rfl, .inl (s1.seq ha), fun c nc => ⟨s1.trans (same_upd nc), c, n :: ns, rfl, upd_same, by simp, hl, hb⟩⟩
    · obtain ⟨s1, c, cs, rfl, hc, hne, hl2, hb2⟩ := hM
      refine fun p np => ⟨_, rfl, ?_⟩
      have s2 : Same H1 (upd H1 p (.dK [])) := same_upd np
      refine ⟨_, rfl, c, rfl, ⟨_, lstL (s2 _ _ hc)⟩, fun Dd nD => ?_⟩
      refine lc_list (xs := cs.map V.int) (fun k H2 => Same (upd H1 p (.dK [])) H2 ∧ ∃ ls : List Int, H2 Dd = some (.lst (ls.map V.int)) ∧ ls.length = k ∧ ∀ z ∈ ls, 0 ≤ z) ⟨same_upd nD, [], upd_same, rfl, by simp⟩ (fun k H2 _ hP => lstL (hP.1 _ _ (s2 _ _ hc))) (fun k x H2 hx hP => ?_) fun H2 hP => ?_
      · obtain ⟨sm, ls, hD, hlk, hpos⟩ := hP
        rw [List.getElem?_map] at hx
        obtain ⟨z, hz, rfl⟩ := Option.map_eq_some_iff.mp hx
        have hk : k < cs.length := (List.getElem?_eq_some_iff.mp hz).1
        have step : ∀ v : Int, 0 ≤ v → ∃ acc, H2 Dd = some (.lst acc) ∧ acc.length < sizeLine ∧ (Same (upd H1 p (.dK [])) (upd H2 Dd (.lst (acc ++ [V.int v]))) ∧ ∃ ls : List Int, (upd H2 Dd (.lst (acc ++ [V.int v]))) Dd = some (.lst (ls.map V.int)) ∧ ls.length = k + 1 ∧ ∀ z ∈ ls, 0 ≤ z) := fun v hv => by
          refine ⟨_, hD, by rw [List.length_map]; exact small (by omega), fun b y hb => ?_, ls ++ [v], ?_, ?_, fun y hy => ?_⟩
          · rw [upd_ne (ne_of_none hb nD)]
            exact sm _ _ hb
          · rw [upd_same, List.map_append]
            rfl
          · rw [List.length_append, hlk]
            rfl
          · rcases List.mem_append.mp hy with h | h
            · exact hpos y h
            · rw [List.mem_singleton.mp h]
              exact hv
        refine ⟨rfl, _, rfl, _, _, rfl, rfl, ⟨by decide, by decide, by decide⟩, _, _, rfl, rfl, _, rfl, iteD (fun h => ?_) fun h => ?_⟩
        · exact ⟨_, rfl, step z (Int.le_trans (by decide) h)⟩
        · exact step 0 (Int.le_refl 0)
      · obtain ⟨sm, ls, hD, hlk, hpos⟩ := hP
        rw [List.length_map] at hlk
        have hp := sm _ _ (upd_same (H := H1) (a := p) (o := .dK []))
        have hc2 := sm _ _ (s2 _ _ hc)
        refine ⟨hp, [(.inr "cells", .ref c), (.inr "left", .ref Dd), (.inr "spot", .int 0)], rfl, (by show 3 ≤ 15; decide), q _ p (Dd, c) (fun b y hb => ?_) ⟨0, cs, ls, ?_, ?_, ?_, ?_, hne, hlk, hb2, hpos, Nat.le_refl _⟩⟩
        · have hb1 := s1 _ _ hb
          rw [upd_ne (ne_of_none hb1 np)]
          exact sm _ _ (s2 _ _ hb1)
        · rw [upd_same]
          rfl
        · rw [upd_ne (ne_of_none hc np)]
          exact hc2
        · rw [upd_ne (ne_of hD hp (fun z => by cases z))]
          exact hD
        · exact ne_of_none (s2 _ _ hc) nD
/-! ### _law_draw -/
def sp_draw : Sp := fun vs H Q _ => ∃ (m : Addr) (l : Addr × Addr) (n : Nat) (lim : Int), vs = [.ref m, .int lim] ∧ MS H m l n ∧ n ≤ 1000000 ∧ 1 ≤ lim ∧ lim ≤ 100 ∧ ∀ H' v, Kept m l H H' → MS H' m l (n + 1) → 0 ≤ v → v < lim → Q (.int v) H'
theorem put_spot {a b c v : V} : putK [((.inr "cells" : Key), a), (.inr "left", b), (.inr "spot", c)] (.inr "spot") v = [(.inr "cells", a), (.inr "left", b), (.inr "spot", v)] := rfl
theorem ok_law_draw (T : Tx K mg A D) : FnOk P w K mg base CX0 2 (A 49) (D 49) ["_law_m", "_law_limit"] sp_draw := by
  have G__law_mix := ok_law_mix (P := P) (w := w) (base := base) T
  refine T.o__law_draw.F.ok sc__law_draw (fun vs H Q E h => ?_) (fun cdv Ar outer s H vs Q E hr h => ?_)
  · obtain ⟨_, _, _, _, rfl, _⟩ := h
    rfl
  · obtain ⟨m, ⟨l, c⟩, n, lim, rfl, ⟨k, cs, ls, hm, hc, hl, hcl, hne, hlen, hbits, hpos, hkn⟩, hn, l1, l2, q⟩ := h
    refine ⟨_, (pss_cons (ps_set (i := 2) sc__law_draw.nd rfl (Or.inl rfl) (pe_dget (hu_of hr) (pv 0) pe_str (fun _ _ => rfl)))
      (pss_cons (ps_dput (hu_of hr) (pv 0) pe_str (pe_op op_add (pv 2) pe_int) rfl)
      (pss_cons (ps_set (i := 3) sc__law_draw.nd rfl (Or.inl rfl) (pe_op op_mod (pe_callTy call_int1 (by rfl) T.n_int (by decide +kernel) (pa_cons (pv 2) pa_nil)) (pe_callB call_len_seq (by rfl) T.n_len (by decide +kernel) (pa_cons (pe_dget (hu_of hr) (pv 0) pe_str (fun _ _ => rfl)) pa_nil))))
      (pss_cons (ps_set (i := 4) sc__law_draw.nd rfl (Or.inl rfl) (pe_ix ix_list (pe_dget (hu_of hr) (pv 0) pe_str (fun _ _ => rfl)) (pv 3) (fun _ _ => rfl)))
      (pss_cons (ps_if (pt_cmpR op_gt (pv 4) pe_int (nomark _)) (pss_cons (ps_asg (pe_op op_fdiv (pv 4) (pv 1)) (pg_sub (pe_dget (hu_of hr) (pv 0) pe_str (fun _ _ => rfl)) (pv 3) set_list))
      (pss_one (ps_ret (pe_op op_mod (pe_callTy call_int1 (by rfl) T.n_int (by decide +kernel) (pa_cons (pv 4) pa_nil)) (pv 1))))) pss_nil)
      (pss_one (ps_ret (pe_op op_mod (pe_callTy call_int1 (by rfl) T.n_int (by decide +kernel) (pa_cons (pe_op op_fdiv (pe_call G__law_mix (hr.mono (by decide)) (by rfl) T.o__law_mix.g T.o__law_mix.F.kp T.o__law_mix.b .nil pass0 (pa_cons (pe_ix ix_list (pe_dget (hu_of hr) (pv 0) pe_str (fun _ _ => rfl)) (pv 3) (fun _ _ => rfl)) (pa_cons (pv 2) pa_nil))) pe_int) pa_nil)) (pv 1))))))))), ?_⟩
    dsimp only at hm hc hl hcl
    refine ⟨_, rfl, m, _, rfl, DGet.k (k := Sum.inr "spot") hm, ?_⟩
    refine ⟨_, rfl, _, _, rfl, rfl, _, rfl, m, _, rfl, DPut.k (k := Sum.inr "spot") hm (by show 3 < sizeLine; decide), ?_⟩
    rw [put_spot]
    have cm : c ≠ m := ne_of hc hm (fun z => by cases z)
    have lm : l ≠ m := ne_of hl hm (fun z => by cases z)
    have hm1 : (upd H m (.dK [(.inr "cells", .ref c), (.inr "left", .ref l), (.inr "spot", .int ((k : Nat) + 1))])) m = _ := upd_same
    have hc1 : (upd H m (.dK [(.inr "cells", .ref c), (.inr "left", .ref l), (.inr "spot", .int ((k : Nat) + 1))])) c = _ := (upd_ne cm).trans hc
    have hl1 : (upd H m (.dK [(.inr "cells", .ref c), (.inr "left", .ref l), (.inr "spot", .int ((k : Nat) + 1))])) l = _ := (upd_ne lm).trans hl
    have kp1 : Kept m (l, c) H (upd H m (.dK [(.inr "cells", .ref c), (.inr "left", .ref l), (.inr "spot", .int ((k : Nat) + 1))])) := fun b o h1 _ hb => (upd_ne h1).trans hb
    generalize hH1 : upd H m (.dK [(.inr "cells", .ref c), (.inr "left", .ref l), (.inr "spot", .int ((k : Nat) + 1))]) = H1 at *
    have hpl : 0 < cs.length := List.length_pos_iff.mpr hne
    have hi0 : 0 ≤ ((k : Nat) : Int) % (cs.length : Nat) := Int.emod_nonneg _ (by omega)
    have hi1 : ((k : Nat) : Int) % (cs.length : Nat) < (cs.length : Nat) := Int.emod_lt_of_pos _ (by omega)
    refine ⟨_, rfl, .inl ⟨_, rfl, _, rfl, m, _, rfl, DGet.k (k := Sum.inr "cells") hm1, c, _, rfl, .inl (lstL hc1), _, _, rfl, rfl, (by rw [List.length_map]; show (0 : Int) < (cs.length : Nat); omega), ?_⟩⟩
    rw [List.length_map]
    obtain ⟨i, hi⟩ : ∃ i : Nat, ((k : Nat) : Int) % (cs.length : Nat) = (i : Nat) := ⟨(((k : Nat) : Int) % (cs.length : Nat)).toNat, by omega⟩
    show gName 3 (V.int (((k : Nat) : Int) % ((cs.length : Nat) : Int))) _ _ _
    rw [hi] at hi0 hi1 ⊢
    have hic : i < cs.length := by omega
    have hil : i < ls.length := by omega
    have gl : (ls.map V.int)[i]? = some (.int ls[i]) := by
      rw [List.getElem?_map, List.getElem?_eq_getElem hil]
      rfl
    have gc : (cs.map V.int)[i]? = some (.int cs[i]) := by
      rw [List.getElem?_map, List.getElem?_eq_getElem hic]
      rfl
    refine ⟨_, rfl, m, _, rfl, DGet.k (k := Sum.inr "left") hm1, _, rfl, l, _, _, _, rfl, rfl, lstL hl1, atI_nat gl, ?_⟩
    have hp0 := hpos _ (List.getElem_mem hil)
    have hbc := hbits _ (List.getElem_mem hic)
    generalize ls[i] = y at *
    generalize cs[i] = x at *
    refine ⟨_, rfl, _, _, rfl, rfl, _, rfl, iteD (fun hy => ?_) fun hy => ?_⟩
    · refine ⟨_, rfl, _, rfl, _, _, rfl, rfl, ⟨by omega, by omega⟩, ?_⟩
      refine ⟨_, rfl, m, _, rfl, DGet.k (k := Sum.inr "left") hm1, _, rfl, l, _, _, i, rfl, rfl, hl1, ?_, ?_⟩
      · rw [List.length_map]
        unfold ixN
        rw [if_pos (by omega), if_pos (by omega), Int.toNat_natCast]
      · refine ⟨_, rfl, .inl ⟨_, rfl, _, rfl, _, _, rfl, rfl, (by show (0 : Int) < lim; omega), ?_⟩⟩
        refine q _ _ (fun b o h1 h2 hb => (upd_ne h2).trans (kp1 b o h1 h2 hb)) ⟨k + 1, cs, ls.set i (y / lim), ?_, ?_, ?_, hcl, hne, by rw [List.length_set]; exact hlen, hbits, fun z hz => ?_, by omega⟩ (Int.emod_nonneg _ (by omega)) (Int.emod_lt_of_pos _ (by omega))
        · rw [upd_ne lm.symm, hm1]
          rfl
        · rw [upd_ne hcl]
          exact hc1
        · rw [upd_same, List.map_set]
        · rcases List.mem_or_eq_of_mem_set hz with h | h
          · exact hpos z h
          · rw [h]
            exact Int.ediv_nonneg (by omega) (by omega)
    · refine ⟨_, rfl, m, _, rfl, DGet.k (k := Sum.inr "cells") hm1, _, rfl, c, _, _, _, rfl, rfl, lstL hc1, atI_nat gc, _, rfl, x, k, rfl, hbc, by omega, fun v v0 v1 => ?_⟩
      refine ⟨_, _, rfl, rfl, ⟨by decide, by decide⟩, .inl ⟨_, rfl, _, rfl, _, _, rfl, rfl, (by show (0 : Int) < lim; omega), ?_⟩⟩
      exact q _ _ kp1 ⟨k + 1, cs, ls, hm1, hc1, hl1, hcl, hne, hlen, hbits, hpos, by omega⟩ (Int.emod_nonneg _ (by omega)) (Int.emod_lt_of_pos _ (by omega))
end
end K8
/-! K78p10: the law's change, again, step -/
namespace K8
open PySem PySem.Spec PyProof.Rows L2
section
variable {P : Program} {w : World} {K : PySem.W.Frag} {mg : Str → Option Value} {base : Heap} {A : Nat → Addr} {D : Nat → FuncData}
/-! ### _law_change, _law_again -/
theorem ok_law_change (T : Tx K mg A D) : FnOk P w K mg base CX0 1 (A 50) (D 50) ["_law_ahead", "_law_spot", "_law_colour", "_law_begun_here"] sp_change_from := by
  refine T.o__law_change.F.ok sc__law_change (fun vs H Q E h => ?_) (fun cdv Ar outer s H vs Q E hr h => ?_)
  · obtain ⟨_, _, _, _, rfl, _⟩ := h
    rfl
  · obtain ⟨l, p, c, b, rfl, hl, hp, q⟩ := h
    refine ⟨_, (pss_cons (ps_for PassesOwn.never rfl (pi_range2 (by rfl) T.n_range (pa_cons (pe_op op_add (pv 1) (pe_callTy call_int1 (by rfl) T.n_int (by decide +kernel) (pa_cons (pv 3) pa_nil))) (pa_cons (pe_callB call_len_str (by rfl) T.n_len (by decide +kernel) (pa_cons (pv 0) pa_nil)) pa_nil))) (pg_name (i := 4) sc__law_change.nd rfl (Or.inl rfl)) (pss_mid (ps_set (i := 5) sc__law_change.nd rfl (Or.inl rfl) (pe_ifExp (pt_cmpR op_gt (pv 4) pe_int (nomark _)) (pe_ix ix_str (pv 0) (pe_op op_sub (pv 4) pe_int) (fun _ _ => rfl)) (pe_lit l_w)))
      (pss_one (ps_if (PW.pt (pw_and (pt_cmpR op_eq (pv 5) (pv 2) (nomark _)) (pw_and1 (pt_cmpR op_ne (pe_ix ix_str (pv 0) (pv 4) (fun _ _ => rfl)) (pv 2) (nomark _))))) (pss_one (ps_ret (pv 4))) pss_nil))))
      (pss_one (ps_ret (pe_callB call_len_str (by rfl) T.n_len (by decide +kernel) (pa_cons (pv 0) pa_nil))))), ?_⟩
    have hsz : (S l).length ≤ sizeLine := by rw [S_length]; exact nat_small hl
    obtain ⟨k0, hk0, hk1⟩ : ∃ k0, k0 = p + (if b then 1 else 0) ∧ k0 ≤ l.length + 1 := ⟨_, rfl, by split <;> omega⟩
    refine ⟨_, rfl, _, rfl, .inr ⟨b, rfl, _, _, rfl, rfl, _, rfl, _, rfl, hsz, _, _, rfl, ?_⟩⟩
    have ek : (p : Int) + (if b = true then 1 else 0) = (k0 : Nat) := by
      rw [hk0]
      cases b <;> rfl
    rw [ek]
    refine ⟨(by rw [S_length]; omega), ?_⟩
    rw [S_length]
    have q2 : Q (.int (chg l c k0 : Nat)) H := by
      rw [hk0]
      exact q
    refine for_range (lo := (k0 : Nat)) (n := ((l.length : Nat) - (k0 : Nat) : Int).toNat) (fun i σ H' => H = H' ∧ (∃ x y, σ = [some (.str (S l)), some (.int (p : Nat)), some (.str (S [c])), some (.bl b), x, y]) ∧ chg l c k0 = chg l c (k0 + i)) ⟨rfl, ⟨none, none, rfl⟩, rfl⟩ (fun i σ H' hi hP => ?_) fun σ H' hP => ?_
    · obtain ⟨rfl, ⟨x, y, rfl⟩, hc⟩ := hP
      have hk : k0 + i < l.length := by omega
      refine ⟨fun σ' H' => H = H' ∧ σ' = [some (.str (S l)), some (.int (p : Nat)), some (.str (S [c])), some (.bl b), some (.int (k0 + i : Nat)), some (.str (S [ahd l (k0 + i)]))], ?_, fun σ' H' hM => ?_⟩
      · refine ⟨_, rfl, _, _, rfl, rfl, _, rfl, iteD (fun hpos => ?_) fun hpos => ?_⟩
        · have hpos2 : 0 < k0 + i := by omega
          refine ⟨_, rfl, _, rfl, _, _, rfl, rfl, _, _, cp (ahd l (k0 + i)), rfl, rfl, hsz, ?_, rfl, ?_⟩
          · have e1 : ((k0 : Nat) : Int) + (i : Nat) - 1 = ((k0 + i - 1 : Nat) : Int) := by omega
            rw [e1]
            unfold ahd
            rw [if_neg (by omega)]
            exact S_atI (getD_at (by omega))
          · rfl
        · have e0 : k0 + i = 0 := by omega
          refine ⟨rfl, ?_⟩
          have e1 : ahd l (k0 + i) = false := by
            rw [e0]
            rfl
          rw [e1]
          rfl
      · obtain ⟨rfl, rfl⟩ := hM
        have hst := chg_step (c := c) hk
        refine ⟨_, rfl, _, rfl, rfl, _, rfl, ?_⟩
        rw [S_dot_dec]
        refine iteD (fun h1 => ⟨_, rfl, _, rfl, _, _, _, rfl, rfl, hsz, S_atI (getD_at hk), _, rfl, rfl, _, rfl, ?_⟩) fun h1 => iteF ?_
        · rw [S_one, S_dot_dec]
          refine iteN (fun h2 => ⟨_, rfl, ?_⟩) fun h2 => ?_
          · rw [hc, hst, if_pos ⟨h1, h2⟩] at q2
            exact q2
          · refine ⟨rfl, ⟨_, _, rfl⟩, ?_⟩
            rw [hc, hst, if_neg fun z => z.2 h2]
            rfl
        · refine ⟨rfl, ⟨_, _, rfl⟩, ?_⟩
          rw [hc, hst, if_neg fun z => h1 z.1]
          rfl
    · obtain ⟨rfl, ⟨x, y, rfl⟩, hc⟩ := hP
      rw [hc, chg_end (by omega)] at q2
      refine ⟨_, rfl, _, rfl, hsz, ?_⟩
      rw [S_length]
      exact q2
theorem ok_law_again (T : Tx K mg A D) : FnOk P w K mg base CX0 1 (A 51) (D 51) ["_law_ahead", "_law_spot", "_law_colour"] sp_change_back := by
  refine T.o__law_again.F.ok sc__law_again (fun vs H Q E h => ?_) (fun cdv Ar outer s H vs Q E hr h => ?_)
  · obtain ⟨_, _, _, rfl, _⟩ := h
    rfl
  · obtain ⟨l, p, c, rfl, hl, hp, q⟩ := h
    refine ⟨_, (pss_cons (ps_for PassesOwn.never rfl (pi_range2 (by rfl) T.n_range (pa_cons (pe_op op_add (pv 1) pe_int) (pa_cons (pe_callB call_len_str (by rfl) T.n_len (by decide +kernel) (pa_cons (pv 0) pa_nil)) pa_nil))) (pg_name (i := 3) sc__law_again.nd rfl (Or.inl rfl)) (pss_one (ps_if (pt_cmpR op_eq (pe_ix ix_str (pv 0) (pv 3) (fun _ _ => rfl)) (pv 2) (nomark _)) (pss_one (ps_ret (pv 3))) pss_nil)))
      (pss_one (ps_ret (pe_callB call_len_str (by rfl) T.n_len (by decide +kernel) (pa_cons (pv 0) pa_nil))))), ?_⟩
    have hsz : (S l).length ≤ sizeLine := by rw [S_length]; exact nat_small hl
    refine ⟨_, rfl, _, _, rfl, rfl, _, rfl, _, rfl, hsz, _, _, rfl, (by rw [S_length]; omega), ?_⟩
    rw [S_length]
    refine for_range (lo := (p + 1 : Nat)) (n := ((l.length : Nat) - (p + 1 : Nat) : Int).toNat) (fun i σ H' => H = H' ∧ (∃ x, σ = [some (.str (S l)), some (.int (p : Nat)), some (.str (S [c])), x]) ∧ bck l c (p + 1) = bck l c (p + 1 + i)) ⟨rfl, ⟨none, rfl⟩, rfl⟩ (fun i σ H' hi hP => ?_) fun σ H' hP => ?_
    · obtain ⟨rfl, ⟨x, rfl⟩, hc⟩ := hP
      have hk : p + 1 + i < l.length := by omega
      have hst := bck_step (c := c) hk
      refine ⟨_, rfl, _, rfl, _, _, _, rfl, rfl, hsz, S_atI (getD_at hk), _, rfl, rfl, _, rfl, ?_⟩
      rw [S_one, S_dot_dec]
      refine iteD (fun h2 => ⟨_, rfl, ?_⟩) fun h2 => ⟨rfl, ⟨_, rfl⟩, ?_⟩
      · rw [hc, hst, if_pos h2] at q
        exact q
      · rw [hc, hst, if_neg h2]
        rfl
    · obtain ⟨rfl, ⟨x, rfl⟩, hc⟩ := hP
      rw [hc, bck_end (by omega)] at q
      refine ⟨_, rfl, _, rfl, hsz, ?_⟩
      rw [S_length]
      exact q
/-! ### _law_step -/
def vQ (e : Nat) (c : Bool) (d : Ln) : List V := [.int (e : Nat), .str (S [c]), .str (S d)]
def sp_law_step : Sp := fun vs H Q _ => ∃ (l : Ln) (a : Addr) (m : Md) (p : Nat) (c b : Bool), vs = [.str (S l), .ref a, .int (p : Nat), .str (S [c]), .bl b] ∧ MdAt H a m ∧ MdOk m ∧ l.length ≤ 1000 ∧ p ≤ l.length ∧ (b = false → p = 0) ∧
  (step l m p c b = none → Q .non H) ∧ ∀ e c2 q, step l m p c b = some (e, c2) → H q = none → Q (.ref q) (upd H q (.tup (vQ e c2 (dots m p e c))))
theorem dot2 (c : Bool) : atI (S [false, true]).cps.toList (if decide (V.str (S [c]) = V.str (S [false])) = true then 1 else 0) = some (cp (!c)) := by cases c <;> decide
theorem ok_law_step (T : Tx K mg A D) : FnOk P w K mg base CX0 2 (A 52) (D 52) ["_law_ahead", "_law_mode", "_law_spot", "_law_colour", "_law_begun_here"] sp_law_step := by
  have G__law_change := ok_law_change (P := P) (w := w) (base := base) T
  have G__law_again := ok_law_again (P := P) (w := w) (base := base) T
  refine T.o__law_step.F.ok sc__law_step (fun vs H Q E h => ?_) (fun cdv Ar outer s H vs Q E hr h => ?_)
  · obtain ⟨_, _, _, _, _, _, rfl, _⟩ := h
    rfl
  · obtain ⟨l, a, m, p, c, b, rfl, ha, hm, hl, hp, hb0, q0, q1⟩ := h
    refine ⟨_, (pss_cons (ps_par (i := 5) (j := 6) rfl sc__law_step.nd rfl rfl (by decide) rfl rfl (pa_cons (pe_ix ix_str (pe_lit l_wb) (pe_callTy call_int1 (by rfl) T.n_int (by decide +kernel) (pa_cons (pe_cmpR op_eq (pv 3) (pe_lit l_w) (nomark _)) pa_nil)) (fun _ _ => rfl)) (pa_cons (pe_callB call_len_str (by rfl) T.n_len (by decide +kernel) (pa_cons (pv 0) pa_nil)) pa_nil)) (by rfl))
      (pss_cons (ps_if (pt_cmpR op_eq (pe_ix ix_tup (pv 1) pe_int (fun _ _ => rfl)) pe_str (nomark _)) (pss_cons (ps_par (i := 7) (j := 8) rfl sc__law_step.nd rfl rfl (by decide) rfl rfl (pa_cons (pe_op op_add (pv 2) (pe_ix ix_tup (pv 1) pe_int (fun _ _ => rfl))) (pa_cons (pe_op op_add (pe_op op_add (pv 2) (pe_ix ix_tup (pv 1) pe_int (fun _ _ => rfl))) (pe_ix ix_tup (pv 1) pe_int (fun _ _ => rfl))) pa_nil)) (by rfl))
      (pss_cons (ps_if (PW.pt (pw_or (pt_cmpR op_gt (pv 8) (pv 6) (nomark _)) (pw_or (PW.pt (pw_and (pt_cmpR op_eq (pe_ix ix_tup (pv 1) pe_int (fun _ _ => rfl)) pe_int (nomark _)) (pw_and1 (pt_val (pv 4))))) (pw_or1 (PW.pt (pw_and (pt_cmpR op_eq (pe_ix ix_tup (pv 1) pe_int (fun _ _ => rfl)) pe_int (nomark _)) (pw_and1 (pt_cmpR op_ne (pv 7) (pv 6) (nomark _))))))))) (pss_one (ps_ret pe_non)) pss_nil)
      (pss_one (ps_ret (pe_tup (pa_cons (pv 8) (pa_cons (pv 3) (pa_cons (pe_op op_add_str (pe_op op_mulS (pv 3) (pe_ix ix_tup (pv 1) pe_int (fun _ _ => rfl))) (pe_op op_mulS (pv 5) (pe_ix ix_tup (pv 1) pe_int (fun _ _ => rfl)))) pa_nil)))))))) pss_nil)
      (pss_cons (ps_set (i := 9) sc__law_step.nd rfl (Or.inl rfl) (pe_call G__law_change (hr.mono (by decide)) (by rfl) T.o__law_change.g T.o__law_change.F.kp T.o__law_change.b .nil pass0 (pa_cons (pv 0) (pa_cons (pv 2) (pa_cons (pv 3) (pa_cons (pv 4) pa_nil))))))
      (pss_cons (ps_if (pt_cmpR op_eq (pe_ix ix_tup (pv 1) pe_int (fun _ _ => rfl)) pe_str (nomark _)) (pss_cons (ps_set (i := 8) sc__law_step.nd rfl (Or.inl rfl) (pe_call G__law_again (hr.mono (by decide)) (by rfl) T.o__law_again.g T.o__law_again.F.kp T.o__law_again.b .nil pass0 (pa_cons (pv 0) (pa_cons (pv 9) (pa_cons (pv 3) pa_nil)))))
      (pss_one (ps_ret (pe_ifExp (pt_cmpR op_lt (pv 9) (pv 6) (nomark _)) (pe_tup (pa_cons (pv 8) (pa_cons (pv 3) (pa_cons (pe_op op_mulS (pv 3) (pe_op op_sub (pv 8) (pv 2))) pa_nil)))) pe_non)))) pss_nil)
      (pss_cons (ps_set (i := 8) sc__law_step.nd rfl (Or.inl rfl) (pe_op op_add (pv 9) (pe_ix ix_tup (pv 1) pe_int (fun _ _ => rfl))))
      (pss_cons (ps_if (PW.pt (pw_or (pt_cmpR op_gt (pv 8) (pv 6) (nomark _)) (pw_or (pt_cmpR op_lt (pv 8) pe_int (nomark _)) (pw_or1 (PW.pt (pw_and (pt_val (pv 4)) (pw_and1 (pt_cmpR op_le (pv 8) (pv 2) (nomark _))))))))) (pss_one (ps_ret pe_non)) pss_nil)
      (pss_one (ps_ret (pe_tup (pa_cons (pv 8) (pa_cons (pv 5) (pa_cons (pe_op op_mulS (pv 3) (pe_op op_sub (pv 8) (pv 2))) pa_nil)))))))))))), ?_⟩
    have hsz : (S l).length ≤ sizeLine := by rw [S_length]; exact nat_small hl
    have one : ∀ c : Bool, (S [c]).length ≤ 1000 := fun c => by
      rw [S_length]
      show 1 ≤ 1000
      decide
    refine ⟨_, rfl, rfl, .inr ⟨_, rfl, _, _, _, rfl, rfl, (by decide), dot2 c, _, rfl, _, rfl, hsz, _, _, rfl, ?_⟩⟩
    rw [S_length, S_one]
    cases m with
    | full rs => exact hm.elim
    | runs n k =>
      obtain ⟨hn40, hk40⟩ : n ≤ 40 ∧ k ≤ 40 := hm
      have ha2 : H a = some (.tup [.str "runs", .int n, .int k]) := ha
      have i1 : atI [V.str "runs", .int n, .int k] 1 = some (.int n) := atI_nat (j := 1) rfl
      have i2 : atI [V.str "runs", .int n, .int k] 2 = some (.int k) := atI_nat (j := 2) rfl
      refine ⟨_, rfl, a, _, _, _, rfl, rfl, tupT ha2, atI_nat (j := 0) rfl, rfl, _, rfl, iteD (fun _ => ?_) fun z => absurd rfl z⟩
      refine ⟨_, rfl, _, rfl, a, _, _, _, rfl, rfl, tupT ha2, i1, _, _, rfl, rfl, ?_⟩
      refine ⟨_, rfl, _, rfl, a, _, _, _, rfl, rfl, tupT ha2, i1, _, _, rfl, rfl, _, rfl, a, _, _, _, rfl, rfl, tupT ha2, i2, _, _, rfl, rfl, _, _, rfl, ?_⟩
      have hno : (p + n + k > l.length ∨ (n = 0 ∧ b = true) ∨ (k = 0 ∧ p + n < l.length)) → Q .non H := fun z => q0 (by simp only [step]; rw [if_pos z])
      have fin : ¬ (p + n + k > l.length ∨ (n = 0 ∧ b = true) ∨ (k = 0 ∧ p + n < l.length)) → ∀ q, H q = none → Q (.ref q) (upd H q (.tup [.int ((p : Nat) + (n : Nat) + (k : Nat)), .str (S [c]), .str (S (List.replicate n c ++ List.replicate k (!c)))])) := fun z q nq => q1 _ _ q (by simp only [step]; rw [if_neg z]) nq
      have hxy : (Txt.mul (S [c]) ((n : Nat) : Int)).length + (Txt.mul (S [!c]) ((k : Nat) : Int)).length ≤ sizeLine := by
        rw [mul_dot, mul_dot, S_length, S_length, List.length_replicate, List.length_replicate]
        exact nat_small (by omega)
      have hcat : Txt.mul (S [c]) ((n : Nat) : Int) ++ Txt.mul (S [!c]) ((k : Nat) : Int) = S (List.replicate n c ++ List.replicate k (!c)) := by rw [mul_dot, mul_dot, S_append]
      refine ⟨_, rfl, _, rfl, _, _, rfl, rfl, _, rfl, iteD (fun h1 => iteT (hno (.inl (by omega)))) fun h1 => ?_⟩
      have h1' : ¬ (p + n + k > l.length) := by omega
      refine ⟨_, rfl, a, _, _, _, rfl, rfl, tupT ha2, i1, rfl, _, rfl, iteD (fun h2 => ?_) fun h2 => ?_⟩
      · have h2' : n = 0 := by
          have := V.int.inj h2
          omega
        refine ⟨_, rfl, b, rfl, iteB (fun hb => iteT (hno (.inr (.inl ⟨h2', hb⟩)))) fun hb => ?_⟩
        refine ⟨_, rfl, a, _, _, _, rfl, rfl, tupT ha2, i2, rfl, _, rfl, iteD (fun h3 => ?_) fun h3 => iteF ?_⟩
        · refine ⟨_, rfl, _, rfl, rfl, _, rfl, iteN (fun h4 => hno (.inr (.inr ⟨?_, ?_⟩))) fun h4 => ⟨_, rfl, _, rfl, _, rfl, _, rfl, a, _, _, _, rfl, rfl, tupT ha2, i1, S [c], (n : Nat), rfl, rfl, ⟨by omega, by omega⟩, one c, _, rfl, _, rfl, a, _, _, _, rfl, rfl, tupT ha2, i2, S [!c], (k : Nat), rfl, rfl, ⟨by omega, by omega⟩, one (!c), _, _, rfl, rfl, hxy, (by show 3 ≤ sizeLine; decide), fun q nq => (congrArg (fun z => Q (.ref q) (upd H q (.tup [.int ((p : Nat) + (n : Nat) + (k : Nat)), .str (S [c]), .str z]))) hcat).mpr (fin ?_ q nq)⟩⟩
          · have := V.int.inj h3
            omega
          · have h5 : p + n ≠ l.length := fun e => h4 (congrArg V.int (by omega))
            omega
          · rintro (z | z | z)
            · exact h1' z
            · rw [hb] at z
              exact nomatch z.2
            · have := V.int.inj h4
              omega
        · refine ⟨_, rfl, _, rfl, _, rfl, _, rfl, a, _, _, _, rfl, rfl, tupT ha2, i1, S [c], (n : Nat), rfl, rfl, ⟨by omega, by omega⟩, one c, _, rfl, _, rfl, a, _, _, _, rfl, rfl, tupT ha2, i2, S [!c], (k : Nat), rfl, rfl, ⟨by omega, by omega⟩, one (!c), _, _, rfl, rfl, hxy, (by show 3 ≤ sizeLine; decide), fun q nq => (congrArg (fun z => Q (.ref q) (upd H q (.tup [.int ((p : Nat) + (n : Nat) + (k : Nat)), .str (S [c]), .str z]))) hcat).mpr (fin ?_ q nq)⟩
          rintro (z | z | z)
          · exact h1' z
          · rw [hb] at z
            exact nomatch z.2
          · exact h3 (congrArg V.int (by omega))
      · have h2' : n ≠ 0 := fun z => h2 (congrArg V.int (by omega))
        refine iteF ⟨_, rfl, a, _, _, _, rfl, rfl, tupT ha2, i2, rfl, _, rfl, iteD (fun h3 => ?_) fun h3 => iteF ?_⟩
        · refine ⟨_, rfl, _, rfl, rfl, _, rfl, iteN (fun h4 => hno (.inr (.inr ⟨?_, ?_⟩))) fun h4 => ⟨_, rfl, _, rfl, _, rfl, _, rfl, a, _, _, _, rfl, rfl, tupT ha2, i1, S [c], (n : Nat), rfl, rfl, ⟨by omega, by omega⟩, one c, _, rfl, _, rfl, a, _, _, _, rfl, rfl, tupT ha2, i2, S [!c], (k : Nat), rfl, rfl, ⟨by omega, by omega⟩, one (!c), _, _, rfl, rfl, hxy, (by show 3 ≤ sizeLine; decide), fun q nq => (congrArg (fun z => Q (.ref q) (upd H q (.tup [.int ((p : Nat) + (n : Nat) + (k : Nat)), .str (S [c]), .str z]))) hcat).mpr (fin ?_ q nq)⟩⟩
          · have := V.int.inj h3
            omega
          · have h5 : p + n ≠ l.length := fun e => h4 (congrArg V.int (by omega))
            omega
          · rintro (z | z | z)
            · exact h1' z
            · exact h2' z.1
            · have := V.int.inj h4
              omega
        · refine ⟨_, rfl, _, rfl, _, rfl, _, rfl, a, _, _, _, rfl, rfl, tupT ha2, i1, S [c], (n : Nat), rfl, rfl, ⟨by omega, by omega⟩, one c, _, rfl, _, rfl, a, _, _, _, rfl, rfl, tupT ha2, i2, S [!c], (k : Nat), rfl, rfl, ⟨by omega, by omega⟩, one (!c), _, _, rfl, rfl, hxy, (by show 3 ≤ sizeLine; decide), fun q nq => (congrArg (fun z => Q (.ref q) (upd H q (.tup [.int ((p : Nat) + (n : Nat) + (k : Nat)), .str (S [c]), .str z]))) hcat).mpr (fin ?_ q nq)⟩
          rintro (z | z | z)
          · exact h1' z
          · exact h2' z.1
          · exact h3 (congrArg V.int (by omega))
    | pass =>
      have ha2 : H a = some (.tup [.str "pass"]) := ha
      refine ⟨_, rfl, a, _, _, _, rfl, rfl, tupT ha2, atI_nat (j := 0) rfl, rfl, _, rfl, iteD (fun z => absurd z n4) fun _ => ?_⟩
      refine ⟨_, rfl, _, rfl, _, rfl, _, rfl, l, p, c, b, rfl, hl, hp, ?_⟩
      refine ⟨_, rfl, a, _, _, _, rfl, rfl, tupT ha2, atI_nat (j := 0) rfl, rfl, _, rfl, iteD (fun _ => ?_) fun z => absurd rfl z⟩
      have hch : chA l p c b ≤ l.length := chg_le _ _ _
      refine ⟨_, rfl, _, rfl, _, rfl, l, chA l p c b, c, rfl, hl, hch, ?_⟩
      refine ⟨_, rfl, _, rfl, _, _, rfl, rfl, _, rfl, iteD (fun h1 => ?_) fun h1 => ?_⟩
      · have h1' : chA l p c b < l.length := by omega
        have hs : step l .pass p c b = some (bck l c (chA l p c b + 1), c) := by simp only [step]; rw [if_pos h1']
        obtain ⟨b1, b2, _⟩ := step_bd hp hs hb0
        refine ⟨_, rfl, _, rfl, _, rfl, _, rfl, _, rfl, _, _, rfl, rfl, S [c], _, rfl, rfl, ⟨by omega, by omega⟩, one c, (by show 3 ≤ sizeLine; decide), fun q nq => ?_⟩
        have h9 := q1 _ _ q hs nq
        rw [show ((bck l c (chA l p c b + 1) : Nat) : Int) - (p : Nat) = ((bck l c (chA l p c b + 1) - p : Nat) : Int) by omega, mul_dot]
        exact h9
      · exact q0 (by simp only [step]; rw [if_neg (by omega)])
    | stay d =>
      have ha2 : H a = some (.tup [.str "stay", .int d]) := ha
      refine ⟨_, rfl, a, _, _, _, rfl, rfl, tupT ha2, atI_nat (j := 0) rfl, rfl, _, rfl, iteD (fun z => absurd z n2) fun _ => ?_⟩
      refine ⟨_, rfl, _, rfl, _, rfl, _, rfl, l, p, c, b, rfl, hl, hp, ?_⟩
      refine ⟨_, rfl, a, _, _, _, rfl, rfl, tupT ha2, atI_nat (j := 0) rfl, rfl, _, rfl, iteD (fun z => absurd z n1) fun _ => ?_⟩
      refine ⟨_, rfl, _, rfl, a, _, _, _, rfl, rfl, tupT ha2, atI_nat (j := 1) rfl, _, _, rfl, rfl, ?_⟩
      have hno : ((chA l p c b : Int) + d > l.length ∨ (chA l p c b : Int) + d < 0 ∨ ((chA l p c b : Int) + d ≤ p ∧ b = true)) → Q .non H := fun z => q0 (by simp only [step]; rw [if_pos z])
      have fin : ¬ ((chA l p c b : Int) + d > l.length ∨ (chA l p c b : Int) + d < 0 ∨ ((chA l p c b : Int) + d ≤ p ∧ b = true)) →
          ((-1000 : Int) ≤ (chA l p c b : Nat) + d - (p : Nat) ∧ ((chA l p c b : Nat) : Int) + d - (p : Nat) ≤ 1000) ∧ ∀ q, H q = none → Q (.ref q) (upd H q (.tup [.int ((chA l p c b : Nat) + d), .str (S [!c]), .str (Txt.mul (S [c]) ((chA l p c b : Nat) + d - (p : Nat)))])) := fun z => by
        have hs : step l (.stay d) p c b = some (((chA l p c b : Int) + d).toNat, !c) := by simp only [step]; rw [if_neg z]
        obtain ⟨b1, b2, _⟩ := step_bd hp hs hb0
        have e0 : ((((chA l p c b : Int) + d).toNat : Nat) : Int) = (chA l p c b : Int) + d := Int.toNat_of_nonneg (by omega)
        refine ⟨by omega, fun q nq => ?_⟩
        have h9 := q1 _ _ q hs nq
        have e1 : ((chA l p c b : Nat) : Int) + d - (p : Nat) = ((((chA l p c b : Int) + d).toNat - p : Nat) : Int) := by omega
        rw [e1, mul_dot, ← e0]
        exact h9
      refine ⟨_, rfl, _, rfl, _, _, rfl, rfl, _, rfl, iteD (fun h1 => iteT (hno (.inl h1))) fun h1 => ?_⟩
      refine ⟨_, rfl, _, _, rfl, rfl, _, rfl, iteD (fun h2 => iteT (hno (.inr (.inl h2)))) fun h2 => ?_⟩
      refine ⟨_, rfl, b, rfl, iteB (fun hb => ?_) fun hb => iteF ?_⟩
      · refine ⟨_, rfl, _, rfl, _, _, rfl, rfl, _, rfl, iteD (fun h3 => hno (.inr (.inr ⟨h3, hb⟩))) fun h3 => ?_⟩
        obtain ⟨f1, f2⟩ := fin (by
          rintro (z | z | z)
          · exact h1 z
          · exact h2 z
          · exact h3 z.1)
        exact ⟨_, rfl, _, rfl, _, rfl, _, rfl, _, rfl, _, _, rfl, rfl, S [c], _, rfl, rfl, f1, one c, (by show 3 ≤ sizeLine; decide), fun q nq => f2 q nq⟩
      · obtain ⟨f1, f2⟩ := fin (by
          rintro (z | z | z)
          · exact h1 z
          · exact h2 z
          · rw [hb] at z
            exact nomatch z.2)
        exact ⟨_, rfl, _, rfl, _, rfl, _, rfl, _, rfl, _, _, rfl, rfl, S [c], _, rfl, rfl, f1, one c, (by show 3 ≤ sizeLine; decide), fun q nq => f2 q nq⟩
end
end K8
/-! K78p11: _law_read -/
namespace K8
open PySem PySem.Spec PyProof.Rows L2
theorem Tl.da {K : PySem.W.Frag} {H : Hp} {bs : List Addr} {t : List Md} (h2 : bs.length = t.length) (h3 : ∀ (i : Nat) (b : Addr) (m : Md), bs[i]? = some b → t[i]? = some m → MdAt H b m) : ∀ x ∈ bs.map V.ref, Da K H 60 x := fun x hx => by
  obtain ⟨b, hb, rfl⟩ := List.mem_map.mp hx
  obtain ⟨i, hi⟩ := List.getElem?_of_mem hb
  have hlt : i < t.length := by
    rw [← h2]
    exact (List.getElem?_eq_some_iff.mp hi).1
  obtain ⟨r, h1, h4⟩ := (h3 i b _ hi (List.getElem?_eq_getElem hlt)).tup (K := K)
  refine Da.tup (K := K) (n := 59) (tupT h1) fun y hy => ?_
  rcases List.mem_cons.mp hy with e | e
  · rw [e]
    exact .str (mdS_ok _)
  · obtain ⟨d, z1, z2, z3⟩ := h4 y e
    exact ⟨d, z1, z2, by omega⟩
theorem dot3 (k : Nat) : atI (S [false, true]).cps.toList (((k : Nat) : Int) % 2) = some (cp (decide (k % 2 = 1))) := by
  have h : k % 2 = 0 ∨ k % 2 = 1 := by omega
  rcases h with h | h
  · have e : ((k : Nat) : Int) % 2 = 0 := by omega
    rw [e, h]
    decide
  · have e : ((k : Nat) : Int) % 2 = 1 := by omega
    rw [e, h]
    decide
section
variable {P : Program} {w : World} {K : PySem.W.Frag} {mg : Str → Option Value} {base : Heap} {A : Nat → Addr} {D : Nat → FuncData}
theorem ok_law_read (T : Tx K mg A D) : FnOk P w K mg base CX0 3 (A 53) (D 53) ["_law_ahead", "_law_modes"] sp_read_beside := by
  have G__law_step := ok_law_step (P := P) (w := w) (base := base) T
  refine T.o__law_read.F.ok sc__law_read (fun vs H Q E h => ?_) (fun cdv Ar outer s H vs Q E hr h => ?_)
  · obtain ⟨_, _, _, rfl, _⟩ := h
    rfl
  · obtain ⟨l, a, t, rfl, ht, hok, hl, q⟩ := h
    refine ⟨_, (pss_cons (ps_asg (pe_tup (pa_cons pe_int (pa_cons (pe_lit l_w) (pa_cons (pe_lit l_e) (pa_cons pe_bl pa_nil))))) (pg_tup rfl (pgs_cons (pg_name (i := 2) sc__law_read.nd rfl (Or.inl rfl)) (pgs_cons (pg_name (i := 3) sc__law_read.nd rfl (Or.inl rfl)) (pgs_cons (pg_name (i := 4) sc__law_read.nd rfl (Or.inl rfl)) (pgs_cons (pg_name (i := 5) sc__law_read.nd rfl (Or.inl rfl)) pgs_nil))))))
      (pss_cons (ps_if (PW.pt (pw_and (pt_cmpR (op_neD hr.units) (pv 1) (pe_tup pa_nil) (nomark _)) (pw_and1 (pt_cmpR op_eq (pe_ix ix_tup (pe_ix ix_tup (pv 1) pe_int (fun _ _ => rfl)) pe_int (fun _ _ => rfl)) pe_str (nomark _))))) (pss_cons (ps_for PassesOwn.never rfl (pi_enumT (by rfl) T.n_enumerate (pa_cons (pe_ix ix_tup (pe_ix ix_tup (pv 1) pe_int (fun _ _ => rfl)) pe_int (fun _ _ => rfl)) pa_nil)) (pg_tup rfl (pgs_cons (pg_name (i := 6) sc__law_read.nd rfl (Or.inl rfl)) (pgs_cons (pg_name (i := 7) sc__law_read.nd rfl (Or.inl rfl)) pgs_nil))) (pss_one (ps_set (i := 4) sc__law_read.nd rfl (Or.inl rfl) (pe_op op_add_str (pv 4) (pe_op op_mulS (pe_ix ix_str (pe_lit l_wb) (pe_op op_mod (pe_callTy call_int1 (by rfl) T.n_int (by decide +kernel) (pa_cons (pv 6) pa_nil)) pe_int) (fun _ _ => rfl)) (pv 7))))))
      (pss_one (ps_ret (pe_ifExp (pt_cmpR op_eq (pe_callB call_len_str (by rfl) T.n_len (by decide +kernel) (pa_cons (pv 4) pa_nil)) (pe_callB call_len_str (by rfl) T.n_len (by decide +kernel) (pa_cons (pv 0) pa_nil)) (nomark _)) (pv 4) pe_non)))) pss_nil)
      (pss_cons (ps_for PassesOwn.never rfl (pi_tup (pv 1)) (pg_name (i := 8) sc__law_read.nd rfl (Or.inl rfl)) (pss_mid (ps_set (i := 9) sc__law_read.nd rfl (Or.inl rfl) (pe_ifExp (pt_cmpR op_lt (pv 2) (pe_callB call_len_str (by rfl) T.n_len (by decide +kernel) (pa_cons (pv 0) pa_nil)) (nomark _)) (pe_call G__law_step (hr.mono (by decide)) (by rfl) T.o__law_step.g T.o__law_step.F.kp T.o__law_step.b .nil pass0 (pa_cons (pv 0) (pa_cons (pv 8) (pa_cons (pv 2) (pa_cons (pv 3) (pa_cons (pv 5) pa_nil)))))) pe_non))
      (pss_cons (ps_if (pt_cmpR op_isN (pv 9) pe_non (nomark _)) (pss_one (ps_ret pe_non)) pss_nil)
      (pss_cons (ps_par3 (i := 2) (j := 3) (l := 5) rfl sc__law_read.nd rfl rfl rfl (by decide) (by decide) (by decide) rfl rfl rfl (pa_cons (pe_ix ix_tup (pv 9) pe_int (fun _ _ => rfl)) (pa_cons (pe_ix ix_tup (pv 9) pe_int (fun _ _ => rfl)) (pa_cons pe_bl pa_nil))) (by rfl))
      (pss_one (ps_set (i := 4) sc__law_read.nd rfl (Or.inl rfl) (pe_op op_add_str (pv 4) (pe_ix ix_tup (pv 9) pe_int (fun _ _ => rfl)))))))))
      (pss_one (ps_ret (pe_ifExp (pt_cmpR op_eq (pv 2) (pe_callB call_len_str (by rfl) T.n_len (by decide +kernel) (pa_cons (pv 0) pa_nil)) (nomark _)) (pv 4) pe_non)))))), ?_⟩
    have hsz : (S l).length ≤ sizeLine := by rw [S_length]; exact nat_small (by omega)
    refine ⟨(by show 4 ≤ sizeLine; decide), fun u nu => ⟨u, _, rfl, tupT upd_same, rfl, _, _, rfl, _, _, rfl, _, _, rfl, _, [], rfl, rfl, ?_⟩⟩
    have s1 : Same H (upd H u (.tup [.int 0, .str (S [false]), .str (S []), .bl false])) := same_upd nu
    generalize upd H u (.tup [.int 0, .str (S [false]), .str (S []), .bl false]) = H1 at *
    have ht1 := ht.keep (Keep.of s1)
    refine ⟨_, rfl, Nat.zero_le _, fun p np => ?_⟩
    have s2 : Same H1 (upd H1 p (.tup [])) := same_upd np
    obtain ⟨bs, h1, h2, h3⟩ := ht1.keep (Keep.of s2)
    obtain ⟨d, e, d1, d2, d3, d4, d5⟩ := nilT (K := K) (tupT h1) (Tl.da h2 h3) (tupT (a := p) (xs := []) upd_same)
    refine ⟨d, e, d1, d2, d3, d4, _, rfl, ?_⟩
    rw [d5]
    generalize upd H1 p (.tup []) = H2 at *
    have s12 := s1.trans s2
    cases bs with
    | nil =>
      have := hok.ne
      cases t with
      | nil => exact absurd rfl this
      | cons m t => cases h2
    | cons b0 bs =>
      obtain ⟨m0, t', rfl⟩ : ∃ m0 t', t = m0 :: t' := by
        cases t with
        | nil => cases h2
        | cons m t => exact ⟨m, t, rfl⟩
      have hb0 := h3 0 b0 m0 rfl rfl
      obtain ⟨r0, hx0, _⟩ := hb0.tup (K := K)
      refine iteT ⟨_, rfl, a, _, _, _, rfl, rfl, tupT h1, atI_nat (j := 0) rfl, b0, _, _, _, rfl, rfl, tupT hx0, atI_nat (j := 0) rfl, rfl, _, rfl, ?_⟩
      rcases hok.cases with ⟨rs, hrs0, hrs⟩ | ⟨hF, h80, hmd⟩
      · cases hrs0
        refine iteD (fun _ => ?_) fun z => absurd rfl z
        obtain ⟨b, g1, g2⟩ := hb0
        obtain ⟨hne, h40, h0, hs1, hs2⟩ := hrs
        refine ⟨_, rfl, a, _, _, _, rfl, rfl, tupT h1, atI_nat (j := 0) rfl, b0, _, _, _, rfl, rfl, tupT g1, atI_nat (j := 1) rfl, b, _, rfl, tupT g2, for_it (walk_enumT (xs := rs.map vN)) (fun i σ H' => Same H2 H' ∧ ∃ (acc : Ln) (x y : Option V), σ = [some (.str (S l)), some (.ref a), some (.int 0), some (.str (S [false])), some (.str (S acc)), some (.bl false), x, y, none, none] ∧
            acc ++ lnAt (rs.drop i) (decide (i % 2 = 1)) = lnAt rs false) ⟨Same.refl _, [], none, none, rfl, rfl⟩ (fun i σ H' _ hP => tupT (hP.1 _ _ g2)) (fun i x σ H' H'' hi hP hY => ?_) fun σ H' hP => ?_⟩
        · obtain ⟨sm, acc, x0, y0, rfl, hacc⟩ := hP
          obtain ⟨v, x1, x2, rfl, nv, rfl, e1, e2⟩ := hY
          cases e1
          replace e2 : (rs.map vN)[i]? = some x2 := e2
          rw [List.getElem?_map] at e2
          obtain ⟨n, hn, rfl⟩ := Option.map_eq_some_iff.mp e2
          have hn40 := h40 n (List.mem_of_getElem? hn)
          have hdr : rs.drop i = n :: rs.drop (i + 1) := by
            obtain ⟨z1, z2⟩ := List.getElem?_eq_some_iff.mp hn
            rw [List.drop_eq_getElem_cons z1, z2]
          rw [hdr] at hacc
          have hacc2 : acc ++ (List.replicate n (decide (i % 2 = 1)) ++ lnAt (rs.drop (i + 1)) (!decide (i % 2 = 1))) = lnAt rs false := hacc
          have hln : acc.length + n ≤ 40 := by
            have := congrArg List.length hacc2
            rw [List.length_append, List.length_append, List.length_replicate, lnAt_length rs] at this
            omega
          refine ⟨v, _, rfl, .inl (.inl upd_same), rfl, _, _, rfl, _, [], rfl, rfl, ?_⟩
          refine ⟨_, rfl, _, rfl, .inl ⟨_, rfl, _, _, rfl, rfl, (by show (0 : Int) < 2; decide), _, _, _, rfl, rfl, (by decide), dot3 i, _, rfl, S [decide (i % 2 = 1)], ((n : Nat) : Int), rfl, rfl, ⟨by omega, by omega⟩, (by rw [S_length]; show 1 ≤ 1000; decide), ?_⟩⟩
          rw [mul_dot]
          refine ⟨_, _, rfl, rfl, by rw [S_length, S_length, List.length_replicate]; exact nat_small (by omega), ?_⟩
          rw [S_append]
          refine ⟨sm.trans (same_upd nv), _, _, _, rfl, ?_⟩
          rw [List.append_assoc, show decide ((i + 1) % 2 = 1) = !decide (i % 2 = 1) by
            have h : i % 2 = 0 ∨ i % 2 = 1 := by omega
            rcases h with h | h
            · have e : (i + 1) % 2 = 1 := by omega
              rw [h, e]
              rfl
            · have e : (i + 1) % 2 = 0 := by omega
              rw [h, e]
              rfl]
          exact hacc2
        · obtain ⟨sm, acc, x0, y0, rfl, hacc⟩ := hP
          rw [List.length_map, List.drop_length] at hacc
          have hacc3 : acc = lnAt rs false := by
            rw [← hacc]
            show acc = acc ++ []
            simp
          have hrl := lnAt_length rs false
          have hsz2 : (S acc).length ≤ sizeLine := by
            rw [S_length, hacc3, hrl]
            exact nat_small (by omega)
          refine ⟨_, rfl, _, rfl, hsz2, _, rfl, _, rfl, hsz, rfl, _, rfl, ?_⟩
          rw [S_length, S_length]
          have q2 := q _ (s12.trans sm)
          refine iteD (fun e => ⟨_, rfl, ?_⟩) fun e => ?_
          · have e2 := V.int.inj e
            have : read l [.full rs] = some acc := by
              rw [hacc3]
              exact if_pos (by rw [hacc3] at e2; omega)
            rw [this] at q2
            exact q2
          · have : read l [.full rs] = none := if_neg fun z => e (congrArg V.int (by rw [hacc3]; omega))
            rw [this] at q2
            exact q2
      · have hnf : V.str (mdS m0) ≠ V.str "full" := fun z => by
          rw [isF_cons, decide_eq_true z] at hF
          cases hF
        refine iteD (fun z => absurd z hnf) fun _ => ?_
        rw [read_notF hF] at q
        generalize m0 :: t' = t at *
        generalize b0 :: bs = bs at *
        refine ⟨_, rfl, a, rfl, ⟨_, tupT h1⟩, for_tup (xs := bs.map V.ref) (fun i σ H' => Same H2 H' ∧ ∃ (p : Nat) (c : Bool) (acc : Ln) (y z : Option V), σ = [some (.str (S l)), some (.ref a), some (.int (p : Nat)), some (.str (S [c])), some (.str (S acc)), some (.bl (decide (0 < i))), none, none, y, z] ∧
          p ≤ l.length ∧ acc.length = p ∧ (i = 0 → p = 0) ∧ readM l t 0 false false [] = readM l (t.drop i) p c (decide (0 < i)) acc)
          ⟨Same.refl _, 0, false, [], none, none, rfl, Nat.zero_le _, rfl, fun _ => rfl, rfl⟩ (fun i σ H' _ hP => tupT (hP.1 _ _ h1)) (fun i x σ H' hx hP => ?_) fun σ H' hP => ?_⟩
        · obtain ⟨sm, p, c, acc, y, z, rfl, hp, hacc, hi0, hrd⟩ := hP
          rw [List.getElem?_map] at hx
          obtain ⟨b, hb, rfl⟩ := Option.map_eq_some_iff.mp hx
          have hi : i < t.length := by
            rw [← h2]
            exact (List.getElem?_eq_some_iff.mp hb).1
          have hti : t[i]? = some t[i] := List.getElem?_eq_getElem hi
          have hm := (h3 i b _ hb hti).keep (Keep.of sm)
          have hmo := hmd _ (List.getElem_mem hi)
          have hdr : t.drop i = t[i] :: t.drop (i + 1) := List.drop_eq_getElem_cons hi
          rw [hdr] at hrd
          generalize t[i] = m at hm hmo hrd
          have h0 : decide (0 < i) = false → p = 0 := fun z => hi0 (by
            have := of_decide_eq_false z
            omega)
          refine ⟨fun σ' H3 => Same H' H3 ∧ ∃ v, σ' = [some (.str (S l)), some (.ref a), some (.int (p : Nat)), some (.str (S [c])), some (.str (S acc)), some (.bl (decide (0 < i))), none, none, some (.ref b), some v] ∧
            ((v = .non ∧ (p < l.length → step l m p c (decide (0 < i)) = none)) ∨ ∃ (r : Addr) (e : Nat) (c2 : Bool), v = .ref r ∧ H3 r = some (.tup (vQ e c2 (dots m p e c))) ∧ p < l.length ∧ step l m p c (decide (0 < i)) = some (e, c2)), ?_, fun σ' H3 hM => ?_⟩
          · refine ⟨_, rfl, _, rfl, _, rfl, hsz, _, _, rfl, rfl, _, rfl, ?_⟩
            rw [S_length]
            refine iteD (fun hlt => ?_) fun hlt => ?_
            · refine ⟨_, rfl, _, rfl, _, rfl, _, rfl, _, rfl, l, b, m, p, c, _, rfl, hm, hmo, by omega, hp, h0, fun e => ?_, fun e c2 r hs nr => ?_⟩
              · exact ⟨Same.refl _, _, rfl, .inl ⟨rfl, fun _ => e⟩⟩
              · exact ⟨same_upd nr, _, rfl, .inr ⟨r, e, c2, rfl, upd_same, by omega, hs⟩⟩
            · exact ⟨Same.refl _, _, rfl, .inl ⟨rfl, fun z => absurd (by omega) hlt⟩⟩
          · obtain ⟨sm2, v, rfl, hv⟩ := hM
            have sm3 := sm.trans sm2
            rcases hv with ⟨rfl, hn⟩ | ⟨r, e, c2, rfl, hr2, hlt, hs⟩
            · have : readM l (m :: t.drop (i + 1)) p c (decide (0 < i)) acc = none := by
                unfold readM
                split
                · rename_i hlt
                  rw [hn hlt]
                · rfl
              rw [this] at hrd
              rw [hrd] at q
              exact ⟨_, rfl, rfl, _, rfl, iteT (q _ (s12.trans sm3))⟩
            · refine ⟨_, rfl, rfl, _, rfl, iteF ?_⟩
              obtain ⟨b1, b2, b3, b4⟩ := step_bd hp hs h0
              have g0 : atI (vQ e c2 (dots m p e c)) 0 = some (.int (e : Nat)) := atI_nat (j := 0) rfl
              have g1 : atI (vQ e c2 (dots m p e c)) 1 = some (.str (S [c2])) := atI_nat (j := 1) rfl
              have g2 : atI (vQ e c2 (dots m p e c)) 2 = some (.str (S (dots m p e c))) := atI_nat (j := 2) rfl
              refine ⟨_, rfl, r, _, _, _, rfl, rfl, tupT hr2, g0, _, rfl, r, _, _, _, rfl, rfl, tupT hr2, g1, _, _, _, rfl, ?_⟩
              refine ⟨_, rfl, _, rfl, r, _, _, _, rfl, rfl, tupT hr2, g2, _, _, rfl, rfl, by rw [S_length, S_length, b4]; exact nat_small (by omega), ?_⟩
              rw [S_append]
              refine ⟨sm3, e, c2, acc ++ dots m p e c, some (.ref b), some (.ref r), ?_, b2, ?_, fun z => (nomatch z), ?_⟩
              · rw [decide_eq_true (Nat.succ_pos i)]
                rfl
              · rw [List.length_append, b4]
                omega
              · rw [hrd, decide_eq_true (Nat.succ_pos i)]
                conv => lhs; unfold readM
                rw [if_pos hlt, hs]
        · obtain ⟨sm, p, c, acc, y, z, rfl, hp, hacc, hi0, hrd⟩ := hP
          rw [List.length_map, h2, List.drop_length] at hrd
          refine ⟨_, rfl, _, rfl, _, rfl, hsz, rfl, _, rfl, ?_⟩
          rw [S_length]
          have q2 := q _ (s12.trans sm)
          rw [hrd] at q2
          unfold readM at q2
          refine iteD (fun e => ⟨_, rfl, ?_⟩) fun e => ?_
          · have e2 := V.int.inj e
            rw [if_pos (by omega)] at q2
            exact q2
          · rw [if_neg fun z => e (congrArg V.int (by omega))] at q2
            exact q2
end
end K8
/-! K78p12: _law_line, _law_walk -/
namespace K8
open PySem PySem.Spec PyProof.Rows L2
theorem dotV {v : Int} (h0 : 0 ≤ v) (h1 : v < 2) : atI (S [false, true]).cps.toList v = some (cp (decide (v = 1))) := by
  have h : v = 0 ∨ v = 1 := by omega
  rcases h with h | h
  · rw [h]
    decide
  · rw [h]
    decide
theorem S_last (l : Ln) (b : Bool) : atI (S (l ++ [b])).cps.toList (-1) = some (cp b) := by
  show atI ((l ++ [b]).map cp).toArray.toList (-1) = _
  rw [List.map_append]
  exact atI_last _ _
section
variable {P : Program} {w : World} {K : PySem.W.Frag} {mg : Str → Option Value} {base : Heap} {A : Nat → Addr} {D : Nat → FuncData}
/-! ### _law_line -/
def sp_law_line : Sp := fun vs H Q _ => ∃ (m : Addr) (l : Addr × Addr) (n z : Nat), vs = [.ref m, .int (z : Nat)] ∧ MS H m l n ∧ n + 12 ≤ 1000000 ∧ z ≤ 6 ∧ ∀ H' ln, Kept m l H H' → MS H' m l (n + 12) → ln.length = z → Q (.str (S ln)) H'
theorem ok_law_line (T : Tx K mg A D) : FnOk P w K mg base CX0 3 (A 54) (D 54) ["_law_m", "_law_wide"] sp_law_line := by
  have G__law_draw := ok_law_draw (P := P) (w := w) (base := base) T
  refine T.o__law_line.F.ok sc__law_line (fun vs H Q E h => ?_) (fun cdv Ar outer s H vs Q E hr h => ?_)
  · obtain ⟨_, _, _, _, rfl, _⟩ := h
    rfl
  · obtain ⟨m, l, n, z, rfl, hms, hn, hz, q⟩ := h
    refine ⟨_, (pss_cons (ps_set (i := 2) sc__law_line.nd rfl (Or.inl rfl) (pe_lit l_e))
      (pss_cons (ps_for PassesOwn.never rfl (pi_range1 (by rfl) T.n_range (pa_cons (pv 1) pa_nil)) (pg_name (i := 3) sc__law_line.nd rfl (Or.inl rfl)) (pss_one (ps_set (i := 2) sc__law_line.nd rfl (Or.inl rfl) (pe_op op_add_str (pv 2) (pe_ifExp (PW.pt (pw_and (pt_cmpR op_ne (pv 2) (pe_lit l_e) (nomark _)) (pw_and1 (pt_cmpR op_gt (pe_call G__law_draw (hr.mono (by decide)) (by rfl) T.o__law_draw.g T.o__law_draw.F.kp T.o__law_draw.b .nil pass0 (pa_cons (pv 0) (pa_cons pe_int pa_nil))) pe_int (nomark _))))) (pe_ix ix_str (pv 2) (pe_un un_neg pe_int) (fun _ _ => rfl)) (pe_ix ix_str (pe_lit l_wb) (pe_call G__law_draw (hr.mono (by decide)) (by rfl) T.o__law_draw.g T.o__law_draw.F.kp T.o__law_draw.b .nil pass0 (pa_cons (pv 0) (pa_cons pe_int pa_nil))) (fun _ _ => rfl)))))))
      (pss_one (ps_ret (pv 2))))), ?_⟩
    refine ⟨_, rfl, (z : Nat), rfl, by omega, by omega, for_range (lo := 0) (n := ((z : Nat) : Int).toNat) (fun i σ H' => Kept m l H H' ∧ MS H' m l (n + 2 * i) ∧ ∃ (acc : Ln) (x : Option V), σ = [some (.ref m), some (.int (z : Nat)), some (.str (S acc)), x] ∧ acc.length = i)
      ⟨Kept.refl _, hms, [], none, rfl, rfl⟩ (fun i σ H' hi hP => ?_) fun σ H' hP => ?_⟩
    · obtain ⟨kp, ms, acc, x, rfl, hacc⟩ := hP
      have hsz : ∀ b : Bool, (S acc).length + (S [b]).length ≤ sizeLine := fun b => by
        rw [S_length, S_length]
        exact nat_small (by show acc.length + 1 ≤ 1000; omega)
      have fin : ∀ (H2 : Hp) (v : Int), Kept m l H' H2 → MS H2 m l (n + 2 * (i + 1)) → ∀ (b : Bool), Kept m l H H2 ∧ MS H2 m l (n + 2 * (i + 1)) ∧ ∃ (acc2 : Ln) (x : Option V), [some (V.ref m), some (.int (z : Nat)), some (.str (S acc ++ S [b])), some (.int (0 + (i : Nat)))] = [some (.ref m), some (.int (z : Nat)), some (.str (S acc2)), x] ∧ acc2.length = i + 1 := fun H2 v k2 m2 b =>
        ⟨kp.trans k2, m2, acc ++ [b], _, by rw [S_append], by rw [List.length_append, hacc]; rfl⟩
      have draw2 : ∀ (H1 : Hp) (j : Nat), j ≤ 1 → Kept m l H' H1 → MS H1 m l (n + 2 * i + j) → ∃ (m' : Addr) (l' : Addr × Addr) (n' : Nat) (lim : Int), [V.ref m, .int 2] = [.ref m', .int lim] ∧ MS H1 m' l' n' ∧ n' ≤ 1000000 ∧ 1 ≤ lim ∧ lim ≤ 100 ∧ ∀ H2 v, Kept m' l' H1 H2 → MS H2 m' l' (n' + 1) → 0 ≤ v → v < lim →
          ∃ z' i' c', V.str (S [false, true]) = .str z' ∧ V.int v = .int i' ∧ z'.length ≤ sizeLine ∧ atI z'.cps.toList i' = some c' ∧ ∃ a b : Str, V.str (S acc) = .str a ∧ V.str ⟨#[c']⟩ = .str b ∧ a.length + b.length ≤ sizeLine ∧ (Kept m l H H2 ∧ MS H2 m l (n + 2 * (i + 1)) ∧ ∃ (acc2 : Ln) (x : Option V), [some (V.ref m), some (.int (z : Nat)), some (.str (a ++ b)), some (.int (0 + (i : Nat)))] = [some (.ref m), some (.int (z : Nat)), some (.str (S acc2)), x] ∧ acc2.length = i + 1) :=
        fun H1 j hj k1 m1 => ⟨m, l, _, 2, rfl, m1, by omega, by decide, by decide, fun H2 v k2 m2 v0 v1 => ⟨_, _, _, rfl, rfl, by decide, dotV v0 v1, _, _, rfl, rfl, hsz _, fin H2 v (k1.trans k2) (m2.le (by omega)) _⟩⟩
      refine ⟨_, rfl, _, rfl, rfl, _, rfl, ?_⟩
      rw [S_eq_dec]
      refine iteN (fun hne => ?_) fun _ => ?_
      · refine ⟨_, rfl, m, l, _, 3, rfl, ms, by omega, by decide, by decide, fun H1 v k1 m1 v0 v1 => ⟨_, _, rfl, rfl, _, rfl, iteD (fun _ => ?_) fun _ => ?_⟩⟩
        · obtain ⟨acc', b, rfl⟩ : ∃ acc' b, acc = acc' ++ [b] := ⟨acc.dropLast, acc.getLast hne, (List.dropLast_concat_getLast hne).symm⟩
          refine ⟨_, rfl, 1, rfl, S (acc' ++ [b]), -1, cp b, rfl, rfl, ?_, S_last _ _, _, _, rfl, rfl, hsz b, fin H1 v k1 (m1.le (by omega)) b⟩
          have := hsz b
          omega
        · exact ⟨_, rfl, draw2 H1 1 (by decide) k1 m1⟩
      · exact ⟨_, rfl, draw2 H' 0 (by decide) (Kept.refl _) ms⟩
    · obtain ⟨kp, ms, acc, x, rfl, hacc⟩ := hP
      rw [Int.toNat_natCast] at hacc ms
      exact ⟨_, rfl, q _ acc kp (ms.le (by omega)) hacc⟩
/-! ### _law_walk -/
/-- behind a turn's step -/
def WM (ln : Ln) (m : Addr) (l : Addr × Addr) (o : Addr) (n p j : Nat) (c : Bool) (y8 y9 : Option V) (H' : Hp) : L2.St → Hp → Prop := fun σ' H6 => ∃ (e : Nat) (c2 : Bool) (d : Ln) (q1 r3 : Addr) (md3 : Md),
  σ' = [some (.ref m), some (.str (S ln)), some (.int (p : Nat)), some (.str (S [c])), some (.bl (decide (0 < j))), some (.ref o), some (.ref q1), some (.ref r3), y8, y9] ∧
    Kept m l H' H6 ∧ MS H6 m l (n + 4 * j + 4) ∧ H6 q1 = some (.tup (vQ e c2 d)) ∧ MdAt H6 r3 md3 ∧ MdOk md3 ∧ p ≤ e ∧ e ≤ ln.length ∧ (j = 0 ∨ p < e)
def sp_law_walk : Sp := fun vs H Q _ => ∃ (m : Addr) (l : Addr × Addr) (n : Nat) (ln : Ln), vs = [.ref m, .str (S ln)] ∧ MS H m l n ∧ n + 28 ≤ 1000000 ∧ 1 ≤ ln.length ∧ ln.length ≤ 6 ∧ ∀ H' p t, Kept m l H H' → MS H' m l (n + 28) → TlOk t → Tl H' p t → Q (.ref p) H'
theorem ok_law_walk (T : Tx K mg A D) : FnOk P w K mg base CX0 3 (A 55) (D 55) ["_law_m", "_law_ahead"] sp_law_walk := by
  have G__law_draw := ok_law_draw (P := P) (w := w) (base := base) T
  have G__law_step := ok_law_step (P := P) (w := w) (base := base) T
  refine T.o__law_walk.F.ok sc__law_walk (fun vs H Q E h => ?_) (fun cdv Ar outer s H vs Q E hr h => ?_)
  · obtain ⟨_, _, _, _, rfl, _⟩ := h
    rfl
  · obtain ⟨m, l, n, ln, rfl, hms, hn, hz1, hz, q⟩ := h
    refine ⟨_, (pss_cons (ps_asg (pe_tup (pa_cons pe_int (pa_cons (pe_lit l_w) (pa_cons pe_bl (pa_cons (pe_lst pa_nil) pa_nil))))) (pg_tup rfl (pgs_cons (pg_name (i := 2) sc__law_walk.nd rfl (Or.inl rfl)) (pgs_cons (pg_name (i := 3) sc__law_walk.nd rfl (Or.inl rfl)) (pgs_cons (pg_name (i := 4) sc__law_walk.nd rfl (Or.inl rfl)) (pgs_cons (pg_name (i := 5) sc__law_walk.nd rfl (Or.inl rfl)) pgs_nil))))))
      (pss_cons (ps_while PassesOwn.never (pt_cmpR op_lt (pv 2) (pe_callB call_len_str (by rfl) T.n_len (by decide +kernel) (pa_cons (pv 1) pa_nil)) (nomark _)) (pss_cons (ps_par (i := 6) (j := 7) rfl sc__law_walk.nd rfl rfl (by decide) rfl rfl (pa_cons pe_non (pa_cons (pe_tup (pa_cons pe_str (pa_cons (pe_op op_sub (pe_callB call_len_str (by rfl) T.n_len (by decide +kernel) (pa_cons (pv 1) pa_nil)) (pv 2)) (pa_cons pe_int pa_nil)))) pa_nil)) (by rfl))
      (pss_cons (ps_par (i := 8) (j := 9) rfl sc__law_walk.nd rfl rfl (by decide) rfl rfl (pa_cons (pe_call G__law_draw (hr.mono (by decide)) (by rfl) T.o__law_draw.g T.o__law_draw.F.kp T.o__law_draw.b .nil pass0 (pa_cons (pv 0) (pa_cons pe_int pa_nil))) (pa_cons (pe_op op_sub (pe_call G__law_draw (hr.mono (by decide)) (by rfl) T.o__law_draw.g T.o__law_draw.F.kp T.o__law_draw.b .nil pass0 (pa_cons (pv 0) (pa_cons pe_int pa_nil))) pe_int) pa_nil)) (by rfl))
      (pss_mid (ps_if (pt_cmpR op_lt (pv 8) pe_int (nomark _)) (pss_one (ps_set (i := 7) sc__law_walk.nd rfl (Or.inl rfl) (pe_tup (pa_cons pe_str (pa_cons (pv 9) pa_nil))))) (pss_one (ps_if (pt_cmpR op_eq (pv 8) pe_int (nomark _)) (pss_one (ps_set (i := 7) sc__law_walk.nd rfl (Or.inl rfl) (pe_tup (pa_cons pe_str pa_nil)))) (pss_one (ps_if (pt_cmpR op_eq (pv 8) pe_int (nomark _)) (pss_one (ps_set (i := 7) sc__law_walk.nd rfl (Or.inl rfl) (pe_tup (pa_cons pe_str (pa_cons (pe_op op_add pe_int (pe_call G__law_draw (hr.mono (by decide)) (by rfl) T.o__law_draw.g T.o__law_draw.F.kp T.o__law_draw.b .nil pass0 (pa_cons (pv 0) (pa_cons pe_int pa_nil)))) (pa_cons (pe_op op_add pe_int (pe_call G__law_draw (hr.mono (by decide)) (by rfl) T.o__law_draw.g T.o__law_draw.F.kp T.o__law_draw.b .nil pass0 (pa_cons (pv 0) (pa_cons pe_int pa_nil)))) pa_nil)))))) pss_nil)))))
      (pss_cons (ps_set (i := 6) sc__law_walk.nd rfl (Or.inl rfl) (pe_call G__law_step (hr.mono (by decide)) (by rfl) T.o__law_step.g T.o__law_step.F.kp T.o__law_step.b .nil pass0 (pa_cons (pv 1) (pa_cons (pv 7) (pa_cons (pv 2) (pa_cons (pv 3) (pa_cons (pv 4) pa_nil)))))))
      (pss_mid (ps_if (pt_cmpR op_isN (pv 6) pe_non (nomark _)) (pss_cons (ps_set (i := 7) sc__law_walk.nd rfl (Or.inl rfl) (pe_tup (pa_cons pe_str (pa_cons pe_int pa_nil))))
      (pss_one (ps_set (i := 6) sc__law_walk.nd rfl (Or.inl rfl) (pe_call G__law_step (hr.mono (by decide)) (by rfl) T.o__law_step.g T.o__law_step.F.kp T.o__law_step.b .nil pass0 (pa_cons (pv 1) (pa_cons (pv 7) (pa_cons (pv 2) (pa_cons (pv 3) (pa_cons (pv 4) pa_nil))))))))) pss_nil)
      (pss_cons (ps_expr (pe_bm PySem.F.plainAttrs_list PySem.F.slot_list_append PySem.F.type_list_append mt_append (pv 5) (pa_cons (pv 7) pa_nil)))
      (pss_one (ps_par3 (i := 2) (j := 3) (l := 4) rfl sc__law_walk.nd rfl rfl rfl (by decide) (by decide) (by decide) rfl rfl rfl (pa_cons (pe_ix ix_tup (pv 6) pe_int (fun _ _ => rfl)) (pa_cons (pe_ix ix_tup (pv 6) pe_int (fun _ _ => rfl)) (pa_cons pe_bl pa_nil))) (by rfl))))))))))
      (pss_one (ps_ret (pe_callTy call_tuple_of (by rfl) T.n_tuple (by decide +kernel) (pa_cons (pv 5) pa_nil)))))), ?_⟩
    have hsz : (S ln).length ≤ sizeLine := by rw [S_length]; exact nat_small (by omega)
    refine ⟨Nat.zero_le _, fun o no => ⟨(by show 4 ≤ sizeLine; decide), fun u nu => ⟨u, _, rfl, tupT upd_same, rfl, _, _, rfl, _, _, rfl, _, _, rfl, _, [], rfl, rfl, ?_⟩⟩⟩
    obtain ⟨om, ol, oc⟩ := hms.ne no
    have s1 : Same H (upd H o (.lst [])) := same_upd no
    have s2 : Same (upd H o (.lst [])) (upd (upd H o (.lst [])) u (.tup [.int 0, .str (S [false]), .bl false, .ref o])) := same_upd nu
    have ho1 := s2 _ _ (upd_same (H := H) (a := o) (o := .lst []))
    have s12 := s1.trans s2
    generalize upd (upd H o (.lst [])) u (.tup [.int 0, .str (S [false]), .bl false, .ref o]) = H1 at *
    refine ⟨fun k σ H' => ∃ (p j : Nat) (c : Bool) (bs : List Addr) (t : List Md) (x6 x7 x8 x9 : Option V), σ = [some (.ref m), some (.str (S ln)), some (.int (p : Nat)), some (.str (S [c])), some (.bl (decide (0 < j))), some (.ref o), x6, x7, x8, x9] ∧
        Kept m l H H' ∧ MS H' m l (n + 4 * j) ∧ H' o = some (.lst (bs.map V.ref)) ∧ bs.length = j ∧ t.length = j ∧ (∀ (i : Nat) (b : Addr) (md : Md), bs[i]? = some b → t[i]? = some md → MdAt H' b md) ∧ (∀ md ∈ t, MdOk md) ∧ p ≤ ln.length ∧ j ≤ p + 1 ∧ (j = 0 → p = 0) ∧ k = 2 * (ln.length - p) + (if j = 0 then 1 else 0),
      ⟨_, 0, 0, false, [], [], none, none, none, none, rfl, Kept.of s12, hms.same s12, ho1, rfl, rfl, fun i b md h => by simp at h, fun md h => by simp at h, Nat.zero_le _, by decide, fun _ => rfl, rfl⟩, fun k σ H' hW => ?_⟩
    obtain ⟨p, j, c, bs, t, x6, x7, x8, x9, rfl, kp, ms, ho, hbl, htl, hat, hmd, hp, hj, hj0, hk⟩ := hW
    refine ⟨_, rfl, _, rfl, _, rfl, hsz, _, _, rfl, rfl, _, rfl, ?_⟩
    rw [S_length]
    refine iteD (fun hlt0 => ?_) fun hge => ?_
    · have hlt : p < ln.length := by omega
      refine ⟨fun σ' H2 => ∃ (p' j' : Nat) (c : Bool) (bs : List Addr) (t : List Md) (x6 x7 x8 x9 : Option V), σ' = [some (.ref m), some (.str (S ln)), some (.int (p' : Nat)), some (.str (S [c])), some (.bl (decide (0 < j'))), some (.ref o), x6, x7, x8, x9] ∧
        Kept m l H H2 ∧ MS H2 m l (n + 4 * j') ∧ H2 o = some (.lst (bs.map V.ref)) ∧ bs.length = j' ∧ t.length = j' ∧ (∀ (i : Nat) (b : Addr) (md : Md), bs[i]? = some b → t[i]? = some md → MdAt H2 b md) ∧ (∀ md ∈ t, MdOk md) ∧ p' ≤ ln.length ∧ j' ≤ p' + 1 ∧ (j' = 0 → p' = 0) ∧ p ≤ p' ∧ j' = j + 1 ∧ (j = 0 ∨ p < p'), fun σ' H2 hN => ?_, ?_⟩
      · obtain ⟨p', j', c, bs, t, y6, y7, y8, y9, e1, e2, e3, e4, e5, e6, e7, e8, e9, e10, e11, e12, e13, e14⟩ := hN
        refine ⟨_, ?_, p', j', c, bs, t, y6, y7, y8, y9, e1, e2, e3, e4, e5, e6, e7, e8, e9, e10, e11, rfl⟩
        rw [hk, if_neg (by omega : ¬ j' = 0)]
        rcases e14 with z | z
        · rw [if_pos z]
          omega
        · omega
      · -- here, mode
        have nokp : ∀ {Ha Hb : Hp} {y : HO}, Kept m l Ha Hb → Ha o = some y → Hb o = some y := fun k h => k o _ om ol h
        refine ⟨_, rfl, _, rfl, hsz, _, rfl, _, _, rfl, rfl, (by show 3 ≤ sizeLine; decide), fun r0 nr0 => ⟨_, _, rfl, ?_⟩⟩
        have sa : Same H' (upd H' r0 (.tup [.str "runs", .int ((S ln).length - (p : Nat)), .int 0])) := same_upd nr0
        have hr0 : MdAt (upd H' r0 (.tup [.str "runs", .int ((S ln).length - (p : Nat)), .int 0])) r0 (.runs (ln.length - p) 0) := by
          show _ = some _
          rw [upd_same, S_length, show ((ln.length : Nat) : Int) - (p : Nat) = ((ln.length - p : Nat) : Int) by omega]
          rfl
        generalize upd H' r0 (.tup [.str "runs", .int ((S ln).length - (p : Nat)), .int 0]) = H2 at *
        have ms2 := ms.same sa
        -- way, more
        refine ⟨_, rfl, m, l, _, 6, rfl, ms2, by omega, by decide, by decide, fun H3 v k3 m3 v0 v1 => ?_⟩
        refine ⟨_, rfl, m, l, _, 7, rfl, m3, by omega, by decide, by decide, fun H4 v' k4 m4 v0' v1' => ⟨_, _, rfl, rfl, _, _, rfl, ?_⟩⟩
        have k24 := k3.trans k4
        have kpA := (Kept.of sa).trans k24
        have keepA := kpA.keep ms
        have keep2 := k24.keep ms2
        -- the mode
        refine ⟨fun σ' H5 => ∃ (r : Addr) (md : Md) (x8 x9 : Option V), σ' = [some (.ref m), some (.str (S ln)), some (.int (p : Nat)), some (.str (S [c])), some (.bl (decide (0 < j))), some (.ref o), some .non, some (.ref r), x8, x9] ∧ Kept m l H' H5 ∧ MS H5 m l (n + 4 * j + 4) ∧ MdAt H5 r md ∧ MdOk md, ?_, fun σ' H5 hM => ?_⟩
        · refine ⟨_, rfl, _, _, rfl, rfl, _, rfl, iteD (fun _ => ?_) fun _ => ?_⟩
          · refine ⟨_, rfl, (by show 2 ≤ sizeLine; decide), fun r nr => ⟨r, .stay (v' - 3), _, _, rfl, kpA.trans (Kept.of (same_upd nr)), (m4.same (same_upd nr)).le (by omega), upd_same, ⟨by omega, by omega⟩⟩⟩
          · refine ⟨_, rfl, rfl, _, rfl, iteD (fun _ => ?_) fun _ => ?_⟩
            · exact ⟨(by show 1 ≤ sizeLine; decide), fun r nr => ⟨r, .pass, _, _, rfl, kpA.trans (Kept.of (same_upd nr)), (m4.same (same_upd nr)).le (by omega), upd_same, trivial⟩⟩
            · refine ⟨_, rfl, rfl, _, rfl, iteD (fun _ => ?_) fun _ => ?_⟩
              · refine ⟨_, rfl, m, l, _, 4, rfl, m4, by omega, by decide, by decide, fun H5 y k5 m5 y0 y1 => ?_⟩
                refine ⟨_, _, rfl, rfl, _, rfl, m, l, _, 4, rfl, m5, by omega, by decide, by decide, fun H6 y' k6 m6 y0' y1' => ?_⟩
                refine ⟨_, _, rfl, rfl, (by show 3 ≤ sizeLine; decide), fun r nr => ⟨r, .runs (1 + y).toNat (1 + y').toNat, _, _, rfl, ((kpA.trans k5).trans k6).trans (Kept.of (same_upd nr)), (m6.same (same_upd nr)).le (by omega), ?_, ⟨by omega, by omega⟩⟩⟩
                show _ = some _
                rw [upd_same, Int.toNat_of_nonneg (by omega), Int.toNat_of_nonneg (by omega)]
              · exact ⟨r0, .runs (ln.length - p) 0, _, _, rfl, kpA, m4.le (by omega), hr0.keep keep2, ⟨by omega, by decide⟩⟩
        · obtain ⟨r, md, y8, y9, rfl, k5, m5, hr5, hmd5⟩ := hM
          have hb0 : decide (0 < j) = false → p = 0 := fun z => hj0 (by
            have := of_decide_eq_false z
            omega)
          have hfall : ∃ e c2, step ln (.stay 0) p c (decide (0 < j)) = some (e, c2) := by
            have hch : chA ln p c (decide (0 < j)) ≤ ln.length := chg_le _ _ _
            refine ⟨_, _, by
              simp only [step]
              rw [if_neg]
              rintro (z | z | z)
              · omega
              · omega
              · obtain ⟨z1, z2⟩ := z
                have : p + 1 ≤ chA ln p c (decide (0 < j)) := by
                  unfold chA
                  rw [z2, if_pos rfl]
                  exact chg_ge hlt
                omega⟩
          -- the step, and the fall back
          have rest : ∀ (H6 : Hp) (r2 : Addr) (md2 : Md) (e : Nat) (c2 : Bool), Kept m l H' H6 → MS H6 m l (n + 4 * j + 4) → MdAt H6 r2 md2 → MdOk md2 → step ln md2 p c (decide (0 < j)) = some (e, c2) → ∀ q0, H6 q0 = none →
              WM ln m l o n p j c y8 y9 H' [some (.ref m), some (.str (S ln)), some (.int (p : Nat)), some (.str (S [c])), some (.bl (decide (0 < j))), some (.ref o), some (.ref q0), some (.ref r2), y8, y9] (upd H6 q0 (.tup (vQ e c2 (dots md2 p e c)))) := by
            intro H6 r2 md2 e c2 k6 m6 hr6 hmd6 hs q0 nq
            obtain ⟨b1, b2, b3, _⟩ := step_bd hp hs hb0
            refine ⟨e, c2, dots md2 p e c, q0, r2, md2, rfl, k6.trans (Kept.of (same_upd nq)), m6.same (same_upd nq), upd_same, hr6.keep (Keep.of (same_upd nq)), hmd6, b1, b2, ?_⟩
            by_cases h0 : j = 0
            · exact .inl h0
            · exact .inr (b3 (decide_eq_true (by omega)) hlt)
          refine ⟨_, rfl, _, rfl, _, rfl, _, rfl, _, rfl, ln, r, md, p, c, _, rfl, hr5, hmd5, by omega, hp, hb0, fun hs => ?_, fun e c2 q0 hs nq => ?_⟩
          · refine ⟨WM ln m l o n p j c y8 y9 H', ?_, fun σ' H6 hM => by
              obtain ⟨e, c2, d, q1, r3, md3, rfl, k6, m6, hq1, hr3, hmd3, b1, b2, b3⟩ := hM
              have ho6 := nokp k6 ho
              have hqo : q1 ≠ o := fun z => by
                rw [z, ho6] at hq1
                cases hq1
              have hq2 : (upd H6 o (.lst (bs.map V.ref ++ [.ref r3]))) q1 = some (.tup (vQ e c2 d)) := (upd_ne hqo).trans hq1
              have kpo : Keep H6 (upd H6 o (.lst (bs.map V.ref ++ [.ref r3]))) := fun b xs hb => by
                rw [upd_ne (fun z => by
                  rw [z, ho6] at hb
                  cases hb)]
                exact hb
              have kall : Keep H' (upd H6 o (.lst (bs.map V.ref ++ [.ref r3]))) := (k6.keep ms).trans kpo
              refine ⟨_, rfl, .inl ⟨rfl, _, lstL ho6⟩, _, rfl, o, _, _, rfl, rfl, ho6, by rw [List.length_map]; exact small (by omega), ?_⟩
              refine ⟨_, rfl, q1, _, _, _, rfl, rfl, tupT hq2, atI_nat (j := 0) rfl, _, rfl, q1, _, _, _, rfl, rfl, tupT hq2, atI_nat (j := 1) rfl, _, _, _, rfl, ?_⟩
              refine ⟨e, j + 1, c2, bs ++ [r3], t ++ [md3], some (.ref q1), some (.ref r3), y8, y9, ?_, fun b y h1 h2 hb => ?_, (m6.upd om ol oc).le (by omega), ?_, by rw [List.length_append, hbl]; rfl, by rw [List.length_append, htl]; rfl, fun i b md hb hm => ?_, fun md hm => ?_, b2, ?_, fun z => (nomatch z), b1, rfl, b3⟩
              · rw [decide_eq_true (Nat.succ_pos j)]
                rfl
              · rw [upd_ne (ne_of_none hb no)]
                exact k6 _ _ h1 h2 (kp _ _ h1 h2 hb)
              · rw [upd_same, List.map_append]
                rfl
              · by_cases hi : i < j
                · rw [List.getElem?_append_left (by omega)] at hb hm
                  exact (hat i b md hb hm).keep kall
                · rw [List.getElem?_append_right (by omega)] at hb hm
                  rw [hbl] at hb
                  rw [htl] at hm
                  have hij : i - j = 0 := by
                    have := (List.getElem?_eq_some_iff.mp hb).1
                    simp at this
                    omega
                  rw [hij] at hb hm
                  cases hb
                  cases hm
                  exact hr3.keep kpo
              · rcases List.mem_append.mp hm with h | h
                · exact hmd md h
                · rw [List.mem_singleton.mp h]
                  exact hmd3
              · rcases b3 with z | z <;> omega⟩
            refine ⟨_, rfl, rfl, _, rfl, iteT ⟨(by show 2 ≤ sizeLine; decide), fun r2 nr2 => ?_⟩⟩
            have sb : Same H5 (upd H5 r2 (.tup [.str "stay", .int 0])) := same_upd nr2
            have hst : MdAt (upd H5 r2 (.tup [.str "stay", .int 0])) r2 (.stay 0) := upd_same
            obtain ⟨e, c2, hs2⟩ := hfall
            refine ⟨_, rfl, _, rfl, _, rfl, _, rfl, _, rfl, ln, r2, .stay 0, p, c, _, rfl, hst, ⟨by decide, by decide⟩, by omega, hp, hb0, fun hs => ?_, fun e c2 q0 hs nq => ?_⟩
            · rw [hs2] at hs
              cases hs
            · exact rest _ r2 (.stay 0) e c2 (k5.trans (Kept.of sb)) (m5.same sb) hst ⟨by decide, by decide⟩ hs q0 nq
          · refine ⟨WM ln m l o n p j c y8 y9 H', ?_, fun σ' H6 hM => by
              obtain ⟨e, c2, d, q1, r3, md3, rfl, k6, m6, hq1, hr3, hmd3, b1, b2, b3⟩ := hM
              have ho6 := nokp k6 ho
              have hqo : q1 ≠ o := fun z => by
                rw [z, ho6] at hq1
                cases hq1
              have hq2 : (upd H6 o (.lst (bs.map V.ref ++ [.ref r3]))) q1 = some (.tup (vQ e c2 d)) := (upd_ne hqo).trans hq1
              have kpo : Keep H6 (upd H6 o (.lst (bs.map V.ref ++ [.ref r3]))) := fun b xs hb => by
                rw [upd_ne (fun z => by
                  rw [z, ho6] at hb
                  cases hb)]
                exact hb
              have kall : Keep H' (upd H6 o (.lst (bs.map V.ref ++ [.ref r3]))) := (k6.keep ms).trans kpo
              refine ⟨_, rfl, .inl ⟨rfl, _, lstL ho6⟩, _, rfl, o, _, _, rfl, rfl, ho6, by rw [List.length_map]; exact small (by omega), ?_⟩
              refine ⟨_, rfl, q1, _, _, _, rfl, rfl, tupT hq2, atI_nat (j := 0) rfl, _, rfl, q1, _, _, _, rfl, rfl, tupT hq2, atI_nat (j := 1) rfl, _, _, _, rfl, ?_⟩
              refine ⟨e, j + 1, c2, bs ++ [r3], t ++ [md3], some (.ref q1), some (.ref r3), y8, y9, ?_, fun b y h1 h2 hb => ?_, (m6.upd om ol oc).le (by omega), ?_, by rw [List.length_append, hbl]; rfl, by rw [List.length_append, htl]; rfl, fun i b md hb hm => ?_, fun md hm => ?_, b2, ?_, fun z => (nomatch z), b1, rfl, b3⟩
              · rw [decide_eq_true (Nat.succ_pos j)]
                rfl
              · rw [upd_ne (ne_of_none hb no)]
                exact k6 _ _ h1 h2 (kp _ _ h1 h2 hb)
              · rw [upd_same, List.map_append]
                rfl
              · by_cases hi : i < j
                · rw [List.getElem?_append_left (by omega)] at hb hm
                  exact (hat i b md hb hm).keep kall
                · rw [List.getElem?_append_right (by omega)] at hb hm
                  rw [hbl] at hb
                  rw [htl] at hm
                  have hij : i - j = 0 := by
                    have := (List.getElem?_eq_some_iff.mp hb).1
                    simp at this
                    omega
                  rw [hij] at hb hm
                  cases hb
                  cases hm
                  exact hr3.keep kpo
              · rcases List.mem_append.mp hm with h | h
                · exact hmd md h
                · rw [List.mem_singleton.mp h]
                  exact hmd3
              · rcases b3 with z | z <;> omega⟩
            refine ⟨_, rfl, rfl, _, rfl, iteF ?_⟩
            exact rest _ r md e c2 k5 m5 hr5 hmd5 hs q0 nq
    · have hpe : p = ln.length := by omega
      have hjp : 0 < j := by
        by_cases h0 : j = 0
        · have := hj0 h0
          omega
        · omega
      refine ⟨_, rfl, o, _, rfl, .inl ⟨lstL ho, fun r nr => ?_⟩⟩
      have sr : Same H' (upd H' r (.tup (bs.map V.ref))) := same_upd nr
      refine q _ r t (kp.trans (Kept.of sr)) ((ms.same sr).le (by omega)) (.inr ⟨fun e => ?_, by omega, hmd⟩) ⟨bs, upd_same, by omega, fun i b md hb hm => (hat i b md hb hm).keep (Keep.of sr)⟩
      rw [e] at htl
      simp at htl
      omega
end
end K8
/-! K78p13: _law_every, _law_row, _law_some -/
namespace K8
open PySem PySem.Spec PyProof.Rows L2
/-- the law's own way over all lines -/
def ev : Nat → List Ln
  | 0 => [[]]
  | n + 1 => (ev n).map (· ++ [true]) ++ (ev n).map (· ++ [false])
theorem two_perm : ∀ L : List Ln, (two L).Perm (L.map (· ++ [true]) ++ L.map (· ++ [false]))
  | [] => .nil
  | l :: L => by
    show ((l ++ [true]) :: (l ++ [false]) :: two L).Perm ((l ++ [true]) :: (L.map (· ++ [true]) ++ ((l ++ [false]) :: L.map (· ++ [false]))))
    exact ((two_perm L).cons _ |>.trans List.perm_middle.symm).cons _
theorem ev_perm : ∀ n, (ev n).Perm (allL n)
  | 0 => .refl _
  | n + 1 => by
    have h := ev_perm n
    exact ((h.map _).append (h.map _)).trans (two_perm (allL n)).symm
theorem ev_len6 {i : Nat} (h : i ≤ 6) : (ev i).length ≤ 64 := by
  rw [(ev_perm i).length_eq]
  exact all_len6 h
theorem ev_wid {i : Nat} {l : Ln} (h : l ∈ ev i) : l.length = i := allL_mem.mp ((ev_perm i).mem_iff.mp h)
/-- the kinds of dots at a place, sorted, and the sign -/
theorem kinds_sgn {l : Ln} {ls : List Ln} {k : Nat} {ys : List Str} (hn : ys.Nodup) (hm : ∀ y, y ∈ ys ↔ y ∈ (l :: ls).map fun x => S [x.getD k false]) :
    (ys.length = 1 → ys = [S [l.getD k false]] ∧ sgn (l :: ls) k = cp (l.getD k false)) ∧ (ys.length ≠ 1 → sgn (l :: ls) k = 63) := by
  have h0 : S [l.getD k false] ∈ ys := (hm _).mpr List.mem_cons_self
  by_cases h : ∀ y ∈ l :: ls, y.getD k false = l.getD k false
  · have hone : ∀ y ∈ ys, y = S [l.getD k false] := fun y hy => by
      obtain ⟨x, hx, rfl⟩ := List.mem_map.mp ((hm y).mp hy)
      rw [h x hx]
    have hys : ys = [S [l.getD k false]] := by
      cases ys with
      | nil => cases h0
      | cons a r =>
        cases r with
        | nil => rw [hone a List.mem_cons_self]
        | cons b r =>
          have e1 := hone a (by simp)
          have e2 := hone b (by simp)
          simp [e1, e2] at hn
    refine ⟨fun _ => ⟨hys, sgn_some (by simp) h⟩, fun z => absurd (by rw [hys]; rfl) z⟩
  · obtain ⟨y, hy⟩ := Classical.not_forall.mp h
    obtain ⟨hy, hne⟩ := Classical.not_imp.mp hy
    have h1 : S [y.getD k false] ∈ ys := (hm _).mpr (List.mem_map.mpr ⟨y, hy, rfl⟩)
    refine ⟨fun z => ?_, fun _ => sgn_none hy List.mem_cons_self hne⟩
    exfalso
    obtain ⟨a, rfl⟩ := List.length_eq_one_iff.mp z
    have e1 := List.mem_singleton.mp h1
    have e2 := List.mem_singleton.mp h0
    have e3 := S_inj (e1.trans e2.symm)
    exact hne (List.head_eq_of_cons_eq e3)
section
variable {P : Program} {w : World} {K : PySem.W.Frag} {mg : Str → Option Value} {base : Heap} {A : Nat → Addr} {D : Nat → FuncData}
/-! ### _law_every -/
def sp_every : Sp := fun vs H Q _ => ∃ z : Nat, vs = [.int (z : Nat)] ∧ z ≤ 6 ∧ ∀ H' p (ys : List Str), Same H H' → ys.Perm ((allL z).map S) → sortedS ys = true → H' p = some (.lst (ys.map V.str)) → Q (.ref p) H'
theorem ok_law_every (T : Tx K mg A D) : FnOk P w K mg base CX0 1 (A 56) (D 56) ["_law_wide"] sp_every := by
  refine T.o__law_every.F.ok sc__law_every (fun vs H Q E h => ?_) (fun cdv Ar outer s H vs Q E hr h => ?_)
  · obtain ⟨_, rfl, _⟩ := h
    rfl
  · obtain ⟨z, rfl, hz, q⟩ := h
    refine ⟨_, (pss_cons (ps_set (i := 1) sc__law_every.nd rfl (Or.inl rfl) (pe_lst (pa_cons (pe_lit l_e) pa_nil)))
      (pss_cons (ps_for PassesOwn.never rfl (pi_range1 (by rfl) T.n_range (pa_cons (pv 0) pa_nil)) (pg_name (i := 2) sc__law_every.nd rfl (Or.inl rfl)) (pss_one (ps_set (i := 1) sc__law_every.nd rfl (Or.inl rfl) (pe_op op_cat (pe_lc (own := [("_law_dots", 3)]) (g := gName 3) (tt := tYes) rfl sc__law_every.nd (pi_list (pv 1)) (blkOk_by (own := [("_law_dots", 3)]) (N := N__law_every) (sc := defScope s__law_every) (by decide +kernel)) (fun _ _ _ _ _ => pg_name (i := 3) sc__law_every.nd rfl (Or.inl rfl)) (fun _ _ _ _ _ => pts_nil) (fun _ _ _ _ _ => (pe_op op_add_str (pv 3) (pe_lit l_b)))) (pe_lc (own := [("_law_dots", 3)]) (g := gName 3) (tt := tYes) rfl sc__law_every.nd (pi_list (pv 1)) (blkOk_by (own := [("_law_dots", 3)]) (N := N__law_every) (sc := defScope s__law_every) (by decide +kernel)) (fun _ _ _ _ _ => pg_name (i := 3) sc__law_every.nd rfl (Or.inl rfl)) (fun _ _ _ _ _ => pts_nil) (fun _ _ _ _ _ => (pe_op op_add_str (pv 3) (pe_lit l_w))))))))
      (pss_one (ps_ret (pe_callB cr_sortS (by rfl) T.n_sorted (by decide +kernel) (pa_cons (pv 1) pa_nil)))))), ?_⟩
    refine ⟨(by show 1 ≤ sizeLine; decide), fun o no => ?_⟩
    refine ⟨_, rfl, (z : Nat), rfl, by omega, by omega, for_range (lo := 0) (n := ((z : Nat) : Int).toNat) (fun i σ H' => Same H H' ∧ ∃ (p : Addr) (x : Option V), σ = [some (.int (z : Nat)), some (.ref p), x, none] ∧ H' p = some (.lst ((ev i).map vS)))
      ⟨same_upd no, o, none, rfl, upd_same⟩ (fun i σ H' hi hP => ?_) fun σ H' hP => ?_⟩
    · obtain ⟨sm, p, x, rfl, hp⟩ := hP
      have hlen := ev_len6 (show i ≤ 6 by omega)
      -- one of the two comprehensions
      have step : ∀ (Dd : Addr) (H1 : Hp), H1 Dd = none → H1 p = some (.lst ((ev i).map vS)) → ∀ (c : Bool) (k : Nat) (x : V) (H2 : Hp), ((ev i).map vS)[k]? = some x → (Same H1 H2 ∧ H2 Dd = some (.lst (((ev i).take k).map fun l => vS (l ++ [c])))) →
          ∃ a b : Str, x = .str a ∧ V.str (S [c]) = .str b ∧ a.length + b.length ≤ sizeLine ∧ ∃ acc, H2 Dd = some (.lst acc) ∧ acc.length < sizeLine ∧ (Same H1 (upd H2 Dd (.lst (acc ++ [.str (a ++ b)]))) ∧ (upd H2 Dd (.lst (acc ++ [.str (a ++ b)]))) Dd = some (.lst (((ev i).take (k + 1)).map fun l => vS (l ++ [c])))) := by
        intro Dd H1 nD hp1 c k x H2 hx hP
        obtain ⟨sm2, hD⟩ := hP
        rw [List.getElem?_map] at hx
        obtain ⟨l, hl, rfl⟩ := Option.map_eq_some_iff.mp hx
        have hll := ev_wid (List.mem_of_getElem? hl)
        refine ⟨S l, S [c], rfl, rfl, by rw [S_length, S_length]; exact nat_small (by show l.length + 1 ≤ 1000; omega), _, hD, by rw [List.length_map, List.length_take]; exact small (by omega), fun b y hb => ?_, ?_⟩
        · rw [upd_ne (ne_of_none hb nD)]
          exact sm2 _ _ hb
        · rw [upd_same, List.take_add_one, hl, List.map_append, S_append]
          rfl
      refine ⟨_, rfl, p, rfl, ⟨_, lstL hp⟩, fun D1 n1 => ?_⟩
      refine lc_list (xs := (ev i).map vS) (fun k H2 => Same H' H2 ∧ H2 D1 = some (.lst (((ev i).take k).map fun l => vS (l ++ [true])))) ⟨same_upd n1, upd_same⟩ (fun k H2 _ hP => lstL (hP.1 _ _ hp)) (fun k x H2 hx hP => ?_) fun H2 hP => ?_
      · obtain ⟨a, b, e1, e2, z1, z2⟩ := step D1 H' n1 hp true k x H2 hx hP
        exact ⟨rfl, x, rfl, a, b, e1, e2, z1, z2⟩
      · obtain ⟨sm2, hD1⟩ := hP
        rw [List.length_map, List.take_length] at hD1
        have hp2 := sm2 _ _ hp
        refine ⟨_, rfl, p, rfl, ⟨_, lstL hp2⟩, fun D2 n2 => ?_⟩
        refine lc_list (xs := (ev i).map vS) (fun k H3 => Same H2 H3 ∧ H3 D2 = some (.lst (((ev i).take k).map fun l => vS (l ++ [false])))) ⟨same_upd n2, upd_same⟩ (fun k H3 _ hP => lstL (hP.1 _ _ hp2)) (fun k x H3 hx hP => ?_) fun H3 hP => ?_
        · obtain ⟨a, b, e1, e2, z1, z2⟩ := step D2 H2 n2 hp2 false k x H3 hx hP
          exact ⟨rfl, x, rfl, a, b, e1, e2, z1, z2⟩
        · obtain ⟨sm3, hD2⟩ := hP
          rw [List.length_map, List.take_length] at hD2
          have hD1' := sm3 _ _ hD1
          refine ⟨D1, D2, _, _, rfl, rfl, hD1', hD2, by rw [List.length_map, List.length_map]; exact nat_small (by omega), fun r nr => ⟨((sm.trans sm2).trans sm3).trans (same_upd nr), r, _, rfl, ?_⟩⟩
          rw [upd_same]
          show _ = some (HO.lst (((ev i).map (· ++ [true]) ++ (ev i).map (· ++ [false])).map vS))
          rw [List.map_append, List.map_map, List.map_map]
          rfl
    · obtain ⟨sm, p, x, rfl, hp⟩ := hP
      rw [Int.toNat_natCast] at hp
      refine ⟨_, rfl, p, (ev z).map S, rfl, lstL (by rw [hp, map_vS]), fun ys r hperm hs nr => ?_⟩
      exact q _ r ys (sm.trans (same_upd nr)) (hperm.trans ((ev_perm z).map S)) hs upd_same
/-! ### _law_row -/
def sp_law_row : Sp := fun vs H Q _ => ∃ (z : Nat) (a : Addr) (ls : List Ln), vs = [.int (z : Nat), .ref a] ∧ z ≤ 6 ∧ H a = some (.lst (ls.map vS)) ∧ (∀ l ∈ ls, l.length = z) ∧ ls.length ≤ 64 ∧ ∀ H', Same H H' → Q (oR (rowL z ls)) H'
theorem ok_law_row (T : Tx K mg A D) : FnOk P w K mg base CX0 1 (A 57) (D 57) ["_law_wide", "_law_some_here"] sp_law_row := by
  refine T.o__law_row.F.ok sc__law_row (fun vs H Q E h => ?_) (fun cdv Ar outer s H vs Q E hr h => ?_)
  · obtain ⟨_, _, _, rfl, _⟩ := h
    rfl
  · obtain ⟨z, a, ls, rfl, hz, ha, hwid, hl, q⟩ := h
    refine ⟨_, (pss_cons (ps_if (pt_cmpR (op_eqD hr.units) (pv 1) (pe_lst pa_nil) (nomark _)) (pss_one (ps_ret pe_non)) pss_nil)
      (pss_cons (ps_set (i := 2) sc__law_row.nd rfl (Or.inl rfl) (pe_lit l_e))
      (pss_cons (ps_for PassesOwn.never rfl (pi_range1 (by rfl) T.n_range (pa_cons (pv 0) pa_nil)) (pg_name (i := 3) sc__law_row.nd rfl (Or.inr rfl)) (pss_cons (ps_set (i := 4) sc__law_row.nd rfl (Or.inl rfl) (pe_sortSet rfl (by rfl) T.n_sorted (by rfl) T.n_set (pe_lc (own := [("_law_line_here", 5)]) (g := gName 5) (tt := tYes) rfl sc__law_row.nd (pi_list (pv 1)) (blkOk_by (own := [("_law_line_here", 5)]) (N := N__law_row) (sc := defScope s__law_row) (by decide +kernel)) (fun _ _ _ _ _ => pg_name (i := 5) sc__law_row.nd rfl (Or.inl rfl)) (fun _ _ _ _ _ => pts_nil) (fun _ _ _ _ _ => (pe_ix ix_str (pv 5) (pv 3) (fun _ _ => rfl))))))
      (pss_one (ps_set (i := 2) sc__law_row.nd rfl (Or.inl rfl) (pe_op op_add_str (pv 2) (pe_ifExp (pt_cmpR op_eq (pe_callB call_len_seq (by rfl) T.n_len (by decide +kernel) (pa_cons (pv 4) pa_nil)) pe_int (nomark _)) (pe_ix ix_list (pv 4) pe_int (fun _ _ => rfl)) (pe_lit l_q)))))))
      (pss_one (ps_ret (pv 2)))))), ?_⟩
    refine ⟨_, rfl, Nat.zero_le _, fun o no => ?_⟩
    have s2 : Same H (upd H o (.lst [])) := same_upd no
    have ha2 := s2 _ _ ha
    obtain ⟨d, e, d1, d2, d3, d4, d5⟩ := nilL (K := K) (lstL ha2) (fun x hx => by
      obtain ⟨l, _, rfl⟩ := List.mem_map.mp hx
      exact .str (strOk_S l)) (lstL (a := o) (xs := []) upd_same)
    refine ⟨d, e, d1, d2, d3, d4, _, rfl, ?_⟩
    rw [d5]
    cases ls with
    | nil => exact iteT (q _ s2)
    | cons l ls =>
      refine iteF ?_
      have hr1 : rowL z (l :: ls) = some ((List.range z).map (sgn (l :: ls))) := by
        unfold rowL
        rw [if_neg (by simp)]
      rw [hr1] at q
      have hks : ∀ (i : Nat) (ys : List Str), ys.Nodup → (∀ y, y ∈ ys ↔ y ∈ (l :: ls).map fun x => S [x.getD i false]) → _ := fun i ys h1 h2 => kinds_sgn (l := l) (ls := ls) (k := i) h1 h2
      generalize hG : l :: ls = L at *
      refine ⟨_, rfl, (z : Nat), rfl, by omega, by omega, for_range (lo := 0) (n := ((z : Nat) : Int).toNat) (fun i σ H' => Same H H' ∧ ∃ x y, σ = [some (.int (z : Nat)), some (.ref a), some (.str (R ((List.range i).map (sgn L)))), x, y, none])
        ⟨s2, none, none, rfl⟩ (fun i σ H' hi hP => ?_) fun σ H' hP => ?_⟩
      · obtain ⟨sm, x, y, rfl⟩ := hP
        have hiz : i < z := by omega
        have hp := sm _ _ ha
        refine ⟨_, rfl, a, rfl, ⟨_, lstL hp⟩, fun Dd nD => ?_⟩
        refine lc_list (xs := L.map vS) (fun k H2 => Same H' H2 ∧ H2 Dd = some (.lst ((L.take k).map fun x => V.str (S [x.getD i false])))) ⟨same_upd nD, upd_same⟩ (fun k H2 _ hP => lstL (hP.1 _ _ hp)) (fun k x2 H2 hx hP => ?_) fun H2 hP => ?_
        · obtain ⟨sm2, hD⟩ := hP
          rw [List.getElem?_map] at hx
          obtain ⟨l2, hl2, rfl⟩ := Option.map_eq_some_iff.mp hx
          have hlz := hwid l2 (List.mem_of_getElem? hl2)
          have e0 : (0 : Int) + (i : Nat) = (i : Nat) := by omega
          refine ⟨rfl, _, rfl, _, rfl, S l2, _, cp (l2.getD i false), rfl, rfl, by rw [S_length]; exact nat_small (by omega), by rw [e0]; exact S_atI (getD_at (by omega)), _, hD, by rw [List.length_map, List.length_take]; exact small (by omega), fun b u hb => ?_, ?_⟩
          · rw [upd_ne (ne_of_none hb nD)]
            exact sm2 _ _ hb
          · rw [upd_same, List.take_add_one, hl2, List.map_append]
            rfl
        · obtain ⟨sm2, hD⟩ := hP
          rw [List.length_map, List.take_length] at hD
          refine ⟨Dd, L.map fun x => S [x.getD i false], rfl, lstL (by rw [hD, List.map_map]; rfl), by rw [List.length_map]; omega, fun ys r hs hn hm nr => ?_⟩
          obtain ⟨k1, k2⟩ := hks i ys hn hm
          have sm3 := (sm.trans sm2).trans (same_upd (o := .lst (ys.map V.str)) nr)
          have hfin : ∀ c : Nat, sgn L i = c → R ((List.range i).map (sgn L)) ++ R [c] = R ((List.range (i + 1)).map (sgn L)) := fun c hc => by
            rw [R_append, ← hc, List.range_succ, List.map_append]
            rfl
          have szR : (R ((List.range i).map (sgn L))).length + 1 ≤ sizeLine := by
            rw [R_length, List.length_map, List.length_range]
            exact nat_small (by omega)
          refine ⟨_, rfl, _, rfl, r, _, rfl, .inl (lstL upd_same), rfl, _, rfl, ?_⟩
          rw [List.length_map]
          refine iteD (fun h1 => ?_) fun h1 => ?_
          · have h1' : ys.length = 1 := by
              have := V.int.inj h1
              omega
            obtain ⟨rfl, hsg⟩ := k1 h1'
            exact ⟨_, rfl, r, _, _, .str (S [l.getD i false]), rfl, rfl, lstL upd_same, atI_nat (j := 0) rfl, _, _, rfl, rfl, szR, sm3, _, _, by rw [← hfin _ hsg]; rfl⟩
          · have h1' : ys.length ≠ 1 := fun e => h1 (congrArg V.int (by omega))
            exact ⟨_, _, rfl, rfl, szR, sm3, _, _, by rw [← hfin _ (k2 h1')]; rfl⟩
      · obtain ⟨sm, x, y, rfl⟩ := hP
        rw [Int.toNat_natCast]
        exact ⟨_, rfl, q _ sm⟩
/-! ### _law_some -/
def sp_law_some : Sp := fun vs H Q _ => ∃ (m : Addr) (l : Addr × Addr) (n z : Nat), vs = [.ref m, .int (z : Nat)] ∧ MS H m l n ∧ n + 600 ≤ 1000000 ∧ 1 ≤ z ∧ z ≤ 6 ∧
  ∀ H' p ts, Kept m l H H' → MS H' m l (n + 600) → Ts H' p ts → ts.length ≤ 12 → (∀ t ∈ ts, TlOk t) → Q (.ref p) H'
theorem ok_law_some (T : Tx K mg A D) : FnOk P w K mg base CX0 4 (A 58) (D 58) ["_law_m", "_law_wide"] sp_law_some := by
  have G__law_draw := ok_law_draw (P := P) (w := w) (base := base) T
  have G__law_line := ok_law_line (P := P) (w := w) (base := base) T
  have G__law_walk := ok_law_walk (P := P) (w := w) (base := base) T
  have G__law_read := ok_law_read (P := P) (w := w) (base := base) T
  have G_full := ok_full (P := P) (w := w) (base := base) T
  refine T.o__law_some.F.ok sc__law_some (fun vs H Q E h => ?_) (fun cdv Ar outer s H vs Q E hr h => ?_)
  · obtain ⟨_, _, _, _, rfl, _⟩ := h
    rfl
  · obtain ⟨m, l, n, z, rfl, hms, hn, hz1, hz, q⟩ := h
    refine ⟨_, (pss_cons (ps_par (i := 2) (j := 3) rfl sc__law_some.nd rfl rfl (by decide) rfl rfl (pa_cons (pe_lst pa_nil) (pa_cons (pe_call G__law_line (hr.mono (by decide)) (by rfl) T.o__law_line.g T.o__law_line.F.kp T.o__law_line.b .nil pass0 (pa_cons (pv 0) (pa_cons (pv 1) pa_nil))) pa_nil)) (by rfl))
      (pss_cons (ps_for PassesOwn.never rfl (pi_range1 (by rfl) T.n_range (pa_cons (pe_op op_add pe_int (pe_call G__law_draw (hr.mono (by decide)) (by rfl) T.o__law_draw.g T.o__law_draw.F.kp T.o__law_draw.b .nil pass0 (pa_cons (pv 0) (pa_cons pe_int pa_nil)))) pa_nil)) (pg_name (i := 4) sc__law_some.nd rfl (Or.inl rfl)) (pss_cons (ps_set (i := 5) sc__law_some.nd rfl (Or.inl rfl) (pe_call G__law_draw (hr.mono (by decide)) (by rfl) T.o__law_draw.g T.o__law_draw.F.kp T.o__law_draw.b .nil pass0 (pa_cons (pv 0) (pa_cons pe_int pa_nil))))
      (pss_mid (ps_if (pt_cmpR op_eq (pv 5) pe_int (nomark _)) (pss_cons (ps_set (i := 3) sc__law_some.nd rfl (Or.inl rfl) (pe_call G__law_line (hr.mono (by decide)) (by rfl) T.o__law_line.g T.o__law_line.F.kp T.o__law_line.b .nil pass0 (pa_cons (pv 0) (pa_cons (pv 1) pa_nil))))
      (pss_one (ps_expr (pe_bm PySem.F.plainAttrs_list PySem.F.slot_list_append PySem.F.type_list_append mt_append (pv 2) (pa_cons (pe_call G_full (hr.mono (by decide)) (by rfl) T.o_full.g T.o_full.F.kp T.o_full.b .nil pass0 (pa_cons (pv 3) pa_nil)) pa_nil))))) (pss_one (ps_if (pt_cmpR op_eq (pv 5) pe_int (nomark _)) (pss_one (ps_expr (pe_bm PySem.F.plainAttrs_list PySem.F.slot_list_append PySem.F.type_list_append mt_append (pv 2) (pa_cons (pe_call G__law_walk (hr.mono (by decide)) (by rfl) T.o__law_walk.g T.o__law_walk.F.kp T.o__law_walk.b .nil pass0 (pa_cons (pv 0) (pa_cons (pe_call G__law_line (hr.mono (by decide)) (by rfl) T.o__law_line.g T.o__law_line.F.kp T.o__law_line.b .nil pass0 (pa_cons (pv 0) (pa_cons (pv 1) pa_nil))) pa_nil))) pa_nil)))) (pss_one (ps_expr (pe_bm PySem.F.plainAttrs_list PySem.F.slot_list_append PySem.F.type_list_append mt_append (pv 2) (pa_cons (pe_call G__law_walk (hr.mono (by decide)) (by rfl) T.o__law_walk.g T.o__law_walk.F.kp T.o__law_walk.b .nil pass0 (pa_cons (pv 0) (pa_cons (pv 3) pa_nil))) pa_nil)))))))
      (pss_cons (ps_set (i := 6) sc__law_some.nd rfl (Or.inl rfl) (pe_call G__law_read (hr.mono (by decide)) (by rfl) T.o__law_read.g T.o__law_read.F.kp T.o__law_read.b .nil pass0 (pa_cons (pv 3) (pa_cons (pe_ix ix_list (pv 2) (pe_un un_neg pe_int) (fun _ _ => rfl)) pa_nil))))
      (pss_one (ps_set (i := 3) sc__law_some.nd rfl (Or.inl rfl) (pe_ifExp (pt_cmpR op_notN (pv 6) pe_non (nomark _)) (pv 6) (pv 3))))))))
      (pss_one (ps_ret (pe_callTy call_tuple_of (by rfl) T.n_tuple (by decide +kernel) (pa_cons (pv 2) pa_nil)))))), ?_⟩
    refine ⟨Nat.zero_le _, fun o no => ?_⟩
    obtain ⟨om, ol, oc⟩ := hms.ne no
    have s1 : Same H (upd H o (.lst [])) := same_upd no
    have ho1 : (upd H o (.lst [])) o = some (.lst []) := upd_same
    generalize upd H o (.lst []) = H1 at *
    have nokp : ∀ {Ha Hb : Hp} {y : HO}, Kept m l Ha Hb → Ha o = some y → Hb o = some y := fun k h => k o _ om ol h
    refine ⟨_, rfl, _, rfl, m, l, n, z, rfl, hms.same s1, by omega, hz, fun H2 ln k2 m2 hln => ⟨_, _, rfl, ?_⟩⟩
    refine ⟨_, rfl, m, l, _, 12, rfl, m2, by omega, by decide, by decide, fun H3 v k3 m3 v0 v1 => ?_⟩
    have kp3 := ((Kept.of s1).trans k2).trans k3
    have ho3 := nokp k3 (nokp k2 ho1)
    refine ⟨_, _, rfl, rfl, 1 + v, rfl, by omega, by omega, for_range (lo := 0) (n := (1 + v).toNat) (fun i σ H' => Kept m l H H' ∧ MS H' m l (n + 13 + 41 * i) ∧ ∃ (ln : Ln) (bs : List Addr) (ts : List (List Md)) (x4 x5 x6 : Option V), σ = [some (.ref m), some (.int (z : Nat)), some (.ref o), some (.str (S ln)), x4, x5, x6] ∧
        ln.length = z ∧ H' o = some (.lst (bs.map V.ref)) ∧ bs.length = i ∧ ts.length = i ∧ (∀ (j : Nat) (b : Addr) (t : List Md), bs[j]? = some b → ts[j]? = some t → Tl H' b t) ∧ ∀ t ∈ ts, TlOk t)
      ⟨kp3, m3.le (by omega), ln, [], [], none, none, none, rfl, hln, ho3, rfl, rfl, fun j b t h => by simp at h, fun t h => by simp at h⟩ (fun i σ H' hi hP => ?_) fun σ H' hP => ?_⟩
    · obtain ⟨kp, ms, ln, bs, ts, x4, x5, x6, rfl, hln, ho, hbl, htl, hat, hok⟩ := hP
      refine ⟨_, rfl, m, l, _, 8, rfl, ms, by omega, by decide, by decide, fun H4 y k4 m4 y0 y1 => ?_⟩
      refine ⟨fun σ' H5 => ∃ (ln2 : Ln) (b : Addr) (t : List Md), σ' = [some (.ref m), some (.int (z : Nat)), some (.ref o), some (.str (S ln2)), some (.int (0 + (i : Nat))), some (.int y), x6] ∧ ln2.length = z ∧ Kept m l H H5 ∧ MS H5 m l (n + 13 + 41 * i + 41) ∧
          Keep H' H5 ∧ H5 o = some (.lst (bs.map V.ref ++ [.ref b])) ∧ Tl H5 b t ∧ TlOk t, ?_, fun σ' H5 hM => ?_⟩
      · -- the append
        have app : ∀ (H5 : Hp) (b : Addr) (t : List Md), Kept m l H4 H5 → MS H5 m l (n + 13 + 41 * i + 41) → Tl H5 b t → H5 o = some (.lst (bs.map V.ref)) ∧ (bs.map V.ref).length < sizeLine ∧ Kept m l H (upd H5 o (.lst (bs.map V.ref ++ [.ref b]))) ∧ MS (upd H5 o (.lst (bs.map V.ref ++ [.ref b]))) m l (n + 13 + 41 * i + 41) ∧
            Keep H' (upd H5 o (.lst (bs.map V.ref ++ [.ref b]))) ∧ (upd H5 o (.lst (bs.map V.ref ++ [.ref b]))) o = some (.lst (bs.map V.ref ++ [.ref b])) ∧ Tl (upd H5 o (.lst (bs.map V.ref ++ [.ref b]))) b t := by
          intro H5 b t k5 m5 ht
          have ho5 := nokp k5 (nokp k4 ho)
          have kpo : Keep H5 (upd H5 o (.lst (bs.map V.ref ++ [.ref b]))) := fun c xs hc => by
            rw [upd_ne (fun e => by
              rw [e, ho5] at hc
              cases hc)]
            exact hc
          refine ⟨ho5, by rw [List.length_map]; exact small (by omega), fun c u h1 h2 hc => ?_, m5.upd om ol oc, ((k4.trans k5).keep ms).trans kpo, upd_same, ht.keep kpo⟩
          rw [upd_ne (ne_of_none hc no)]
          exact k5 _ _ h1 h2 (k4 _ _ h1 h2 (kp _ _ h1 h2 hc))
        have ho4 := nokp k4 ho
        refine ⟨_, rfl, rfl, _, rfl, iteD (fun _ => ?_) fun _ => ?_⟩
        · refine ⟨_, rfl, _, rfl, m, l, _, z, rfl, m4, by omega, hz, fun H5 ln2 k5 m5 hln2 => ?_⟩
          have ho5 := nokp k5 ho4
          refine ⟨_, rfl, .inl ⟨rfl, _, lstL ho5⟩, _, rfl, ln2, rfl, by omega, by omega, fun H6 p rs s6 hrs hp => ?_⟩
          obtain ⟨a1, a2, a3, a4, a5, a6, a7⟩ := app H6 p [.full rs] (k5.trans (Kept.of s6)) ((m5.same s6).le (by omega)) hp
          exact ⟨o, _, _, rfl, rfl, a1, a2, ln2, p, [.full rs], rfl, hln2, a3, a4, a5, a6, a7, .inl ⟨rs, rfl, hrs⟩⟩
        · refine ⟨_, rfl, rfl, _, rfl, iteD (fun _ => ?_) fun _ => ?_⟩
          · refine ⟨_, rfl, .inl ⟨rfl, _, lstL ho4⟩, _, rfl, _, rfl, _, rfl, m, l, _, z, rfl, m4, by omega, hz, fun H5 ln2 k5 m5 hln2 => ?_⟩
            refine ⟨m, l, _, ln2, rfl, m5, by omega, by omega, by omega, fun H6 p t k6 m6 hok6 ht6 => ?_⟩
            obtain ⟨a1, a2, a3, a4, a5, a6, a7⟩ := app H6 p t (k5.trans k6) (m6.le (by omega)) ht6
            exact ⟨o, _, _, rfl, rfl, a1, a2, ln, p, t, rfl, hln, a3, a4, a5, a6, a7, hok6⟩
          · refine ⟨_, rfl, .inl ⟨rfl, _, lstL ho4⟩, _, rfl, _, rfl, m, l, _, ln, rfl, m4, by omega, by omega, by omega, fun H6 p t k6 m6 hok6 ht6 => ?_⟩
            obtain ⟨a1, a2, a3, a4, a5, a6, a7⟩ := app H6 p t k6 (m6.le (by omega)) ht6
            exact ⟨o, _, _, rfl, rfl, a1, a2, ln, p, t, rfl, hln, a3, a4, a5, a6, a7, hok6⟩
      · obtain ⟨ln2, b, t, rfl, hln2, kp5, ms5, kk, ho5, ht5, hok5⟩ := hM
        refine ⟨_, rfl, _, rfl, 1, rfl, o, _, -1, .ref b, rfl, rfl, lstL ho5, atI_last _ _, ln2, b, t, rfl, ht5, hok5, by omega, fun H6 s6 => ?_⟩
        have fin : ∀ (ln3 : Ln), ln3.length = z → Kept m l H H6 ∧ MS H6 m l (n + 13 + 41 * (i + 1)) ∧ ∃ (ln : Ln) (bs : List Addr) (ts : List (List Md)) (x4' x5' x6' : Option V), [some (V.ref m), some (.int (z : Nat)), some (.ref o), some (.str (S ln3)), some (.int (0 + (i : Nat))), some (.int y), some (oS (read ln2 t))] = [some (.ref m), some (.int (z : Nat)), some (.ref o), some (.str (S ln)), x4', x5', x6'] ∧
            ln.length = z ∧ H6 o = some (.lst (bs.map V.ref)) ∧ bs.length = i + 1 ∧ ts.length = i + 1 ∧ (∀ (j : Nat) (b : Addr) (t : List Md), bs[j]? = some b → ts[j]? = some t → Tl H6 b t) ∧ ∀ t ∈ ts, TlOk t := by
          intro ln3 hln3
          refine ⟨kp5.trans (Kept.of s6), (ms5.same s6).le (by omega), ln3, bs ++ [b], ts ++ [t], _, _, _, rfl, hln3, ?_, by rw [List.length_append, hbl]; rfl, by rw [List.length_append, htl]; rfl, fun j b2 t2 hb ht => ?_, fun t2 h2 => ?_⟩
          · rw [s6 _ _ ho5, List.map_append]
            rfl
          · by_cases hj : j < i
            · rw [List.getElem?_append_left (by omega)] at hb ht
              exact ((hat j b2 t2 hb ht).keep kk).keep (Keep.of s6)
            · rw [List.getElem?_append_right (by omega)] at hb ht
              rw [hbl] at hb
              rw [htl] at ht
              have hij : j - i = 0 := by
                have := (List.getElem?_eq_some_iff.mp hb).1
                simp at this
                omega
              rw [hij] at hb ht
              cases hb
              cases ht
              exact ht5.keep (Keep.of s6)
          · rcases List.mem_append.mp h2 with h | h
            · exact hok t2 h
            · rw [List.mem_singleton.mp h]
              exact hok5
        refine ⟨_, rfl, rfl, _, rfl, ?_⟩
        cases hrd : read ln2 t with
        | none =>
          have := fin ln2 hln2
          rw [hrd] at this
          exact iteF ⟨_, rfl, this⟩
        | some x =>
          have := fin x (by rw [read_len hrd]; exact hln2)
          rw [hrd] at this
          exact iteT ⟨_, rfl, this⟩
    · obtain ⟨kp, ms, ln, bs, ts, x4, x5, x6, rfl, hln, ho, hbl, htl, hat, hok⟩ := hP
      refine ⟨_, rfl, o, _, rfl, .inl ⟨lstL ho, fun r nr => ?_⟩⟩
      have sr : Same H' (upd H' r (.tup (bs.map V.ref))) := same_upd nr
      exact q _ r ts (kp.trans (Kept.of sr)) ((ms.same sr).le (by omega)) ⟨bs, upd_same, by omega, fun j b t hb ht => (hat j b t hb ht).keep (Keep.of sr)⟩ (by omega) hok
end
end K8
/-! K78p14: plain facts behind _law_right -/
namespace K8
open PySem PySem.Spec PyProof.Rows L2
theorem rising_pw : ∀ (r : List Str) (p : Str), risingS p r = true → (p :: r).Pairwise fun a b => a.cps.toList ≤ b.cps.toList
  | [], p, _ => List.pairwise_singleton _ _
  | x :: r, p, h => by
    have h2 : (!ltCps x.cps.toList p.cps.toList && risingS x r) = true := h
    rw [Bool.and_eq_true] at h2
    have ih := rising_pw r x h2.2
    have hpx : p.cps.toList ≤ x.cps.toList := by
      have h3 := h2.1
      rw [ltCps_eq] at h3
      have h4 : ¬ x.cps.toList < p.cps.toList := by simpa using h3
      exact List.not_lt.mp h4
    refine List.pairwise_cons.mpr ⟨fun y hy => ?_, ih⟩
    rcases List.mem_cons.mp hy with e | e
    · rw [e]
      exact hpx
    · exact List.le_trans hpx ((List.pairwise_cons.mp ih).1 y e)
theorem sorted_pw {r : List Str} (h : sortedS r = true) : r.Pairwise fun a b => a.cps.toList ≤ b.cps.toList := by
  cases r with
  | nil => exact .nil
  | cons x r => exact rising_pw r x h
/-- sorted texts are told by what is in them -/
theorem sorted_uniq {xs ys : List Str} (h1 : sortedS xs = true) (h2 : sortedS ys = true) (h : xs.Perm ys) : xs = ys :=
  List.Perm.eq_of_pairwise (fun a b _ _ z1 z2 => by
    have e := List.le_antisymm z1 z2
    cases a
    cases b
    exact congrArg Str.mk (Array.toList_inj.mp e)) (sorted_pw h1) (sorted_pw h2) h
theorem nodup_S {ls : List Ln} (h : ls.Nodup) : (ls.map S).Nodup := List.pairwise_map.mpr (h.imp fun z e => z (S_inj e))
/-- what is read beside the lines, sorted and each once: what may be known behind -/
theorem reads_perm {ls L : List Ln} {t : List Md} {ys : List Str} (hp : ∀ x, x ∈ ls ↔ x ∈ L) (hn : ys.Nodup) (hm : ∀ k, k ∈ ys ↔ k ∈ (ls.filterMap (fun l => read l t)).map S) : ys.Perm ((nxt L t).map S) := by
  refine (List.perm_ext_iff_of_nodup hn (nodup_S (nxt_nodup L t))).mpr fun k => ?_
  rw [hm k]
  simp only [List.mem_map, List.mem_filterMap, nxt_mem, hp]
theorem ys_lines {ys : List Str} {L : List Ln} (h : ys.Perm (L.map S)) : ∃ ls : List Ln, ys = ls.map S ∧ ls.Perm L := by
  have key : ∀ zs : List Str, (∀ y ∈ zs, ∃ l : Ln, y = S l) → ∃ ls : List Ln, zs = ls.map S := fun zs => by
    induction zs with
    | nil => exact fun _ => ⟨[], rfl⟩
    | cons z zs ih =>
      intro hz
      obtain ⟨l, hl⟩ := hz z List.mem_cons_self
      obtain ⟨ls, hls⟩ := ih fun y hy => hz y (List.mem_cons_of_mem _ hy)
      exact ⟨l :: ls, by rw [hl, hls]; rfl⟩
  obtain ⟨ls, rfl⟩ := key ys fun y hy => by
    obtain ⟨l, _, e⟩ := List.mem_map.mp (h.mem_iff.mp hy)
    exact ⟨l, e.symm⟩
  refine ⟨ls, rfl, ?_⟩
  have h2 := h.map (fun s : Str => s.cps.toList)
  rw [List.map_map, List.map_map] at h2
  -- back over an injective map
  have inj : ∀ a b : Ln, a.map cp = b.map cp → a = b := fun a b e => (List.map_inj_right (fun _ _ => cp_inj)).mp e
  have back : ∀ (A B : List Ln), (A.map fun l => l.map cp).Perm (B.map fun l => l.map cp) → A.Perm B := fun A => by
    induction A with
    | nil =>
      intro B hB
      have := hB.length_eq
      cases B with
      | nil => exact .nil
      | cons b B => simp at this
    | cons a A ih =>
      intro B hB
      have ha : a.map cp ∈ B.map fun l => l.map cp := hB.mem_iff.mp List.mem_cons_self
      obtain ⟨b, hb, e⟩ := List.mem_map.mp ha
      have e2 := inj b a e
      subst e2
      obtain ⟨s, r, rfl⟩ := List.append_of_mem hb
      have h3 : (b :: A).map (fun l => l.map cp) |>.Perm ((b :: (s ++ r)).map fun l => l.map cp) := hB.trans (List.perm_middle.map _)
      have h4 : (A.map fun l => l.map cp).Perm ((s ++ r).map fun l => l.map cp) := h3.cons_inv
      exact ((ih _ h4).cons b).trans List.perm_middle.symm
  refine back ls L ?_
  have e1 : ∀ X : List Ln, X.map ((fun s : Str => s.cps.toList) ∘ S) = X.map fun l => l.map cp := fun X => List.map_congr_left fun l _ => rfl
  rw [e1, e1] at h2
  exact h2
theorem rowL_perm {z : Nat} {ls L : List Ln} (h : ls.Perm L) : rowL z ls = rowL z L := rowL_congr fun _ => h.mem_iff
/-- behind a full telling all is sure -/
theorem full_sure {z : Nat} {L : List Ln} {rs : List Nat} {r : List Nat} (h : rowL z (nxt L [.full rs]) = some r) : 63 ∉ r := by
  unfold rowL at h
  split at h
  · cases h
  · rename_i hne
    cases h
    intro hm
    obtain ⟨k, _, hk⟩ := List.mem_map.mp hm
    have hall : ∀ x ∈ nxt L [.full rs], x.getD k false = (lnAt rs false).getD k false := fun x hx => by
      obtain ⟨l, _, e⟩ := nxt_mem.mp hx
      unfold read at e
      split at e
      · rename_i rs' tl heq
        cases heq
        split at e
        · cases e
          rfl
        · cases e
      · rename_i hno
        exact absurd rfl (hno _ _)
    rw [sgn_some hne hall] at hk
    cases hb : (lnAt rs false).getD k false <;> (rw [hb] at hk; exact absurd hk (by decide))
theorem rowL_some {z : Nat} {L : List Ln} (h : L ≠ []) : ∃ r, rowL z L = some r := by
  unfold rowL
  rw [if_neg h]
  exact ⟨_, rfl⟩
theorem rowL_nil (z : Nat) : rowL z [] = none := rfl
/-- one more telling, by the rows -/
theorem stlD_step {z : Nat} {ls : List Ln} {ts : List (List Md)} {r : List Nat} (hn : none ∉ rws z ls ts) : stlD (rws z ls ts ++ [some r]) = if 63 ∈ r then none else some ((stlD (rws z ls ts)).getD ts.length) := by
  have hl := (rws_full z ls ts hn).1
  unfold stlD
  rw [if_neg hn, if_neg (by simp [hn]), stl_snoc, hl]
  by_cases h : 63 ∈ r
  · have hs : sureO (some r) = false := by
      show (!r.contains 63) = false
      rw [List.contains_iff_mem.mpr h]
      rfl
    rw [hs, if_pos h]
    rfl
  · have hs : sureO (some r) = true := by
      show (!r.contains 63) = true
      have : r.contains 63 = false := by
        rw [Bool.eq_false_iff]
        intro z0
        exact h (List.contains_iff_mem.mp z0)
      rw [this]
      rfl
    rw [hs, if_neg h]
    rfl
end K8
/-! K78p15: _law_right -/
namespace K8
open PySem PySem.Spec PyProof.Rows L2
theorem shS {l : Ln} (h : l.length ≤ 6) : ShOk (.str (S l)) := by
  refine ⟨by rw [S_length]; omega, fun c hc => ?_⟩
  have hc2 : c ∈ (l.map cp).toArray.toList := hc
  rw [List.toList_toArray] at hc2
  obtain ⟨b, _, rfl⟩ := List.mem_map.mp hc2
  cases b <;> decide
theorem shOR {z : Nat} (hz : z ≤ 6) {ls : List Ln} {ts : List (List Md)} : ∀ y ∈ (rws z ls ts).map oR, ShOk y := fun y hy => by
  obtain ⟨r, hr, rfl⟩ := List.mem_map.mp hy
  cases r with
  | none => trivial
  | some r =>
    obtain ⟨h1, h2⟩ := rws_ok z ls ts r hr
    refine ⟨by rw [R_length]; omega, fun c hc => ?_⟩
    rcases h2 c hc with e | e | e <;> (rw [e]; decide)
theorem shYs {z : Nat} (hz : z ≤ 6) {ys : List Str} {ts : List (List Md)} (h : ys.Perm ((aft (allL z) ts).map S)) : ∀ y ∈ ys.map V.str, ShOk y := fun y hy => by
  obtain ⟨s, hs, rfl⟩ := List.mem_map.mp hy
  obtain ⟨l, hl, rfl⟩ := List.mem_map.mp (h.mem_iff.mp hs)
  exact shS (by rw [aft_wid z ts l hl]; exact hz)
theorem perm_len {z : Nat} (hz : z ≤ 6) {ys : List Str} {ts : List (List Md)} (h : ys.Perm ((aft (allL z) ts).map S)) : ys.length ≤ 64 := by
  rw [h.length_eq, List.length_map]
  exact aft_len6 hz ts
theorem stlD_le {rs : List (Option (List Nat))} {k : Nat} (h : stlD rs = some k) : k ≤ rs.length := by
  unfold stlD at h
  split at h
  · cases h
  · rw [stl_eq] at h
    split at h
    · cases h
      omega
    · cases h
/-- behind a turn: the rows, the last of them -/
theorem rows_turn {z : Nat} {ts : List (List Md)} {i : Nat} {t : List Md} (h : ts[i]? = some t) :
    (none ∈ rws z (allL z) (ts.take i) ∧ rws z (allL z) (ts.take (i + 1)) = rws z (allL z) (ts.take i) ∧ aft (allL z) (ts.take (i + 1)) = []) ∨
    (none ∉ rws z (allL z) (ts.take i) ∧ rws z (allL z) (ts.take (i + 1)) = rws z (allL z) (ts.take i) ++ [rowL z (aft (allL z) (ts.take (i + 1)))]) := by
  have ha := aft_take (allL z) ts h
  by_cases hn : none ∈ rws z (allL z) (ts.take i)
  · refine .inl ⟨hn, ?_, ?_⟩
    · rw [List.take_add_one, h]
      show rws z (allL z) (ts.take i ++ [t]) = _
      rw [rws_snoc, if_pos hn]
    · rw [ha, (rws_none z _ _ hn).1]
      rfl
  · refine .inr ⟨hn, ?_⟩
    rw [rws_take z _ ts h hn, ha]
theorem sure_iff {r : List Nat} : (!decide (63 ∈ (R r).cps.toList)) = sureO (some r) := by
  show (!decide (63 ∈ r)) = !r.contains 63
  by_cases h : 63 ∈ r
  · rw [decide_eq_true h, List.contains_iff_mem.mpr h]
  · rw [decide_eq_false h]
    have : r.contains 63 = false := by
      rw [Bool.eq_false_iff]
      intro z0
      exact h (List.contains_iff_mem.mp z0)
    rw [this]
/-- what the law says of the first sure number, row by row -/
theorem stl_turn {z : Nat} {ts : List (List Md)} {i : Nat} {t : List Md} (h : ts[i]? = some t) :
    stlD (rws z (allL z) (ts.take (i + 1))) = if sureO (rowL z (aft (allL z) (ts.take (i + 1)))) = true then some ((stlD (rws z (allL z) (ts.take i))).getD i) else none := by
  have hi : (ts.take i).length = i := by
    rw [List.length_take]
    have := (List.getElem?_eq_some_iff.mp h).1
    omega
  rcases rows_turn (z := z) h with ⟨h1, h2, h3⟩ | ⟨h1, h2⟩
  · rw [h2, h3]
    unfold stlD
    rw [if_pos h1]
    rfl
  · rw [h2]
    cases hr : rowL z (aft (allL z) (ts.take (i + 1))) with
    | none =>
      unfold stlD
      rw [if_pos (by simp)]
      rfl
    | some r =>
      rw [stlD_step h1, hi]
      by_cases h6 : 63 ∈ r
      · have hs : sureO (some r) = false := by
          show (!r.contains 63) = false
          rw [List.contains_iff_mem.mpr h6]
          rfl
        rw [if_pos h6, hs]
        rfl
      · have hs : sureO (some r) = true := by
          rw [← sure_iff]
          show (!decide (63 ∈ r)) = true
          rw [decide_eq_false h6]
          rfl
        rw [if_neg h6, hs]
        rfl
section
variable {P : Program} {w : World} {K : PySem.W.Frag} {mg : Str → Option Value} {base : Heap} {A : Nat → Addr} {D : Nat → FuncData}
def sp_right : Sp := fun vs H Q _ => ∃ (z : Nat) (a : Addr) (ts : List (List Md)), vs = [.int (z : Nat), .ref a] ∧ 1 ≤ z ∧ z ≤ 6 ∧ Ts H a ts ∧ ts.length ≤ 12 ∧ (∀ t ∈ ts, TlOk t) ∧ ∀ H', Same H H' → Q (.bl true) H'
theorem ok_law_right (T : Tx K mg A D) : FnG P w K mg base CX0 7 (A 59) (D 59) ["_law_wide", "_law_some_here"] sp_right := by
  have G__law_every := ok_law_every (P := P) (w := w) (base := base) T
  have G__law_read := ok_law_read (P := P) (w := w) (base := base) T
  have G__law_row := ok_law_row (P := P) (w := w) (base := base) T
  have G_known := ok_known (P := P) (w := w) (base := base) T
  have G_sure_rows := ok_sure_rows (P := P) (w := w) (base := base) T
  have G_settled := ok_settled (P := P) (w := w) (base := base) T
  refine Fun_okG T.o__law_right.F sc__law_right (fun vs H Q E h => ?_) (fun cdv Ar outer s H vs Q E hgd hr h => ?_)
  · obtain ⟨_, _, _, rfl, _⟩ := h
    rfl
  · obtain ⟨z, a, ts, rfl, hz1, hz, hts, hl12, hok, q⟩ := h
    refine ⟨_, (pss_cons (ps_par3 (i := 2) (j := 3) (l := 4) rfl sc__law_right.nd rfl rfl rfl (by decide) (by decide) (by decide) rfl rfl rfl (pa_cons (pe_call G__law_every (hr.mono (by decide)) (by rfl) T.o__law_every.g T.o__law_every.F.kp T.o__law_every.b .nil pass0 (pa_cons (pv 0) pa_nil)) (pa_cons (pe_lst pa_nil) (pa_cons pe_non pa_nil))) (by rfl))
      (pss_cons (ps_for PassesOwn.never rfl (pi_enumT (by rfl) T.n_enumerate (pa_cons (pv 1) pa_nil)) (pg_tup rfl (pgs_cons (pg_name (i := 5) sc__law_right.nd rfl (Or.inl rfl)) (pgs_cons (pg_name (i := 6) sc__law_right.nd rfl (Or.inr rfl)) pgs_nil))) (pss_cons (ps_set (i := 2) sc__law_right.nd rfl (Or.inl rfl) (pe_sortSet rfl (by rfl) T.n_sorted (by rfl) T.n_set (pe_lc (own := [("_law_line_here", 8)]) (g := gName 8) rfl sc__law_right.nd (pi_list (pe_lc (own := [("_law_ahead", 9)]) (g := gName 9) (tt := tYes) rfl sc__law_right.nd (pi_list (pv 2)) (blkOk_by (own := [("_law_ahead", 9)]) (N := N__law_right) (sc := defScope s__law_right) (by decide +kernel)) (fun _ _ _ _ _ => pg_name (i := 9) sc__law_right.nd rfl (Or.inl rfl)) (fun _ _ _ _ _ => pts_nil) (fun _ _ _ _ _ => (pe_call G__law_read (hr.mono (by decide)) (by rfl) T.o__law_read.g T.o__law_read.F.kp T.o__law_read.b .nil pass0 (pa_cons (pv 9) (pa_cons (pv 6) pa_nil)))))) (blkOk_by (own := [("_law_line_here", 8)]) (N := N__law_right) (sc := defScope s__law_right) (by decide +kernel)) (fun _ _ _ _ _ => pg_name (i := 8) sc__law_right.nd rfl (Or.inl rfl)) (fun _ _ _ _ _ => pts_one (pt_cmpR op_notN (pv 8) pe_non (nomark _))) (fun _ _ _ _ _ => (pv 8)))))
      (pss_cons (ps_if (pt_cmpR op_ne (pe_callB (cr_repr hgd hr.units) (by rfl) T.n_repr (by decide +kernel) (pa_cons (pe_call G_known (hr.mono (by decide)) (by rfl) T.o_known.g T.o_known.F.kp T.o_known.b .nil pass0 (pa_cons (pv 0) (pa_cons (pe_mid (pe_slice sl_tupA (pv 1) po_none (po_some (pe_op op_add (pv 5) pe_int)))) pa_nil))) pa_nil)) (pe_callB (cr_repr hgd hr.units) (by rfl) T.n_repr (by decide +kernel) (pa_cons (pe_callTy call_tuple_of (by rfl) T.n_tuple (by decide +kernel) (pa_cons (pv 2) pa_nil)) pa_nil)) (nomark _)) (pss_one (ps_ret pe_bl)) pss_nil)
      (pss_mid (ps_if (PW.pt (pw_or (pt_cmpR (op_eqD hr.units) (pv 3) (pe_lst pa_nil) (nomark _)) (pw_or1 (pt_cmpR op_notN (pe_ix ix_list (pv 3) (pe_un un_neg pe_int) (fun _ _ => rfl)) pe_non (nomark _))))) (pss_one (ps_expr (pe_bm PySem.F.plainAttrs_list PySem.F.slot_list_append PySem.F.type_list_append mt_append (pv 3) (pa_cons (pe_call G__law_row (hr.mono (by decide)) (by rfl) T.o__law_row.g T.o__law_row.F.kp T.o__law_row.b .nil pass0 (pa_cons (pv 0) (pa_cons (pv 2) pa_nil))) pa_nil)))) pss_nil)
      (pss_mid (ps_set (i := 7) sc__law_right.nd rfl (Or.inl rfl) (pe_and (pe_cmpR (op_neD hr.units) (pv 2) (pe_lst pa_nil) (nomark _)) (pe_one (pe_cmpR op_notIn_sign (pe_lit l_q) (pe_ix ix_list (pv 3) (pe_un un_neg pe_int) (fun _ _ => rfl)) rfl))))
      (pss_mid (ps_set (i := 4) sc__law_right.nd rfl (Or.inl rfl) (pe_ifExp (pt_val (pv 7)) (pe_ifExp (pt_cmpR op_isN (pv 4) pe_non (nomark _)) (pv 5) (pv 4)) pe_non))
      (pss_one (ps_if (PW.pt (pw_and (pt_cmpR op_eq (pe_ix ix_tup (pe_ix ix_tup (pv 6) pe_int (fun _ _ => rfl)) pe_int (fun _ _ => rfl)) pe_str (nomark _)) (pw_and (pt_cmpR (op_neD hr.units) (pv 2) (pe_lst pa_nil) (nomark _)) (pw_and1 (pt_not (pt_val (pv 7))))))) (pss_one (ps_ret pe_bl)) pss_nil))))))))
      (pss_cons (ps_if (pt_cmpR op_ne (pe_callB (cr_repr hgd hr.units) (by rfl) T.n_repr (by decide +kernel) (pa_cons (pe_call G_sure_rows (hr.mono (by decide)) (by rfl) T.o_sure_rows.g T.o_sure_rows.F.kp T.o_sure_rows.b .nil pass0 (pa_cons (pv 0) (pa_cons (pv 1) pa_nil))) pa_nil)) (pe_callB (cr_repr hgd hr.units) (by rfl) T.n_repr (by decide +kernel) (pa_cons (pe_callTy call_tuple_of (by rfl) T.n_tuple (by decide +kernel) (pa_cons (pv 3) pa_nil)) pa_nil)) (nomark _)) (pss_one (ps_ret pe_bl)) pss_nil)
      (pss_one (ps_ret (pe_cmpR op_eq (pe_callB (cr_repr hgd hr.units) (by rfl) T.n_repr (by decide +kernel) (pa_cons (pe_call G_settled (hr.mono (by decide)) (by rfl) T.o_settled.g T.o_settled.F.kp T.o_settled.b .nil pass0 (pa_cons (pv 0) (pa_cons (pv 1) pa_nil))) pa_nil)) (pe_callB (cr_repr hgd hr.units) (by rfl) T.n_repr (by decide +kernel) (pa_cons (pv 4) pa_nil)) (nomark _))))))), ?_⟩
    refine ⟨_, rfl, z, rfl, hz, fun H1 lp0 ys0 s1 hperm0 hs0 hlp0 => ⟨Nat.zero_le _, fun o no => ⟨_, _, _, rfl, ?_⟩⟩⟩
    have no0 : H o = none := s1.free no
    have hts0 := hts
    obtain ⟨bs, h1, h2, h3⟩ := hts
    have s2 : Same H (upd H1 o (.lst [])) := s1.trans (same_upd no)
    have lo0 : lp0 ≠ o := ne_of_none hlp0 no
    refine ⟨_, rfl, a, _, rfl, tupT (s2 _ _ h1), for_it (walk_enumT (xs := bs.map V.ref)) (fun i σ H' => Same H H' ∧ ∃ (lp : Addr) (ys : List Str) (x5 x6 x7 : Option V), σ = [some (.int (z : Nat)), some (.ref a), some (.ref lp), some (.ref o), some (oN (stlD (rws z (allL z) (ts.take i)))), x5, x6, x7, none, none] ∧
        lp ≠ o ∧ H' lp = some (.lst (ys.map V.str)) ∧ ys.Perm ((aft (allL z) (ts.take i)).map S) ∧ H' o = some (.lst ((rws z (allL z) (ts.take i)).map oR)))
      ⟨s2, lp0, ys0, none, none, none, rfl, lo0, (upd_ne lo0).trans hlp0, hperm0, upd_same⟩ (fun i σ H' _ hP => tupT (hP.1 _ _ h1)) (fun i x σ H' H'' hi hP hY => ?_) fun σ H' hP => ?_⟩
    · obtain ⟨sm, lp, ys, x5, x6, x7, rfl, hlo, hlp, hperm, ho⟩ := hP
      obtain ⟨u, x1, x2, rfl, nu, rfl, e1, e2⟩ := hY
      cases e1
      replace e2 : (bs.map V.ref)[i]? = some x2 := e2
      rw [List.getElem?_map] at e2
      obtain ⟨b, hb, rfl⟩ := Option.map_eq_some_iff.mp e2
      rw [List.length_map, h2] at hi
      have hti : ts[i]? = some ts[i] := List.getElem?_eq_getElem hi
      have hokt := hok _ (List.getElem_mem hi)
      generalize ts[i] = t at hti hokt
      have su : Same H' (upd H' u (.tup [.int (i : Nat), .ref b])) := same_upd nu
      have hlp2 := su _ _ hlp
      have ho2 := su _ _ ho
      have sm2 := sm.trans su
      refine ⟨u, _, rfl, .inl (.inl upd_same), rfl, _, _, rfl, _, [], rfl, rfl, ?_⟩
      generalize upd H' u (.tup [.int (i : Nat), .ref b]) = H2 at *
      obtain ⟨ls, rfl, hlsP⟩ := ys_lines hperm
      have hlsw : ∀ l ∈ ls, l.length = z := fun l hl => aft_wid z _ l (hlsP.mem_iff.mp hl)
      have hlsl : ls.length ≤ 64 := by
        rw [hlsP.length_eq]
        exact aft_len6 hz _
      rw [← map_vS] at hlp2
      have htb : Tl H2 b t := (h3 i b t hb hti).keep (Keep.of sm2)
      -- the lines behind
      refine ⟨_, rfl, lp, rfl, ⟨_, lstL hlp2⟩, fun Di nDi => ?_⟩
      refine lc_list (xs := ls.map vS) (fun k H3 => Same H2 H3 ∧ H3 Di = some (.lst ((ls.take k).map fun l => oS (read l t)))) ⟨same_upd nDi, upd_same⟩ (fun k H3 _ hP => lstL (hP.1 _ _ hlp2)) (fun k x H3 hx hP => ?_) fun H3 hP => ?_
      · obtain ⟨s3, hDi⟩ := hP
        rw [List.getElem?_map] at hx
        obtain ⟨l, hl, rfl⟩ := Option.map_eq_some_iff.mp hx
        refine ⟨rfl, _, rfl, _, rfl, l, b, t, rfl, htb.keep (Keep.of s3), hokt, by rw [hlsw l (List.mem_of_getElem? hl)]; omega, fun H4 s4 => ⟨_, s4 _ _ hDi, by rw [List.length_map, List.length_take]; exact small (by omega), fun c y hc => ?_, ?_⟩⟩
        · rw [upd_ne (ne_of_none hc nDi)]
          exact s4 _ _ (s3 _ _ hc)
        · rw [upd_same, List.take_add_one, hl, List.map_append]
          rfl
      obtain ⟨s3, hDi⟩ := hP
      rw [List.length_map, List.take_length] at hDi
      refine ⟨Di, rfl, ⟨_, lstL hDi⟩, fun Do nDo => ?_⟩
      refine lc_list (xs := ls.map fun l => oS (read l t)) (fun k H4 => Same H3 H4 ∧ H4 Do = some (.lst (((ls.take k).filterMap fun l => read l t).map vS))) ⟨same_upd nDo, upd_same⟩ (fun k H4 _ hP => lstL (hP.1 _ _ hDi)) (fun k x H4 hx hP => ?_) fun H4 hP => ?_
      · obtain ⟨s4, hDo⟩ := hP
        rw [List.getElem?_map] at hx
        obtain ⟨l, hl, rfl⟩ := Option.map_eq_some_iff.mp hx
        have htk : (ls.take (k + 1)).filterMap (fun l => read l t) = (ls.take k).filterMap (fun l => read l t) ++ (read l t).toList := by
          rw [List.take_add_one, hl, List.filterMap_append]
          cases hrd : read l t with
          | none => simp [hrd]
          | some x => simp [hrd]
        refine ⟨rfl, _, rfl, rfl, _, rfl, ?_⟩
        cases hrd : read l t with
        | none =>
          refine iteN (fun z0 => absurd rfl z0) fun _ => ⟨s4, ?_⟩
          rw [htk, hrd, hDo]
          simp
        | some x =>
          refine iteN (fun _ => ?_) fun z0 => nomatch z0
          refine ⟨_, rfl, _, hDo, ?_, fun c y hc => ?_, ?_⟩
          · rw [List.length_map]
            have := List.length_filterMap_le (fun l => read l t) (ls.take k)
            rw [List.length_take] at this
            exact small (by omega)
          · rw [upd_ne (ne_of_none hc nDo)]
            exact s4 _ _ hc
          · rw [upd_same, htk, hrd, List.map_append]
            rfl
      obtain ⟨s4, hDo⟩ := hP
      rw [List.length_map, List.take_length] at hDo
      have s24 := s3.trans s4
      refine ⟨Do, (ls.filterMap fun l => read l t).map S, rfl, lstL (by rw [hDo, map_vS]), ?_, fun ys' r hs' hn' hm' nr => ?_⟩
      · rw [List.length_map]
        have := List.length_filterMap_le (fun l => read l t) ls
        omega
      have hperm' : ys'.Perm ((aft (allL z) (ts.take (i + 1))).map S) := by
        rw [aft_take _ _ hti]
        exact reads_perm (fun x => hlsP.mem_iff) hn' hm'
      have s25 : Same H2 (upd H4 r (.lst (ys'.map V.str))) := s24.trans (same_upd nr)
      have hr5 : (upd H4 r (.lst (ys'.map V.str))) r = some (.lst (ys'.map V.str)) := upd_same
      have hro : r ≠ o := fun e => by
        have := s24 _ _ ho2
        rw [← e, nr] at this
        cases this
      generalize upd H4 r (.lst (ys'.map V.str)) = H5 at *
      have sm5 := sm2.trans s25
      have ho5 := s25 _ _ ho2
      have hlen' := perm_len hz hperm'
      have hsh' := shYs hz hperm'
      -- known
      refine ⟨_, rfl, fun x H6 => ∃ a', x = .ref a' ∧ Same H5 H6 ∧ Ts H6 a' (ts.take (i + 1)), ?_, fun x H6 hM => ?_⟩
      · have h15 := sm5 _ _ h1
        have hidx : HT.sIx (bs.map V.ref).length (bs.map V.ref).length (some ((i : Nat) + 1)) = min (i + 1) ts.length := by
          rw [show ((i : Nat) : Int) + 1 = ((i + 1 : Nat) : Int) by omega, HT.sIx_nat, List.length_map, h2]
        refine ⟨_, rfl, _, rfl, _, _, rfl, rfl, _, rfl, a, _, rfl, tupT h15, fun hw => ?_, fun hw p np => ?_⟩
        · have hw2 := hw.2
          rw [hidx, List.length_map, h2] at hw2
          have e : ts.take (i + 1) = ts := List.take_of_length_le (by omega)
          rw [e]
          exact ⟨a, rfl, Same.refl _, hts0.keep (Keep.of sm5)⟩
        · have hcut : cutV (bs.map V.ref) none (some ((i : Nat) + 1)) = (bs.take (i + 1)).map V.ref := by
            unfold cutV
            rw [hidx, HT.sIx_none, List.drop_zero, Nat.sub_zero, List.map_take]
            by_cases h : i + 1 ≤ ts.length
            · rw [Nat.min_eq_left h]
            · rw [Nat.min_eq_right (by omega), List.take_of_length_le (by rw [List.length_map, h2]; omega), List.take_of_length_le (by rw [List.length_map, h2]; omega)]
          rw [hcut]
          have sp6 : Same H5 (upd H5 p (.tup ((bs.take (i + 1)).map V.ref))) := same_upd np
          refine ⟨p, rfl, sp6, bs.take (i + 1), upd_same, by rw [List.length_take, List.length_take, h2], fun j b2 t2 hb2 ht2 => ?_⟩
          rw [List.getElem?_take] at hb2 ht2
          split at hb2
          · rename_i hj
            rw [if_pos hj] at ht2
            exact (h3 j b2 t2 hb2 ht2).keep (Keep.of (sm5.trans sp6))
          · cases hb2
      obtain ⟨a', rfl, s56, hts6⟩ := hM
      refine ⟨z, a', ts.take (i + 1), rfl, hz1, hz, hts6, by rw [List.length_take]; omega, fun t2 h => hok t2 (List.mem_of_mem_take h), fun H7 p7 ys7 s67 hperm7 hs7 hp7 => ?_⟩
      have e7 : ys7 = ys' := sorted_uniq hs7 hs' (hperm7.trans hperm'.symm)
      subst e7
      have s57 := s56.trans s67
      refine .inl ⟨p7, _, rfl, tupT hp7, by rw [List.length_map]; omega, hsh', ?_⟩
      refine ⟨_, rfl, r, _, rfl, .inl ⟨lstL (s57 _ _ hr5), fun v nv => ?_⟩⟩
      refine .inl ⟨v, _, rfl, tupT upd_same, by rw [List.length_map]; omega, hsh', rfl, _, rfl, iteN (fun z0 => absurd rfl z0) fun _ => ?_⟩
      have s58 : Same H5 (upd H7 v (.tup (ys7.map V.str))) := s57.trans (same_upd nv)
      generalize upd H7 v (.tup (ys7.map V.str)) = H8 at *
      have sm8 := sm5.trans s58
      have hr8 := s58 _ _ hr5
      have ho8 := s58 _ _ ho5
      obtain ⟨ls', rfl, hlsP'⟩ := ys_lines hperm'
      have hlsw' : ∀ l ∈ ls', l.length = z := fun l hl => aft_wid z _ l (hlsP'.mem_iff.mp hl)
      have hlsl' : ls'.length ≤ 64 := by
        rw [hlsP'.length_eq]
        exact aft_len6 hz _
      have hrow : rowL z ls' = rowL z (aft (allL z) (ts.take (i + 1))) := rowL_perm hlsP'
      have hturn := rows_turn (z := z) hti
      have hrl := rws_length z (allL z) (ts.take i)
      rw [List.length_take] at hrl
      have hstl := stl_turn (z := z) hti
      have hnone := rws_none z (allL z) (ts.take i)
      -- the rows
      refine ⟨fun σ' H9 => Same H H9 ∧ σ' = [some (.int (z : Nat)), some (.ref a), some (.ref r), some (.ref o), some (oN (stlD (rws z (allL z) (ts.take i)))), some (.int (i : Nat)), some (.ref b), x7, none, none] ∧
        H9 r = some (.lst ((ls'.map S).map V.str)) ∧ H9 o = some (.lst ((rws z (allL z) (ts.take (i + 1))).map oR)), ?_, fun σ' H9 hM => ?_⟩
      · refine ⟨_, rfl, Nat.zero_le _, fun c nc => ?_⟩
        have s89 : Same H8 (upd H8 c (.lst [])) := same_upd nc
        obtain ⟨d, e, d1, d2, d3, d4, d5⟩ := nilL (K := K) (lstL (s89 _ _ ho8)) Da.oR (lstL (a := c) (xs := []) upd_same)
        refine ⟨d, e, d1, d2, d3, d4, _, rfl, ?_⟩
        rw [d5]
        generalize upd H8 c (.lst []) = H9 at *
        have ho9 := s89 _ _ ho8
        have hr9 := s89 _ _ hr8
        have sm9 := sm8.trans s89
        have app : none ∉ rws z (allL z) (ts.take i) → ∀ H10, Same H9 H10 → H10 o = some (.lst ((rws z (allL z) (ts.take i)).map oR)) ∧ ((rws z (allL z) (ts.take i)).map oR).length < sizeLine ∧ Same H (upd H10 o (.lst ((rws z (allL z) (ts.take i)).map oR ++ [oR (rowL z ls')]))) ∧
            (upd H10 o (.lst ((rws z (allL z) (ts.take i)).map oR ++ [oR (rowL z ls')]))) r = some (.lst ((ls'.map S).map V.str)) ∧ (upd H10 o (.lst ((rws z (allL z) (ts.take i)).map oR ++ [oR (rowL z ls')]))) o = some (.lst ((rws z (allL z) (ts.take (i + 1))).map oR)) := by
          intro hnn H10 s10
          refine ⟨s10 _ _ ho9, by rw [List.length_map]; exact small (by omega), fun c y hc => ?_, (upd_ne hro).trans (s10 _ _ hr9), ?_⟩
          · rw [upd_ne (ne_of_none hc no0)]
            exact s10 _ _ (sm9 _ _ hc)
          · rcases hturn with ⟨g1, _⟩ | ⟨_, g2⟩
            · exact absurd g1 hnn
            · rw [upd_same, g2, List.map_append, hrow]
              rfl
        by_cases hemp : rws z (allL z) (ts.take i) = []
        · have hnn : none ∉ rws z (allL z) (ts.take i) := by
            rw [hemp]
            simp
          rw [show ((rws z (allL z) (ts.take i)).map oR).isEmpty = true by rw [hemp]; rfl]
          refine iteT (iteT ⟨_, rfl, .inl ⟨rfl, _, lstL ho9⟩, _, rfl, _, rfl, z, r, ls', rfl, hz, by rw [hr9, ← map_vS], hlsw', hlsl', fun H10 s10 => ?_⟩)
          obtain ⟨a1, a2, a3, a4, a5⟩ := app hnn H10 s10
          exact ⟨o, _, _, rfl, rfl, a1, a2, a3, rfl, a4, a5⟩
        · obtain ⟨rs0, r0, hrs0⟩ : ∃ rs0 r0, rws z (allL z) (ts.take i) = rs0 ++ [r0] := ⟨_, _, (List.dropLast_concat_getLast hemp).symm⟩
          have hlast : atI ((rws z (allL z) (ts.take i)).map oR) (-1) = some (oR r0) := by
            rw [hrs0, List.map_append]
            exact atI_last _ _
          rw [show ((rws z (allL z) (ts.take i)).map oR).isEmpty = false by rw [hrs0]; cases rs0 <;> rfl]
          refine iteF ⟨_, rfl, 1, rfl, o, _, -1, _, rfl, rfl, lstL ho9, hlast, rfl, _, rfl, iteN (fun hsome => ?_) fun hnon => ?_⟩
          · have hnn : none ∉ rws z (allL z) (ts.take i) := fun z0 => by
              have h5 := (hnone z0).2
              rw [hrs0, List.getLast?_append] at h5
              simp at h5
              exact hsome (oR_none.mpr h5)
            refine ⟨_, rfl, .inl ⟨rfl, _, lstL ho9⟩, _, rfl, _, rfl, z, r, ls', rfl, hz, by rw [hr9, ← map_vS], hlsw', hlsl', fun H10 s10 => ?_⟩
            obtain ⟨a1, a2, a3, a4, a5⟩ := app hnn H10 s10
            exact ⟨o, _, _, rfl, rfl, a1, a2, a3, rfl, a4, a5⟩
          · refine ⟨sm9, rfl, hr9, ?_⟩
            rcases hturn with ⟨_, g2, _⟩ | ⟨g1, _⟩
            · rw [g2]
              exact ho9
            · refine absurd ?_ g1
              rw [hrs0, oR_none.mp hnon]
              simp
      obtain ⟨sm9, rfl, hr9, ho9⟩ := hM
      have dl : ∀ x ∈ (ls'.map S).map V.str, Da K H9 60 x := fun x hx => by
        obtain ⟨y, hy, rfl⟩ := List.mem_map.mp hx
        obtain ⟨l, _, rfl⟩ := List.mem_map.mp hy
        exact .str (strOk_S l)
      have hemp' : ∀ {p : Prop}, ((ls'.map S).map V.str).isEmpty = ls'.isEmpty := by
        intro _
        cases ls' <;> rfl
      -- is it sure
      refine ⟨fun σ' H10 => Same H H10 ∧ σ' = [some (.int (z : Nat)), some (.ref a), some (.ref r), some (.ref o), some (oN (stlD (rws z (allL z) (ts.take i)))), some (.int (i : Nat)), some (.ref b), some (.bl (sureO (rowL z (aft (allL z) (ts.take (i + 1)))))), none, none] ∧
        H10 r = some (.lst ((ls'.map S).map V.str)) ∧ H10 o = some (.lst ((rws z (allL z) (ts.take (i + 1))).map oR)), ?_, fun σ' H10 hM => ?_⟩
      · refine ⟨_, rfl, Nat.zero_le _, fun c nc => ?_⟩
        have s910 : Same H9 (upd H9 c (.lst [])) := same_upd nc
        obtain ⟨d, e, d1, d2, d3, d4, d5⟩ := nilL (K := K) (H := upd H9 c (.lst [])) (lstL (s910 _ _ hr9)) (fun x hx => by
          obtain ⟨y, hy, rfl⟩ := List.mem_map.mp hx
          obtain ⟨l, _, rfl⟩ := List.mem_map.mp hy
          exact .str (strOk_S l)) (lstL (a := c) (xs := []) upd_same)
        refine ⟨d, e, d1, d2, d3, d4, _, rfl, ?_⟩
        rw [d5, hemp' (p := True)]
        cases ls' with
        | nil =>
          refine iteF ⟨sm9.trans s910, ?_, s910 _ _ hr9, s910 _ _ ho9⟩
          rw [← hrow]
          rfl
        | cons l ls' =>
          refine iteT ?_
          have hne : aft (allL z) (ts.take (i + 1)) ≠ [] := fun e => by
            rw [e] at hlsP'
            have := hlsP'.length_eq
            simp at this
          obtain ⟨rr, hrr⟩ := rowL_some (z := z) hne
          have hlast : atI ((rws z (allL z) (ts.take (i + 1))).map oR) (-1) = some (.str (R rr)) := by
            rcases hturn with ⟨_, _, g3⟩ | ⟨_, g2⟩
            · exact absurd g3 hne
            · rw [g2, hrr, List.map_append]
              exact atI_last _ _
          refine ⟨_, rfl, 1, rfl, o, _, -1, _, rfl, rfl, lstL (s910 _ _ ho9), hlast, 63, R rr, rfl, rfl, sm9.trans s910, ?_, s910 _ _ hr9, s910 _ _ ho9⟩
          rw [hrr, ← sure_iff]
          rfl
      obtain ⟨sm10, rfl, hr10, ho10⟩ := hM
      -- the first
      refine ⟨fun σ' H11 => H10 = H11 ∧ σ' = [some (.int (z : Nat)), some (.ref a), some (.ref r), some (.ref o), some (oN (stlD (rws z (allL z) (ts.take (i + 1))))), some (.int (i : Nat)), some (.ref b), some (.bl (sureO (rowL z (aft (allL z) (ts.take (i + 1)))))), none, none], ?_, fun σ' H11 hM => ?_⟩
      · refine ⟨_, rfl, _, rfl, ?_⟩
        rw [hstl]
        cases hsu : sureO (rowL z (aft (allL z) (ts.take (i + 1)))) with
        | false => exact iteF ⟨rfl, rfl⟩
        | true =>
          refine iteT ⟨_, rfl, rfl, _, rfl, ?_⟩
          cases stlD (rws z (allL z) (ts.take i)) with
          | none => exact iteD (fun _ => ⟨_, rfl, rfl, rfl⟩) fun z0 => absurd rfl z0
          | some k => exact iteD (fun z0 => nomatch z0) fun _ => ⟨_, rfl, rfl, rfl⟩
      obtain ⟨rfl, rfl⟩ := hM
      have fin : ∀ H11, Same H10 H11 → Same H H11 ∧ ∃ (lp : Addr) (ys : List Str) (x5 x6 x7 : Option V), [some (V.int (z : Nat)), some (.ref a), some (.ref r), some (.ref o), some (oN (stlD (rws z (allL z) (ts.take (i + 1))))), some (.int (i : Nat)), some (.ref b), some (.bl (sureO (rowL z (aft (allL z) (ts.take (i + 1)))))), none, none] = [some (.int (z : Nat)), some (.ref a), some (.ref lp), some (.ref o), some (oN (stlD (rws z (allL z) (ts.take (i + 1))))), x5, x6, x7, none, none] ∧
          lp ≠ o ∧ H11 lp = some (.lst (ys.map V.str)) ∧ ys.Perm ((aft (allL z) (ts.take (i + 1))).map S) ∧ H11 o = some (.lst ((rws z (allL z) (ts.take (i + 1))).map oR)) := fun H11 s11 =>
        ⟨sm10.trans s11, r, ls'.map S, _, _, _, rfl, hro, s11 _ _ hr10, hperm', s11 _ _ ho10⟩
      -- a full one
      have htb10 : Tl H10 b t := (h3 i b t hb hti).keep (Keep.of sm10)
      obtain ⟨cs, c1, c2, c3⟩ := htb10
      have htne := hokt.ne
      cases cs with
      | nil =>
        cases t with
        | nil => exact absurd rfl htne
        | cons m t => cases c2
      | cons b0 cs =>
        obtain ⟨m0, t', rfl⟩ : ∃ m0 t', t = m0 :: t' := by
          cases t with
          | nil => cases c2
          | cons m t => exact ⟨m, t, rfl⟩
        obtain ⟨rr0, hx0, _⟩ := (c3 0 b0 m0 rfl rfl).tup (K := K)
        refine ⟨_, rfl, b, _, _, _, rfl, rfl, tupT c1, atI_nat (j := 0) rfl, b0, _, _, _, rfl, rfl, tupT hx0, atI_nat (j := 0) rfl, rfl, _, rfl, iteD (fun hfull => ?_) fun _ => iteF (fin _ (Same.refl _))⟩
        refine ⟨_, rfl, Nat.zero_le _, fun c nc => ?_⟩
        have s1011 : Same H10 (upd H10 c (.lst [])) := same_upd nc
        obtain ⟨d, e, d1, d2, d3, d4, d5⟩ := nilL (K := K) (H := upd H10 c (.lst [])) (lstL (s1011 _ _ hr10)) (fun x hx => by
          obtain ⟨y, hy, rfl⟩ := List.mem_map.mp hx
          obtain ⟨l, _, rfl⟩ := List.mem_map.mp hy
          exact .str (strOk_S l)) (lstL (a := c) (xs := []) upd_same)
        refine ⟨d, e, d1, d2, d3, d4, _, rfl, ?_⟩
        rw [d5, hemp' (p := True)]
        by_cases hle : ls' = []
        · rw [hle]
          exact iteF (iteF (fin _ s1011))
        · have hle2 : ls'.isEmpty = false := by
            cases ls' with
            | nil => exact absurd rfl hle
            | cons _ _ => rfl
          rw [hle2]
          have hne : aft (allL z) (ts.take (i + 1)) ≠ [] := fun e => by
            rw [e] at hlsP'
            have := hlsP'.length_eq
            exact hle (List.length_eq_zero_iff.mp this)
          obtain ⟨rr, hrr⟩ := rowL_some (z := z) hne
          have hsure : sureO (rowL z (aft (allL z) (ts.take (i + 1)))) = true := by
            rcases hokt.cases with ⟨rs0, hrs0, _⟩ | ⟨hF, _⟩
            · rw [hrr, ← sure_iff]
              have h63 : 63 ∉ rr := by
                rw [aft_take _ _ hti, hrs0] at hrr
                exact full_sure hrr
              show (!decide (63 ∈ rr)) = true
              rw [decide_eq_false h63]
              rfl
            · rw [isF_cons, decide_eq_true hfull] at hF
              cases hF
          refine iteT ⟨_, rfl, _, rfl, ?_⟩
          rw [hsure]
          have := fin _ s1011
          rw [hsure] at this
          exact iteF this
    · obtain ⟨sm, lp, ys, x5, x6, x7, rfl, hlo, hlp, hperm, ho⟩ := hP
      rw [List.length_map, h2, List.take_length] at *
      have hrl := rws_length z (allL z) ts
      have hsh := shOR hz (ls := allL z) (ts := ts)
      refine ⟨_, rfl, _, rfl, z, a, ts, rfl, hz1, hz, hts0.keep (Keep.of sm), by omega, hok, fun H2 p s2 hp => ?_⟩
      refine .inl ⟨p, _, rfl, tupT hp, by rw [List.length_map]; omega, hsh, ?_⟩
      refine ⟨_, rfl, o, _, rfl, .inl ⟨lstL (s2 _ _ ho), fun v nv => ?_⟩⟩
      refine .inl ⟨v, _, rfl, tupT upd_same, by rw [List.length_map]; omega, hsh, rfl, _, rfl, iteN (fun z0 => absurd rfl z0) fun _ => ?_⟩
      have sm3 := (sm.trans s2).trans (same_upd (o := .tup ((rws z (allL z) ts).map oR)) nv)
      refine ⟨_, rfl, _, rfl, z, a, ts, rfl, hz1, hz, hts0.keep (Keep.of sm3), by omega, hok, fun H4 s4 => ?_⟩
      have q4 := q H4 (sm3.trans s4)
      cases hst : stlD (rws z (allL z) ts) with
      | none =>
        refine .inr (.inl ⟨rfl, _, rfl, .inr (.inl ⟨rfl, rfl, ?_⟩)⟩)
        rw [← decide_eq_true (rfl : V.str (shV .non) = V.str (shV .non))] at q4
        exact q4
      | some k =>
        have hk := stlD_le hst
        refine .inr (.inr ⟨(k : Nat), rfl, by omega, _, rfl, .inr (.inr ⟨(k : Nat), rfl, by omega, rfl, ?_⟩)⟩)
        rw [← decide_eq_true (rfl : V.str (shV (.int (k : Nat))) = V.str (shV (.int (k : Nat))))] at q4
        exact q4
end
end K8
/-! K78p16: law -/
namespace K8
open PySem PySem.Spec PyProof.Rows L2
section
variable {K : PySem.W.Frag} {H : Hp}
theorem Dp.strs : ∀ (ys : List Str), (∀ y ∈ ys, PyData.strOk y = true) → DpAll K H (ys.map V.str) (ys.map PyData.str) ∧ PyData.canLayAll0 (ys.map PyData.str) = true ∧ PyData.depthAll (ys.map PyData.str) = 0
  | [], _ => ⟨.nil, rfl, rfl⟩
  | y :: ys, h => by
    obtain ⟨h1, h2, h3⟩ := Dp.strs ys fun x hx => h x (List.mem_cons_of_mem _ hx)
    refine ⟨.cons (.str y) h1, ?_, ?_⟩
    · simp only [List.map_cons, PyData.canLayAll0, PyData.canLay0, h2, h y List.mem_cons_self, Bool.and_self]
    · simp only [List.map_cons, PyData.depthAll, PyData.depth, h3]
      rfl
theorem eqStrs {a b : Addr} {ys : List Str} (h : ∀ y ∈ ys, PyData.strOk y = true) (ha : SqT K H a (ys.map V.str)) (hb : SqT K H b (ys.map V.str)) : ∃ d e, Dp K H (.ref a) d ∧ Dp K H (.ref b) e ∧ SeqAt.shaped d = true ∧ SeqAt.shaped e = true ∧ PyData.eqv d e = true := by
  obtain ⟨h1, h2, h3⟩ := Dp.strs (K := K) (H := H) ys h
  have c1 : PyData.canLay0 (.tuple (ys.map PyData.str)) = true := by
    simp only [PyData.canLay0]
    exact h2
  have c2 : SeqAt.shaped (.tuple (ys.map PyData.str)) = true := shaped_of (n := 1) c1 (by simp only [PyData.depth]; omega) (by decide)
  exact ⟨_, _, .tup ha h1, .tup hb h1, c2, c2, SeqAt.eqv_refl _ c1⟩
end
theorem okS {z : Nat} {ys : List Str} {L : List Ln} (h : ys.Perm (L.map S)) : ∀ y ∈ ys, PyData.strOk y = true := fun y hy => by
  obtain ⟨l, _, rfl⟩ := List.mem_map.mp (h.mem_iff.mp hy)
  exact strOk_S l
theorem last1 : stlD (rws 3 (allL 3) [[.runs 3 0]]) = some 0 := by decide +kernel
theorem last2 : rws 2 (allL 2) [[.stay 0]] = [some [46, 46]] := by decide +kernel
section
variable {P : Program} {w : World} {K : PySem.W.Frag} {mg : Str → Option Value} {base : Heap} {A : Nat → Addr} {D : Nat → FuncData}
theorem Ts.nil {H : Hp} {p : Addr} (h : H p = some (.tup [])) : Ts H p [] := ⟨[], h, rfl, fun i b t e => by simp at e⟩
theorem Ts.one {H : Hp} {p q r : Addr} {m : Md} (h1 : MdAt H r m) (h2 : H q = some (.tup [.ref r])) (h3 : H p = some (.tup [.ref q])) : Ts H p [[m]] := by
  refine ⟨[q], h3, rfl, fun i b t e1 e2 => ?_⟩
  cases i with
  | zero =>
    cases e1
    cases e2
    refine ⟨[r], h2, rfl, fun j b t e1 e2 => ?_⟩
    cases j with
    | zero =>
      cases e1
      cases e2
      exact h1
    | succ j => simp at e1
  | succ i => simp at e1
def spL (K : PySem.W.Frag) : Sp := fun vs H Q _ => ∃ (a : Addr) (ns : List Int), vs = [.ref a] ∧ SqL K H a (ns.map V.int) ∧ ns.length ≤ 63 ∧ (∀ z ∈ ns, Builtin.Int.intBits z ≤ 1048576) ∧ ∀ H', Q (.bl true) H'
theorem ok_law (T : Tx K mg A D) : FnG P w K mg base CX0 8 (A 60) (D 60) ["_law_script"] (spL K) := by
  have G__law_begun := ok_law_begun (P := P) (w := w) (base := base) T
  have G__law_draw := ok_law_draw (P := P) (w := w) (base := base) T
  have G__law_some := ok_law_some (P := P) (w := w) (base := base) T
  have G__law_right := ok_law_right (P := P) (w := w) (base := base) T
  have G__law_every := ok_law_every (P := P) (w := w) (base := base) T
  have G_known := ok_known (P := P) (w := w) (base := base) T
  have G_sure_rows := ok_sure_rows (P := P) (w := w) (base := base) T
  have G_settled := ok_settled (P := P) (w := w) (base := base) T
  refine Fun_okG T.o_law.F sc_law (fun vs H Q E h => ?_) (fun cdv Ar outer s H vs Q E hgd hr h => ?_)
  · obtain ⟨_, _, rfl, _⟩ := h
    rfl
  · obtain ⟨a, ns, rfl, ha, hl, hb, q⟩ := h
    refine ⟨_, (pss_cons (ps_set (i := 1) sc_law.nd rfl (Or.inl rfl) (pe_call G__law_begun (hr.mono (by decide)) (by rfl) T.o__law_begun.g T.o__law_begun.F.kp T.o__law_begun.b .nil pass0 (pa_cons (pv 0) pa_nil)))
      (pss_cons (ps_for PassesOwn.never rfl (pi_range1 (by rfl) T.n_range (pa_cons (pe_op op_add pe_int (pe_callB (call_min2 rfl) (by rfl) T.n_min (by decide +kernel) (pa_cons pe_int (pa_cons (pe_callB call_len_seq (by rfl) T.n_len (by decide +kernel) (pa_cons (pv 0) pa_nil)) pa_nil)))) pa_nil)) (pg_name (i := 2) sc_law.nd rfl (Or.inl rfl)) (pss_cons (ps_set (i := 3) sc_law.nd rfl (Or.inl rfl) (pe_op op_add pe_int (pe_call G__law_draw (hr.mono (by decide)) (by rfl) T.o__law_draw.g T.o__law_draw.F.kp T.o__law_draw.b .nil pass0 (pa_cons (pv 1) (pa_cons pe_int pa_nil)))))
      (pss_cons (ps_if (pt_not (pt_val (pe_callG G__law_right hgd (hr.mono (by decide)) (by rfl) T.o__law_right.g T.o__law_right.F.kp T.o__law_right.b (pa_cons (pv 3) (pa_cons (pe_call G__law_some (hr.mono (by decide)) (by rfl) T.o__law_some.g T.o__law_some.F.kp T.o__law_some.b .nil pass0 (pa_cons (pv 1) (pa_cons (pv 3) pa_nil))) pa_nil))))) (pss_one (ps_ret pe_bl)) pss_nil)
      (pss_one (ps_if (PW.pt (pw_or (pt_cmpR (op_neD hr.units) (pe_call G_known (hr.mono (by decide)) (by rfl) T.o_known.g T.o_known.F.kp T.o_known.b .nil pass0 (pa_cons (pv 3) (pa_cons (pe_tup pa_nil) pa_nil))) (pe_callTy call_tuple_of (by rfl) T.n_tuple (by decide +kernel) (pa_cons (pe_call G__law_every (hr.mono (by decide)) (by rfl) T.o__law_every.g T.o__law_every.F.kp T.o__law_every.b .nil pass0 (pa_cons (pv 3) pa_nil)) pa_nil)) (nomark _)) (pw_or (pt_cmpR (op_neD hr.units) (pe_call G_sure_rows (hr.mono (by decide)) (by rfl) T.o_sure_rows.g T.o_sure_rows.F.kp T.o_sure_rows.b .nil pass0 (pa_cons (pv 3) (pa_cons (pe_tup pa_nil) pa_nil))) (pe_tup pa_nil) (nomark _)) (pw_or1 (pt_cmpR op_notN (pe_call G_settled (hr.mono (by decide)) (by rfl) T.o_settled.g T.o_settled.F.kp T.o_settled.b .nil pass0 (pa_cons (pv 3) (pa_cons (pe_tup pa_nil) pa_nil))) pe_non (nomark _)))))) (pss_one (ps_ret pe_bl)) pss_nil)))))
      (pss_one (ps_ret (pe_and (pe_cmpR op_eq (pe_call G_settled (hr.mono (by decide)) (by rfl) T.o_settled.g T.o_settled.F.kp T.o_settled.b .nil pass0 (pa_cons pe_int (pa_cons (pe_tup (pa_cons (pe_tup (pa_cons (pe_tup (pa_cons pe_str (pa_cons pe_int (pa_cons pe_int pa_nil)))) pa_nil)) pa_nil)) pa_nil))) pe_int (nomark _)) (pe_one (pe_cmpR (op_eqD hr.units) (pe_call G_sure_rows (hr.mono (by decide)) (by rfl) T.o_sure_rows.g T.o_sure_rows.F.kp T.o_sure_rows.b .nil pass0 (pa_cons pe_int (pa_cons (pe_tup (pa_cons (pe_tup (pa_cons (pe_tup (pa_cons pe_str (pa_cons pe_int pa_nil))) pa_nil)) pa_nil)) pa_nil))) (pe_tup (pa_cons (pe_lit l_ww) pa_nil)) (nomark _)))))))), ?_⟩
    refine ⟨_, rfl, a, ns, rfl, ha, hl, hb, fun H1 m l s1 ms => ?_⟩
    refine ⟨_, rfl, a, _, rfl, .inl (s1.seq ha), _, _, rfl, _, _, rfl, rfl, ?_⟩
    rw [List.length_map]
    have hcnt : (5 : Int) + (if ((ns.length : Nat) : Int) < 8 then ((ns.length : Nat) : Int) else 8) ≤ 13 ∧ (0 : Int) ≤ 5 + (if ((ns.length : Nat) : Int) < 8 then ((ns.length : Nat) : Int) else 8) := by
      split <;> omega
    obtain ⟨cnt, hc⟩ : ∃ c : Int, c = (5 : Int) + (if ((ns.length : Nat) : Int) < 8 then ((ns.length : Nat) : Int) else 8) := ⟨_, rfl⟩
    rw [← hc] at hcnt
    refine ⟨cnt, by rw [hc], by omega, by omega, for_range (lo := 0) (n := cnt.toNat) (fun i σ H' => MS H' m l (601 * i) ∧ ∃ x y, σ = [some (.ref a), some (.ref m), x, y]) ⟨ms, none, none, rfl⟩ (fun i σ H' hi hP => ?_) fun σ H' hP => ?_⟩
    · obtain ⟨ms, x, y, rfl⟩ := hP
      refine ⟨_, rfl, m, l, _, 6, rfl, ms, by omega, by decide, by decide, fun H2 v k2 m2 v0 v1 => ⟨_, _, rfl, rfl, ?_⟩⟩
      obtain ⟨z, hz⟩ : ∃ z : Nat, 1 + v = (z : Nat) := ⟨(1 + v).toNat, by omega⟩
      show gName 3 (V.int (1 + v)) _ _ _
      rw [hz]
      refine ⟨_, rfl, _, rfl, _, rfl, m, l, _, z, rfl, m2, by omega, by omega, by omega, fun H3 p ts k3 m3 hts hl12 hok => ?_⟩
      refine ⟨z, p, ts, rfl, by omega, by omega, hts, hl12, hok, fun H4 s4 => ⟨_, rfl, iteF ?_⟩⟩
      have m4 := m3.same s4
      -- known(wide, ()) != tuple(every(wide))
      refine ⟨_, rfl, Nat.zero_le _, fun p1 n1 => ?_⟩
      have s45 : Same H4 (upd H4 p1 (.tup [])) := same_upd n1
      refine ⟨z, p1, [], rfl, by omega, by omega, Ts.nil upd_same, Nat.zero_le _, fun t h => by simp at h, fun H6 p6 ys6 s56 hperm6 hs6 hp6 => ?_⟩
      refine ⟨_, rfl, z, rfl, by omega, fun H7 p7 ys7 s67 hperm7 hs7 hp7 => ⟨p7, _, rfl, .inl ⟨lstL hp7, fun p8 n8 => ?_⟩⟩⟩
      have e67 : ys7 = ys6 := sorted_uniq hs7 hs6 (hperm7.trans hperm6.symm)
      subst e67
      have s78 : Same H7 (upd H7 p8 (.tup (ys7.map V.str))) := same_upd n8
      obtain ⟨d, e, d1, d2, d3, d4, d5⟩ := eqStrs (K := K) (H := upd H7 p8 (.tup (ys7.map V.str))) (okS (z := z) hperm7) (tupT (s78 _ _ (s67 _ _ hp6))) (tupT (upd_same (a := p8)))
      refine ⟨d, e, d1, d2, d3, d4, _, rfl, ?_⟩
      rw [d5]
      refine iteF ?_
      have s48 := ((s45.trans s56).trans s67).trans s78
      generalize upd H7 p8 (.tup (ys7.map V.str)) = H8 at *
      -- sure_rows(wide, ()) != ()
      refine ⟨_, rfl, Nat.zero_le _, fun p9 n9 => ?_⟩
      have s89 : Same H8 (upd H8 p9 (.tup [])) := same_upd n9
      refine ⟨z, p9, [], rfl, by omega, by omega, Ts.nil upd_same, Nat.zero_le _, fun t h => by simp at h, fun H10 p10 s910 hp10 => ⟨Nat.zero_le _, fun p11 n11 => ?_⟩⟩
      have s1011 : Same H10 (upd H10 p11 (.tup [])) := same_upd n11
      obtain ⟨d, e, d1, d2, d3, d4, d5⟩ := nilT (K := K) (H := upd H10 p11 (.tup [])) (xs := []) (tupT (s1011 _ _ hp10)) (fun x h => by cases h) (tupT (upd_same (a := p11)))
      refine ⟨d, e, d1, d2, d3, d4, _, rfl, ?_⟩
      rw [d5]
      refine iteF ?_
      have s411 := ((s48.trans s89).trans s910).trans s1011
      generalize upd H10 p11 (.tup []) = H11 at *
      -- settled(wide, ()) is not None
      refine ⟨_, rfl, Nat.zero_le _, fun p12 n12 => ?_⟩
      have s1112 : Same H11 (upd H11 p12 (.tup [])) := same_upd n12
      refine ⟨z, p12, [], rfl, by omega, by omega, Ts.nil upd_same, Nat.zero_le _, fun t h => by simp at h, fun H13 s1213 => ⟨rfl, _, rfl, iteN (fun z0 => absurd rfl z0) fun _ => ?_⟩⟩
      exact ⟨(m4.same ((s411.trans s1112).trans s1213)).le (by omega), _, _, rfl⟩
    · -- the closing facts
      refine ⟨(by show 3 ≤ sizeLine; decide), fun r nr => ⟨(by show 1 ≤ sizeLine; decide), fun t nt => ⟨(by show 1 ≤ sizeLine; decide), fun p np => ?_⟩⟩⟩
      have st : Same (upd H' r (.tup [.str "runs", .int 3, .int 0])) _ := same_upd (o := .tup [.ref r]) nt
      have sp2 : Same (upd (upd H' r (.tup [.str "runs", .int 3, .int 0])) t (.tup [.ref r])) _ := same_upd (o := .tup [.ref t]) np
      have hTs : Ts (upd (upd (upd H' r (.tup [.str "runs", .int 3, .int 0])) t (.tup [.ref r])) p (.tup [.ref t])) p [[.runs 3 0]] := Ts.one (m := .runs 3 0) (sp2 _ _ (st _ _ upd_same)) (sp2 _ _ upd_same) upd_same
      refine ⟨3, p, [[.runs 3 0]], rfl, by decide, by decide, hTs, by decide, fun t h => ?_, fun H2 s2 => ?_⟩
      · rw [List.mem_singleton.mp h]
        exact .inr ⟨by simp, by decide, fun m hm => by rw [List.mem_singleton.mp hm]; exact ⟨by decide, by decide⟩⟩
      rw [last1]
      refine ⟨rfl, _, rfl, iteD (fun _ => ?_) fun z0 => absurd rfl z0⟩
      refine ⟨(by show 2 ≤ sizeLine; decide), fun r nr => ⟨(by show 1 ≤ sizeLine; decide), fun t nt => ⟨(by show 1 ≤ sizeLine; decide), fun p np => ?_⟩⟩⟩
      have st : Same (upd H2 r (.tup [.str "stay", .int 0])) _ := same_upd (o := .tup [.ref r]) nt
      have sp2 : Same (upd (upd H2 r (.tup [.str "stay", .int 0])) t (.tup [.ref r])) _ := same_upd (o := .tup [.ref t]) np
      have hTs : Ts (upd (upd (upd H2 r (.tup [.str "stay", .int 0])) t (.tup [.ref r])) p (.tup [.ref t])) p [[.stay 0]] := Ts.one (m := .stay 0) (sp2 _ _ (st _ _ upd_same)) (sp2 _ _ upd_same) upd_same
      refine ⟨2, p, [[.stay 0]], rfl, by decide, by decide, hTs, by decide, fun t h => ?_, fun H3 p3 s3 hp3 => ?_⟩
      · rw [List.mem_singleton.mp h]
        exact .inr ⟨by simp, by decide, fun m hm => by rw [List.mem_singleton.mp hm]; exact ⟨by decide, by decide⟩⟩
      rw [last2] at hp3
      refine ⟨(by show 1 ≤ sizeLine; decide), fun p4 n4 => ?_⟩
      have s34 : Same H3 (upd H3 p4 (.tup [.str (S [false, false])])) := same_upd n4
      obtain ⟨d, e, d1, d2, d3, d4, d5⟩ := eqStrs (K := K) (H := upd H3 p4 (.tup [.str (S [false, false])])) (ys := [S [false, false]]) (fun y hy => by rw [List.mem_singleton.mp hy]; exact strOk_S _) (tupT (s34 _ _ hp3)) (tupT (upd_same (a := p4)))
      refine ⟨d, e, d1, d2, d3, d4, ?_⟩
      rw [d5]
      exact q _
end
end K8
/-! K78z: what the top has written; the law's own head -/
namespace K8
open PySem PySem.Spec PyProof.Rows L2
theorem relS {x y : Str} {t : Tok} (h : x = y) : RelV (.str y) (.str x t) := ⟨t, by rw [h]⟩
set_option maxHeartbeats 0 in
theorem all_mk {l : PySem.W.OpenLaw} {w : World} {K : PySem.W.Frag} {h : Heap} {mg : Str → Option Value} {fa : Addr} (X : K.In h) (G : h.Ns mainGlobals mg) (hfa : mg "law" = some (.ref fa))
    {f_9 : Addr} {od_9 an_9 : Option Addr} {sl_9 : Array (Option Value)} {oc_9 kV_9 dc_9 pm_9 cd_9 ct_9 : Value}
    {f_10 : Addr} {od_10 an_10 : Option Addr} {sl_10 : Array (Option Value)} {oc_10 kV_10 dc_10 pm_10 cd_10 ct_10 : Value}
    {f_11 : Addr} {od_11 an_11 : Option Addr} {sl_11 : Array (Option Value)} {oc_11 kV_11 dc_11 pm_11 cd_11 ct_11 : Value}
    {f_12 : Addr} {od_12 an_12 : Option Addr} {sl_12 : Array (Option Value)} {oc_12 kV_12 dc_12 pm_12 cd_12 ct_12 : Value}
    {f_13 : Addr} {od_13 an_13 : Option Addr} {sl_13 : Array (Option Value)} {oc_13 kV_13 dc_13 pm_13 cd_13 ct_13 : Value}
    {f_14 : Addr} {od_14 an_14 : Option Addr} {sl_14 : Array (Option Value)} {oc_14 kV_14 dc_14 pm_14 cd_14 ct_14 : Value}
    {f_15 : Addr} {od_15 an_15 : Option Addr} {sl_15 : Array (Option Value)} {oc_15 kV_15 dc_15 pm_15 cd_15 ct_15 : Value}
    {f_23 : Addr} {od_23 an_23 : Option Addr} {sl_23 : Array (Option Value)} {oc_23 kV_23 dc_23 pm_23 cd_23 ct_23 : Value}
    {f_24 : Addr} {od_24 an_24 : Option Addr} {sl_24 : Array (Option Value)} {oc_24 kV_24 dc_24 pm_24 cd_24 ct_24 : Value}
    {f_25 : Addr} {od_25 an_25 : Option Addr} {sl_25 : Array (Option Value)} {oc_25 kV_25 dc_25 pm_25 cd_25 ct_25 : Value}
    {f_26 : Addr} {od_26 an_26 : Option Addr} {sl_26 : Array (Option Value)} {oc_26 kV_26 dc_26 pm_26 cd_26 ct_26 : Value}
    {f_27 : Addr} {od_27 an_27 : Option Addr} {sl_27 : Array (Option Value)} {oc_27 kV_27 dc_27 pm_27 cd_27 ct_27 : Value}
    {f_28 : Addr} {od_28 an_28 : Option Addr} {sl_28 : Array (Option Value)} {oc_28 kV_28 dc_28 pm_28 cd_28 ct_28 : Value}
    {f_29 : Addr} {od_29 an_29 : Option Addr} {sl_29 : Array (Option Value)} {oc_29 kV_29 dc_29 pm_29 cd_29 ct_29 : Value}
    {f_30 : Addr} {od_30 an_30 : Option Addr} {sl_30 : Array (Option Value)} {oc_30 kV_30 dc_30 pm_30 cd_30 ct_30 : Value}
    {f_31 : Addr} {od_31 an_31 : Option Addr} {sl_31 : Array (Option Value)} {oc_31 kV_31 dc_31 pm_31 cd_31 ct_31 : Value}
    {f_34 : Addr} {od_34 an_34 : Option Addr} {sl_34 : Array (Option Value)} {oc_34 kV_34 dc_34 pm_34 cd_34 ct_34 : Value}
    {f_35 : Addr} {od_35 an_35 : Option Addr} {sl_35 : Array (Option Value)} {oc_35 kV_35 dc_35 pm_35 cd_35 ct_35 : Value}
    {f_39 : Addr} {od_39 an_39 : Option Addr} {sl_39 : Array (Option Value)} {oc_39 kV_39 dc_39 pm_39 cd_39 ct_39 : Value}
    {f_40 : Addr} {od_40 an_40 : Option Addr} {sl_40 : Array (Option Value)} {oc_40 kV_40 dc_40 pm_40 cd_40 ct_40 : Value}
    {f_41 : Addr} {od_41 an_41 : Option Addr} {sl_41 : Array (Option Value)} {oc_41 kV_41 dc_41 pm_41 cd_41 ct_41 : Value}
    {f_42 : Addr} {od_42 an_42 : Option Addr} {sl_42 : Array (Option Value)} {oc_42 kV_42 dc_42 pm_42 cd_42 ct_42 : Value}
    {f_43 : Addr} {od_43 an_43 : Option Addr} {sl_43 : Array (Option Value)} {oc_43 kV_43 dc_43 pm_43 cd_43 ct_43 : Value}
    {f_44 : Addr} {od_44 an_44 : Option Addr} {sl_44 : Array (Option Value)} {oc_44 kV_44 dc_44 pm_44 cd_44 ct_44 : Value}
    {f_45 : Addr} {od_45 an_45 : Option Addr} {sl_45 : Array (Option Value)} {oc_45 kV_45 dc_45 pm_45 cd_45 ct_45 : Value}
    {f_47 : Addr} {od_47 an_47 : Option Addr} {sl_47 : Array (Option Value)} {oc_47 kV_47 dc_47 pm_47 cd_47 ct_47 : Value}
    {f_48 : Addr} {od_48 an_48 : Option Addr} {sl_48 : Array (Option Value)} {oc_48 kV_48 dc_48 pm_48 cd_48 ct_48 : Value}
    {f_49 : Addr} {od_49 an_49 : Option Addr} {sl_49 : Array (Option Value)} {oc_49 kV_49 dc_49 pm_49 cd_49 ct_49 : Value}
    {f_50 : Addr} {od_50 an_50 : Option Addr} {sl_50 : Array (Option Value)} {oc_50 kV_50 dc_50 pm_50 cd_50 ct_50 : Value}
    {f_51 : Addr} {od_51 an_51 : Option Addr} {sl_51 : Array (Option Value)} {oc_51 kV_51 dc_51 pm_51 cd_51 ct_51 : Value}
    {f_52 : Addr} {od_52 an_52 : Option Addr} {sl_52 : Array (Option Value)} {oc_52 kV_52 dc_52 pm_52 cd_52 ct_52 : Value}
    {f_53 : Addr} {od_53 an_53 : Option Addr} {sl_53 : Array (Option Value)} {oc_53 kV_53 dc_53 pm_53 cd_53 ct_53 : Value}
    {f_54 : Addr} {od_54 an_54 : Option Addr} {sl_54 : Array (Option Value)} {oc_54 kV_54 dc_54 pm_54 cd_54 ct_54 : Value}
    {f_55 : Addr} {od_55 an_55 : Option Addr} {sl_55 : Array (Option Value)} {oc_55 kV_55 dc_55 pm_55 cd_55 ct_55 : Value}
    {f_56 : Addr} {od_56 an_56 : Option Addr} {sl_56 : Array (Option Value)} {oc_56 kV_56 dc_56 pm_56 cd_56 ct_56 : Value}
    {f_57 : Addr} {od_57 an_57 : Option Addr} {sl_57 : Array (Option Value)} {oc_57 kV_57 dc_57 pm_57 cd_57 ct_57 : Value}
    {f_58 : Addr} {od_58 an_58 : Option Addr} {sl_58 : Array (Option Value)} {oc_58 kV_58 dc_58 pm_58 cd_58 ct_58 : Value}
    {f_59 : Addr} {od_59 an_59 : Option Addr} {sl_59 : Array (Option Value)} {oc_59 kV_59 dc_59 pm_59 cd_59 ct_59 : Value}
    {f_60 : Addr} {od_60 an_60 : Option Addr} {sl_60 : Array (Option Value)} {oc_60 kV_60 dc_60 pm_60 cd_60 ct_60 : Value}
    {u_WHITE : Value}
    {u_BLACK : Value}
    {u_MOST_WIDTH : Value}
    {u_MOST_MODES : Value}
    {u_MOST_STAY : Value}
    {u_STAY : Value}
    {u_PASS : Value}
    {u_RUNS : Value}
    {u_FULL : Value}
    {u_UNSURE : Value}
    {u_MOST_LATE : Value}
    {u_MOST_TELLINGS : Value}
    (a_9 : PySem.W.nsIn K mainGlobals "is_whole" = some (some (.ref f_9))) (l_9 : K.lookup f_9 = some ⟨oc_9, od_9, .func (PySem.W.fnOf "is_whole" "is_whole" (defArgs s_is_whole) (defBody s_is_whole) (defScope s_is_whole) .none kV_9 dc_9 pm_9 an_9 cd_9 ct_9), sl_9⟩) (c_9 : PySem.W.codeIn K cd_9 "is_whole" = true) (k_9 : PySem.W.keepIn K (.ref f_9) = true)
    (a_10 : PySem.W.nsIn K mainGlobals "need_line" = some (some (.ref f_10))) (l_10 : K.lookup f_10 = some ⟨oc_10, od_10, .func (PySem.W.fnOf "need_line" "need_line" (defArgs s_need_line) (defBody s_need_line) (defScope s_need_line) .none kV_10 dc_10 pm_10 an_10 cd_10 ct_10), sl_10⟩) (c_10 : PySem.W.codeIn K cd_10 "need_line" = true) (k_10 : PySem.W.keepIn K (.ref f_10) = true)
    (a_11 : PySem.W.nsIn K mainGlobals "other_colour" = some (some (.ref f_11))) (l_11 : K.lookup f_11 = some ⟨oc_11, od_11, .func (PySem.W.fnOf "other_colour" "other_colour" (defArgs s_other_colour) (defBody s_other_colour) (defScope s_other_colour) .none kV_11 dc_11 pm_11 an_11 cd_11 ct_11), sl_11⟩) (c_11 : PySem.W.codeIn K cd_11 "other_colour" = true) (k_11 : PySem.W.keepIn K (.ref f_11) = true)
    (a_12 : PySem.W.nsIn K mainGlobals "colour_end" = some (some (.ref f_12))) (l_12 : K.lookup f_12 = some ⟨oc_12, od_12, .func (PySem.W.fnOf "colour_end" "colour_end" (defArgs s_colour_end) (defBody s_colour_end) (defScope s_colour_end) .none kV_12 dc_12 pm_12 an_12 cd_12 ct_12), sl_12⟩) (c_12 : PySem.W.codeIn K cd_12 "colour_end" = true) (k_12 : PySem.W.keepIn K (.ref f_12) = true)
    (a_13 : PySem.W.nsIn K mainGlobals "runs_in" = some (some (.ref f_13))) (l_13 : K.lookup f_13 = some ⟨oc_13, od_13, .func (PySem.W.fnOf "runs_in" "runs_in" (defArgs s_runs_in) (defBody s_runs_in) (defScope s_runs_in) .none kV_13 dc_13 pm_13 an_13 cd_13 ct_13), sl_13⟩) (c_13 : PySem.W.codeIn K cd_13 "runs_in" = true) (k_13 : PySem.W.keepIn K (.ref f_13) = true)
    (a_14 : PySem.W.nsIn K mainGlobals "are_runs" = some (some (.ref f_14))) (l_14 : K.lookup f_14 = some ⟨oc_14, od_14, .func (PySem.W.fnOf "are_runs" "are_runs" (defArgs s_are_runs) (defBody s_are_runs) (defScope s_are_runs) .none kV_14 dc_14 pm_14 an_14 cd_14 ct_14), sl_14⟩) (c_14 : PySem.W.codeIn K cd_14 "are_runs" = true) (k_14 : PySem.W.keepIn K (.ref f_14) = true)
    (a_15 : PySem.W.nsIn K mainGlobals "line_in" = some (some (.ref f_15))) (l_15 : K.lookup f_15 = some ⟨oc_15, od_15, .func (PySem.W.fnOf "line_in" "line_in" (defArgs s_line_in) (defBody s_line_in) (defScope s_line_in) .none kV_15 dc_15 pm_15 an_15 cd_15 ct_15), sl_15⟩) (c_15 : PySem.W.codeIn K cd_15 "line_in" = true) (k_15 : PySem.W.keepIn K (.ref f_15) = true)
    (a_23 : PySem.W.nsIn K mainGlobals "is_mode" = some (some (.ref f_23))) (l_23 : K.lookup f_23 = some ⟨oc_23, od_23, .func (PySem.W.fnOf "is_mode" "is_mode" (defArgs s_is_mode) (defBody s_is_mode) (defScope s_is_mode) .none kV_23 dc_23 pm_23 an_23 cd_23 ct_23), sl_23⟩) (c_23 : PySem.W.codeIn K cd_23 "is_mode" = true) (k_23 : PySem.W.keepIn K (.ref f_23) = true)
    (a_24 : PySem.W.nsIn K mainGlobals "is_full" = some (some (.ref f_24))) (l_24 : K.lookup f_24 = some ⟨oc_24, od_24, .func (PySem.W.fnOf "is_full" "is_full" (defArgs s_is_full) (defBody s_is_full) (defScope s_is_full) .none kV_24 dc_24 pm_24 an_24 cd_24 ct_24), sl_24⟩) (c_24 : PySem.W.codeIn K cd_24 "is_full" = true) (k_24 : PySem.W.keepIn K (.ref f_24) = true)
    (a_25 : PySem.W.nsIn K mainGlobals "need_telling" = some (some (.ref f_25))) (l_25 : K.lookup f_25 = some ⟨oc_25, od_25, .func (PySem.W.fnOf "need_telling" "need_telling" (defArgs s_need_telling) (defBody s_need_telling) (defScope s_need_telling) .none kV_25 dc_25 pm_25 an_25 cd_25 ct_25), sl_25⟩) (c_25 : PySem.W.codeIn K cd_25 "need_telling" = true) (k_25 : PySem.W.keepIn K (.ref f_25) = true)
    (a_26 : PySem.W.nsIn K mainGlobals "change_from" = some (some (.ref f_26))) (l_26 : K.lookup f_26 = some ⟨oc_26, od_26, .func (PySem.W.fnOf "change_from" "change_from" (defArgs s_change_from) (defBody s_change_from) (defScope s_change_from) .none kV_26 dc_26 pm_26 an_26 cd_26 ct_26), sl_26⟩) (c_26 : PySem.W.codeIn K cd_26 "change_from" = true) (k_26 : PySem.W.keepIn K (.ref f_26) = true)
    (a_27 : PySem.W.nsIn K mainGlobals "change_back" = some (some (.ref f_27))) (l_27 : K.lookup f_27 = some ⟨oc_27, od_27, .func (PySem.W.fnOf "change_back" "change_back" (defArgs s_change_back) (defBody s_change_back) (defScope s_change_back) .none kV_27 dc_27 pm_27 an_27 cd_27 ct_27), sl_27⟩) (c_27 : PySem.W.codeIn K cd_27 "change_back" = true) (k_27 : PySem.W.keepIn K (.ref f_27) = true)
    (a_28 : PySem.W.nsIn K mainGlobals "after_mode" = some (some (.ref f_28))) (l_28 : K.lookup f_28 = some ⟨oc_28, od_28, .func (PySem.W.fnOf "after_mode" "after_mode" (defArgs s_after_mode) (defBody s_after_mode) (defScope s_after_mode) .none kV_28 dc_28 pm_28 an_28 cd_28 ct_28), sl_28⟩) (c_28 : PySem.W.codeIn K cd_28 "after_mode" = true) (k_28 : PySem.W.keepIn K (.ref f_28) = true)
    (a_29 : PySem.W.nsIn K mainGlobals "dots_of" = some (some (.ref f_29))) (l_29 : K.lookup f_29 = some ⟨oc_29, od_29, .func (PySem.W.fnOf "dots_of" "dots_of" (defArgs s_dots_of) (defBody s_dots_of) (defScope s_dots_of) .none kV_29 dc_29 pm_29 an_29 cd_29 ct_29), sl_29⟩) (c_29 : PySem.W.codeIn K cd_29 "dots_of" = true) (k_29 : PySem.W.keepIn K (.ref f_29) = true)
    (a_30 : PySem.W.nsIn K mainGlobals "read_beside" = some (some (.ref f_30))) (l_30 : K.lookup f_30 = some ⟨oc_30, od_30, .func (PySem.W.fnOf "read_beside" "read_beside" (defArgs s_read_beside) (defBody s_read_beside) (defScope s_read_beside) .none kV_30 dc_30 pm_30 an_30 cd_30 ct_30), sl_30⟩) (c_30 : PySem.W.codeIn K cd_30 "read_beside" = true) (k_30 : PySem.W.keepIn K (.ref f_30) = true)
    (a_31 : PySem.W.nsIn K mainGlobals "full" = some (some (.ref f_31))) (l_31 : K.lookup f_31 = some ⟨oc_31, od_31, .func (PySem.W.fnOf "full" "full" (defArgs s_full) (defBody s_full) (defScope s_full) .none kV_31 dc_31 pm_31 an_31 cd_31 ct_31), sl_31⟩) (c_31 : PySem.W.codeIn K cd_31 "full" = true) (k_31 : PySem.W.keepIn K (.ref f_31) = true)
    (a_34 : PySem.W.nsIn K mainGlobals "need_width" = some (some (.ref f_34))) (l_34 : K.lookup f_34 = some ⟨oc_34, od_34, .func (PySem.W.fnOf "need_width" "need_width" (defArgs s_need_width) (defBody s_need_width) (defScope s_need_width) .none kV_34 dc_34 pm_34 an_34 cd_34 ct_34), sl_34⟩) (c_34 : PySem.W.codeIn K cd_34 "need_width" = true) (k_34 : PySem.W.keepIn K (.ref f_34) = true)
    (a_35 : PySem.W.nsIn K mainGlobals "lines_of_width" = some (some (.ref f_35))) (l_35 : K.lookup f_35 = some ⟨oc_35, od_35, .func (PySem.W.fnOf "lines_of_width" "lines_of_width" (defArgs s_lines_of_width) (defBody s_lines_of_width) (defScope s_lines_of_width) .none kV_35 dc_35 pm_35 an_35 cd_35 ct_35), sl_35⟩) (c_35 : PySem.W.codeIn K cd_35 "lines_of_width" = true) (k_35 : PySem.W.keepIn K (.ref f_35) = true)
    (a_39 : PySem.W.nsIn K mainGlobals "need_late" = some (some (.ref f_39))) (l_39 : K.lookup f_39 = some ⟨oc_39, od_39, .func (PySem.W.fnOf "need_late" "need_late" (defArgs s_need_late) (defBody s_need_late) (defScope s_need_late) .none kV_39 dc_39 pm_39 an_39 cd_39 ct_39), sl_39⟩) (c_39 : PySem.W.codeIn K cd_39 "need_late" = true) (k_39 : PySem.W.keepIn K (.ref f_39) = true)
    (a_40 : PySem.W.nsIn K mainGlobals "next_known" = some (some (.ref f_40))) (l_40 : K.lookup f_40 = some ⟨oc_40, od_40, .func (PySem.W.fnOf "next_known" "next_known" (defArgs s_next_known) (defBody s_next_known) (defScope s_next_known) .none kV_40 dc_40 pm_40 an_40 cd_40 ct_40), sl_40⟩) (c_40 : PySem.W.codeIn K cd_40 "next_known" = true) (k_40 : PySem.W.keepIn K (.ref f_40) = true)
    (a_41 : PySem.W.nsIn K mainGlobals "known" = some (some (.ref f_41))) (l_41 : K.lookup f_41 = some ⟨oc_41, od_41, .func (PySem.W.fnOf "known" "known" (defArgs s_known) (defBody s_known) (defScope s_known) .none kV_41 dc_41 pm_41 an_41 cd_41 ct_41), sl_41⟩) (c_41 : PySem.W.codeIn K cd_41 "known" = true) (k_41 : PySem.W.keepIn K (.ref f_41) = true)
    (a_42 : PySem.W.nsIn K mainGlobals "row_of" = some (some (.ref f_42))) (l_42 : K.lookup f_42 = some ⟨oc_42, od_42, .func (PySem.W.fnOf "row_of" "row_of" (defArgs s_row_of) (defBody s_row_of) (defScope s_row_of) .none kV_42 dc_42 pm_42 an_42 cd_42 ct_42), sl_42⟩) (c_42 : PySem.W.codeIn K cd_42 "row_of" = true) (k_42 : PySem.W.keepIn K (.ref f_42) = true)
    (a_43 : PySem.W.nsIn K mainGlobals "rows_in" = some (some (.ref f_43))) (l_43 : K.lookup f_43 = some ⟨oc_43, od_43, .func (PySem.W.fnOf "rows_in" "rows_in" (defArgs s_rows_in) (defBody s_rows_in) (defScope s_rows_in) .none kV_43 dc_43 pm_43 an_43 cd_43 ct_43), sl_43⟩) (c_43 : PySem.W.codeIn K cd_43 "rows_in" = true) (k_43 : PySem.W.keepIn K (.ref f_43) = true)
    (a_44 : PySem.W.nsIn K mainGlobals "sure_rows" = some (some (.ref f_44))) (l_44 : K.lookup f_44 = some ⟨oc_44, od_44, .func (PySem.W.fnOf "sure_rows" "sure_rows" (defArgs s_sure_rows) (defBody s_sure_rows) (defScope s_sure_rows) .none kV_44 dc_44 pm_44 an_44 cd_44 ct_44), sl_44⟩) (c_44 : PySem.W.codeIn K cd_44 "sure_rows" = true) (k_44 : PySem.W.keepIn K (.ref f_44) = true)
    (a_45 : PySem.W.nsIn K mainGlobals "settled" = some (some (.ref f_45))) (l_45 : K.lookup f_45 = some ⟨oc_45, od_45, .func (PySem.W.fnOf "settled" "settled" (defArgs s_settled) (defBody s_settled) (defScope s_settled) .none kV_45 dc_45 pm_45 an_45 cd_45 ct_45), sl_45⟩) (c_45 : PySem.W.codeIn K cd_45 "settled" = true) (k_45 : PySem.W.keepIn K (.ref f_45) = true)
    (a_47 : PySem.W.nsIn K mainGlobals "_law_mix" = some (some (.ref f_47))) (l_47 : K.lookup f_47 = some ⟨oc_47, od_47, .func (PySem.W.fnOf "_law_mix" "_law_mix" (defArgs s__law_mix) (defBody s__law_mix) (defScope s__law_mix) .none kV_47 dc_47 pm_47 an_47 cd_47 ct_47), sl_47⟩) (c_47 : PySem.W.codeIn K cd_47 "_law_mix" = true) (k_47 : PySem.W.keepIn K (.ref f_47) = true)
    (a_48 : PySem.W.nsIn K mainGlobals "_law_begun" = some (some (.ref f_48))) (l_48 : K.lookup f_48 = some ⟨oc_48, od_48, .func (PySem.W.fnOf "_law_begun" "_law_begun" (defArgs s__law_begun) (defBody s__law_begun) (defScope s__law_begun) .none kV_48 dc_48 pm_48 an_48 cd_48 ct_48), sl_48⟩) (c_48 : PySem.W.codeIn K cd_48 "_law_begun" = true) (k_48 : PySem.W.keepIn K (.ref f_48) = true)
    (a_49 : PySem.W.nsIn K mainGlobals "_law_draw" = some (some (.ref f_49))) (l_49 : K.lookup f_49 = some ⟨oc_49, od_49, .func (PySem.W.fnOf "_law_draw" "_law_draw" (defArgs s__law_draw) (defBody s__law_draw) (defScope s__law_draw) .none kV_49 dc_49 pm_49 an_49 cd_49 ct_49), sl_49⟩) (c_49 : PySem.W.codeIn K cd_49 "_law_draw" = true) (k_49 : PySem.W.keepIn K (.ref f_49) = true)
    (a_50 : PySem.W.nsIn K mainGlobals "_law_change" = some (some (.ref f_50))) (l_50 : K.lookup f_50 = some ⟨oc_50, od_50, .func (PySem.W.fnOf "_law_change" "_law_change" (defArgs s__law_change) (defBody s__law_change) (defScope s__law_change) .none kV_50 dc_50 pm_50 an_50 cd_50 ct_50), sl_50⟩) (c_50 : PySem.W.codeIn K cd_50 "_law_change" = true) (k_50 : PySem.W.keepIn K (.ref f_50) = true)
    (a_51 : PySem.W.nsIn K mainGlobals "_law_again" = some (some (.ref f_51))) (l_51 : K.lookup f_51 = some ⟨oc_51, od_51, .func (PySem.W.fnOf "_law_again" "_law_again" (defArgs s__law_again) (defBody s__law_again) (defScope s__law_again) .none kV_51 dc_51 pm_51 an_51 cd_51 ct_51), sl_51⟩) (c_51 : PySem.W.codeIn K cd_51 "_law_again" = true) (k_51 : PySem.W.keepIn K (.ref f_51) = true)
    (a_52 : PySem.W.nsIn K mainGlobals "_law_step" = some (some (.ref f_52))) (l_52 : K.lookup f_52 = some ⟨oc_52, od_52, .func (PySem.W.fnOf "_law_step" "_law_step" (defArgs s__law_step) (defBody s__law_step) (defScope s__law_step) .none kV_52 dc_52 pm_52 an_52 cd_52 ct_52), sl_52⟩) (c_52 : PySem.W.codeIn K cd_52 "_law_step" = true) (k_52 : PySem.W.keepIn K (.ref f_52) = true)
    (a_53 : PySem.W.nsIn K mainGlobals "_law_read" = some (some (.ref f_53))) (l_53 : K.lookup f_53 = some ⟨oc_53, od_53, .func (PySem.W.fnOf "_law_read" "_law_read" (defArgs s__law_read) (defBody s__law_read) (defScope s__law_read) .none kV_53 dc_53 pm_53 an_53 cd_53 ct_53), sl_53⟩) (c_53 : PySem.W.codeIn K cd_53 "_law_read" = true) (k_53 : PySem.W.keepIn K (.ref f_53) = true)
    (a_54 : PySem.W.nsIn K mainGlobals "_law_line" = some (some (.ref f_54))) (l_54 : K.lookup f_54 = some ⟨oc_54, od_54, .func (PySem.W.fnOf "_law_line" "_law_line" (defArgs s__law_line) (defBody s__law_line) (defScope s__law_line) .none kV_54 dc_54 pm_54 an_54 cd_54 ct_54), sl_54⟩) (c_54 : PySem.W.codeIn K cd_54 "_law_line" = true) (k_54 : PySem.W.keepIn K (.ref f_54) = true)
    (a_55 : PySem.W.nsIn K mainGlobals "_law_walk" = some (some (.ref f_55))) (l_55 : K.lookup f_55 = some ⟨oc_55, od_55, .func (PySem.W.fnOf "_law_walk" "_law_walk" (defArgs s__law_walk) (defBody s__law_walk) (defScope s__law_walk) .none kV_55 dc_55 pm_55 an_55 cd_55 ct_55), sl_55⟩) (c_55 : PySem.W.codeIn K cd_55 "_law_walk" = true) (k_55 : PySem.W.keepIn K (.ref f_55) = true)
    (a_56 : PySem.W.nsIn K mainGlobals "_law_every" = some (some (.ref f_56))) (l_56 : K.lookup f_56 = some ⟨oc_56, od_56, .func (PySem.W.fnOf "_law_every" "_law_every" (defArgs s__law_every) (defBody s__law_every) (defScope s__law_every) .none kV_56 dc_56 pm_56 an_56 cd_56 ct_56), sl_56⟩) (c_56 : PySem.W.codeIn K cd_56 "_law_every" = true) (k_56 : PySem.W.keepIn K (.ref f_56) = true)
    (a_57 : PySem.W.nsIn K mainGlobals "_law_row" = some (some (.ref f_57))) (l_57 : K.lookup f_57 = some ⟨oc_57, od_57, .func (PySem.W.fnOf "_law_row" "_law_row" (defArgs s__law_row) (defBody s__law_row) (defScope s__law_row) .none kV_57 dc_57 pm_57 an_57 cd_57 ct_57), sl_57⟩) (c_57 : PySem.W.codeIn K cd_57 "_law_row" = true) (k_57 : PySem.W.keepIn K (.ref f_57) = true)
    (a_58 : PySem.W.nsIn K mainGlobals "_law_some" = some (some (.ref f_58))) (l_58 : K.lookup f_58 = some ⟨oc_58, od_58, .func (PySem.W.fnOf "_law_some" "_law_some" (defArgs s__law_some) (defBody s__law_some) (defScope s__law_some) .none kV_58 dc_58 pm_58 an_58 cd_58 ct_58), sl_58⟩) (c_58 : PySem.W.codeIn K cd_58 "_law_some" = true) (k_58 : PySem.W.keepIn K (.ref f_58) = true)
    (a_59 : PySem.W.nsIn K mainGlobals "_law_right" = some (some (.ref f_59))) (l_59 : K.lookup f_59 = some ⟨oc_59, od_59, .func (PySem.W.fnOf "_law_right" "_law_right" (defArgs s__law_right) (defBody s__law_right) (defScope s__law_right) .none kV_59 dc_59 pm_59 an_59 cd_59 ct_59), sl_59⟩) (c_59 : PySem.W.codeIn K cd_59 "_law_right" = true) (k_59 : PySem.W.keepIn K (.ref f_59) = true)
    (a_60 : PySem.W.nsIn K mainGlobals "law" = some (some (.ref f_60))) (l_60 : K.lookup f_60 = some ⟨oc_60, od_60, .func (PySem.W.fnOf "law" "law" (defArgs s_law) (defBody s_law) (defScope s_law) .none kV_60 dc_60 pm_60 an_60 cd_60 ct_60), sl_60⟩) (c_60 : PySem.W.codeIn K cd_60 "law" = true) (k_60 : PySem.W.keepIn K (.ref f_60) = true)
    (z_WHITE : PySem.W.nsIn K mainGlobals "WHITE" = some (some u_WHITE)) (r_WHITE : RelV (.str (S [false])) u_WHITE)
    (z_BLACK : PySem.W.nsIn K mainGlobals "BLACK" = some (some u_BLACK)) (r_BLACK : RelV (.str (S [true])) u_BLACK)
    (z_MOST_WIDTH : PySem.W.nsIn K mainGlobals "MOST_WIDTH" = some (some u_MOST_WIDTH)) (r_MOST_WIDTH : RelV (.int 40) u_MOST_WIDTH)
    (z_MOST_MODES : PySem.W.nsIn K mainGlobals "MOST_MODES" = some (some u_MOST_MODES)) (r_MOST_MODES : RelV (.int 80) u_MOST_MODES)
    (z_MOST_STAY : PySem.W.nsIn K mainGlobals "MOST_STAY" = some (some u_MOST_STAY)) (r_MOST_STAY : RelV (.int 3) u_MOST_STAY)
    (z_STAY : PySem.W.nsIn K mainGlobals "STAY" = some (some u_STAY)) (r_STAY : RelV (.str "stay") u_STAY)
    (z_PASS : PySem.W.nsIn K mainGlobals "PASS" = some (some u_PASS)) (r_PASS : RelV (.str "pass") u_PASS)
    (z_RUNS : PySem.W.nsIn K mainGlobals "RUNS" = some (some u_RUNS)) (r_RUNS : RelV (.str "runs") u_RUNS)
    (z_FULL : PySem.W.nsIn K mainGlobals "FULL" = some (some u_FULL)) (r_FULL : RelV (.str "full") u_FULL)
    (z_UNSURE : PySem.W.nsIn K mainGlobals "UNSURE" = some (some u_UNSURE)) (r_UNSURE : RelV (.str (R [63])) u_UNSURE)
    (z_MOST_LATE : PySem.W.nsIn K mainGlobals "MOST_LATE" = some (some u_MOST_LATE)) (r_MOST_LATE : RelV (.int 10) u_MOST_LATE)
    (z_MOST_TELLINGS : PySem.W.nsIn K mainGlobals "MOST_TELLINGS" = some (some u_MOST_TELLINGS)) (r_MOST_TELLINGS : RelV (.int 60) u_MOST_TELLINGS)
    (z_isinstance : PySem.W.nsIn K mainGlobals "isinstance" = some none)
    (z_int : PySem.W.nsIn K mainGlobals "int" = some none)
    (z_bool : PySem.W.nsIn K mainGlobals "bool" = some none)
    (z_str : PySem.W.nsIn K mainGlobals "str" = some none)
    (z_tuple : PySem.W.nsIn K mainGlobals "tuple" = some none)
    (z_len : PySem.W.nsIn K mainGlobals "len" = some none)
    (z_enumerate : PySem.W.nsIn K mainGlobals "enumerate" = some none)
    (z_range : PySem.W.nsIn K mainGlobals "range" = some none)
    (z_all : PySem.W.nsIn K mainGlobals "all" = some none)
    (z_sum : PySem.W.nsIn K mainGlobals "sum" = some none)
    (z_list : PySem.W.nsIn K mainGlobals "list" = some none)
    (z_sorted : PySem.W.nsIn K mainGlobals "sorted" = some none)
    (z_set : PySem.W.nsIn K mainGlobals "set" = some none)
    (z_repr : PySem.W.nsIn K mainGlobals "repr" = some none)
    (z_min : PySem.W.nsIn K mainGlobals "min" = some none) :
    ∃ fd : FuncData, (∀ (s : Shared) (v : Value), BindsTo s fd ⟨[v], []⟩ [("_law_script", v)]) ∧ ∀ base : Heap, K.In base → base.Ns mainGlobals mg → FnG l.prog w K mg base CX0 8 fa fd ["_law_script"] (spL K) := by
  have e := hfa.symm.trans (PySem.W.mg_of X G a_60)
  cases e
  have F_9 := fun_mk (st := s_is_whole) l_9 c_9 k_9
  have b_9 := F_9.binds (ps := ["thing", "least", "most"]) fun _ _ _ _ _ _ us hl => match us, hl with | [_, _, _], _ => rfl
  have F_10 := fun_mk (st := s_need_line) l_10 c_10 k_10
  have b_10 := F_10.binds (ps := ["thing"]) fun _ _ _ _ _ _ us hl => match us, hl with | [_], _ => rfl
  have F_11 := fun_mk (st := s_other_colour) l_11 c_11 k_11
  have b_11 := F_11.binds (ps := ["colour"]) fun _ _ _ _ _ _ us hl => match us, hl with | [_], _ => rfl
  have F_12 := fun_mk (st := s_colour_end) l_12 c_12 k_12
  have b_12 := F_12.binds (ps := ["line", "place", "colour"]) fun _ _ _ _ _ _ us hl => match us, hl with | [_, _, _], _ => rfl
  have F_13 := fun_mk (st := s_runs_in) l_13 c_13 k_13
  have b_13 := F_13.binds (ps := ["line"]) fun _ _ _ _ _ _ us hl => match us, hl with | [_], _ => rfl
  have F_14 := fun_mk (st := s_are_runs) l_14 c_14 k_14
  have b_14 := F_14.binds (ps := ["thing"]) fun _ _ _ _ _ _ us hl => match us, hl with | [_], _ => rfl
  have F_15 := fun_mk (st := s_line_in) l_15 c_15 k_15
  have b_15 := F_15.binds (ps := ["runs"]) fun _ _ _ _ _ _ us hl => match us, hl with | [_], _ => rfl
  have F_23 := fun_mk (st := s_is_mode) l_23 c_23 k_23
  have b_23 := F_23.binds (ps := ["thing"]) fun _ _ _ _ _ _ us hl => match us, hl with | [_], _ => rfl
  have F_24 := fun_mk (st := s_is_full) l_24 c_24 k_24
  have b_24 := F_24.binds (ps := ["telling"]) fun _ _ _ _ _ _ us hl => match us, hl with | [_], _ => rfl
  have F_25 := fun_mk (st := s_need_telling) l_25 c_25 k_25
  have b_25 := F_25.binds (ps := ["thing"]) fun _ _ _ _ _ _ us hl => match us, hl with | [_], _ => rfl
  have F_26 := fun_mk (st := s_change_from) l_26 c_26 k_26
  have b_26 := F_26.binds (ps := ["reference", "place", "colour", "is_told"]) fun _ _ _ _ _ _ us hl => match us, hl with | [_, _, _, _], _ => rfl
  have F_27 := fun_mk (st := s_change_back) l_27 c_27 k_27
  have b_27 := F_27.binds (ps := ["reference", "place", "colour"]) fun _ _ _ _ _ _ us hl => match us, hl with | [_, _, _], _ => rfl
  have F_28 := fun_mk (st := s_after_mode) l_28 c_28 k_28
  have b_28 := F_28.binds (ps := ["reference", "mode", "place", "colour", "is_told"]) fun _ _ _ _ _ _ us hl => match us, hl with | [_, _, _, _, _], _ => rfl
  have F_29 := fun_mk (st := s_dots_of) l_29 c_29 k_29
  have b_29 := F_29.binds (ps := ["mode", "place", "end", "colour"]) fun _ _ _ _ _ _ us hl => match us, hl with | [_, _, _, _], _ => rfl
  have F_30 := fun_mk (st := s_read_beside) l_30 c_30 k_30
  have b_30 := F_30.binds (ps := ["reference", "telling"]) fun _ _ _ _ _ _ us hl => match us, hl with | [_, _], _ => rfl
  have F_31 := fun_mk (st := s_full) l_31 c_31 k_31
  have b_31 := F_31.binds (ps := ["line"]) fun _ _ _ _ _ _ us hl => match us, hl with | [_], _ => rfl
  have F_34 := fun_mk (st := s_need_width) l_34 c_34 k_34
  have b_34 := F_34.binds (ps := ["width"]) fun _ _ _ _ _ _ us hl => match us, hl with | [_], _ => rfl
  have F_35 := fun_mk (st := s_lines_of_width) l_35 c_35 k_35
  have b_35 := F_35.binds (ps := ["width"]) fun _ _ _ _ _ _ us hl => match us, hl with | [_], _ => rfl
  have F_39 := fun_mk (st := s_need_late) l_39 c_39 k_39
  have b_39 := F_39.binds (ps := ["width", "tellings"]) fun _ _ _ _ _ _ us hl => match us, hl with | [_, _], _ => rfl
  have F_40 := fun_mk (st := s_next_known) l_40 c_40 k_40
  have b_40 := F_40.binds (ps := ["lines", "telling"]) fun _ _ _ _ _ _ us hl => match us, hl with | [_, _], _ => rfl
  have F_41 := fun_mk (st := s_known) l_41 c_41 k_41
  have b_41 := F_41.binds (ps := ["width", "tellings"]) fun _ _ _ _ _ _ us hl => match us, hl with | [_, _], _ => rfl
  have F_42 := fun_mk (st := s_row_of) l_42 c_42 k_42
  have b_42 := F_42.binds (ps := ["width", "lines"]) fun _ _ _ _ _ _ us hl => match us, hl with | [_, _], _ => rfl
  have F_43 := fun_mk (st := s_rows_in) l_43 c_43 k_43
  have b_43 := F_43.binds (ps := ["width", "tellings"]) fun _ _ _ _ _ _ us hl => match us, hl with | [_, _], _ => rfl
  have F_44 := fun_mk (st := s_sure_rows) l_44 c_44 k_44
  have b_44 := F_44.binds (ps := ["width", "tellings"]) fun _ _ _ _ _ _ us hl => match us, hl with | [_, _], _ => rfl
  have F_45 := fun_mk (st := s_settled) l_45 c_45 k_45
  have b_45 := F_45.binds (ps := ["width", "tellings"]) fun _ _ _ _ _ _ us hl => match us, hl with | [_, _], _ => rfl
  have F_47 := fun_mk (st := s__law_mix) l_47 c_47 k_47
  have b_47 := F_47.binds (ps := ["_law_cell", "_law_spot"]) fun _ _ _ _ _ _ us hl => match us, hl with | [_, _], _ => rfl
  have F_48 := fun_mk (st := s__law_begun) l_48 c_48 k_48
  have b_48 := F_48.binds (ps := ["_law_script"]) fun _ _ _ _ _ _ us hl => match us, hl with | [_], _ => rfl
  have F_49 := fun_mk (st := s__law_draw) l_49 c_49 k_49
  have b_49 := F_49.binds (ps := ["_law_m", "_law_limit"]) fun _ _ _ _ _ _ us hl => match us, hl with | [_, _], _ => rfl
  have F_50 := fun_mk (st := s__law_change) l_50 c_50 k_50
  have b_50 := F_50.binds (ps := ["_law_ahead", "_law_spot", "_law_colour", "_law_begun_here"]) fun _ _ _ _ _ _ us hl => match us, hl with | [_, _, _, _], _ => rfl
  have F_51 := fun_mk (st := s__law_again) l_51 c_51 k_51
  have b_51 := F_51.binds (ps := ["_law_ahead", "_law_spot", "_law_colour"]) fun _ _ _ _ _ _ us hl => match us, hl with | [_, _, _], _ => rfl
  have F_52 := fun_mk (st := s__law_step) l_52 c_52 k_52
  have b_52 := F_52.binds (ps := ["_law_ahead", "_law_mode", "_law_spot", "_law_colour", "_law_begun_here"]) fun _ _ _ _ _ _ us hl => match us, hl with | [_, _, _, _, _], _ => rfl
  have F_53 := fun_mk (st := s__law_read) l_53 c_53 k_53
  have b_53 := F_53.binds (ps := ["_law_ahead", "_law_modes"]) fun _ _ _ _ _ _ us hl => match us, hl with | [_, _], _ => rfl
  have F_54 := fun_mk (st := s__law_line) l_54 c_54 k_54
  have b_54 := F_54.binds (ps := ["_law_m", "_law_wide"]) fun _ _ _ _ _ _ us hl => match us, hl with | [_, _], _ => rfl
  have F_55 := fun_mk (st := s__law_walk) l_55 c_55 k_55
  have b_55 := F_55.binds (ps := ["_law_m", "_law_ahead"]) fun _ _ _ _ _ _ us hl => match us, hl with | [_, _], _ => rfl
  have F_56 := fun_mk (st := s__law_every) l_56 c_56 k_56
  have b_56 := F_56.binds (ps := ["_law_wide"]) fun _ _ _ _ _ _ us hl => match us, hl with | [_], _ => rfl
  have F_57 := fun_mk (st := s__law_row) l_57 c_57 k_57
  have b_57 := F_57.binds (ps := ["_law_wide", "_law_some_here"]) fun _ _ _ _ _ _ us hl => match us, hl with | [_, _], _ => rfl
  have F_58 := fun_mk (st := s__law_some) l_58 c_58 k_58
  have b_58 := F_58.binds (ps := ["_law_m", "_law_wide"]) fun _ _ _ _ _ _ us hl => match us, hl with | [_, _], _ => rfl
  have F_59 := fun_mk (st := s__law_right) l_59 c_59 k_59
  have b_59 := F_59.binds (ps := ["_law_wide", "_law_some_here"]) fun _ _ _ _ _ _ us hl => match us, hl with | [_, _], _ => rfl
  have F_60 := fun_mk (st := s_law) l_60 c_60 k_60
  have b_60 := F_60.binds (ps := ["_law_script"]) fun _ _ _ _ _ _ us hl => match us, hl with | [_], _ => rfl
  have T : Tx K mg (fun i => ([0, 0, 0, 0, 0, 0, 0, 0, 0, f_9, f_10, f_11, f_12, f_13, f_14, f_15, 0, 0, 0, 0, 0, 0, 0, f_23, f_24, f_25, f_26, f_27, f_28, f_29, f_30, f_31, 0, 0, f_34, f_35, 0, 0, 0, f_39, f_40, f_41, f_42, f_43, f_44, f_45, 0, f_47, f_48, f_49, f_50, f_51, f_52, f_53, f_54, f_55, f_56, f_57, f_58, f_59, fa] : List Addr).getD i 0) (fun i => ([(PySem.W.fnOf "law" "law" (defArgs s_law) (defBody s_law) (defScope s_law) .none kV_60 dc_60 pm_60 an_60 cd_60 ct_60), (PySem.W.fnOf "law" "law" (defArgs s_law) (defBody s_law) (defScope s_law) .none kV_60 dc_60 pm_60 an_60 cd_60 ct_60), (PySem.W.fnOf "law" "law" (defArgs s_law) (defBody s_law) (defScope s_law) .none kV_60 dc_60 pm_60 an_60 cd_60 ct_60), (PySem.W.fnOf "law" "law" (defArgs s_law) (defBody s_law) (defScope s_law) .none kV_60 dc_60 pm_60 an_60 cd_60 ct_60), (PySem.W.fnOf "law" "law" (defArgs s_law) (defBody s_law) (defScope s_law) .none kV_60 dc_60 pm_60 an_60 cd_60 ct_60), (PySem.W.fnOf "law" "law" (defArgs s_law) (defBody s_law) (defScope s_law) .none kV_60 dc_60 pm_60 an_60 cd_60 ct_60), (PySem.W.fnOf "law" "law" (defArgs s_law) (defBody s_law) (defScope s_law) .none kV_60 dc_60 pm_60 an_60 cd_60 ct_60), (PySem.W.fnOf "law" "law" (defArgs s_law) (defBody s_law) (defScope s_law) .none kV_60 dc_60 pm_60 an_60 cd_60 ct_60), (PySem.W.fnOf "law" "law" (defArgs s_law) (defBody s_law) (defScope s_law) .none kV_60 dc_60 pm_60 an_60 cd_60 ct_60), (PySem.W.fnOf "is_whole" "is_whole" (defArgs s_is_whole) (defBody s_is_whole) (defScope s_is_whole) .none kV_9 dc_9 pm_9 an_9 cd_9 ct_9), (PySem.W.fnOf "need_line" "need_line" (defArgs s_need_line) (defBody s_need_line) (defScope s_need_line) .none kV_10 dc_10 pm_10 an_10 cd_10 ct_10), (PySem.W.fnOf "other_colour" "other_colour" (defArgs s_other_colour) (defBody s_other_colour) (defScope s_other_colour) .none kV_11 dc_11 pm_11 an_11 cd_11 ct_11), (PySem.W.fnOf "colour_end" "colour_end" (defArgs s_colour_end) (defBody s_colour_end) (defScope s_colour_end) .none kV_12 dc_12 pm_12 an_12 cd_12 ct_12), (PySem.W.fnOf "runs_in" "runs_in" (defArgs s_runs_in) (defBody s_runs_in) (defScope s_runs_in) .none kV_13 dc_13 pm_13 an_13 cd_13 ct_13), (PySem.W.fnOf "are_runs" "are_runs" (defArgs s_are_runs) (defBody s_are_runs) (defScope s_are_runs) .none kV_14 dc_14 pm_14 an_14 cd_14 ct_14), (PySem.W.fnOf "line_in" "line_in" (defArgs s_line_in) (defBody s_line_in) (defScope s_line_in) .none kV_15 dc_15 pm_15 an_15 cd_15 ct_15), (PySem.W.fnOf "law" "law" (defArgs s_law) (defBody s_law) (defScope s_law) .none kV_60 dc_60 pm_60 an_60 cd_60 ct_60), (PySem.W.fnOf "law" "law" (defArgs s_law) (defBody s_law) (defScope s_law) .none kV_60 dc_60 pm_60 an_60 cd_60 ct_60), (PySem.W.fnOf "law" "law" (defArgs s_law) (defBody s_law) (defScope s_law) .none kV_60 dc_60 pm_60 an_60 cd_60 ct_60), (PySem.W.fnOf "law" "law" (defArgs s_law) (defBody s_law) (defScope s_law) .none kV_60 dc_60 pm_60 an_60 cd_60 ct_60), (PySem.W.fnOf "law" "law" (defArgs s_law) (defBody s_law) (defScope s_law) .none kV_60 dc_60 pm_60 an_60 cd_60 ct_60), (PySem.W.fnOf "law" "law" (defArgs s_law) (defBody s_law) (defScope s_law) .none kV_60 dc_60 pm_60 an_60 cd_60 ct_60), (PySem.W.fnOf "law" "law" (defArgs s_law) (defBody s_law) (defScope s_law) .none kV_60 dc_60 pm_60 an_60 cd_60 ct_60), (PySem.W.fnOf "is_mode" "is_mode" (defArgs s_is_mode) (defBody s_is_mode) (defScope s_is_mode) .none kV_23 dc_23 pm_23 an_23 cd_23 ct_23), (PySem.W.fnOf "is_full" "is_full" (defArgs s_is_full) (defBody s_is_full) (defScope s_is_full) .none kV_24 dc_24 pm_24 an_24 cd_24 ct_24), (PySem.W.fnOf "need_telling" "need_telling" (defArgs s_need_telling) (defBody s_need_telling) (defScope s_need_telling) .none kV_25 dc_25 pm_25 an_25 cd_25 ct_25), (PySem.W.fnOf "change_from" "change_from" (defArgs s_change_from) (defBody s_change_from) (defScope s_change_from) .none kV_26 dc_26 pm_26 an_26 cd_26 ct_26), (PySem.W.fnOf "change_back" "change_back" (defArgs s_change_back) (defBody s_change_back) (defScope s_change_back) .none kV_27 dc_27 pm_27 an_27 cd_27 ct_27), (PySem.W.fnOf "after_mode" "after_mode" (defArgs s_after_mode) (defBody s_after_mode) (defScope s_after_mode) .none kV_28 dc_28 pm_28 an_28 cd_28 ct_28), (PySem.W.fnOf "dots_of" "dots_of" (defArgs s_dots_of) (defBody s_dots_of) (defScope s_dots_of) .none kV_29 dc_29 pm_29 an_29 cd_29 ct_29), (PySem.W.fnOf "read_beside" "read_beside" (defArgs s_read_beside) (defBody s_read_beside) (defScope s_read_beside) .none kV_30 dc_30 pm_30 an_30 cd_30 ct_30), (PySem.W.fnOf "full" "full" (defArgs s_full) (defBody s_full) (defScope s_full) .none kV_31 dc_31 pm_31 an_31 cd_31 ct_31), (PySem.W.fnOf "law" "law" (defArgs s_law) (defBody s_law) (defScope s_law) .none kV_60 dc_60 pm_60 an_60 cd_60 ct_60), (PySem.W.fnOf "law" "law" (defArgs s_law) (defBody s_law) (defScope s_law) .none kV_60 dc_60 pm_60 an_60 cd_60 ct_60), (PySem.W.fnOf "need_width" "need_width" (defArgs s_need_width) (defBody s_need_width) (defScope s_need_width) .none kV_34 dc_34 pm_34 an_34 cd_34 ct_34), (PySem.W.fnOf "lines_of_width" "lines_of_width" (defArgs s_lines_of_width) (defBody s_lines_of_width) (defScope s_lines_of_width) .none kV_35 dc_35 pm_35 an_35 cd_35 ct_35), (PySem.W.fnOf "law" "law" (defArgs s_law) (defBody s_law) (defScope s_law) .none kV_60 dc_60 pm_60 an_60 cd_60 ct_60), (PySem.W.fnOf "law" "law" (defArgs s_law) (defBody s_law) (defScope s_law) .none kV_60 dc_60 pm_60 an_60 cd_60 ct_60), (PySem.W.fnOf "law" "law" (defArgs s_law) (defBody s_law) (defScope s_law) .none kV_60 dc_60 pm_60 an_60 cd_60 ct_60), (PySem.W.fnOf "need_late" "need_late" (defArgs s_need_late) (defBody s_need_late) (defScope s_need_late) .none kV_39 dc_39 pm_39 an_39 cd_39 ct_39), (PySem.W.fnOf "next_known" "next_known" (defArgs s_next_known) (defBody s_next_known) (defScope s_next_known) .none kV_40 dc_40 pm_40 an_40 cd_40 ct_40), (PySem.W.fnOf "known" "known" (defArgs s_known) (defBody s_known) (defScope s_known) .none kV_41 dc_41 pm_41 an_41 cd_41 ct_41), (PySem.W.fnOf "row_of" "row_of" (defArgs s_row_of) (defBody s_row_of) (defScope s_row_of) .none kV_42 dc_42 pm_42 an_42 cd_42 ct_42), (PySem.W.fnOf "rows_in" "rows_in" (defArgs s_rows_in) (defBody s_rows_in) (defScope s_rows_in) .none kV_43 dc_43 pm_43 an_43 cd_43 ct_43), (PySem.W.fnOf "sure_rows" "sure_rows" (defArgs s_sure_rows) (defBody s_sure_rows) (defScope s_sure_rows) .none kV_44 dc_44 pm_44 an_44 cd_44 ct_44), (PySem.W.fnOf "settled" "settled" (defArgs s_settled) (defBody s_settled) (defScope s_settled) .none kV_45 dc_45 pm_45 an_45 cd_45 ct_45), (PySem.W.fnOf "law" "law" (defArgs s_law) (defBody s_law) (defScope s_law) .none kV_60 dc_60 pm_60 an_60 cd_60 ct_60), (PySem.W.fnOf "_law_mix" "_law_mix" (defArgs s__law_mix) (defBody s__law_mix) (defScope s__law_mix) .none kV_47 dc_47 pm_47 an_47 cd_47 ct_47), (PySem.W.fnOf "_law_begun" "_law_begun" (defArgs s__law_begun) (defBody s__law_begun) (defScope s__law_begun) .none kV_48 dc_48 pm_48 an_48 cd_48 ct_48), (PySem.W.fnOf "_law_draw" "_law_draw" (defArgs s__law_draw) (defBody s__law_draw) (defScope s__law_draw) .none kV_49 dc_49 pm_49 an_49 cd_49 ct_49), (PySem.W.fnOf "_law_change" "_law_change" (defArgs s__law_change) (defBody s__law_change) (defScope s__law_change) .none kV_50 dc_50 pm_50 an_50 cd_50 ct_50), (PySem.W.fnOf "_law_again" "_law_again" (defArgs s__law_again) (defBody s__law_again) (defScope s__law_again) .none kV_51 dc_51 pm_51 an_51 cd_51 ct_51), (PySem.W.fnOf "_law_step" "_law_step" (defArgs s__law_step) (defBody s__law_step) (defScope s__law_step) .none kV_52 dc_52 pm_52 an_52 cd_52 ct_52), (PySem.W.fnOf "_law_read" "_law_read" (defArgs s__law_read) (defBody s__law_read) (defScope s__law_read) .none kV_53 dc_53 pm_53 an_53 cd_53 ct_53), (PySem.W.fnOf "_law_line" "_law_line" (defArgs s__law_line) (defBody s__law_line) (defScope s__law_line) .none kV_54 dc_54 pm_54 an_54 cd_54 ct_54), (PySem.W.fnOf "_law_walk" "_law_walk" (defArgs s__law_walk) (defBody s__law_walk) (defScope s__law_walk) .none kV_55 dc_55 pm_55 an_55 cd_55 ct_55), (PySem.W.fnOf "_law_every" "_law_every" (defArgs s__law_every) (defBody s__law_every) (defScope s__law_every) .none kV_56 dc_56 pm_56 an_56 cd_56 ct_56), (PySem.W.fnOf "_law_row" "_law_row" (defArgs s__law_row) (defBody s__law_row) (defScope s__law_row) .none kV_57 dc_57 pm_57 an_57 cd_57 ct_57), (PySem.W.fnOf "_law_some" "_law_some" (defArgs s__law_some) (defBody s__law_some) (defScope s__law_some) .none kV_58 dc_58 pm_58 an_58 cd_58 ct_58), (PySem.W.fnOf "_law_right" "_law_right" (defArgs s__law_right) (defBody s__law_right) (defScope s__law_right) .none kV_59 dc_59 pm_59 an_59 cd_59 ct_59), (PySem.W.fnOf "law" "law" (defArgs s_law) (defBody s_law) (defScope s_law) .none kV_60 dc_60 pm_60 an_60 cd_60 ct_60)] : List FuncData).getD i (PySem.W.fnOf "law" "law" (defArgs s_law) (defBody s_law) (defScope s_law) .none kV_60 dc_60 pm_60 an_60 cd_60 ct_60)) := ⟨⟨F_9, b_9, PySem.W.mg_of X G a_9⟩,
    ⟨F_10, b_10, PySem.W.mg_of X G a_10⟩,
    ⟨F_11, b_11, PySem.W.mg_of X G a_11⟩,
    ⟨F_12, b_12, PySem.W.mg_of X G a_12⟩,
    ⟨F_13, b_13, PySem.W.mg_of X G a_13⟩,
    ⟨F_14, b_14, PySem.W.mg_of X G a_14⟩,
    ⟨F_15, b_15, PySem.W.mg_of X G a_15⟩,
    ⟨F_23, b_23, PySem.W.mg_of X G a_23⟩,
    ⟨F_24, b_24, PySem.W.mg_of X G a_24⟩,
    ⟨F_25, b_25, PySem.W.mg_of X G a_25⟩,
    ⟨F_26, b_26, PySem.W.mg_of X G a_26⟩,
    ⟨F_27, b_27, PySem.W.mg_of X G a_27⟩,
    ⟨F_28, b_28, PySem.W.mg_of X G a_28⟩,
    ⟨F_29, b_29, PySem.W.mg_of X G a_29⟩,
    ⟨F_30, b_30, PySem.W.mg_of X G a_30⟩,
    ⟨F_31, b_31, PySem.W.mg_of X G a_31⟩,
    ⟨F_34, b_34, PySem.W.mg_of X G a_34⟩,
    ⟨F_35, b_35, PySem.W.mg_of X G a_35⟩,
    ⟨F_39, b_39, PySem.W.mg_of X G a_39⟩,
    ⟨F_40, b_40, PySem.W.mg_of X G a_40⟩,
    ⟨F_41, b_41, PySem.W.mg_of X G a_41⟩,
    ⟨F_42, b_42, PySem.W.mg_of X G a_42⟩,
    ⟨F_43, b_43, PySem.W.mg_of X G a_43⟩,
    ⟨F_44, b_44, PySem.W.mg_of X G a_44⟩,
    ⟨F_45, b_45, PySem.W.mg_of X G a_45⟩,
    ⟨F_47, b_47, PySem.W.mg_of X G a_47⟩,
    ⟨F_48, b_48, PySem.W.mg_of X G a_48⟩,
    ⟨F_49, b_49, PySem.W.mg_of X G a_49⟩,
    ⟨F_50, b_50, PySem.W.mg_of X G a_50⟩,
    ⟨F_51, b_51, PySem.W.mg_of X G a_51⟩,
    ⟨F_52, b_52, PySem.W.mg_of X G a_52⟩,
    ⟨F_53, b_53, PySem.W.mg_of X G a_53⟩,
    ⟨F_54, b_54, PySem.W.mg_of X G a_54⟩,
    ⟨F_55, b_55, PySem.W.mg_of X G a_55⟩,
    ⟨F_56, b_56, PySem.W.mg_of X G a_56⟩,
    ⟨F_57, b_57, PySem.W.mg_of X G a_57⟩,
    ⟨F_58, b_58, PySem.W.mg_of X G a_58⟩,
    ⟨F_59, b_59, PySem.W.mg_of X G a_59⟩,
    ⟨F_60, b_60, PySem.W.mg_of X G a_60⟩,
    ⟨u_WHITE, PySem.W.mg_of X G z_WHITE, r_WHITE⟩,
    ⟨u_BLACK, PySem.W.mg_of X G z_BLACK, r_BLACK⟩,
    ⟨u_MOST_WIDTH, PySem.W.mg_of X G z_MOST_WIDTH, r_MOST_WIDTH⟩,
    ⟨u_MOST_MODES, PySem.W.mg_of X G z_MOST_MODES, r_MOST_MODES⟩,
    ⟨u_MOST_STAY, PySem.W.mg_of X G z_MOST_STAY, r_MOST_STAY⟩,
    ⟨u_STAY, PySem.W.mg_of X G z_STAY, r_STAY⟩,
    ⟨u_PASS, PySem.W.mg_of X G z_PASS, r_PASS⟩,
    ⟨u_RUNS, PySem.W.mg_of X G z_RUNS, r_RUNS⟩,
    ⟨u_FULL, PySem.W.mg_of X G z_FULL, r_FULL⟩,
    ⟨u_UNSURE, PySem.W.mg_of X G z_UNSURE, r_UNSURE⟩,
    ⟨u_MOST_LATE, PySem.W.mg_of X G z_MOST_LATE, r_MOST_LATE⟩,
    ⟨u_MOST_TELLINGS, PySem.W.mg_of X G z_MOST_TELLINGS, r_MOST_TELLINGS⟩,
    PySem.W.mg_none_of X G z_isinstance,
    PySem.W.mg_none_of X G z_int,
    PySem.W.mg_none_of X G z_bool,
    PySem.W.mg_none_of X G z_str,
    PySem.W.mg_none_of X G z_tuple,
    PySem.W.mg_none_of X G z_len,
    PySem.W.mg_none_of X G z_enumerate,
    PySem.W.mg_none_of X G z_range,
    PySem.W.mg_none_of X G z_all,
    PySem.W.mg_none_of X G z_sum,
    PySem.W.mg_none_of X G z_list,
    PySem.W.mg_none_of X G z_sorted,
    PySem.W.mg_none_of X G z_set,
    PySem.W.mg_none_of X G z_repr,
    PySem.W.mg_none_of X G z_min⟩
  exact ⟨(PySem.W.fnOf "law" "law" (defArgs s_law) (defBody s_law) (defScope s_law) .none kV_60 dc_60 pm_60 an_60 cd_60 ct_60), fun s v => .of_eq rfl, fun base _ _ => ok_law T⟩
end K8
open PySem PySem.W PyProof.Rows
set_option maxHeartbeats 0 in
theorem PySem.Challenge.cw_faxhouse_k78_whole_late_tellings_by_all_holds : PySem.Challenge.rw_faxhouse_k78_whole_late_tellings_by_all.Holds := by
  w_on; o_law; k_head; (case hw => w_witness2)
  k_fill
  refine K8.walk_ofG (l := PySem.Challenge.rw_faxhouse_k78_whole_late_tellings_by_all) (n := 63) (k := 8) (x := "_law_script") (sp := fun w => K8.spL _) rfl (by decide) rfl ⟨rfl, by decide, by decide⟩ (fun w h Y => PySem.W.kIn_of Y) ?F (fun _ _ a ns hl hb _ hS => ⟨a, ns, rfl, hS, hl, hb, fun _ => rfl⟩)
  case F =>
    intro w mg fa h KX G hmg
    refine' K8.all_mk KX G hmg ?a_9 ?l_9 ?c_9 ?k_9 ?a_10 ?l_10 ?c_10 ?k_10 ?a_11 ?l_11 ?c_11 ?k_11 ?a_12 ?l_12 ?c_12 ?k_12 ?a_13 ?l_13 ?c_13 ?k_13 ?a_14 ?l_14 ?c_14 ?k_14 ?a_15 ?l_15 ?c_15 ?k_15 ?a_23 ?l_23 ?c_23 ?k_23 ?a_24 ?l_24 ?c_24 ?k_24 ?a_25 ?l_25 ?c_25 ?k_25 ?a_26 ?l_26 ?c_26 ?k_26 ?a_27 ?l_27 ?c_27 ?k_27 ?a_28 ?l_28 ?c_28 ?k_28 ?a_29 ?l_29 ?c_29 ?k_29 ?a_30 ?l_30 ?c_30 ?k_30 ?a_31 ?l_31 ?c_31 ?k_31 ?a_34 ?l_34 ?c_34 ?k_34 ?a_35 ?l_35 ?c_35 ?k_35 ?a_39 ?l_39 ?c_39 ?k_39 ?a_40 ?l_40 ?c_40 ?k_40 ?a_41 ?l_41 ?c_41 ?k_41 ?a_42 ?l_42 ?c_42 ?k_42 ?a_43 ?l_43 ?c_43 ?k_43 ?a_44 ?l_44 ?c_44 ?k_44 ?a_45 ?l_45 ?c_45 ?k_45 ?a_47 ?l_47 ?c_47 ?k_47 ?a_48 ?l_48 ?c_48 ?k_48 ?a_49 ?l_49 ?c_49 ?k_49 ?a_50 ?l_50 ?c_50 ?k_50 ?a_51 ?l_51 ?c_51 ?k_51 ?a_52 ?l_52 ?c_52 ?k_52 ?a_53 ?l_53 ?c_53 ?k_53 ?a_54 ?l_54 ?c_54 ?k_54 ?a_55 ?l_55 ?c_55 ?k_55 ?a_56 ?l_56 ?c_56 ?k_56 ?a_57 ?l_57 ?c_57 ?k_57 ?a_58 ?l_58 ?c_58 ?k_58 ?a_59 ?l_59 ?c_59 ?k_59 ?a_60 ?l_60 ?c_60 ?k_60 ?z_WHITE ?r_WHITE ?z_BLACK ?r_BLACK ?z_MOST_WIDTH ?r_MOST_WIDTH ?z_MOST_MODES ?r_MOST_MODES ?z_MOST_STAY ?r_MOST_STAY ?z_STAY ?r_STAY ?z_PASS ?r_PASS ?z_RUNS ?r_RUNS ?z_FULL ?r_FULL ?z_UNSURE ?r_UNSURE ?z_MOST_LATE ?r_MOST_LATE ?z_MOST_TELLINGS ?r_MOST_TELLINGS ?z_isinstance ?z_int ?z_bool ?z_str ?z_tuple ?z_len ?z_enumerate ?z_range ?z_all ?z_sum ?z_list ?z_sorted ?z_set ?z_repr ?z_min
    (case a_9 => k_is)
    (case l_9 => k_is)
    (case c_9 => k_is)
    (case k_9 => k_is)
    (case a_10 => k_is)
    (case l_10 => k_is)
    (case c_10 => k_is)
    (case k_10 => k_is)
    (case a_11 => k_is)
    (case l_11 => k_is)
    (case c_11 => k_is)
    (case k_11 => k_is)
    (case a_12 => k_is)
    (case l_12 => k_is)
    (case c_12 => k_is)
    (case k_12 => k_is)
    (case a_13 => k_is)
    (case l_13 => k_is)
    (case c_13 => k_is)
    (case k_13 => k_is)
    (case a_14 => k_is)
    (case l_14 => k_is)
    (case c_14 => k_is)
    (case k_14 => k_is)
    (case a_15 => k_is)
    (case l_15 => k_is)
    (case c_15 => k_is)
    (case k_15 => k_is)
    (case a_23 => k_is)
    (case l_23 => k_is)
    (case c_23 => k_is)
    (case k_23 => k_is)
    (case a_24 => k_is)
    (case l_24 => k_is)
    (case c_24 => k_is)
    (case k_24 => k_is)
    (case a_25 => k_is)
    (case l_25 => k_is)
    (case c_25 => k_is)
    (case k_25 => k_is)
    (case a_26 => k_is)
    (case l_26 => k_is)
    (case c_26 => k_is)
    (case k_26 => k_is)
    (case a_27 => k_is)
    (case l_27 => k_is)
    (case c_27 => k_is)
    (case k_27 => k_is)
    (case a_28 => k_is)
    (case l_28 => k_is)
    (case c_28 => k_is)
    (case k_28 => k_is)
    (case a_29 => k_is)
    (case l_29 => k_is)
    (case c_29 => k_is)
    (case k_29 => k_is)
    (case a_30 => k_is)
    (case l_30 => k_is)
    (case c_30 => k_is)
    (case k_30 => k_is)
    (case a_31 => k_is)
    (case l_31 => k_is)
    (case c_31 => k_is)
    (case k_31 => k_is)
    (case a_34 => k_is)
    (case l_34 => k_is)
    (case c_34 => k_is)
    (case k_34 => k_is)
    (case a_35 => k_is)
    (case l_35 => k_is)
    (case c_35 => k_is)
    (case k_35 => k_is)
    (case a_39 => k_is)
    (case l_39 => k_is)
    (case c_39 => k_is)
    (case k_39 => k_is)
    (case a_40 => k_is)
    (case l_40 => k_is)
    (case c_40 => k_is)
    (case k_40 => k_is)
    (case a_41 => k_is)
    (case l_41 => k_is)
    (case c_41 => k_is)
    (case k_41 => k_is)
    (case a_42 => k_is)
    (case l_42 => k_is)
    (case c_42 => k_is)
    (case k_42 => k_is)
    (case a_43 => k_is)
    (case l_43 => k_is)
    (case c_43 => k_is)
    (case k_43 => k_is)
    (case a_44 => k_is)
    (case l_44 => k_is)
    (case c_44 => k_is)
    (case k_44 => k_is)
    (case a_45 => k_is)
    (case l_45 => k_is)
    (case c_45 => k_is)
    (case k_45 => k_is)
    (case a_47 => k_is)
    (case l_47 => k_is)
    (case c_47 => k_is)
    (case k_47 => k_is)
    (case a_48 => k_is)
    (case l_48 => k_is)
    (case c_48 => k_is)
    (case k_48 => k_is)
    (case a_49 => k_is)
    (case l_49 => k_is)
    (case c_49 => k_is)
    (case k_49 => k_is)
    (case a_50 => k_is)
    (case l_50 => k_is)
    (case c_50 => k_is)
    (case k_50 => k_is)
    (case a_51 => k_is)
    (case l_51 => k_is)
    (case c_51 => k_is)
    (case k_51 => k_is)
    (case a_52 => k_is)
    (case l_52 => k_is)
    (case c_52 => k_is)
    (case k_52 => k_is)
    (case a_53 => k_is)
    (case l_53 => k_is)
    (case c_53 => k_is)
    (case k_53 => k_is)
    (case a_54 => k_is)
    (case l_54 => k_is)
    (case c_54 => k_is)
    (case k_54 => k_is)
    (case a_55 => k_is)
    (case l_55 => k_is)
    (case c_55 => k_is)
    (case k_55 => k_is)
    (case a_56 => k_is)
    (case l_56 => k_is)
    (case c_56 => k_is)
    (case k_56 => k_is)
    (case a_57 => k_is)
    (case l_57 => k_is)
    (case c_57 => k_is)
    (case k_57 => k_is)
    (case a_58 => k_is)
    (case l_58 => k_is)
    (case c_58 => k_is)
    (case k_58 => k_is)
    (case a_59 => k_is)
    (case l_59 => k_is)
    (case c_59 => k_is)
    (case k_59 => k_is)
    (case a_60 => k_is)
    (case l_60 => k_is)
    (case c_60 => k_is)
    (case k_60 => k_is)
    (case z_WHITE => k_is)
    (case r_WHITE => exact K8.relS K8.l_w)
    (case z_BLACK => k_is)
    (case r_BLACK => exact K8.relS K8.l_b)
    (case z_MOST_WIDTH => k_is)
    (case r_MOST_WIDTH => exact ⟨_, rfl⟩)
    (case z_MOST_MODES => k_is)
    (case r_MOST_MODES => exact ⟨_, rfl⟩)
    (case z_MOST_STAY => k_is)
    (case r_MOST_STAY => exact ⟨_, rfl⟩)
    (case z_STAY => k_is)
    (case r_STAY => exact ⟨_, rfl⟩)
    (case z_PASS => k_is)
    (case r_PASS => exact ⟨_, rfl⟩)
    (case z_RUNS => k_is)
    (case r_RUNS => exact ⟨_, rfl⟩)
    (case z_FULL => k_is)
    (case r_FULL => exact ⟨_, rfl⟩)
    (case z_UNSURE => k_is)
    (case r_UNSURE => exact K8.relS K8.l_q)
    (case z_MOST_LATE => k_is)
    (case r_MOST_LATE => exact ⟨_, rfl⟩)
    (case z_MOST_TELLINGS => k_is)
    (case r_MOST_TELLINGS => exact ⟨_, rfl⟩)
    (case z_isinstance => k_is)
    (case z_int => k_is)
    (case z_bool => k_is)
    (case z_str => k_is)
    (case z_tuple => k_is)
    (case z_len => k_is)
    (case z_enumerate => k_is)
    (case z_range => k_is)
    (case z_all => k_is)
    (case z_sum => k_is)
    (case z_list => k_is)
    (case z_sorted => k_is)
    (case z_set => k_is)
    (case z_repr => k_is)
    (case z_min => k_is)
