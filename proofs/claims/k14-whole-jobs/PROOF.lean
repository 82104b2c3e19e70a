import PyProof.Rows.All
import Wide.All
import OpenK.AllK
import Wide.FinOn
import KE.GoesEnum
import HandS.ForMost
import HandS.IsInst
import HandS.TupAny
import HandS.SetFor
import HandS.Strs
import HandS.Zip
import HandS.Walk
import HandS.ClsMeth
import HandS.CallRecv
import HandS.HeadWalk
import KE.KStateDown
import Lean
import HandS.Base
import HandS.Call
import HandS.Ends
import HandS.More
import HandS.Words
import HandS.WordsExc
import HandS.Defaults
import HandS.Head0
import HandS.Head1
import HandS.Head2
import HandS.HeadEnd
import HandS.HeadHook1
import HandS.HeadHook2
import PySem.Challenge.RW_wholeglance_k14_whole_jobs_done_at_once
set_option Elab.async false
set_option linter.all false
set_option maxRecDepth 100000
set_option maxHeartbeats 0
/-! The mirror: what the jobs' code computes, over plain data; and the law's own world. -/
namespace My

/-- a value at a place -/
inductive Val where
  | int (i : Int)
  | nm (id num : Int)
  | ls (n : Int)
  | cl (xs : List (Int × Int))
  deriving DecidableEq

def Val.isZ : Val → Bool
  | .int i => i == 0
  | _ => false
def Val.id : Val → Int
  | .nm i _ => i
  | _ => 0
def Val.num : Val → Int
  | .nm _ k => k
  | _ => 0
def Val.one : Val → Int
  | .ls n => n
  | _ => 0
def Val.int' : Val → Int
  | .int n => n
  | _ => 0
def Val.fr : Val → List (Int × Int)
  | .cl xs => xs
  | _ => []

/-- what a deed told -/
abbrev Ent := Option (List Val)
abbrev Tld := List Ent

inductive Job where
  | sums (items : List (Option Int))
  | name (id : Int)
  | least (n : Int) (w : Nat)
  | closer (n : Int) (r : Nat)

inductive Deed where
  | idle
  | look
  | put (v : Val)

/-- the looks: the odd places -/
def odds {α : Type} : List α → List α
  | [] => []
  | [_] => []
  | _ :: b :: r => b :: odds r

/-- what stands at the other places, but nought -/
def others (own : Nat) (seen : List Val) : List Val := (seen.zipIdx.filter fun p => decide (p.2 ≠ own) && !p.1.isZ).map (·.1)

def freeN (a : Int) (k : Nat) (t : List Int) : List Int := ((List.range k).map fun (i : Nat) => a + (i : Int)).filter fun x => !decide (x ∈ t)

/-! ### names -/
def hearName (own : Nat) (id : Int) (s : Int × Bool) (seen : List Val) : Int × Bool :=
  let o := others own seen
  let t := o.map Val.num
  if s.1 ∈ t then ((freeN 1 (2 * seen.length + 1) t).getD ((o.filter fun v => decide (v.id < id)).length) 0, false) else (s.1, true)
def nameSt (own : Nat) (id : Int) (told : Tld) : Int × Bool := (odds told).foldl (fun s e => hearName own id s (e.getD [])) (1, false)

/-! ### leasts -/
def nums (seen : List Val) : List Int := (seen.filter fun v => !v.isZ).map Val.one
def there (w : Nat) (told : Tld) : List Int :=
  if told.length < 2 then [] else
    let ns := nums ((told.getLast?.getD none).getD [])
    if ns.length < w then [] else ns
def minL : List Int → Int
  | [] => 0
  | a :: r => r.foldl min a

/-! ### closer numbers -/
abbrev Fr := Int × Int
def lessF (a b : Fr) : Bool := decide (a.1 * b.2 < b.1 * a.2)
def halfway (a b : Fr) : Fr :=
  let top := a.1 * b.2 + b.1 * a.2
  let bot := 2 * a.2 * b.2
  let g : Int := (Int.gcd top bot : Nat)
  (top / g, bot / g)
def ext1 (m : Nat) (s : Fr × Fr) (v : Val) : Fr × Fr :=
  if m ≤ v.fr.length then
    let x := v.fr.getD (m - 1) (0, 1)
    let lo := if lessF x s.1 then x else s.1
    let hi := if lessF s.2 x then x else s.2
    (lo, hi)
  else s
def extremes (m : Nat) (x : Fr) (o : List Val) : Fr × Fr := o.foldl (ext1 m) (x, x)
def hearCl (own : Nat) (ns : List Fr) (seen : List Val) : List Fr :=
  let s := extremes ns.length (ns.getLast?.getD (0, 1)) (others own seen)
  ns ++ [halfway s.1 s.2]
def clSt (own : Nat) (n : Int) (told : Tld) : List Fr := (odds told).foldl (fun s e => hearCl own s (e.getD [])) [(n, 1)]

/-! ### the next deed, the answer -/
def sumTo (items : List (Option Int)) (k : Nat) : Int := ((items.take (k + 1)).filterMap id).sum
def nextDeed (own : Nat) (job : Job) (told : Tld) : Deed :=
  match job with
  | .sums items =>
    if told.length = items.length then .idle else
      match items.getD told.length none with
      | none => .look
      | some _ => .put (.int (sumTo items told.length))
  | .name id =>
    if told.length % 2 = 1 then .look else
      if (nameSt own id told).2 = true then .idle else .put (.nm id (nameSt own id told).1)
  | .least n w =>
    if told.length = 0 then .put (.ls n) else
      if there w told = [] then .look else .idle
  | .closer n r =>
    if told.length % 2 = 1 then .look else
      if r < (clSt own n told).length then .idle else .put (.cl (clSt own n told))

theorem nd_sums (own : Nat) (items : List (Option Int)) (told : Tld) : nextDeed own (.sums items) told = (if told.length = items.length then .idle else
      match items.getD told.length none with
      | none => .look
      | some _ => .put (.int (sumTo items told.length))) := rfl
theorem nd_name (own : Nat) (id : Int) (told : Tld) : nextDeed own (.name id) told = (if told.length % 2 = 1 then .look else
      if (nameSt own id told).2 = true then .idle else .put (.nm id (nameSt own id told).1)) := rfl
theorem nd_least (own : Nat) (n : Int) (w : Nat) (told : Tld) : nextDeed own (.least n w) told = (if told.length = 0 then .put (.ls n) else
      if there w told = [] then .look else .idle) := rfl
theorem nd_closer (own : Nat) (n : Int) (r : Nat) (told : Tld) : nextDeed own (.closer n r) told = (if told.length % 2 = 1 then .look else
      if r < (clSt own n told).length then .idle else .put (.cl (clSt own n told))) := rfl
/-- answers -/
inductive Ans where
  | num (i : Int)
  | frac (x : Fr)
  | tup (xs : List Int)
  deriving DecidableEq
def sumsOf (told : Tld) : List Int := (told.filterMap id).map fun st => (st.map Val.int').sum
def Deed.isIdle : Deed → Bool
  | .idle => true
  | _ => false
def answer (own : Nat) (job : Job) (told : Tld) : Option Ans :=
  if (nextDeed own job told).isIdle then
    match job with
    | .sums _ => some (.tup (sumsOf told))
    | .name id => some (.num (nameSt own id told).1)
    | .least _ w => some (.num (minL (there w told)))
    | .closer n _ => some (.frac ((clSt own n told).getLast?.getD (0, 1)))
  else none

/-! ### the law's world -/
structure Wld where
  state : List Val
  tolds : List Tld
def Wld.told (W : Wld) (p : Nat) : Tld := W.tolds.getD p []
def Wld.at (W : Wld) (p : Nat) : Val := W.state.getD p (.int 0)
def stepW (jobs : List Job) (own : Nat) (W : Wld) : Wld :=
  match nextDeed own (jobs.getD own (.sums [])) (W.told own) with
  | .idle => W
  | .look => ⟨W.state, W.tolds.set own (W.told own ++ [some W.state])⟩
  | .put v => ⟨W.state.set own v, W.tolds.set own (W.told own ++ [none])⟩
def runW (jobs : List Job) (own : Nat) : Nat → Wld → Wld
  | 0, W => W
  | k + 1, W => stepW jobs own (runW jobs own k W)
end My
namespace My

/-! ### lists -/
theorem odds_snoc {α : Type} (x : α) : ∀ l : List α, odds (l ++ [x]) = if l.length % 2 = 1 then odds l ++ [x] else odds l
  | [] => rfl
  | [a] => rfl
  | a :: b :: r => by
    have ih := odds_snoc x r
    show b :: odds (r ++ [x]) = _
    rw [ih]
    simp only [List.length_cons]
    by_cases h : r.length % 2 = 1
    · rw [if_pos h, if_pos (by omega)]; rfl
    · rw [if_neg h, if_neg (by omega)]; rfl
theorem odds_mem {α : Type} {x : α} : ∀ {l : List α}, x ∈ odds l → x ∈ l
  | [], h => by simp [odds] at h
  | [a], h => by simp [odds] at h
  | a :: b :: r, h => by
    rcases List.mem_cons.mp (show x ∈ b :: odds r from h) with h | h
    · simp [h]
    · have := odds_mem h; simp [this]
theorem odds_length {α : Type} : ∀ l : List α, (odds l).length = l.length / 2
  | [] => by simp [odds]
  | [a] => by simp [odds]
  | a :: b :: r => by
    have ih := odds_length r
    show (odds r).length + 1 = _
    rw [ih]
    simp only [List.length_cons]
    omega

theorem mem_others {own : Nat} {seen : List Val} {v : Val} : v ∈ others own seen ↔ ∃ i, i ≠ own ∧ seen[i]? = some v ∧ v.isZ = false := by
  unfold others
  simp only [List.mem_map, List.mem_filter, Prod.exists]
  constructor
  · rintro ⟨a, i, ⟨h1, h2⟩, rfl⟩
    rw [List.mk_mem_zipIdx_iff_getElem?] at h1
    simp at h2
    exact ⟨i, h2.1, h1, h2.2⟩
  · rintro ⟨i, h1, h2, h3⟩
    exact ⟨v, i, ⟨List.mk_mem_zipIdx_iff_getElem?.mpr h2, by simp [h1, h3]⟩, rfl⟩

def nz (seen : List Val) : Nat := (seen.filter fun v => !v.isZ).length

theorem filt_le (own : Nat) : ∀ (seen : List Val) (k : Nat), ((seen.zipIdx k).filter fun p => decide (p.2 ≠ own) && !p.1.isZ).length ≤ nz seen
  | [], _ => by simp [nz]
  | v :: r, k => by
    have ih := filt_le own r (k + 1)
    unfold nz at ih ⊢
    rw [List.zipIdx_cons]
    simp only [List.filter_cons]
    split <;> rename_i h1
    · simp at h1
      simp [h1.2]
      simpa using ih
    · split
      · simp; simp at ih; omega
      · exact ih
theorem filt_lt (own : Nat) : ∀ (seen : List Val) (k : Nat), k ≤ own → (∃ v, seen[own - k]? = some v ∧ v.isZ = false) → ((seen.zipIdx k).filter fun p => decide (p.2 ≠ own) && !p.1.isZ).length + 1 ≤ nz seen
  | [], _, _, ⟨v, h, _⟩ => by simp at h
  | v :: r, k, hk, ⟨u, h, hu⟩ => by
    rw [List.zipIdx_cons]
    by_cases e : k = own
    · subst e
      rw [Nat.sub_self] at h
      have e2 : v = u := by simpa using h
      subst e2
      have ih := filt_le k r (k + 1)
      unfold nz at ih ⊢
      simp only [List.filter_cons]
      simp [hu]
      simpa using ih
    · have ih := filt_lt own r (k + 1) (by omega) ⟨u, by
        have : own - k = (own - (k + 1)) + 1 := by omega
        rw [this] at h
        simpa using h, hu⟩
      unfold nz at ih ⊢
      simp only [List.filter_cons]
      by_cases hv : v.isZ = true
      · simp [hv]
        simpa using ih
      · simp [hv, e]
        simpa using ih
theorem others_le (own : Nat) (seen : List Val) : (others own seen).length ≤ nz seen := by
  unfold others
  rw [List.length_map]
  exact filt_le own seen 0
theorem others_lt {own : Nat} {seen : List Val} {v : Val} (h : seen[own]? = some v) (hv : v.isZ = false) : (others own seen).length + 1 ≤ nz seen := by
  unfold others
  rw [List.length_map]
  exact filt_lt own seen 0 (Nat.zero_le _) ⟨v, by simpa using h, hv⟩
theorem filt_len (own : Nat) : ∀ (seen : List Val) (k : Nat), k ≤ own → own - k < seen.length → ((seen.zipIdx k).filter fun p => decide (p.2 ≠ own) && !p.1.isZ).length + 1 ≤ seen.length
  | [], _, _, h => by simp at h
  | v :: r, k, hk, h => by
    rw [List.zipIdx_cons]
    simp only [List.filter_cons, List.length_cons] at h ⊢
    by_cases e : k = own
    · subst e
      simp
      have := List.length_filter_le (fun (p : Val × Nat) => !decide (p.2 = k) && !p.1.isZ) (r.zipIdx (k + 1))
      simp at this ⊢
      exact this
    · have ih := filt_len own r (k + 1) (by omega) (by omega)
      split
      · simp; simp at ih; omega
      · simp; simp at ih; omega
theorem others_len {own : Nat} {seen : List Val} (h : own < seen.length) : (others own seen).length + 1 ≤ seen.length := by
  unfold others
  rw [List.length_map]
  exact filt_len own seen 0 (Nat.zero_le _) h
theorem nz_le (seen : List Val) : nz seen ≤ seen.length := List.length_filter_le _ _
theorem nz_set_ge : ∀ (st : List Val) (i : Nat) (v : Val), v.isZ = false → nz st ≤ nz (st.set i v)
  | [], _, _, _ => by simp [nz]
  | a :: r, 0, v, h => by
    simp only [nz, List.set_cons_zero, List.filter_cons, h]
    simp
    split <;> simp
  | a :: r, i + 1, v, h => by
    have ih := nz_set_ge r i v h
    simp only [nz, List.set_cons_succ, List.filter_cons] at ih ⊢
    split
    · simp; omega
    · exact ih
theorem nz_set_same : ∀ (st : List Val) (i : Nat) (u v : Val), st[i]? = some u → u.isZ = false → v.isZ = false → nz (st.set i v) = nz st
  | [], _, _, _, h, _, _ => by simp at h
  | a :: r, 0, u, v, h, hu, hv => by
    have : a = u := by simpa using h
    subst this
    simp [nz, List.filter_cons, hu, hv]
  | a :: r, i + 1, u, v, h, hu, hv => by
    have ih := nz_set_same r i u v (by simpa using h) hu hv
    simp only [nz, List.set_cons_succ, List.filter_cons] at ih ⊢
    split
    · simp [ih]
    · exact ih
theorem nz_set_new : ∀ (st : List Val) (i : Nat) (u v : Val), st[i]? = some u → u.isZ = true → v.isZ = false → nz (st.set i v) = nz st + 1
  | [], _, _, _, h, _, _ => by simp at h
  | a :: r, 0, u, v, h, hu, hv => by
    have : a = u := by simpa using h
    subst this
    simp [nz, List.filter_cons, hu, hv]
  | a :: r, i + 1, u, v, h, hu, hv => by
    have ih := nz_set_new r i u v (by simpa using h) hu hv
    simp only [nz, List.set_cons_succ, List.filter_cons] at ih ⊢
    split
    · simp; omega
    · exact ih
theorem nz_pos {st : List Val} {i : Nat} {v : Val} (h : st[i]? = some v) (hv : v.isZ = false) : 1 ≤ nz st := by
  unfold nz
  have : v ∈ st.filter fun v => !v.isZ := List.mem_filter.mpr ⟨List.mem_of_getElem? h, by simp [hv]⟩
  exact List.length_pos_of_mem this

/-! ### free numbers -/
theorem free_succ (a : Int) (k : Nat) (t : List Int) : freeN a (k + 1) t = (if a ∈ t then [] else [a]) ++ freeN (a + 1) k t := by
  unfold freeN
  rw [List.range_succ_eq_map]
  simp only [List.map_cons, List.map_map, List.filter_cons]
  have e : (List.map ((fun (i : Nat) => a + (i : Int)) ∘ Nat.succ) (List.range k)) = List.map (fun (i : Nat) => a + 1 + (i : Int)) (List.range k) := by
    apply List.map_congr_left
    intro i _
    simp
    omega
  rw [e]
  by_cases h : a ∈ t
  · simp [h]
  · simp [h]
theorem free_nil (a : Int) (t : List Int) : freeN a 0 t = [] := rfl
theorem free_ge {a : Int} {k : Nat} {t : List Int} {x : Int} (h : x ∈ freeN a k t) : a ≤ x ∧ x < a + k ∧ x ∉ t := by
  unfold freeN at h
  simp at h
  obtain ⟨⟨i, hi, rfl⟩, h2⟩ := h
  exact ⟨by omega, by omega, h2⟩
theorem free_erase (a b : Int) (k : Nat) (t : List Int) (h : a < b) : freeN b k (t.filter fun x => decide (x ≠ a)) = freeN b k t := by
  unfold freeN
  apply List.filter_congr
  intro x hx
  simp at hx
  obtain ⟨i, _, rfl⟩ := hx
  simp
  intro _
  omega
theorem filter_ne_lt {a : Int} {t : List Int} (h : a ∈ t) : (t.filter fun x => decide (x ≠ a)).length < t.length := by
  have h1 : (t.filter fun x => decide (x ≠ a)).length ≠ t.length := by
    intro e
    rw [List.length_filter_eq_length_iff] at e
    have := e a h
    simp at this
  have h2 := List.length_filter_le (fun x => decide (x ≠ a)) t
  omega
theorem free_bound : ∀ (k : Nat) (a : Int) (t : List Int) (r : Nat) (x : Int), (freeN a k t)[r]? = some x → x ≤ a + r + t.length
  | 0, _, _, _, _, h => by simp [free_nil] at h
  | k + 1, a, t, r, x, h => by
    rw [free_succ] at h
    by_cases ha : a ∈ t
    · rw [if_pos ha, List.nil_append, ← free_erase a (a + 1) k t (by omega)] at h
      have ih := free_bound k (a + 1) _ r x h
      have := filter_ne_lt ha
      omega
    · rw [if_neg ha] at h
      cases r with
      | zero =>
        have : a = x := by simpa using h
        omega
      | succ r =>
        have ih := free_bound k (a + 1) t r x (by simpa using h)
        omega
theorem free_len : ∀ (k : Nat) (a : Int) (t : List Int), k ≤ (freeN a k t).length + t.length
  | 0, _, _ => by omega
  | k + 1, a, t => by
    rw [free_succ]
    by_cases ha : a ∈ t
    · rw [if_pos ha, List.nil_append, ← free_erase a (a + 1) k t (by omega)]
      have ih := free_len k (a + 1) (t.filter fun x => decide (x ≠ a))
      have := filter_ne_lt ha
      omega
    · rw [if_neg ha]
      have ih := free_len k (a + 1) t
      simp
      omega
end My
namespace My

/-! ### what holds of a hand's told -/
structure TOk (P : Val → Prop) (n : Nat) (told : Tld) : Prop where
  all : ∀ e ∈ told, ∀ st, e = some st → st.length = n ∧ ∀ v ∈ st, P v
  odd : ∀ e ∈ odds told, ∃ st, e = some st
theorem TOk.nil {P : Val → Prop} {n : Nat} : TOk P n [] := ⟨by simp, by simp [odds]⟩
theorem TOk.look {P : Val → Prop} {n : Nat} {told : Tld} {st : List Val} (h : TOk P n told) (hn : st.length = n) (hp : ∀ v ∈ st, P v) : TOk P n (told ++ [some st]) := by
  constructor
  · intro e he s es
    rcases List.mem_append.mp he with he | he
    · exact h.all e he s es
    · simp at he
      subst he
      cases es
      exact ⟨hn, hp⟩
  · intro e he
    rw [odds_snoc] at he
    split at he
    · rcases List.mem_append.mp he with he | he
      · exact h.odd e he
      · simp at he; exact ⟨st, he⟩
    · exact h.odd e he
theorem TOk.put {P : Val → Prop} {n : Nat} {told : Tld} (h : TOk P n told) (hl : told.length % 2 = 0) : TOk P n (told ++ [none]) := by
  constructor
  · intro e he s es
    rcases List.mem_append.mp he with he | he
    · exact h.all e he s es
    · simp at he
      subst he
      cases es
  · intro e he
    rw [odds_snoc, if_neg (by omega)] at he
    exact h.odd e he

theorem nameSt_look (own : Nat) (id : Int) (told : Tld) (st : List Val) (h : told.length % 2 = 1) : nameSt own id (told ++ [some st]) = hearName own id (nameSt own id told) st := by
  unfold nameSt
  rw [odds_snoc, if_pos h, List.foldl_append]
  rfl
theorem nameSt_put (own : Nat) (id : Int) (told : Tld) (h : told.length % 2 = 0) : nameSt own id (told ++ [none]) = nameSt own id told := by
  unfold nameSt
  rw [odds_snoc, if_neg (by omega)]

/-! ### worlds -/
theorem Wld.told_set {W : Wld} {p q : Nat} {t : Tld} {st : List Val} (h : p < W.tolds.length) : Wld.told ⟨st, W.tolds.set p t⟩ q = if q = p then t else W.told q := by
  unfold Wld.told
  simp only [List.getD_eq_getElem?_getD, List.getElem?_set]
  by_cases e : p = q
  · subst e
    simp [h]
  · have : ¬ q = p := fun z => e z.symm
    simp [e, this]

/-! ### names -/
def PName (v : Val) : Prop := v = .int 0 ∨ ∃ i k, v = .nm i k
theorem PName.nz {v : Val} (h : PName v) (hz : v.isZ = false) : ∃ i k, v = .nm i k := by
  rcases h with rfl | h
  · simp [Val.isZ] at hz
  · exact h

/-- a hand of names, its told, what stands at its place -/
structure NHand (n : Nat) (id : Int) (p : Nat) (told : Tld) (v : Val) (m : Nat) : Prop where
  tok : TOk PName n told
  zero : told = [] → v = .int 0
  odd : told.length % 2 = 1 → v = .nm id (nameSt p id told).1 ∧ (nameSt p id told).2 = false
  even : told.length % 2 = 0 → told ≠ [] → ∃ k, v = .nm id k ∧ ((nameSt p id told).2 = true → k = (nameSt p id told).1)
  lo : 1 ≤ (nameSt p id told).1
  hi : told ≠ [] → (nameSt p id told).1 ≤ 2 * (m : Int) - 1

structure NWld (n : Nat) (ids : Nat → Int) (W : Wld) : Prop where
  ls : W.state.length = n
  lt : W.tolds.length = n
  hand : ∀ p, p < n → NHand n (ids p) p (W.told p) (W.at p) (nz W.state)
  pn : ∀ v ∈ W.state, PName v
  uniq : ∀ p q, p < n → q < n → p ≠ q → (nameSt p (ids p) (W.told p)).2 = true → (nameSt q (ids q) (W.told q)).2 = true → (nameSt p (ids p) (W.told p)).1 ≠ (nameSt q (ids q) (W.told q)).1

theorem NHand.mono {n : Nat} {id : Int} {p : Nat} {told : Tld} {v : Val} {m m' : Nat} (h : NHand n id p told v m) (hm : m ≤ m') : NHand n id p told v m' :=
  ⟨h.tok, h.zero, h.odd, h.even, h.lo, fun e => by have := h.hi e; omega⟩
theorem at_get {W : Wld} {p : Nat} (h : p < W.state.length) : W.state[p]? = some (W.at p) := by
  unfold Wld.at
  rw [List.getD_eq_getElem?_getD, List.getElem?_eq_getElem h]
  rfl
theorem at_set {W : Wld} {p q : Nat} {v : Val} {ts : List Tld} (h : p < W.state.length) : Wld.at ⟨W.state.set p v, ts⟩ q = if q = p then v else W.at q := by
  unfold Wld.at
  simp only [List.getD_eq_getElem?_getD, List.getElem?_set]
  by_cases e : p = q
  · subst e
    simp [h]
  · have : ¬ q = p := fun z => e z.symm
    simp [e, this]

/-- what one look gives a name -/
theorem hear_ok {n : Nat} {own : Nat} {id : Int} {k : Int} {seen : List Val} {v : Val} (hl : seen.length = n) (ho : seen[own]? = some v) (hv : v.isZ = false) (h1 : 1 ≤ k) (h2 : k ≤ 2 * (nz seen : Int) - 1) :
    1 ≤ (hearName own id (k, false) seen).1 ∧ (hearName own id (k, false) seen).1 ≤ 2 * (nz seen : Int) - 1 ∧
    ((hearName own id (k, false) seen).2 = true → (hearName own id (k, false) seen).1 = k ∧ k ∉ (others own seen).map Val.num) ∧
    ((hearName own id (k, false) seen).2 = false → (hearName own id (k, false) seen).1 ∉ (others own seen).map Val.num) := by
  unfold hearName
  simp only []
  split
  · rename_i hm
    have hlt := others_lt ho hv
    have hnz := nz_le seen
    have hr := List.length_filter_le (fun v => decide (v.id < id)) (others own seen)
    have hfl := free_len (2 * seen.length + 1) 1 ((others own seen).map Val.num)
    rw [List.length_map] at hfl
    have hlen : ((others own seen).filter fun v => decide (v.id < id)).length < (freeN 1 (2 * seen.length + 1) ((others own seen).map Val.num)).length := by omega
    have hg := List.getElem?_eq_getElem hlen
    have hb := free_bound _ _ _ _ _ hg
    rw [List.length_map] at hb
    have hge := free_ge (List.mem_of_getElem? hg)
    rw [List.getD_eq_getElem?_getD, hg]
    simp only [Option.getD_some]
    refine ⟨by omega, by omega, fun z => by simp at z, fun _ => hge.2.2⟩
  · rename_i hm
    exact ⟨h1, h2, fun _ => ⟨rfl, hm⟩, fun z => by simp at z⟩

theorem NWld.step {n : Nat} {ids : Nat → Int} {W : Wld} {jobs : List Job} (h : NWld n ids W) {p : Nat} (hp : p < n) (hj : jobs.getD p (.sums []) = .name (ids p)) : NWld n ids (stepW jobs p W) := by
  have hh := h.hand p hp
  have hps : p < W.state.length := by rw [h.ls]; exact hp
  have hpt : p < W.tolds.length := by rw [h.lt]; exact hp
  unfold stepW
  rw [hj]
  unfold nextDeed
  by_cases ho : (W.told p).length % 2 = 1
  · -- a look
    simp only [ho, if_true]
    have hod := hh.odd ho
    have hne : W.told p ≠ [] := by intro e; rw [e] at ho; simp at ho
    have hst : nameSt p (ids p) (W.told p ++ [some W.state]) = hearName p (ids p) ((nameSt p (ids p) (W.told p)).1, false) W.state := by
      rw [nameSt_look _ _ _ _ ho]
      congr 1
      exact Prod.ext rfl hod.2
    have hv : (W.at p).isZ = false := by rw [hod.1]; rfl
    obtain ⟨a1, a2, a3, a4⟩ := hear_ok (id := ids p) h.ls (at_get hps) hv hh.lo (hh.hi hne)
    rw [← hst] at a1 a2 a3 a4
    refine ⟨h.ls, by simpa using h.lt, fun q hq => ?_, h.pn, ?_⟩
    · rw [Wld.told_set hpt]
      by_cases e : q = p
      · subst e
        rw [if_pos rfl]
        show NHand n (ids q) q _ (W.at q) (nz W.state)
        refine ⟨hh.tok.look h.ls h.pn, fun z => by simp at z, fun z => by simp at z; omega, fun _ _ => ⟨_, hod.1, fun z => (a3 z).1.symm⟩, a1, fun _ => a2⟩
      · rw [if_neg e]
        exact h.hand q hq
    · -- unlike
      have key : ∀ q, q < n → q ≠ p → (nameSt p (ids p) (W.told p ++ [some W.state])).2 = true → (nameSt q (ids q) (W.told q)).2 = true → (nameSt p (ids p) (W.told p ++ [some W.state])).1 ≠ (nameSt q (ids q) (W.told q)).1 := by
        intro q hq hqp k1 k2 e
        have hhq := h.hand q hq
        have hqs : q < W.state.length := by rw [h.ls]; exact hq
        have hqn : W.told q ≠ [] := by
          intro z
          rw [z] at k2
          simp [nameSt, odds] at k2
        have hqo : (W.told q).length % 2 = 0 := by
          by_cases z : (W.told q).length % 2 = 1
          · have := (hhq.odd z).2
            rw [k2] at this
            simp at this
          · omega
        obtain ⟨k, ek, ek2⟩ := hhq.even hqo hqn
        have := ek2 k2
        subst this
        obtain ⟨b1, b2⟩ := a3 k1
        apply b2
        rw [← b1, e]
        refine List.mem_map.mpr ⟨W.at q, mem_others.mpr ⟨q, hqp, at_get hqs, by rw [ek]; rfl⟩, by rw [ek]; rfl⟩
      intro q1 q2 h1 h2 h12 k1 k2
      rw [Wld.told_set hpt] at k1 k2 ⊢
      rw [Wld.told_set hpt]
      by_cases e1 : q1 = p
      · subst e1
        have e2 : q2 ≠ q1 := fun z => h12 z.symm
        simp only [if_true, if_neg e2] at k1 k2 ⊢
        exact key q2 h2 e2 k1 k2
      · by_cases e2 : q2 = p
        · subst e2
          simp only [if_true, if_neg e1] at k1 k2 ⊢
          exact fun z => key q1 h1 e1 k2 k1 z.symm
        · simp only [if_neg e1, if_neg e2] at k1 k2 ⊢
          exact h.uniq q1 q2 h1 h2 h12 k1 k2
  · simp only [ho, if_false]
    have he : (W.told p).length % 2 = 0 := by omega
    by_cases hk : (nameSt p (ids p) (W.told p)).2 = true
    · simp only [hk, if_true]
      exact h
    · simp only [hk]
      have hst := nameSt_put p (ids p) (W.told p) he
      have hkf : (nameSt p (ids p) (W.told p)).2 = false := by simpa using hk
      have hvz : (Val.nm (ids p) (nameSt p (ids p) (W.told p)).1).isZ = false := rfl
      have hge := nz_set_ge W.state p _ hvz
      have hnew : W.told p = [] → nz (W.state.set p (Val.nm (ids p) (nameSt p (ids p) (W.told p)).1)) = nz W.state + 1 := fun z => nz_set_new _ _ _ _ (at_get hps) (by rw [hh.zero z]; rfl) hvz
      refine ⟨by simpa using h.ls, by simpa using h.lt, fun q hq => ?_, fun v hv => ?_, ?_⟩
      · have e0 := Wld.told_set (q := q) (t := W.told p ++ [none]) (st := W.state.set p (Val.nm (ids p) (nameSt p (ids p) (W.told p)).1)) hpt
        have e1 := at_set (q := q) (v := Val.nm (ids p) (nameSt p (ids p) (W.told p)).1) (ts := W.tolds.set p (W.told p ++ [none])) hps
        rw [if_neg Bool.false_ne_true, e0, e1]
        by_cases e : q = p
        · subst e
          rw [if_pos rfl, if_pos rfl]
          refine ⟨hh.tok.put he, fun z => by simp at z, fun _ => ⟨by rw [hst], by rw [hst]; exact hkf⟩, fun z => by simp at z; omega, by rw [hst]; exact hh.lo, fun _ => ?_⟩
          rw [hst]
          by_cases z : W.told q = []
          · have e3 := hnew z
            have e4 : (nameSt q (ids q) (W.told q)).1 = 1 := by rw [z]; rfl
            show _ ≤ 2 * ((nz (W.state.set q _) : Nat) : Int) - 1
            rw [e3]
            omega
          · have := hh.hi z
            show _ ≤ 2 * ((nz (W.state.set q _) : Nat) : Int) - 1
            omega
        · rw [if_neg e, if_neg e]
          exact (h.hand q hq).mono hge
      · rw [if_neg Bool.false_ne_true] at hv
        rcases List.mem_or_eq_of_mem_set hv with hv | hv
        · exact h.pn v hv
        · exact .inr ⟨_, _, hv⟩
      · rw [if_neg Bool.false_ne_true]
        intro q1 q2 h1 h2 h12 k1 k2
        have e0 := fun q => Wld.told_set (q := q) (t := W.told p ++ [none]) (st := W.state.set p (Val.nm (ids p) (nameSt p (ids p) (W.told p)).1)) hpt
        rw [e0] at k1 k2 ⊢
        rw [e0]
        by_cases e1 : q1 = p
        · subst e1
          simp only [if_true] at k1
          rw [hst, hkf] at k1
          simp at k1
        · by_cases e2 : q2 = p
          · subst e2
            simp only [if_true] at k2
            rw [hst, hkf] at k2
            simp at k2
          · simp only [if_neg e1, if_neg e2] at k1 k2 ⊢
            exact h.uniq q1 q2 h1 h2 h12 k1 k2
end My
namespace My

/-! ### fractions over 64ths -/
def scl (x : Fr) : Int := x.1 * (64 / x.2)
def topN : Int := 999999999
structure OkF (j : Nat) (x : Fr) : Prop where
  pos : 0 < x.2
  dv : x.2 ∣ (2 : Int) ^ j
  le : j ≤ 6
  hi : scl x ≤ 64 * topN
  lo : -(64 * topN) ≤ scl x
theorem pow_dv {j : Nat} (h : j ≤ 6) : (2 : Int) ^ j ∣ 64 := by
  have : j = 0 ∨ j = 1 ∨ j = 2 ∨ j = 3 ∨ j = 4 ∨ j = 5 ∨ j = 6 := by omega
  rcases this with rfl | rfl | rfl | rfl | rfl | rfl | rfl <;> decide
theorem OkF.q {j : Nat} {x : Fr} (h : OkF j x) : x.2 * (64 / x.2) = 64 := by
  have := Int.ediv_mul_cancel (Int.dvd_trans h.dv (pow_dv h.le))
  rw [Int.mul_comm]
  exact this
theorem OkF.qpos {j : Nat} {x : Fr} (h : OkF j x) : 0 < 64 / x.2 := by
  have e := h.q
  have p := h.pos
  have z : 0 < (64 / x.2) * x.2 := by rw [Int.mul_comm, e]; decide
  exact Int.pos_of_mul_pos_left z p
theorem OkF.den {j : Nat} {x : Fr} (h : OkF j x) : x.2 ≤ 64 := Int.le_of_dvd (by decide) (Int.dvd_trans h.dv (pow_dv h.le))
theorem OkF.top {j : Nat} {x : Fr} (h : OkF j x) : x.1 ≤ 64 * topN ∧ -(64 * topN) ≤ x.1 := by
  have a := h.hi
  have b := h.lo
  have q := h.qpos
  unfold scl at a b
  unfold topN at *
  constructor
  · by_cases z : x.1 ≤ 0
    · omega
    · have : x.1 * 1 ≤ x.1 * (64 / x.2) := Int.mul_le_mul_of_nonneg_left (by omega) (by omega)
      omega
  · by_cases z : 0 ≤ x.1
    · omega
    · have : (-x.1) * 1 ≤ (-x.1) * (64 / x.2) := Int.mul_le_mul_of_nonneg_left (by omega) (by omega)
      rw [Int.neg_mul x.1 (64 / x.2)] at this
      omega
theorem okF_whole {n : Int} (h1 : n ≤ topN) (h2 : -topN ≤ n) : OkF 0 (n, 1) ∧ scl (n, 1) = 64 * n := by
  have e : scl (n, 1) = 64 * n := by
    show n * (64 / 1) = 64 * n
    rw [Int.ediv_one, Int.mul_comm]
  refine ⟨⟨by show (0 : Int) < 1; decide, ⟨1, by show (2 : Int) ^ 0 = 1 * 1; decide⟩, by omega, by rw [e]; omega, by rw [e]; omega⟩, e⟩
theorem less_iff {i j : Nat} {x y : Fr} (hx : OkF i x) (hy : OkF j y) : lessF x y = true ↔ scl x < scl y := by
  unfold lessF scl
  rw [decide_eq_true_eq]
  have p1 := hx.qpos
  have p2 := hy.qpos
  have e1 := hx.q
  have e2 := hy.q
  have hp : 0 < (64 / x.2) * (64 / y.2) := Int.mul_pos p1 p2
  generalize 64 / x.2 = A at *
  generalize 64 / y.2 = B at *
  have f1 : x.1 * y.2 * (A * B) = 64 * (x.1 * A) := by grind
  have f2 : y.1 * x.2 * (A * B) = 64 * (y.1 * B) := by grind
  constructor
  · intro h
    have := Int.mul_lt_mul_of_pos_right h hp
    rw [f1, f2] at this
    omega
  · intro h
    refine Int.lt_of_mul_lt_mul_right (a := A * B) ?_ (by omega)
    rw [f1, f2]
    omega
theorem dv_of_gcd {a b c m : Int} (hg : Int.gcd a b = 1) (h : a * c = m * b) : b ∣ c := by
  have h1 : b ∣ a * c := ⟨m, by rw [h, Int.mul_comm]⟩
  rw [← Int.natAbs_dvd_natAbs] at h1 ⊢
  rw [Int.natAbs_mul] at h1
  have hc : Nat.Coprime b.natAbs a.natAbs := by
    have : Nat.gcd a.natAbs b.natAbs = 1 := hg
    rw [Nat.gcd_comm] at this
    exact this
  exact hc.dvd_of_dvd_mul_left h1
theorem half_ok {j : Nat} {x y : Fr} (hx : OkF j x) (hy : OkF j y) (hj : j ≤ 5) : OkF (j + 1) (halfway x y) ∧ 2 * scl (halfway x y) = scl x + scl y := by
  have px := hx.pos
  have py := hy.pos
  obtain ⟨u, hu⟩ := hx.dv
  obtain ⟨v, hv⟩ := hy.dv
  have bpos : 0 < 2 * x.2 * y.2 := Int.mul_pos (Int.mul_pos (by decide) px) py
  have gp : 0 < Int.gcd (x.1 * y.2 + y.1 * x.2) (2 * x.2 * y.2) := Int.gcd_pos_of_ne_zero_right _ (by omega)
  have d1 := Int.gcd_dvd_left (x.1 * y.2 + y.1 * x.2) (2 * x.2 * y.2)
  have d2 := Int.gcd_dvd_right (x.1 * y.2 + y.1 * x.2) (2 * x.2 * y.2)
  have dg := Int.gcd_ediv_gcd_ediv_gcd gp
  have gi : (0 : Int) < ((Int.gcd (x.1 * y.2 + y.1 * x.2) (2 * x.2 * y.2) : Nat) : Int) := by omega
  have er : halfway x y = ((x.1 * y.2 + y.1 * x.2) / ((Int.gcd (x.1 * y.2 + y.1 * x.2) (2 * x.2 * y.2) : Nat) : Int), (2 * x.2 * y.2) / ((Int.gcd (x.1 * y.2 + y.1 * x.2) (2 * x.2 * y.2) : Nat) : Int)) := rfl
  have m1 := Int.ediv_mul_cancel d1
  have m2 := Int.ediv_mul_cancel d2
  rw [er]
  generalize ((Int.gcd (x.1 * y.2 + y.1 * x.2) (2 * x.2 * y.2) : Nat) : Int) = g at *
  generalize hr1 : (x.1 * y.2 + y.1 * x.2) / g = r1 at *
  generalize hr2 : (2 * x.2 * y.2) / g = r2 at *
  have cross : r1 * (2 * x.2 * y.2) = r2 * (x.1 * y.2 + y.1 * x.2) := by
    rw [← m1, ← m2]; grind
  have r2p : 0 < r2 := Int.pos_of_mul_pos_left (by rw [m2]; exact bpos) gi
  have dv : r2 ∣ (2 : Int) ^ (j + 1) := by
    refine dv_of_gcd (a := r1) (m := x.1 * u + y.1 * v) dg ?_
    have z : 0 < x.2 * y.2 := Int.mul_pos px py
    refine Int.eq_of_mul_eq_mul_right (a := x.2 * y.2) (by omega) ?_
    rw [Int.pow_succ]
    generalize (2 : Int) ^ j = p at *
    subst hu
    have hv' : y.2 * v = x.2 * u := hv.symm
    grind
  have rq : r2 * (64 / r2) = 64 := by
    have := Int.ediv_mul_cancel (Int.dvd_trans dv (pow_dv (show j + 1 ≤ 6 by omega)))
    rw [Int.mul_comm]
    exact this
  have e : 2 * scl (r1, r2) = scl x + scl y := by
    have qx := hx.q
    have qy := hy.q
    unfold scl
    show 2 * (r1 * (64 / r2)) = _
    generalize 64 / x.2 = A at *
    generalize 64 / y.2 = B at *
    generalize 64 / r2 = R at *
    have z : 0 < r2 * (x.2 * y.2) := Int.mul_pos r2p (Int.mul_pos px py)
    refine Int.eq_of_mul_eq_mul_right (a := r2 * (x.2 * y.2)) (by omega) ?_
    grind
  have a1 := hx.hi
  have a2 := hx.lo
  have a3 := hy.hi
  have a4 := hy.lo
  exact ⟨⟨r2p, dv, by omega, by omega, by omega⟩, e⟩
end My
namespace My

def FrOk (v : Val) : Prop := ∀ j x, v.fr[j]? = some x → OkF j x
def PCl (v : Val) : Prop := (v = .int 0 ∨ ∃ xs, v = .cl xs) ∧ v.fr.length ≤ 6 ∧ FrOk v
theorem ext_spec {j : Nat} : ∀ (o : List Val) (s : Fr × Fr), (∀ v ∈ o, FrOk v) → OkF j s.1 → OkF j s.2 → scl s.1 ≤ scl s.2 →
    OkF j (o.foldl (ext1 (j + 1)) s).1 ∧ OkF j (o.foldl (ext1 (j + 1)) s).2 ∧ scl (o.foldl (ext1 (j + 1)) s).1 ≤ scl s.1 ∧ scl s.2 ≤ scl (o.foldl (ext1 (j + 1)) s).2 ∧
    (∀ v ∈ o, ∀ x, v.fr[j]? = some x → scl (o.foldl (ext1 (j + 1)) s).1 ≤ scl x ∧ scl x ≤ scl (o.foldl (ext1 (j + 1)) s).2) ∧
    ((o.foldl (ext1 (j + 1)) s).1 = s.1 ∨ ∃ v ∈ o, v.fr[j]? = some (o.foldl (ext1 (j + 1)) s).1) ∧
    ((o.foldl (ext1 (j + 1)) s).2 = s.2 ∨ ∃ v ∈ o, v.fr[j]? = some (o.foldl (ext1 (j + 1)) s).2)
  | [], s, _, h1, h2, h3 => ⟨h1, h2, Int.le_refl _, Int.le_refl _, by simp, .inl rfl, .inl rfl⟩
  | v :: o, s, hv, h1, h2, h3 => by
    have hv0 := hv v List.mem_cons_self
    rw [List.foldl_cons]
    have key : OkF j (ext1 (j + 1) s v).1 ∧ OkF j (ext1 (j + 1) s v).2 ∧ scl (ext1 (j + 1) s v).1 ≤ scl s.1 ∧ scl s.2 ≤ scl (ext1 (j + 1) s v).2 ∧
        (∀ x, v.fr[j]? = some x → scl (ext1 (j + 1) s v).1 ≤ scl x ∧ scl x ≤ scl (ext1 (j + 1) s v).2) ∧
        ((ext1 (j + 1) s v).1 = s.1 ∨ v.fr[j]? = some (ext1 (j + 1) s v).1) ∧ ((ext1 (j + 1) s v).2 = s.2 ∨ v.fr[j]? = some (ext1 (j + 1) s v).2) := by
      unfold ext1
      by_cases hl : j + 1 ≤ v.fr.length
      · rw [if_pos hl]
        have hg := List.getElem?_eq_getElem (show j < v.fr.length by omega)
        have e : v.fr.getD (j + 1 - 1) (0, 1) = v.fr[j] := by rw [List.getD_eq_getElem?_getD, Nat.add_sub_cancel, hg]; rfl
        simp only [e]
        have ok := hv0 j _ hg
        have l1 := less_iff ok h1
        have l2 := less_iff h2 ok
        have hx : ∀ x, v.fr[j]? = some x → x = v.fr[j] := fun x hx => by rw [hg] at hx; exact (Option.some.inj hx).symm
        by_cases c1 : lessF v.fr[j] s.1 = true
        · have d1 := l1.mp c1
          by_cases c2 : lessF s.2 v.fr[j] = true
          · have d2 := l2.mp c2; omega
          · rw [if_pos c1, if_neg c2]
            have d2 : ¬ scl s.2 < scl v.fr[j] := fun z => c2 (l2.mpr z)
            exact ⟨ok, h2, by show scl v.fr[j] ≤ _; omega, Int.le_refl _, fun x hx' => by rw [hx x hx']; constructor; exact Int.le_refl _; show scl v.fr[j] ≤ scl s.2; omega, .inr hg, .inl rfl⟩
        · have d1 : ¬ scl v.fr[j] < scl s.1 := fun z => c1 (l1.mpr z)
          by_cases c2 : lessF s.2 v.fr[j] = true
          · have d2 := l2.mp c2
            rw [if_neg c1, if_pos c2]
            exact ⟨h1, ok, Int.le_refl _, by show scl s.2 ≤ scl v.fr[j]; omega, fun x hx' => by rw [hx x hx']; constructor; show scl s.1 ≤ scl v.fr[j]; omega; exact Int.le_refl _, .inl rfl, .inr hg⟩
          · rw [if_neg c1, if_neg c2]
            have d2 : ¬ scl s.2 < scl v.fr[j] := fun z => c2 (l2.mpr z)
            exact ⟨h1, h2, Int.le_refl _, Int.le_refl _, fun x hx' => by rw [hx x hx']; constructor; show scl s.1 ≤ scl v.fr[j]; omega; show scl v.fr[j] ≤ scl s.2; omega, .inl rfl, .inl rfl⟩
      · rw [if_neg hl]
        exact ⟨h1, h2, Int.le_refl _, Int.le_refl _, fun x hx => by rw [List.getElem?_eq_none (by omega)] at hx; simp at hx, .inl rfl, .inl rfl⟩
    obtain ⟨k1, k2, k3, k4, k5, k6, k7⟩ := key
    obtain ⟨i1, i2, i3, i4, i5, i6, i7⟩ := ext_spec o (ext1 (j + 1) s v) (fun u hu => hv u (List.mem_cons_of_mem _ hu)) k1 k2 (by omega)
    generalize o.foldl (ext1 (j + 1)) (ext1 (j + 1) s v) = r at *
    generalize ext1 (j + 1) s v = t at *
    refine ⟨i1, i2, by omega, by omega, fun u hu x hx => ?_, ?_, ?_⟩
    · rcases List.mem_cons.mp hu with rfl | hu
      · have := k5 x hx
        omega
      · exact i5 u hu x hx
    · rcases i6 with e | ⟨u, hu, e⟩
      · rcases k6 with e' | e'
        · exact .inl (e.trans e')
        · exact .inr ⟨v, List.mem_cons_self, by rw [e]; exact e'⟩
      · exact .inr ⟨u, List.mem_cons_of_mem _ hu, e⟩
    · rcases i7 with e | ⟨u, hu, e⟩
      · rcases k7 with e' | e'
        · exact .inl (e.trans e')
        · exact .inr ⟨v, List.mem_cons_self, by rw [e]; exact e'⟩
      · exact .inr ⟨u, List.mem_cons_of_mem _ hu, e⟩
/-- what one hearing gives -/
theorem hearCl_spec {own : Nat} {ns : List Fr} {seen : List Val} {j : Nat} (hl : ns.length = j + 1) (hj : j ≤ 5) (hok : ∀ i x, ns[i]? = some x → OkF i x) (hs : ∀ v ∈ seen, FrOk v) :
    ∃ z r lo hi, ns[j]? = some z ∧ hearCl own ns seen = ns ++ [r] ∧ OkF (j + 1) r ∧ 2 * scl r = scl lo + scl hi ∧ scl lo ≤ scl z ∧ scl z ≤ scl hi ∧
      (∀ v ∈ others own seen, ∀ x, v.fr[j]? = some x → scl lo ≤ scl x ∧ scl x ≤ scl hi) ∧ (lo = z ∨ ∃ v ∈ others own seen, v.fr[j]? = some lo) ∧ (hi = z ∨ ∃ v ∈ others own seen, v.fr[j]? = some hi) := by
  obtain ⟨z0, hg⟩ : ∃ z0, ns[j]? = some z0 := ⟨_, List.getElem?_eq_getElem (show j < ns.length by omega)⟩
  have hz := hok j _ hg
  have e : ns.getLast?.getD (0, 1) = z0 := by rw [List.getLast?_eq_getElem?, hl, Nat.add_sub_cancel, hg]; rfl
  obtain ⟨i1, i2, i3, i4, i5, i6, i7⟩ := ext_spec (j := j) (others own seen) (z0, z0) (fun v hv => by
    obtain ⟨i, _, h, _⟩ := mem_others.mp hv
    exact hs v (List.mem_of_getElem? h)) hz hz (Int.le_refl _)
  obtain ⟨h1, h2⟩ := half_ok i1 i2 hj
  refine ⟨z0, _, _, _, hg, ?_, h1, h2, i3, i4, i5, i6, i7⟩
  unfold hearCl extremes
  rw [e, hl]
theorem clFold_ok {own : Nat} : ∀ (l : List Ent) (ns : List Fr), ns ≠ [] → (∀ i x, ns[i]? = some x → OkF i x) → (∀ e ∈ l, ∃ st, e = some st ∧ ∀ v ∈ st, FrOk v) → ns.length + l.length ≤ 7 →
    (l.foldl (fun s (e : Ent) => hearCl own s (e.getD [])) ns).length = ns.length + l.length ∧ ∀ i x, (l.foldl (fun s (e : Ent) => hearCl own s (e.getD [])) ns)[i]? = some x → OkF i x
  | [], ns, _, h, _, _ => ⟨rfl, h⟩
  | e :: l, ns, hn, h, hl, hb => by
    obtain ⟨st, rfl, hst⟩ := hl e List.mem_cons_self
    have hp := List.length_pos_iff.mpr hn
    rw [List.length_cons] at hb
    obtain ⟨j, hj⟩ : ∃ j, ns.length = j + 1 := ⟨ns.length - 1, by omega⟩
    obtain ⟨z, r, lo, hi, _, er, hr, _⟩ := hearCl_spec (own := own) hj (by omega) h hst
    rw [List.foldl_cons]
    show (l.foldl _ (hearCl own ns st)).length = _ ∧ ∀ i x, (l.foldl _ (hearCl own ns st))[i]? = some x → _
    rw [er]
    have ih := clFold_ok (own := own) l (ns ++ [r]) (by simp) (fun i x hx => by
      rw [List.getElem?_append] at hx
      split at hx
      · exact h i x hx
      · rename_i hge
        have : i = ns.length := by
          rw [List.getElem?_eq_some_iff] at hx
          obtain ⟨q, _⟩ := hx
          simp at q
          omega
        subst this
        simp at hx
        subst hx
        rw [hj]
        exact hr) (fun e he => hl e (List.mem_cons_of_mem _ he)) (by simp; omega)
    refine ⟨?_, ih.2⟩
    rw [ih.1]
    simp
    omega
theorem clSt_ok {own n : Nat} {m : Int} {told : Tld} (hT : TOk PCl n told) (h1 : m ≤ topN) (h2 : -topN ≤ m) (hl : told.length ≤ 12) :
    (clSt own m told).length = 1 + told.length / 2 ∧ ∀ i x, (clSt own m told)[i]? = some x → OkF i x := by
  have := clFold_ok (own := own) (odds told) [(m, 1)] (by simp) (fun i x hx => by
    cases i with
    | zero =>
      have : (m, 1) = x := by simpa using hx
      subst this
      exact (okF_whole h1 h2).1
    | succ i => simp at hx) (fun e he => by
      obtain ⟨st, rfl⟩ := hT.odd e he
      exact ⟨st, rfl, fun v hv => ((hT.all _ (odds_mem he) st rfl).2 v hv).2.2⟩) (by rw [odds_length]; simp; omega)
  rw [odds_length] at this
  exact this
theorem clSt_look (own : Nat) (m : Int) (told : Tld) (st : List Val) (h : told.length % 2 = 1) : clSt own m (told ++ [some st]) = hearCl own (clSt own m told) st := by
  unfold clSt
  rw [odds_snoc, if_pos h, List.foldl_append]
  rfl
theorem clSt_put (own : Nat) (m : Int) (told : Tld) (h : told.length % 2 = 0) : clSt own m (told ++ [none]) = clSt own m told := by
  unfold clSt
  rw [odds_snoc, if_neg (by omega)]

/-! ### worlds of closer numbers -/
structure CHand (n r : Nat) (m lo hi : Int) (p : Nat) (told : Tld) (v : Val) : Prop where
  tok : TOk PCl n told
  len : told.length ≤ 2 * r
  zero : told = [] → v = .int 0
  odd : told.length % 2 = 1 → v = .cl (clSt p m told)
  even : told.length % 2 = 0 → told ≠ [] → v = .cl (clSt p m told).dropLast
  rng : ∀ (j : Nat) (x : Fr), (clSt p m told)[j]? = some x → 64 * lo ≤ scl x ∧ scl x ≤ 64 * hi
structure CWld (n r : Nat) (nu : Nat → Int) (lo hi : Int) (W : Wld) : Prop where
  ls : W.state.length = n
  lt : W.tolds.length = n
  pc : ∀ v ∈ W.state, PCl v
  hand : ∀ p, p < n → CHand n r (nu p) lo hi p (W.told p) (W.at p)
  pair : ∀ p q, p < n → q < n → ∀ (j : Nat) (x y : Fr), (clSt p (nu p) (W.told p))[j]? = some x → (clSt q (nu q) (W.told q))[j]? = some y → (2 : Int) ^ j * (scl x - scl y) ≤ 64 * (hi - lo)
  cov : ∀ q, q < n → ∀ (j : Nat) (y : Fr), (clSt q (nu q) (W.told q))[j + 1]? = some y → ∃ (p1 p2 : Nat) (a b : Fr), p1 < n ∧ p2 < n ∧ (W.at p1).fr[j]? = some a ∧ (W.at p2).fr[j]? = some b ∧ 2 * scl y = scl a + scl b
theorem drop_get {α : Type} {l : List α} {j : Nat} {a : α} (h : l.dropLast[j]? = some a) : l[j]? = some a := by
  rw [List.getElem?_dropLast] at h
  split at h
  · exact h
  · simp at h
theorem CHand.pre {n r : Nat} {m lo hi : Int} {p : Nat} {told : Tld} {v : Val} (h : CHand n r m lo hi p told v) {j : Nat} {a : Fr} (q : v.fr[j]? = some a) : (clSt p m told)[j]? = some a := by
  by_cases h1 : told.length % 2 = 1
  · rw [h.odd h1] at q
    exact q
  · by_cases h2 : told = []
    · rw [h.zero h2] at q
      simp [Val.fr] at q
    · rw [h.even (by omega) h2] at q
      exact drop_get q
theorem mul_le_pow {j : Nat} {a b : Int} (h : a ≤ b) : (2 : Int) ^ j * a ≤ 2 ^ j * b := Int.mul_le_mul_of_nonneg_left h (by
  have : (0 : Int) < 2 ^ j := Int.pow_pos (by decide)
  omega)
theorem CWld.step {n r : Nat} {nu : Nat → Int} {lo hi : Int} {W : Wld} {jobs : List Job} (h : CWld n r nu lo hi W) (hr : r ≤ 6) (hn : ∀ p, p < n → lo ≤ nu p ∧ nu p ≤ hi) (hlo : -topN ≤ lo) (hhi : hi ≤ topN) {p : Nat} (hp : p < n) (hj : jobs.getD p (.sums []) = .closer (nu p) r) :
    CWld n r nu lo hi (stepW jobs p W) := by
  have hh := h.hand p hp
  have hps : p < W.state.length := by rw [h.ls]; exact hp
  have hpt : p < W.tolds.length := by rw [h.lt]; exact hp
  have hnp := hn p hp
  have hlen := hh.len
  obtain ⟨cl, cok⟩ := clSt_ok (own := p) (m := nu p) hh.tok (by omega) (by omega) (by omega)
  unfold stepW
  rw [hj]
  unfold nextDeed
  by_cases ho : (W.told p).length % 2 = 1
  · simp only [ho, if_true]
    have hod := hh.odd ho
    have hne : W.told p ≠ [] := by intro e; rw [e] at ho; simp at ho
    have hl' := clSt_look p (nu p) (W.told p) W.state ho
    obtain ⟨z, y, a, b, hz, ey, oy, sy, az, zb, hot, pa, pb⟩ := hearCl_spec (own := p) (seen := W.state) (j := (W.told p).length / 2) (by rw [cl]; omega) (by omega) cok (fun v hv => (h.pc v hv).2.2)
    generalize hJ : (W.told p).length / 2 = j at *
    -- what stands at index j
    have vis : ∀ c, c = z ∨ (∃ v ∈ others p W.state, v.fr[j]? = some c) → ∃ i, i < n ∧ (W.at i).fr[j]? = some c := by
      intro c hc
      rcases hc with rfl | ⟨v, hv, hc⟩
      · exact ⟨p, hp, by rw [hod]; exact hz⟩
      · obtain ⟨i, _, hi, _⟩ := mem_others.mp hv
        have hil : i < n := by
          rw [List.getElem?_eq_some_iff] at hi
          obtain ⟨q, _⟩ := hi
          rw [h.ls] at q
          exact q
        have := at_get (W := W) (p := i) (by rw [h.ls]; exact hil)
        rw [hi] at this
        have e : v = W.at i := Option.some.inj this
        exact ⟨i, hil, by rw [← e]; exact hc⟩
    have bnd : ∀ i c, i < n → (W.at i).fr[j]? = some c → scl a ≤ scl c ∧ scl c ≤ scl b := by
      intro i c hi hc
      by_cases e : i = p
      · subst e
        rw [hod] at hc
        have : z = c := by
          have hc' : (clSt i (nu i) (W.told i))[j]? = some c := hc
          rw [hz] at hc'
          exact Option.some.inj hc'
        subst this
        exact ⟨az, zb⟩
      · refine hot (W.at i) (mem_others.mpr ⟨i, e, at_get (by rw [h.ls]; exact hi), ?_⟩) c hc
        cases hv : W.at i with
        | int q => rw [hv] at hc; simp [Val.fr] at hc
        | nm _ _ => rfl
        | ls _ => rfl
        | cl _ => rfl
    obtain ⟨ia, hia, va⟩ := vis a pa
    obtain ⟨ib, hib, vb⟩ := vis b pb
    have na := (h.hand ia hia).pre va
    have nb := (h.hand ib hib).pre vb
    have ra := (h.hand ia hia).rng j a na
    have rb := (h.hand ib hib).rng j b nb
    have wide := h.pair ib ia hib hia j b a nb na
    have ns : clSt p (nu p) (W.told p ++ [some W.state]) = clSt p (nu p) (W.told p) ++ [y] := hl'.trans ey
    have get : ∀ i x, (clSt p (nu p) (W.told p) ++ [y])[i]? = some x → (clSt p (nu p) (W.told p))[i]? = some x ∨ (i = j + 1 ∧ x = y) := by
      intro i x hx
      rw [List.getElem?_append] at hx
      split at hx
      · exact .inl hx
      · rename_i hge
        rw [cl] at hx hge
        have : i = j + 1 := by
          rw [List.getElem?_eq_some_iff] at hx
          obtain ⟨q, _⟩ := hx
          simp at q
          omega
        subst this
        have e : j + 1 - (1 + j) = 0 := by omega
        rw [e] at hx
        have hx' : some y = some x := hx
        exact .inr ⟨rfl, (Option.some.inj hx').symm⟩
    have tl : ∀ q, Wld.told ⟨W.state, W.tolds.set p (W.told p ++ [some W.state])⟩ q = if q = p then W.told p ++ [some W.state] else W.told q := fun q => Wld.told_set hpt
    have cq : ∀ q, clSt q (nu q) (Wld.told ⟨W.state, W.tolds.set p (W.told p ++ [some W.state])⟩ q) = if q = p then clSt p (nu p) (W.told p) ++ [y] else clSt q (nu q) (W.told q) := by
      intro q
      rw [tl]
      by_cases e : q = p
      · subst e
        rw [if_pos rfl, if_pos rfl, ns]
      · rw [if_neg e, if_neg e]
    have pairn : ∀ q, q < n → ∀ x, (clSt q (nu q) (W.told q))[j + 1]? = some x → (2 : Int) ^ (j + 1) * (scl y - scl x) ≤ 64 * (hi - lo) ∧ (2 : Int) ^ (j + 1) * (scl x - scl y) ≤ 64 * (hi - lo) := by
      intro q hq x hx
      obtain ⟨p1, p2, c, d, hp1, hp2, vc, vd, e⟩ := h.cov q hq j x hx
      have bc := bnd p1 c hp1 vc
      have bd := bnd p2 d hp2 vd
      have e1 : 2 * (scl y - scl x) ≤ scl b - scl a := by omega
      have e2 : 2 * (scl x - scl y) ≤ scl b - scl a := by omega
      rw [Int.pow_succ, Int.mul_assoc, Int.mul_assoc]
      exact ⟨Int.le_trans (mul_le_pow e1) wide, Int.le_trans (mul_le_pow e2) wide⟩
    have hlh : lo ≤ hi := by omega
    refine ⟨h.ls, by simpa using h.lt, h.pc, fun q hq => ?_, ?_, ?_⟩
    · rw [tl]
      show CHand n r (nu q) lo hi q _ (W.at q)
      by_cases e : q = p
      · subst e
        rw [if_pos rfl]
        refine ⟨hh.tok.look h.ls h.pc, by simp; omega, fun z => by simp at z, fun z => by simp at z; omega, fun _ _ => ?_, fun i x hx => ?_⟩
        · rw [ns, List.dropLast_concat, hod]
        · rw [ns] at hx
          rcases get i x hx with hx | ⟨_, rfl⟩
          · exact hh.rng i x hx
          · omega
      · rw [if_neg e]
        exact h.hand q hq
    · intro q1 q2 h1 h2 i x1 x2 k1 k2
      rw [cq] at k1 k2
      by_cases e1 : q1 = p
      · rw [if_pos e1] at k1
        by_cases e2 : q2 = p
        · rw [if_pos e2] at k2
          rw [k1] at k2
          have := Option.some.inj k2
          subst this
          rw [Int.sub_self, Int.mul_zero]
          omega
        · rw [if_neg e2] at k2
          rcases get i x1 k1 with k1 | ⟨rfl, rfl⟩
          · exact h.pair p q2 hp h2 i x1 x2 k1 k2
          · exact (pairn q2 h2 x2 k2).1
      · rw [if_neg e1] at k1
        by_cases e2 : q2 = p
        · rw [if_pos e2] at k2
          rcases get i x2 k2 with k2 | ⟨rfl, rfl⟩
          · exact h.pair q1 p h1 hp i x1 x2 k1 k2
          · exact (pairn q1 h1 x1 k1).2
        · rw [if_neg e2] at k2
          exact h.pair q1 q2 h1 h2 i x1 x2 k1 k2
    · intro q hq i x hx
      rw [cq] at hx
      by_cases e : q = p
      · rw [if_pos e] at hx
        rcases get _ x hx with hx | ⟨e2, rfl⟩
        · exact h.cov p hp i x hx
        · have : i = j := by omega
          subst this
          exact ⟨ia, ib, a, b, hia, hib, va, vb, sy⟩
      · rw [if_neg e] at hx
        exact h.cov q hq i x hx
  · simp only [ho, if_false]
    have he : (W.told p).length % 2 = 0 := by omega
    by_cases hk : r < (clSt p (nu p) (W.told p)).length
    · simp only [hk, if_true]
      exact h
    · simp only [hk]
      rw [if_neg not_false]
      have hst := clSt_put p (nu p) (W.told p) he
      have tl : ∀ q, Wld.told ⟨W.state.set p (.cl (clSt p (nu p) (W.told p))), W.tolds.set p (W.told p ++ [none])⟩ q = if q = p then W.told p ++ [none] else W.told q := fun q => Wld.told_set hpt
      have ats : ∀ q, Wld.at ⟨W.state.set p (.cl (clSt p (nu p) (W.told p))), W.tolds.set p (W.told p ++ [none])⟩ q = if q = p then .cl (clSt p (nu p) (W.told p)) else W.at q := fun q => at_set hps
      have cq : ∀ q, clSt q (nu q) (Wld.told ⟨W.state.set p (.cl (clSt p (nu p) (W.told p))), W.tolds.set p (W.told p ++ [none])⟩ q) = clSt q (nu q) (W.told q) := by
        intro q
        rw [tl]
        by_cases e : q = p
        · subst e
          rw [if_pos rfl, hst]
        · rw [if_neg e]
      have grow : ∀ q, q < n → ∀ (j : Nat) (a : Fr), (W.at q).fr[j]? = some a → (Wld.at ⟨W.state.set p (.cl (clSt p (nu p) (W.told p))), W.tolds.set p (W.told p ++ [none])⟩ q).fr[j]? = some a := by
        intro q hq j a ha
        rw [ats]
        by_cases e : q = p
        · subst e
          rw [if_pos rfl]
          exact (h.hand q hq).pre ha
        · rw [if_neg e]
          exact ha
      refine ⟨by simpa using h.ls, by simpa using h.lt, fun v hv => ?_, fun q hq => ?_, ?_, ?_⟩
      · rcases List.mem_or_eq_of_mem_set hv with hv | hv
        · exact h.pc v hv
        · subst hv
          exact ⟨.inr ⟨_, rfl⟩, by show (clSt p (nu p) (W.told p)).length ≤ 6; omega, cok⟩
      · rw [tl, ats]
        by_cases e : q = p
        · subst e
          rw [if_pos rfl, if_pos rfl]
          refine ⟨hh.tok.put he, by simp; omega, fun z => by simp at z, fun _ => by rw [hst], fun z => by simp at z; omega, ?_⟩
          rw [hst]
          exact hh.rng
        · rw [if_neg e, if_neg e]
          exact h.hand q hq
      · intro q1 q2 h1 h2 i x1 x2 k1 k2
        rw [cq] at k1 k2
        exact h.pair q1 q2 h1 h2 i x1 x2 k1 k2
      · intro q hq i x hx
        rw [cq] at hx
        obtain ⟨p1, p2, c, d, hp1, hp2, vc, vd, e⟩ := h.cov q hq i x hx
        exact ⟨p1, p2, c, d, hp1, hp2, grow _ hp1 _ _ vc, grow _ hp2 _ _ vd, e⟩
theorem CWld.start {n r : Nat} {nu : Nat → Int} {lo hi : Int} (hn : ∀ p, p < n → lo ≤ nu p ∧ nu p ≤ hi) (hlo : -topN ≤ lo) (hhi : hi ≤ topN) : CWld n r nu lo hi ⟨List.replicate n (.int 0), List.replicate n []⟩ := by
  have tl : ∀ p, Wld.told ⟨List.replicate n (.int 0), List.replicate n []⟩ p = [] := by
    intro p
    unfold Wld.told
    rw [List.getD_eq_getElem?_getD, List.getElem?_replicate]
    split <;> rfl
  have ats : ∀ p, Wld.at ⟨List.replicate n (.int 0), List.replicate n []⟩ p = .int 0 := by
    intro p
    unfold Wld.at
    rw [List.getD_eq_getElem?_getD, List.getElem?_replicate]
    split <;> rfl
  have c0 : ∀ p j x, (clSt p (nu p) [])[j]? = some x → j = 0 ∧ x = (nu p, 1) := by
    intro p j x hx
    have e : clSt p (nu p) [] = [(nu p, 1)] := rfl
    rw [e] at hx
    cases j with
    | zero => simp at hx; exact ⟨rfl, hx.symm⟩
    | succ j => simp at hx
  refine ⟨by simp, by simp, fun v hv => ?_, fun p hp => ?_, fun p q hp hq j x y hx hy => ?_, fun q hq j y hy => ?_⟩
  · have : v = .int 0 := (List.mem_replicate.mp hv).2
    subst this
    exact ⟨.inl rfl, by show 0 ≤ 6; omega, fun j x hx => by simp [Val.fr] at hx⟩
  · rw [tl, ats]
    refine ⟨TOk.nil, by simp, fun _ => rfl, fun z => by simp at z, fun _ z => absurd rfl z, fun j x hx => ?_⟩
    obtain ⟨rfl, rfl⟩ := c0 p j x hx
    have := hn p hp
    rw [(okF_whole (n := nu p) (by omega) (by omega)).2]
    omega
  · rw [tl] at hx hy
    obtain ⟨rfl, rfl⟩ := c0 p j x hx
    obtain ⟨_, rfl⟩ := c0 q _ y hy
    have := hn p hp
    have := hn q hq
    rw [(okF_whole (n := nu p) (by omega) (by omega)).2, (okF_whole (n := nu q) (by omega) (by omega)).2]
    show 1 * _ ≤ _
    omega
  · rw [tl] at hy
    obtain ⟨e, _⟩ := c0 q _ y hy
    omega
end My
namespace My

def PInt (v : Val) : Prop := ∃ i, v = .int i
def PLst (v : Val) : Prop := v = .int 0 ∨ ∃ k, v = .ls k
/-- what a hand of leasts has been told: the last look, if any -/
def TLst (told : Tld) : Prop := 2 ≤ told.length → ∃ st, told.getLast? = some (some st) ∧ st.length ≤ 100 ∧ ∀ v ∈ st, PLst v

/-! ### sums -/
structure SWld (n : Nat) (its : Nat → List (Option Int)) (W : Wld) : Prop where
  ls : W.state.length = n
  lt : W.tolds.length = n
  pi : ∀ v ∈ W.state, PInt v
  len : ∀ p, p < n → (W.told p).length ≤ (its p).length
  tok : ∀ p, p < n → ∀ e ∈ W.told p, ∀ st, e = some st → ∀ v ∈ st, PInt v
theorem SWld.step {n : Nat} {its : Nat → List (Option Int)} {W : Wld} {jobs : List Job} (h : SWld n its W) {p : Nat} (hp : p < n) (hj : jobs.getD p (.sums []) = .sums (its p)) : SWld n its (stepW jobs p W) := by
  have hpt : p < W.tolds.length := by rw [h.lt]; exact hp
  have hl := h.len p hp
  unfold stepW
  rw [hj]
  unfold nextDeed
  by_cases hz : (W.told p).length = (its p).length
  · simp only [hz, if_true]
    exact h
  · simp only [hz, if_false]
    cases (its p).getD (W.told p).length none with
    | none =>
      have tl : ∀ q, Wld.told ⟨W.state, W.tolds.set p (W.told p ++ [some W.state])⟩ q = if q = p then W.told p ++ [some W.state] else W.told q := fun q => Wld.told_set hpt
      refine ⟨h.ls, by simpa using h.lt, h.pi, fun q hq => ?_, fun q hq => ?_⟩
      · rw [tl]
        by_cases e : q = p
        · subst e; rw [if_pos rfl]; simp; omega
        · rw [if_neg e]; exact h.len q hq
      · rw [tl]
        by_cases e : q = p
        · subst e
          rw [if_pos rfl]
          intro x hx st es
          rcases List.mem_append.mp hx with hx | hx
          · exact h.tok q hq x hx st es
          · simp at hx
            subst hx
            cases es
            exact h.pi
        · rw [if_neg e]; exact h.tok q hq
    | some i =>
      have tl : ∀ q, Wld.told ⟨W.state.set p (.int (sumTo (its p) (W.told p).length)), W.tolds.set p (W.told p ++ [none])⟩ q = if q = p then W.told p ++ [none] else W.told q := fun q => Wld.told_set hpt
      refine ⟨by simpa using h.ls, by simpa using h.lt, fun v hv => ?_, fun q hq => ?_, fun q hq => ?_⟩
      · rcases List.mem_or_eq_of_mem_set hv with hv | hv
        · exact h.pi v hv
        · exact ⟨_, hv⟩
      · rw [tl]
        by_cases e : q = p
        · subst e; rw [if_pos rfl]; simp; omega
        · rw [if_neg e]; exact h.len q hq
      · rw [tl]
        by_cases e : q = p
        · subst e
          rw [if_pos rfl]
          intro x hx st es
          rcases List.mem_append.mp hx with hx | hx
          · exact h.tok q hq x hx st es
          · simp at hx
            subst hx
            cases es
        · rw [if_neg e]; exact h.tok q hq
theorem told0 (n p : Nat) : Wld.told ⟨List.replicate n (.int 0), List.replicate n []⟩ p = [] := by
  unfold Wld.told
  rw [List.getD_eq_getElem?_getD, List.getElem?_replicate]
  split <;> rfl
theorem at0 (n p : Nat) : Wld.at ⟨List.replicate n (.int 0), List.replicate n []⟩ p = .int 0 := by
  unfold Wld.at
  rw [List.getD_eq_getElem?_getD, List.getElem?_replicate]
  split <;> rfl
theorem SWld.start {n : Nat} {its : Nat → List (Option Int)} : SWld n its ⟨List.replicate n (.int 0), List.replicate n []⟩ :=
  ⟨by simp, by simp, fun v hv => ⟨0, (List.mem_replicate.mp hv).2⟩, fun p _ => by rw [told0]; simp, fun p _ => by rw [told0]; simp⟩

theorem NWld.start {n : Nat} {ids : Nat → Int} : NWld n ids ⟨List.replicate n (.int 0), List.replicate n []⟩ := by
  refine ⟨by simp, by simp, fun p hp => ?_, fun v hv => .inl (List.mem_replicate.mp hv).2, fun p q hp hq hpq h1 h2 => ?_⟩
  · rw [told0, at0]
    exact ⟨TOk.nil, fun _ => rfl, fun z => by simp at z, fun _ z => absurd rfl z, by show (1 : Int) ≤ 1; omega, fun z => absurd rfl z⟩
  · rw [told0] at h1
    simp [nameSt, odds] at h1

/-! ### leasts -/
theorem minL_spec : ∀ {ns : List Int}, ns ≠ [] → minL ns ∈ ns
  | [], h => absurd rfl h
  | a :: r, _ => by
    have key : ∀ (l : List Int) (a : Int), l.foldl min a = a ∨ l.foldl min a ∈ l := by
      intro l
      induction l with
      | nil => intro a; simp
      | cons x l ih =>
        intro a
        rw [List.foldl_cons]
        rcases ih (min a x) with i | i
        · rw [i]
          by_cases z : a ≤ x
          · exact .inl (by omega)
          · exact .inr (by rw [show min a x = x by omega]; exact List.mem_cons_self)
        · exact .inr (List.mem_cons_of_mem _ i)
    rcases key r a with i | i
    · show r.foldl min a ∈ _
      rw [i]
      exact List.mem_cons_self
    · exact List.mem_cons_of_mem _ i
theorem nums_len (st : List Val) : (nums st).length = nz st := by
  unfold nums nz
  rw [List.length_map]
structure LWld (n w : Nat) (nu : Nat → Int) (A : List Int) (W : Wld) : Prop where
  ls : W.state.length = n
  lt : W.tolds.length = n
  at1 : ∀ p, p < n → (W.told p = [] → W.at p = .int 0) ∧ (W.told p ≠ [] → W.at p = .ls (nu p))
  tl : ∀ p, p < n → TLst (W.told p)
  ans : ∀ p, p < n → there w (W.told p) ≠ [] → minL (there w (W.told p)) ∈ A
  cur : w ≤ nz W.state → minL (nums W.state) ∈ A
  few : A.length ≤ nz W.state + 1 - w
  sub : ∀ a ∈ A, ∃ p, p < n ∧ a = nu p
theorem LWld.pl {n w : Nat} {nu : Nat → Int} {A : List Int} {W : Wld} (h : LWld n w nu A W) : ∀ v ∈ W.state, PLst v := fun v hv => by
  obtain ⟨i, hi⟩ := List.getElem?_of_mem hv
  have hil : i < n := by
    rw [List.getElem?_eq_some_iff] at hi
    obtain ⟨q, _⟩ := hi
    rw [h.ls] at q
    exact q
  have e := at_get (W := W) (p := i) (by rw [h.ls]; exact hil)
  rw [hi] at e
  have e := Option.some.inj e
  by_cases z : W.told i = []
  · exact .inl (by rw [e, (h.at1 i hil).1 z])
  · exact .inr ⟨_, by rw [e, (h.at1 i hil).2 z]⟩
theorem nums_mem {st : List Val} {nu : Nat → Int} (h : ∀ (i : Nat) (v : Val), st[i]? = some v → v = .int 0 ∨ v = .ls (nu i)) {a : Int} (ha : a ∈ nums st) : ∃ p, p < st.length ∧ a = nu p := by
  unfold nums at ha
  obtain ⟨v, hv, rfl⟩ := List.mem_map.mp ha
  obtain ⟨h1, h2⟩ := List.mem_filter.mp hv
  obtain ⟨i, hi⟩ := List.getElem?_of_mem h1
  rcases h i v hi with rfl | rfl
  · simp [Val.isZ] at h2
  · rw [List.getElem?_eq_some_iff] at hi
    obtain ⟨q, _⟩ := hi
    exact ⟨i, q, rfl⟩
theorem there_look {w : Nat} {told : Tld} {st : List Val} (h : told ≠ []) : there w (told ++ [some st]) = if (nums st).length < w then [] else nums st := by
  unfold there
  have hp := List.length_pos_iff.mpr h
  rw [if_neg (by simp; omega)]
  simp
theorem LWld.step {n w : Nat} {nu : Nat → Int} {A : List Int} {W : Wld} {jobs : List Job} (h : LWld n w nu A W) (hw : 1 ≤ w) (hn : n ≤ 100) {p : Nat} (hp : p < n) (hj : jobs.getD p (.sums []) = .least (nu p) w) : ∃ A', LWld n w nu A' (stepW jobs p W) := by
  have hps : p < W.state.length := by rw [h.ls]; exact hp
  have hpt : p < W.tolds.length := by rw [h.lt]; exact hp
  have hpl := h.pl
  unfold stepW
  rw [hj]
  unfold nextDeed
  by_cases h0 : (W.told p).length = 0
  · simp only [h0, if_true]
    have h0' : W.told p = [] := List.length_eq_zero_iff.mp h0
    rw [h0']
    have tl : ∀ q, Wld.told ⟨W.state.set p (.ls (nu p)), W.tolds.set p ([] ++ [none])⟩ q = if q = p then [] ++ [none] else W.told q := fun q => Wld.told_set hpt
    have ats : ∀ q, Wld.at ⟨W.state.set p (.ls (nu p)), W.tolds.set p ([] ++ [none])⟩ q = if q = p then .ls (nu p) else W.at q := fun q => at_set hps
    have hnz : nz (W.state.set p (.ls (nu p))) = nz W.state + 1 := nz_set_new _ _ _ _ (at_get hps) (by rw [(h.at1 p hp).1 h0']; rfl) rfl
    have a1 : ∀ q, q < n → (Wld.told ⟨W.state.set p (.ls (nu p)), W.tolds.set p ([] ++ [none])⟩ q = [] → Wld.at ⟨W.state.set p (.ls (nu p)), W.tolds.set p ([] ++ [none])⟩ q = .int 0) ∧ (Wld.told ⟨W.state.set p (.ls (nu p)), W.tolds.set p ([] ++ [none])⟩ q ≠ [] → Wld.at ⟨W.state.set p (.ls (nu p)), W.tolds.set p ([] ++ [none])⟩ q = .ls (nu q)) := by
      intro q hq
      rw [tl, ats]
      by_cases e : q = p
      · subst e
        rw [if_pos rfl, if_pos rfl]
        exact ⟨fun z => by simp at z, fun _ => rfl⟩
      · rw [if_neg e, if_neg e]
        exact h.at1 q hq
    have tl2 : ∀ q, q < n → TLst (Wld.told ⟨W.state.set p (.ls (nu p)), W.tolds.set p ([] ++ [none])⟩ q) := by
      intro q hq
      rw [tl]
      by_cases e : q = p
      · rw [if_pos e]
        intro z
        simp at z
      · rw [if_neg e]
        exact h.tl q hq
    have an : ∀ q, q < n → there w (Wld.told ⟨W.state.set p (.ls (nu p)), W.tolds.set p ([] ++ [none])⟩ q) ≠ [] → minL (there w (Wld.told ⟨W.state.set p (.ls (nu p)), W.tolds.set p ([] ++ [none])⟩ q)) ∈ A := by
      intro q hq
      rw [tl]
      by_cases e : q = p
      · rw [if_pos e]
        intro z
        exact absurd (by unfold there; rw [if_pos (by simp)]) z
      · rw [if_neg e]
        exact h.ans q hq
    have mem : ∀ (i : Nat) (v : Val), (W.state.set p (.ls (nu p)))[i]? = some v → v = .int 0 ∨ v = .ls (nu i) := by
      intro i v hv
      have hi : i < n := by
        rw [List.getElem?_eq_some_iff] at hv
        obtain ⟨q, _⟩ := hv
        simpa [h.ls] using q
      have e := at_get (W := ⟨W.state.set p (.ls (nu p)), W.tolds.set p ([] ++ [none])⟩) (p := i) (by simpa [h.ls] using hi)
      have e2 : some v = some (Wld.at ⟨W.state.set p (.ls (nu p)), W.tolds.set p ([] ++ [none])⟩ i) := hv.symm.trans e
      have e3 := Option.some.inj e2
      by_cases z : Wld.told ⟨W.state.set p (.ls (nu p)), W.tolds.set p ([] ++ [none])⟩ i = []
      · exact .inl (e3.trans ((a1 i hi).1 z))
      · exact .inr (e3.trans ((a1 i hi).2 z))
    by_cases hc : w ≤ nz W.state + 1
    · refine ⟨minL (nums (W.state.set p (.ls (nu p)))) :: A, by simpa using h.ls, by simpa using h.lt, a1, tl2, fun q hq z => List.mem_cons_of_mem _ (an q hq z), fun _ => List.mem_cons_self, ?_, fun a ha => ?_⟩
      · show _ + 1 ≤ nz (W.state.set p (.ls (nu p))) + 1 - w
        have := h.few
        rw [hnz]
        omega
      · rcases List.mem_cons.mp ha with rfl | ha
        · obtain ⟨q, h1, h2⟩ := nums_mem mem (minL_spec (ns := nums (W.state.set p (.ls (nu p)))) (by
            intro z
            have := nums_len (W.state.set p (.ls (nu p)))
            rw [z, hnz] at this
            simp at this))
          exact ⟨q, by simpa [h.ls] using h1, h2⟩
        · exact h.sub a ha
    · refine ⟨A, by simpa using h.ls, by simpa using h.lt, a1, tl2, an, fun z => ?_, ?_, h.sub⟩
      · have z' : w ≤ nz (W.state.set p (.ls (nu p))) := z
        omega
      · show _ ≤ nz (W.state.set p (.ls (nu p))) + 1 - w
        have := h.few
        omega
  · simp only [h0, if_false]
    have hne : W.told p ≠ [] := fun z => h0 (by rw [z]; rfl)
    by_cases hth : there w (W.told p) = []
    · rw [if_pos hth]
      have tl : ∀ q, Wld.told ⟨W.state, W.tolds.set p (W.told p ++ [some W.state])⟩ q = if q = p then W.told p ++ [some W.state] else W.told q := fun q => Wld.told_set hpt
      refine ⟨A, h.ls, by simpa using h.lt, fun q hq => ?_, fun q hq => ?_, fun q hq => ?_, h.cur, h.few, h.sub⟩
      · rw [tl]
        show (_ → W.at q = _) ∧ (_ → W.at q = _)
        by_cases e : q = p
        · subst e
          rw [if_pos rfl]
          exact ⟨fun z => by simp at z, fun _ => (h.at1 q hq).2 hne⟩
        · rw [if_neg e]
          exact h.at1 q hq
      · rw [tl]
        by_cases e : q = p
        · rw [if_pos e]
          exact fun _ => ⟨W.state, by simp, by rw [h.ls]; exact hn, hpl⟩
        · rw [if_neg e]
          exact h.tl q hq
      · rw [tl]
        by_cases e : q = p
        · rw [if_pos e, there_look hne]
          by_cases z : (nums W.state).length < w
          · rw [if_pos z]
            exact fun z => absurd rfl z
          · rw [if_neg z]
            rw [nums_len] at z
            exact fun _ => h.cur (by omega)
        · rw [if_neg e]
          exact h.ans q hq
    · rw [if_neg hth]
      exact ⟨A, h⟩
theorem LWld.start {n w : Nat} {nu : Nat → Int} (hw : 1 ≤ w) : LWld n w nu [] ⟨List.replicate n (.int 0), List.replicate n []⟩ := by
  have z : nz (List.replicate n (.int 0)) = 0 := by
    unfold nz
    rw [List.length_eq_zero_iff, List.filter_eq_nil_iff]
    intro v hv
    rw [(List.mem_replicate.mp hv).2]
    simp [Val.isZ]
  refine ⟨by simp, by simp, fun p _ => ?_, fun p _ => ?_, fun p _ => ?_, fun q => ?_, by simp, fun a ha => by simp at ha⟩
  · rw [told0, at0]
    exact ⟨fun _ => rfl, fun z => absurd rfl z⟩
  · rw [told0]
    intro q
    simp at q
  · rw [told0]
    intro q
    exact absurd (by unfold there; rw [if_pos (by simp)]) q
  · have q' : w ≤ nz (List.replicate n (.int 0)) := q
    omega
end My
namespace My

def Job.its : Job → List (Option Int)
  | .sums items => items
  | _ => []
def Job.idn : Job → Int
  | .name i => i
  | _ => 0
def Job.nu : Job → Int
  | .least n _ => n
  | .closer n _ => n
  | _ => 0
def jAt (jobs : List Job) (p : Nat) : Job := jobs.getD p (.sums [])
def Bd (i : Int) : Prop := -topN ≤ i ∧ i ≤ topN
/-- jobs of one way -/
inductive JK (jobs : List Job) : Prop
  | sums (h : ∀ j ∈ jobs, ∃ items, j = .sums items ∧ items.length ≤ 8 ∧ ∀ i, some i ∈ items → Bd i)
  | names (h : ∀ j ∈ jobs, ∃ id, j = .name id ∧ Bd id)
  | leasts (w : Nat) (h1 : 1 ≤ w) (h2 : w ≤ jobs.length) (h : ∀ j ∈ jobs, ∃ m, j = .least m w ∧ Bd m)
  | closers (r : Nat) (h1 : 1 ≤ r) (h2 : r ≤ 6) (h : ∀ j ∈ jobs, ∃ m, j = .closer m r ∧ Bd m)
inductive WInv (jobs : List Job) (W : Wld) : Prop
  | sums (h : ∀ p, p < jobs.length → ∃ items, jAt jobs p = .sums items ∧ items.length ≤ 8 ∧ ∀ i, some i ∈ items → Bd i) (w : SWld jobs.length (fun p => (jAt jobs p).its) W)
  | names (h : ∀ p, p < jobs.length → ∃ id, jAt jobs p = .name id ∧ Bd id) (w : NWld jobs.length (fun p => (jAt jobs p).idn) W)
  | leasts (wt : Nat) (h1 : 1 ≤ wt) (h2 : wt ≤ jobs.length) (h : ∀ p, p < jobs.length → ∃ m, jAt jobs p = .least m wt ∧ Bd m) (A : List Int) (w : LWld jobs.length wt (fun p => (jAt jobs p).nu) A W)
  | closers (r : Nat) (h1 : 1 ≤ r) (h2 : r ≤ 6) (h : ∀ p, p < jobs.length → ∃ m, jAt jobs p = .closer m r ∧ Bd m) (lo hi : Int) (hn : ∀ p, p < jobs.length → lo ≤ (jAt jobs p).nu ∧ (jAt jobs p).nu ≤ hi)
      (hl : ∃ p, p < jobs.length ∧ (jAt jobs p).nu = lo) (hh : ∃ p, p < jobs.length ∧ (jAt jobs p).nu = hi) (w : CWld jobs.length r (fun p => (jAt jobs p).nu) lo hi W)
theorem jAt_mem {jobs : List Job} {p : Nat} (h : p < jobs.length) : jAt jobs p ∈ jobs := by
  unfold jAt
  rw [List.getD_eq_getElem?_getD, List.getElem?_eq_getElem h]
  exact List.getElem_mem h
theorem least_of (f : Nat → Int) : ∀ n : Nat, 0 < n → ∃ p, p < n ∧ ∀ q, q < n → f p ≤ f q
  | 0, h => by omega
  | 1, _ => ⟨0, by omega, fun q hq => by rw [show q = 0 by omega]; exact Int.le_refl _⟩
  | n + 2, _ => by
    obtain ⟨p, h1, h2⟩ := least_of f (n + 1) (by omega)
    by_cases e : f p ≤ f (n + 1)
    · refine ⟨p, by omega, fun q hq => ?_⟩
      by_cases z : q = n + 1
      · rw [z]; exact e
      · exact h2 q (by omega)
    · refine ⟨n + 1, by omega, fun q hq => ?_⟩
      by_cases z : q = n + 1
      · rw [z]; exact Int.le_refl _
      · have := h2 q (by omega)
        omega
def W0 (n : Nat) : Wld := ⟨List.replicate n (.int 0), List.replicate n []⟩
theorem WInv.start {jobs : List Job} (h : JK jobs) (h0 : 0 < jobs.length) : WInv jobs (W0 jobs.length) := by
  cases h with
  | sums h => exact .sums (fun p hp => h _ (jAt_mem hp)) SWld.start
  | names h => exact .names (fun p hp => h _ (jAt_mem hp)) NWld.start
  | leasts w h1 h2 h => exact .leasts w h1 h2 (fun p hp => h _ (jAt_mem hp)) [] (LWld.start h1)
  | closers r h1 h2 h =>
    obtain ⟨p, hp, hlo⟩ := least_of (fun p => (jAt jobs p).nu) jobs.length h0
    obtain ⟨q, hq, hhi⟩ := least_of (fun p => -(jAt jobs p).nu) jobs.length h0
    have hn : ∀ s, s < jobs.length → (jAt jobs p).nu ≤ (jAt jobs s).nu ∧ (jAt jobs s).nu ≤ (jAt jobs q).nu := fun s hs => by
      have h1 := hlo s hs
      have h2 := hhi s hs
      exact ⟨h1, by omega⟩
    obtain ⟨m, e1, b1⟩ := h _ (jAt_mem hp)
    obtain ⟨m', e2, b2⟩ := h _ (jAt_mem hq)
    refine .closers r h1 h2 (fun p hp => h _ (jAt_mem hp)) _ _ hn ⟨p, hp, rfl⟩ ⟨q, hq, rfl⟩ (CWld.start hn ?_ ?_)
    · rw [e1]; exact b1.1
    · rw [e2]; exact b2.2
theorem WInv.step {jobs : List Job} {W : Wld} (h : WInv jobs W) (hn : jobs.length ≤ 100) {p : Nat} (hp : p < jobs.length) : WInv jobs (stepW jobs p W) := by
  cases h with
  | sums h w =>
    refine .sums h (w.step hp ?_)
    obtain ⟨x, e, _⟩ := h p hp
    show jAt jobs p = .sums (jAt jobs p).its
    rw [e]
    rfl
  | names h w =>
    refine .names h (w.step hp ?_)
    obtain ⟨x, e, _⟩ := h p hp
    show jAt jobs p = .name (jAt jobs p).idn
    rw [e]
    rfl
  | leasts wt h1 h2 h A w =>
    obtain ⟨A', w'⟩ := w.step (jobs := jobs) h1 hn hp (by
      obtain ⟨x, e, _⟩ := h p hp
      show jAt jobs p = .least (jAt jobs p).nu wt
      rw [e]
      rfl)
    exact .leasts wt h1 h2 h A' w'
  | closers r h1 h2 h lo hi hn' hl hh w =>
    obtain ⟨pl, hpl, el⟩ := id hl
    obtain ⟨ph, hph, eh⟩ := id hh
    obtain ⟨m, e1, b1⟩ := h pl hpl
    obtain ⟨m', e2, b2⟩ := h ph hph
    refine .closers r h1 h2 h lo hi hn' hl hh (w.step h2 hn' (by rw [← el, e1]; exact b1.1) (by rw [← eh, e2]; exact b2.2) hp ?_)
    obtain ⟨x, e, _⟩ := h p hp
    show jAt jobs p = .closer (jAt jobs p).nu r
    rw [e]
    rfl
theorem WInv.ls {jobs : List Job} {W : Wld} (h : WInv jobs W) : W.state.length = jobs.length ∧ W.tolds.length = jobs.length := by
  cases h with
  | sums _ w => exact ⟨w.ls, w.lt⟩
  | names _ w => exact ⟨w.ls, w.lt⟩
  | leasts _ _ _ _ _ w => exact ⟨w.ls, w.lt⟩
  | closers _ _ _ _ _ _ _ _ _ w => exact ⟨w.ls, w.lt⟩

/-! ### what a deed asks -/
def Pre (n own : Nat) (told : Tld) : Job → Prop
  | .sums items => items.length ≤ 8 ∧ told.length ≤ items.length ∧ ∀ e ∈ told, ∀ st, e = some st → ∀ v ∈ st, PInt v
  | .name _ => TOk PName n told
  | .least _ _ => TLst told
  | .closer m r => TOk PCl n told ∧ Bd m ∧ told.length ≤ 12 ∧ r ≤ 6
theorem WInv.pre {jobs : List Job} {W : Wld} (h : WInv jobs W) {p : Nat} (hp : p < jobs.length) : Pre jobs.length p (W.told p) (jAt jobs p) := by
  cases h with
  | sums h w =>
    obtain ⟨x, e, h8, _⟩ := h p hp
    have := w.len p hp
    simp only [e, Job.its] at this
    rw [e]
    exact ⟨h8, this, w.tok p hp⟩
  | names h w =>
    obtain ⟨x, e, _⟩ := h p hp
    rw [e]
    exact (w.hand p hp).tok
  | leasts wt h1 h2 h A w =>
    obtain ⟨x, e, _⟩ := h p hp
    rw [e]
    exact w.tl p hp
  | closers r h1 h2 h lo hi hn' hl hh w =>
    obtain ⟨x, e, b⟩ := h p hp
    rw [e]
    have := (w.hand p hp).len
    exact ⟨(w.hand p hp).tok, b, by omega, h2⟩
def trl : Int := 1000000000000
def VPl : Val → Prop
  | .int i => -trl < i ∧ i < trl
  | .nm i k => (-trl < i ∧ i < trl) ∧ -trl < k ∧ k < trl
  | .ls n => -trl < n ∧ n < trl
  | .cl xs => xs.length ≤ 8 ∧ ∀ x ∈ xs, (-trl < x.1 ∧ x.1 < trl) ∧ -trl < x.2 ∧ x.2 < trl
theorem sum_bd : ∀ {l : List (Option Int)}, (∀ i, some i ∈ l → Bd i) → -(topN * l.length) ≤ (l.filterMap id).sum ∧ (l.filterMap id).sum ≤ topN * l.length
  | [], _ => by simp [topN]
  | none :: l, h => by
    have ih := sum_bd (l := l) fun i hi => h i (List.mem_cons_of_mem _ hi)
    simp only [List.filterMap_cons, id, List.length_cons]
    unfold topN at *
    omega
  | some i :: l, h => by
    have ih := sum_bd (l := l) fun i hi => h i (List.mem_cons_of_mem _ hi)
    have hi := h i List.mem_cons_self
    simp only [List.filterMap_cons, id, List.length_cons, List.sum_cons]
    unfold Bd topN at *
    omega
theorem WInv.put {jobs : List Job} {W : Wld} (h : WInv jobs W) (hn : jobs.length ≤ 100) {p : Nat} (hp : p < jobs.length) {v : Val} (hv : nextDeed p (jAt jobs p) (W.told p) = .put v) : VPl v := by
  cases h with
  | sums h w =>
    obtain ⟨items, e, h8, hb⟩ := h p hp
    rw [e, nd_sums] at hv
    split at hv
    · cases hv
    · split at hv
      · cases hv
      · cases hv
        have b := sum_bd (l := items.take ((W.told p).length + 1)) fun i hi => hb i (List.mem_of_mem_take hi)
        have l8 : (items.take ((W.told p).length + 1)).length ≤ 8 := by rw [List.length_take]; omega
        show -trl < sumTo items (W.told p).length ∧ sumTo items (W.told p).length < trl
        unfold sumTo
        unfold topN at b
        unfold trl
        omega
  | names h w =>
    obtain ⟨x, e, b⟩ := h p hp
    have hh := w.hand p hp
    simp only [e, Job.idn] at hh
    rw [e, nd_name] at hv
    split at hv
    · cases hv
    · split at hv
      · cases hv
      · cases hv
        have h1 := hh.lo
        have h2 : (nameSt p x (W.told p)).1 ≤ 1000 := by
          by_cases z : W.told p = []
          · rw [z]; show (1 : Int) ≤ 1000; decide
          · have := hh.hi z
            have := nz_le W.state
            have := w.ls
            omega
        show (-trl < x ∧ x < trl) ∧ -trl < (nameSt p x (W.told p)).1 ∧ (nameSt p x (W.told p)).1 < trl
        unfold Bd topN at b
        unfold trl
        omega
  | leasts wt h1 h2 h A w =>
    obtain ⟨x, e, b⟩ := h p hp
    rw [e, nd_least] at hv
    split at hv
    · cases hv
      show -trl < x ∧ x < trl
      unfold Bd topN at b
      unfold trl
      omega
    · split at hv <;> cases hv
  | closers r h1 h2 h lo hi hn' hl hh w =>
    obtain ⟨x, e, b⟩ := h p hp
    have hh := w.hand p hp
    simp only [e, Job.nu] at hh
    rw [e, nd_closer] at hv
    have hlen := hh.len
    obtain ⟨c1, c2⟩ := clSt_ok (own := p) hh.tok b.2 b.1 (by omega)
    split at hv
    · cases hv
    · split at hv
      · cases hv
      · cases hv
        refine ⟨by omega, fun f hf => ?_⟩
        obtain ⟨i, hi⟩ := List.getElem?_of_mem hf
        have ok := c2 i f hi
        have t := ok.top
        have d := ok.den
        have ps := ok.pos
        unfold topN at t
        unfold trl
        omega

/-! ### alone to the end -/
def idleAt (jobs : List Job) (p : Nat) (W : Wld) : Prop := (nextDeed p (jAt jobs p) (W.told p)).isIdle = true
theorem idle_step {jobs : List Job} {p : Nat} {W : Wld} (h : idleAt jobs p W) : stepW jobs p W = W := by
  unfold idleAt at h
  unfold stepW
  show (match nextDeed p (jAt jobs p) (W.told p) with | .idle => W | .look => _ | .put v => _) = W
  cases e : nextDeed p (jAt jobs p) (W.told p) with
  | idle => rfl
  | look => rw [e] at h; cases h
  | put v => rw [e] at h; cases h
theorem idle_run {jobs : List Job} {p : Nat} {W : Wld} (h : idleAt jobs p W) : ∀ k, runW jobs p k W = W
  | 0 => rfl
  | k + 1 => by
    show stepW jobs p (runW jobs p k W) = W
    rw [idle_run h k, idle_step h]
theorem step_told {jobs : List Job} {p q : Nat} {W : Wld} (hp : p < W.tolds.length) (h : q ≠ p) : (stepW jobs p W).told q = W.told q := by
  unfold stepW
  cases nextDeed p (jobs.getD p (.sums [])) (W.told p) with
  | idle => rfl
  | look =>
    show Wld.told ⟨W.state, W.tolds.set p (W.told p ++ [some W.state])⟩ q = _
    rw [Wld.told_set hp, if_neg h]
  | put v =>
    show Wld.told ⟨W.state.set p v, W.tolds.set p (W.told p ++ [none])⟩ q = _
    rw [Wld.told_set hp, if_neg h]
theorem step_len {jobs : List Job} {p : Nat} {W : Wld} (hp : p < W.tolds.length) (h : ¬ idleAt jobs p W) : ((stepW jobs p W).told p).length = (W.told p).length + 1 := by
  unfold idleAt at h
  unfold stepW
  show (Wld.told (match nextDeed p (jAt jobs p) (W.told p) with | .idle => W | .look => ⟨W.state, W.tolds.set p (W.told p ++ [some W.state])⟩ | .put v => ⟨W.state.set p v, W.tolds.set p (W.told p ++ [none])⟩) p).length = _
  cases e : nextDeed p (jAt jobs p) (W.told p) with
  | idle => rw [e] at h; exact absurd rfl h
  | look =>
    show (Wld.told ⟨W.state, W.tolds.set p (W.told p ++ [some W.state])⟩ p).length = _
    rw [Wld.told_set hp, if_pos rfl]
    simp
  | put v =>
    show (Wld.told ⟨W.state.set p v, W.tolds.set p (W.told p ++ [none])⟩ p).length = _
    rw [Wld.told_set hp, if_pos rfl]
    simp
theorem step_len_le {jobs : List Job} {p q : Nat} {W : Wld} (hp : p < W.tolds.length) {B : Nat} (h : (W.told q).length ≤ B) : ((stepW jobs p W).told q).length ≤ B + 1 := by
  by_cases e : q = p
  · subst e
    by_cases z : idleAt jobs q W
    · rw [idle_step z]; omega
    · rw [step_len hp z]; omega
  · rw [step_told hp e]; omega
theorem WInv.run {jobs : List Job} {W : Wld} (h : WInv jobs W) (hn : jobs.length ≤ 100) {p : Nat} (hp : p < jobs.length) : ∀ k, WInv jobs (runW jobs p k W)
  | 0 => h
  | k + 1 => (h.run hn hp k).step hn hp
theorem run_told {jobs : List Job} {W : Wld} (h : WInv jobs W) (hn : jobs.length ≤ 100) {p q : Nat} (hp : p < jobs.length) (hq : q ≠ p) : ∀ k, (runW jobs p k W).told q = W.told q
  | 0 => rfl
  | k + 1 => by
    show (stepW jobs p (runW jobs p k W)).told q = _
    rw [step_told (by rw [(h.run hn hp k).ls.2]; exact hp) hq, run_told h hn hp hq k]
theorem run_len {jobs : List Job} {W : Wld} (h : WInv jobs W) (hn : jobs.length ≤ 100) {p : Nat} (hp : p < jobs.length) : ∀ k, idleAt jobs p (runW jobs p k W) ∨ k ≤ ((runW jobs p k W).told p).length
  | 0 => .inr (Nat.zero_le _)
  | k + 1 => by
    show idleAt jobs p (stepW jobs p (runW jobs p k W)) ∨ k + 1 ≤ ((stepW jobs p (runW jobs p k W)).told p).length
    by_cases z : idleAt jobs p (runW jobs p k W)
    · rw [idle_step z]; exact .inl z
    · rcases run_len h hn hp k with i | i
      · exact absurd i z
      · rw [step_len (by rw [(h.run hn hp k).ls.2]; exact hp) z]
        exact .inr (by omega)
theorem others_set {own : Nat} {v : Val} : ∀ (st : List Val) (k i : Nat), k + i = own → (((st.set i v).zipIdx k).filter (fun (p : Val × Nat) => decide (p.2 ≠ own) && !p.1.isZ)).map (·.1) = ((st.zipIdx k).filter (fun (p : Val × Nat) => decide (p.2 ≠ own) && !p.1.isZ)).map (·.1)
  | [], _, _, _ => rfl
  | a :: st, k, 0, h => by
    have h : k = own := by omega
    subst h
    rw [List.set_cons_zero, List.zipIdx_cons, List.zipIdx_cons]
    simp [List.filter_cons]
  | a :: st, k, i + 1, h => by
    have ih := others_set (own := own) (v := v) st (k + 1) i (by omega)
    rw [List.set_cons_succ, List.zipIdx_cons, List.zipIdx_cons]
    simp only [List.filter_cons]
    split
    · rw [List.map_cons, List.map_cons, ih]
    · exact ih
theorem others_put {own : Nat} {v : Val} {st : List Val} : others own (st.set own v) = others own st := others_set st 0 own (by omega)
/-- a free number -/
def Free (p : Nat) (id : Int) (W : Wld) : Prop := (nameSt p id (W.told p)).1 ∉ (others p W.state).map Val.num
theorem name_odd {n : Nat} {ids : Nat → Int} {W : Wld} {jobs : List Job} (h : NWld n ids W) {p : Nat} (hp : p < n) (hj : jAt jobs p = .name (ids p)) (ho : (W.told p).length % 2 = 1) :
    ((stepW jobs p W).told p).length % 2 = 0 ∧ (idleAt jobs p (stepW jobs p W) ∨ Free p (ids p) (stepW jobs p W)) ∧ (Free p (ids p) W → idleAt jobs p (stepW jobs p W)) := by
  have hh := h.hand p hp
  have hps : p < W.state.length := by rw [h.ls]; exact hp
  have hpt : p < W.tolds.length := by rw [h.lt]; exact hp
  have es : stepW jobs p W = ⟨W.state, W.tolds.set p (W.told p ++ [some W.state])⟩ := by
    unfold stepW
    show (match nextDeed p (jAt jobs p) (W.told p) with | .idle => W | .look => _ | .put v => _) = _
    rw [hj, nd_name, if_pos ho]
  have et : (stepW jobs p W).told p = W.told p ++ [some W.state] := by rw [es, Wld.told_set hpt, if_pos rfl]
  have hod := hh.odd ho
  have hne : W.told p ≠ [] := by intro e; rw [e] at ho; simp at ho
  have hst : nameSt p (ids p) (W.told p ++ [some W.state]) = hearName p (ids p) ((nameSt p (ids p) (W.told p)).1, false) W.state := by
    rw [nameSt_look _ _ _ _ ho]
    congr 1
    exact Prod.ext rfl hod.2
  have hv : (W.at p).isZ = false := by rw [hod.1]; rfl
  obtain ⟨a1, a2, a3, a4⟩ := hear_ok (id := ids p) h.ls (at_get hps) hv hh.lo (hh.hi hne)
  have el : ((stepW jobs p W).told p).length % 2 = 0 := by rw [et]; simp; omega
  have idl : (nameSt p (ids p) (W.told p ++ [some W.state])).2 = true → idleAt jobs p (stepW jobs p W) := fun z => by
    unfold idleAt
    rw [et] at el ⊢
    rw [hj, nd_name, if_neg (by omega), if_pos z]
    rfl
  refine ⟨el, ?_, fun hf => idl ?_⟩
  · by_cases z : (nameSt p (ids p) (W.told p ++ [some W.state])).2 = true
    · exact .inl (idl z)
    · refine .inr ?_
      unfold Free
      rw [et, es, hst]
      rw [hst] at z
      exact a4 (by simpa using z)
  · rw [hst]
    unfold Free at hf
    unfold hearName
    simp only [hf, if_false]
theorem name_even {n : Nat} {ids : Nat → Int} {W : Wld} {jobs : List Job} (h : NWld n ids W) {p : Nat} (hp : p < n) (hj : jAt jobs p = .name (ids p)) (ho : (W.told p).length % 2 = 0) (hi : ¬ idleAt jobs p W) :
    ((stepW jobs p W).told p).length % 2 = 1 ∧ (Free p (ids p) W → Free p (ids p) (stepW jobs p W)) := by
  have hpt : p < W.tolds.length := by rw [h.lt]; exact hp
  have hk : ¬ (nameSt p (ids p) (W.told p)).2 = true := fun z => hi (by
    unfold idleAt
    rw [hj, nd_name, if_neg (by omega), if_pos z]
    rfl)
  have es : stepW jobs p W = ⟨W.state.set p (.nm (ids p) (nameSt p (ids p) (W.told p)).1), W.tolds.set p (W.told p ++ [none])⟩ := by
    unfold stepW
    show (match nextDeed p (jAt jobs p) (W.told p) with | .idle => W | .look => _ | .put v => _) = _
    rw [hj, nd_name, if_neg (by omega), if_neg hk]
  have et : (stepW jobs p W).told p = W.told p ++ [none] := by rw [es, Wld.told_set hpt, if_pos rfl]
  refine ⟨by rw [et]; simp; omega, fun hf => ?_⟩
  unfold Free at hf ⊢
  rw [et, es, nameSt_put _ _ _ ho]
  show _ ∉ (others p (W.state.set p _)).map Val.num
  rw [others_put]
  exact hf
theorem names_alone {ids : Nat → Int} {W : Wld} {jobs : List Job} (hW : NWld jobs.length ids W) (hjs : ∀ p, p < jobs.length → jAt jobs p = .name (ids p)) {p : Nat} (hp : p < jobs.length) : idleAt jobs p (runW jobs p 60 W) := by
  have hj := hjs p hp
  have st : ∀ k, NWld jobs.length ids (runW jobs p k W) := by
    intro k
    induction k with
    | zero => exact hW
    | succ k ih => exact ih.step hp hj
  have sub : ∀ k V, NWld jobs.length ids V → idleAt jobs p V → idleAt jobs p (runW jobs p k V) := fun k V _ hi => by rw [idle_run hi k]; exact hi
  have one : ∀ V, NWld jobs.length ids V → (V.told p).length % 2 = 1 → Free p (ids p) V → idleAt jobs p (stepW jobs p V) := fun V hV ho hf => (name_odd hV hp hj ho).2.2 hf
  have two : ∀ V, NWld jobs.length ids V → (V.told p).length % 2 = 0 → Free p (ids p) V → idleAt jobs p (runW jobs p 2 V) := fun V hV he hf => by
    by_cases hi : idleAt jobs p V
    · exact sub 2 V hV hi
    · obtain ⟨h1, h2⟩ := name_even hV hp hj he hi
      exact one _ (hV.step hp hj) h1 (h2 hf)
  have three : ∀ V, NWld jobs.length ids V → (V.told p).length % 2 = 1 → idleAt jobs p (runW jobs p 2 (stepW jobs p V)) := fun V hV ho => by
    obtain ⟨h1, h2, _⟩ := name_odd hV hp hj ho
    have hV' : NWld jobs.length ids (stepW jobs p V) := hV.step hp hj
    rcases h2 with h2 | h2
    · exact sub 2 _ hV' h2
    · exact two _ hV' h1 h2
  have shift : ∀ k V, runW jobs p k (stepW jobs p V) = runW jobs p (k + 1) V := by
    intro k
    induction k with
    | zero => intro V; rfl
    | succ k ih =>
      intro V
      show stepW jobs p (runW jobs p k (stepW jobs p V)) = _
      rw [ih]
      rfl
  have four : idleAt jobs p (runW jobs p 4 W) := by
    by_cases ho : (W.told p).length % 2 = 1
    · have := three W hW ho
      rw [shift] at this
      show idleAt jobs p (stepW jobs p (runW jobs p 3 W))
      rw [idle_step this]
      exact this
    · by_cases hi : idleAt jobs p W
      · exact sub 4 W hW hi
      · obtain ⟨h1, _⟩ := name_even hW hp hj (by omega) hi
        have := three _ (hW.step hp hj) h1
        rw [shift, shift] at this
        exact this
  have add : ∀ a, runW jobs p (a + 4) W = runW jobs p a (runW jobs p 4 W) := by
    intro a
    induction a with
    | zero => rw [Nat.zero_add]; rfl
    | succ a ih =>
      rw [show a + 1 + 4 = (a + 4) + 1 by omega]
      show stepW jobs p (runW jobs p (a + 4) W) = stepW jobs p (runW jobs p a (runW jobs p 4 W))
      rw [ih]
  have := sub 56 _ (st 4) four
  rw [← add] at this
  exact this
def Job.isLeast : Job → Bool
  | .least _ _ => true
  | _ => false
theorem WInv.alone {jobs : List Job} {W : Wld} (h : WInv jobs W) (hn : jobs.length ≤ 100) {p : Nat} (hp : p < jobs.length) (hl : (jAt jobs p).isLeast = false) : idleAt jobs p (runW jobs p 60 W) := by
  have h' := h.run hn hp 60
  have hr := run_len h hn hp 60
  cases h with
  | sums h w =>
    rcases hr with hr | hr
    · exact hr
    · obtain ⟨items, e, h8, _⟩ := h p hp
      have pr := h'.pre hp
      rw [e] at pr
      obtain ⟨_, p2, _⟩ := pr
      omega
  | names h w =>
    refine names_alone w (fun q hq => ?_) hp
    obtain ⟨x, e, _⟩ := h q hq
    simp only [e, Job.idn]
  | leasts wt h1 h2 h A w =>
    obtain ⟨x, e, _⟩ := h p hp
    rw [e] at hl
    cases hl
  | closers r h1 h2 h lo hi hn' hl' hh w =>
    rcases hr with hr | hr
    · exact hr
    · obtain ⟨x, e, b⟩ := h p hp
      have pr := h'.pre hp
      rw [e] at pr
      obtain ⟨_, _, p3, _⟩ := pr
      omega
end My
namespace My

/-- what the law asks of the answers -/
inductive Fit (jobs : List Job) (ans : List (Option Ans)) (there : Int) : Prop
  | names (h : ∀ j ∈ jobs, ∃ i, j = .name i) (ks : List Int) (e : ans.filterMap id = ks.map .num) (nd : ks.Nodup) (b : ∀ k ∈ ks, 1 ≤ k ∧ k ≤ 2 * there - 1)
  | leasts (w : Nat) (h : ∀ j ∈ jobs, ∃ m, j = .least m w) (ks : List Int) (e : ans.filterMap id = ks.map .num) (sub : ∀ k ∈ ks, k ∈ jobs.map Job.nu) (few : ∀ U : List Int, U.Nodup → (∀ u ∈ U, u ∈ ks) → (U.length : Int) ≤ (jobs.length : Int) - (w : Int) + 1)
  | closers (r : Nat) (r6 : r ≤ 6) (h : ∀ j ∈ jobs, ∃ m, j = .closer m r) (lo hi : Int) (lm : lo ∈ jobs.map Job.nu) (ll : ∀ y ∈ jobs.map Job.nu, lo ≤ y) (hm : hi ∈ jobs.map Job.nu) (hl : ∀ y ∈ jobs.map Job.nu, y ≤ hi) (bl : Bd lo) (bh : Bd hi)
      (xs : List Fr) (e : ans.filterMap id = xs.map .frac) (ok : ∀ x ∈ xs, OkF r x) (rng : ∀ x ∈ xs, 64 * lo ≤ scl x ∧ scl x ≤ 64 * hi) (pair : ∀ x ∈ xs, ∀ y ∈ xs, (2 : Int) ^ r * (scl x - scl y) ≤ 64 * (hi - lo))
def answers (jobs : List Job) (W : Wld) : List (Option Ans) := (List.range jobs.length).map fun p => answer p (jAt jobs p) (W.told p)
theorem fm_congr' {α β : Type} {f g : α → Option β} : ∀ {l : List α}, (∀ x ∈ l, f x = g x) → l.filterMap f = l.filterMap g
  | [], _ => rfl
  | a :: r, h => by
    rw [List.filterMap_cons, List.filterMap_cons, h a List.mem_cons_self, fm_congr' fun x hx => h x (List.mem_cons_of_mem _ hx)]
theorem fm_some {α β : Type} {f : Nat → Option β} {g : α → β} {l : List Nat} (h : ∀ p ∈ l, ∀ b, f p = some b → ∃ a, b = g a) : ∃ xs : List α, (l.map f).filterMap id = xs.map g ∧ ∀ x ∈ xs, ∃ p ∈ l, f p = some (g x) := by
  induction l with
  | nil => exact ⟨[], rfl, by simp⟩
  | cons p l ih =>
    obtain ⟨xs, e, m⟩ := ih fun q hq => h q (List.mem_cons_of_mem _ hq)
    cases hf : f p with
    | none =>
      refine ⟨xs, ?_, fun x hx => ?_⟩
      · rw [List.map_cons, hf, List.filterMap_cons]
        exact e
      · obtain ⟨q, hq, e2⟩ := m x hx
        exact ⟨q, List.mem_cons_of_mem _ hq, e2⟩
    | some b =>
      obtain ⟨a, rfl⟩ := h p List.mem_cons_self b hf
      refine ⟨a :: xs, ?_, fun x hx => ?_⟩
      · rw [List.map_cons, hf, List.filterMap_cons, List.map_cons, ← e]
        rfl
      · rcases List.mem_cons.mp hx with rfl | hx
        · exact ⟨p, List.mem_cons_self, hf⟩
        · obtain ⟨q, hq, e2⟩ := m x hx
          exact ⟨q, List.mem_cons_of_mem _ hq, e2⟩
theorem jAt_ex {jobs : List Job} {P : Job → Prop} (h : ∀ p, p < jobs.length → P (jAt jobs p)) : ∀ j ∈ jobs, P j := fun j hj => by
  obtain ⟨i, hi⟩ := List.getElem?_of_mem hj
  have hl := (List.getElem?_eq_some_iff.mp hi).1
  have := h i hl
  unfold jAt at this
  rw [List.getD_eq_getElem?_getD, hi] at this
  exact this
theorem mem_nu {jobs : List Job} {p : Nat} (hp : p < jobs.length) : (jAt jobs p).nu ∈ jobs.map Job.nu := List.mem_map.mpr ⟨_, jAt_mem hp, rfl⟩
theorem all_nu {jobs : List Job} {P : Int → Prop} (h : ∀ p, p < jobs.length → P (jAt jobs p).nu) : ∀ y ∈ jobs.map Job.nu, P y := fun y hy => by
  obtain ⟨j, hj, rfl⟩ := List.mem_map.mp hy
  exact jAt_ex (P := fun j => P j.nu) h j hj
theorem ans_idle {own : Nat} {job : Job} {told : Tld} {a : Ans} (h : answer own job told = some a) : (nextDeed own job told).isIdle = true := by
  unfold answer at h
  split at h
  · assumption
  · cases h
theorem WInv.fit {jobs : List Job} {W : Wld} (h : WInv jobs W) (hs : ∀ p, p < jobs.length → ∀ items, jAt jobs p ≠ .sums items) (h0 : 0 < jobs.length) : Fit jobs (answers jobs W) (nz W.state : Int) := by
  cases h with
  | sums h w =>
    obtain ⟨x, e, _⟩ := h 0 h0
    exact absurd e (hs 0 h0 x)
  | names h w =>
    have an : ∀ p, p < jobs.length → ∀ a, answer p (jAt jobs p) (W.told p) = some a → a = .num (nameSt p (jAt jobs p).idn (W.told p)).1 ∧ (nameSt p (jAt jobs p).idn (W.told p)).2 = true ∧ W.told p ≠ [] := by
      intro p hp a ha
      have hi := ans_idle ha
      obtain ⟨x, e, _⟩ := h p hp
      rw [e] at ha hi ⊢
      show _ = Ans.num (nameSt p x (W.told p)).1 ∧ (nameSt p x (W.told p)).2 = true ∧ _
      have hk : (nameSt p x (W.told p)).2 = true := by
        rw [nd_name] at hi
        split at hi
        · cases hi
        · split at hi
          · assumption
          · cases hi
      refine ⟨?_, hk, ?_⟩
      · unfold answer at ha
        rw [if_pos hi] at ha
        exact (Option.some.inj ha).symm
      · intro z
        rw [z] at hk
        simp [nameSt, odds] at hk
    have e : (answers jobs W).filterMap id = ((List.range jobs.length).filterMap fun p => if (nextDeed p (jAt jobs p) (W.told p)).isIdle then some (nameSt p (jAt jobs p).idn (W.told p)).1 else none).map Ans.num := by
      unfold answers
      rw [List.filterMap_map, List.map_filterMap]
      apply fm_congr'
      intro p hp
      have hp' := List.mem_range.mp hp
      obtain ⟨x, ex, _⟩ := h p hp'
      show answer p (jAt jobs p) (W.told p) = Option.map Ans.num (if (nextDeed p (jAt jobs p) (W.told p)).isIdle then some (nameSt p (jAt jobs p).idn (W.told p)).1 else none)
      rw [ex]
      unfold answer
      split <;> rfl
    have mem : ∀ k ∈ ((List.range jobs.length).filterMap fun p => if (nextDeed p (jAt jobs p) (W.told p)).isIdle then some (nameSt p (jAt jobs p).idn (W.told p)).1 else none), ∃ p, p < jobs.length ∧ k = (nameSt p (jAt jobs p).idn (W.told p)).1 ∧ W.told p ≠ [] := by
      intro k hk
      obtain ⟨p, hp, e2⟩ := List.mem_filterMap.mp hk
      have hp' := List.mem_range.mp hp
      split at e2
      · rename_i hi
        have : answer p (jAt jobs p) (W.told p) = some (.num (nameSt p (jAt jobs p).idn (W.told p)).1) := by
          obtain ⟨x, ex, _⟩ := h p hp'
          rw [ex] at hi ⊢
          unfold answer
          rw [if_pos hi]
          rfl
        exact ⟨p, hp', (Option.some.inj e2).symm, (an p hp' _ this).2.2⟩
      · cases e2
    refine .names (jAt_ex fun p hp => by obtain ⟨x, e, _⟩ := h p hp; exact ⟨x, e⟩) _ e ?_ fun k hk => ?_
    · unfold List.Nodup
      rw [List.pairwise_filterMap]
      refine List.Pairwise.imp_of_mem (R := fun a b => a < b) (fun {p q} hp hq hpq b hb b' hb' => ?_) List.pairwise_lt_range
      have hp' := List.mem_range.mp hp
      have hq' := List.mem_range.mp hq
      split at hb
      · rename_i i1
        split at hb'
        · rename_i i2
          have k1 : (nameSt p (jAt jobs p).idn (W.told p)).2 = true := by
            obtain ⟨x, ex, _⟩ := h p hp'
            rw [ex, nd_name] at i1
            rw [ex]
            show (nameSt p x (W.told p)).2 = true
            split at i1
            · cases i1
            · split at i1
              · assumption
              · cases i1
          have k2 : (nameSt q (jAt jobs q).idn (W.told q)).2 = true := by
            obtain ⟨x, ex, _⟩ := h q hq'
            rw [ex, nd_name] at i2
            rw [ex]
            show (nameSt q x (W.told q)).2 = true
            split at i2
            · cases i2
            · split at i2
              · assumption
              · cases i2
          have := w.uniq p q hp' hq' (by omega) k1 k2
          rw [← Option.some.inj hb, ← Option.some.inj hb']
          exact this
        · cases hb'
      · cases hb
    · obtain ⟨p, hp, rfl, hne⟩ := mem k hk
      exact ⟨(w.hand p hp).lo, (w.hand p hp).hi hne⟩
  | leasts wt h1 h2 h A w =>
    have an : ∀ p, p < jobs.length → ∀ a, answer p (jAt jobs p) (W.told p) = some a → ∃ k, a = .num k ∧ k ∈ A := by
      intro p hp a ha
      have hi := ans_idle ha
      obtain ⟨x, e, _⟩ := h p hp
      rw [e] at ha hi
      have ne : there wt (W.told p) ≠ [] := by
        intro z
        rw [nd_least, if_pos z] at hi
        split at hi <;> cases hi
      unfold answer at ha
      rw [if_pos hi] at ha
      exact ⟨_, (Option.some.inj ha).symm, w.ans p hp ne⟩
    obtain ⟨ks, e, m⟩ := fm_some (g := Ans.num) (l := List.range jobs.length) (f := fun p => answer p (jAt jobs p) (W.told p)) fun p hp b hb => by
      obtain ⟨k, e, _⟩ := an p (List.mem_range.mp hp) b hb
      exact ⟨k, e⟩
    have mA : ∀ k ∈ ks, k ∈ A := fun k hk => by
      obtain ⟨p, hp, e2⟩ := m k hk
      obtain ⟨k', e3, hk'⟩ := an p (List.mem_range.mp hp) _ e2
      cases e3
      exact hk'
    refine .leasts wt (jAt_ex fun p hp => by obtain ⟨x, e, _⟩ := h p hp; exact ⟨x, e⟩) ks e (fun k hk => ?_) fun U hU hs => ?_
    · obtain ⟨p, hp, e2⟩ := w.sub k (mA k hk)
      rw [e2]
      exact mem_nu hp
    · have l1 := hU.length_le_of_subset (l₂ := A) fun u hu => mA u (hs u hu)
      have l2 := w.few
      have l3 := nz_le W.state
      have l4 := w.ls
      omega
  | closers r h1 h2 h lo hi hn hl hh w =>
    have bd : ∀ p, p < jobs.length → Bd (jAt jobs p).nu := fun p hp => by
      obtain ⟨x, e, b⟩ := h p hp
      rw [e]
      exact b
    obtain ⟨pl, hpl, el⟩ := hl
    obtain ⟨ph, hph, eh⟩ := hh
    have an : ∀ p, p < jobs.length → ∀ a, answer p (jAt jobs p) (W.told p) = some a → ∃ x, a = .frac x ∧ (clSt p (jAt jobs p).nu (W.told p))[r]? = some x := by
      intro p hp a ha
      have hi := ans_idle ha
      have hd := w.hand p hp
      have hlen := hd.len
      have b := bd p hp
      obtain ⟨c1, c2⟩ := clSt_ok (own := p) hd.tok b.2 b.1 (by omega)
      obtain ⟨x, e, _⟩ := h p hp
      simp only [e, Job.nu] at c1 c2 ⊢
      rw [e] at ha hi
      have hr : r < (clSt p x (W.told p)).length := by
        rw [nd_closer] at hi
        split at hi
        · cases hi
        · split at hi
          · assumption
          · cases hi
      have hre : (clSt p x (W.told p)).length = r + 1 := by omega
      obtain ⟨y, hy⟩ : ∃ y, (clSt p x (W.told p))[r]? = some y := ⟨_, List.getElem?_eq_getElem hr⟩
      unfold answer at ha
      rw [if_pos hi] at ha
      have eg : (clSt p x (W.told p)).getLast?.getD (0, 1) = y := by rw [List.getLast?_eq_getElem?, hre, Nat.add_sub_cancel, hy]; rfl
      refine ⟨y, ?_, hy⟩
      have := (Option.some.inj ha).symm
      rw [eg] at this
      exact this
    obtain ⟨xs, e, m⟩ := fm_some (g := Ans.frac) (l := List.range jobs.length) (f := fun p => answer p (jAt jobs p) (W.told p)) fun p hp b hb => by
      obtain ⟨k, e, _⟩ := an p (List.mem_range.mp hp) b hb
      exact ⟨k, e⟩
    have mA : ∀ x ∈ xs, ∃ p, p < jobs.length ∧ (clSt p (jAt jobs p).nu (W.told p))[r]? = some x := fun k hk => by
      obtain ⟨p, hp, e2⟩ := m k hk
      obtain ⟨k', e3, hk'⟩ := an p (List.mem_range.mp hp) _ e2
      cases e3
      exact ⟨p, List.mem_range.mp hp, hk'⟩
    refine .closers r h2 (jAt_ex fun p hp => by obtain ⟨x, e, _⟩ := h p hp; exact ⟨x, e⟩) lo hi (by rw [← el]; exact mem_nu hpl) (all_nu fun p hp => (hn p hp).1) (by rw [← eh]; exact mem_nu hph) (all_nu fun p hp => (hn p hp).2)
      (by rw [← el]; exact bd pl hpl) (by rw [← eh]; exact bd ph hph) xs e (fun x hx => ?_) (fun x hx => ?_) fun x hx y hy => ?_
    · obtain ⟨p, hp, e⟩ := mA x hx
      have hd := w.hand p hp
      have hlen := hd.len
      have b := bd p hp
      exact (clSt_ok (own := p) hd.tok b.2 b.1 (by omega)).2 r x e
    · obtain ⟨p, hp, e⟩ := mA x hx
      exact (w.hand p hp).rng r x e
    · obtain ⟨p, hp, e⟩ := mA x hx
      obtain ⟨q, hq, e2⟩ := mA y hy
      exact w.pair p q hp hq r x y e e2
/-! what the fit asks, in whole numbers -/
theorem lessF_lo {r : Nat} {x : Fr} {lo : Int} (h : OkF r x) (b : Bd lo) (hl : 64 * lo ≤ scl x) : lessF x (lo, 1) = false := by
  obtain ⟨o, e⟩ := okF_whole b.2 b.1
  have := less_iff h o
  cases z : lessF x (lo, 1) with
  | false => rfl
  | true =>
    have := this.mp z
    omega
theorem lessF_hi {r : Nat} {x : Fr} {hi : Int} (h : OkF r x) (b : Bd hi) (hl : scl x ≤ 64 * hi) : lessF (hi, 1) x = false := by
  obtain ⟨o, e⟩ := okF_whole b.2 b.1
  have := less_iff o h
  cases z : lessF (hi, 1) x with
  | false => rfl
  | true =>
    have := this.mp z
    omega
theorem lessF_wide {r : Nat} {x y : Fr} {d : Int} (hx : OkF r x) (hy : OkF r y) (h : (2 : Int) ^ r * (scl x - scl y) ≤ 64 * d) : lessF (d, 2 ^ r) (x.1 * y.2 - y.1 * x.2, x.2 * y.2) = false := by
  unfold lessF
  rw [decide_eq_false_iff_not]
  show ¬ d * (x.2 * y.2) < (x.1 * y.2 - y.1 * x.2) * 2 ^ r
  unfold scl at h
  have p1 := hx.qpos
  have p2 := hy.qpos
  have e1 := hx.q
  have e2 := hy.q
  generalize 64 / x.2 = A at *
  generalize 64 / y.2 = B at *
  generalize (2 : Int) ^ r = R at *
  intro z
  have hp : 0 < A * B := Int.mul_pos p1 p2
  have := Int.mul_lt_mul_of_pos_right z hp
  have f1 : d * (x.2 * y.2) * (A * B) = 64 * (64 * d) := by grind
  have f2 : (x.1 * y.2 - y.1 * x.2) * R * (A * B) = 64 * (R * (x.1 * A - y.1 * B)) := by grind
  rw [f1, f2] at this
  omega
end My
/-! Rules of my own over the hand layer. -/
namespace My
open PySem PySem.Spec PyProof.Rows L2

/-! ### a def that is there, with its promise -/
def Ok (P : Program) (w : World) (K : PySem.W.Frag) (mg : Str → Option Value) (base : Heap) (k : Nat) (f : Addr) (ps : List Str) (sp : Sp) : Prop :=
  ∃ fd : FuncData, FnOk P w K mg base CX0 k f fd ps sp ∧ Binds K fd ps [] ∧ PySem.W.keepIn K (.ref f) = true
section
variable {X : Cx} {k : Nat} {f C : Addr} {ps : List Str} {sp : Sp} {x m : Str} {p pos apos : Pos} {e o : Expr} {es : List Expr} {ta : TE} {t : TA}
theorem pe_ok (O : Ok X.prog X.w X.K X.mg X.base k f ps sp) (hr : Room k X.A) (hm : X.mg x = some (.ref f)) (ha : PA X (e :: es) t) (hg : Gl X x := by rfl)
    (hdb : (x == ("__debug__" : Str)) = false := by decide) (he : starEach (e :: es) X.env = (false, eval e X.env) :: starEach es X.env := by rfl) (hpl : (backTo pos (starEach es X.env)).any (·.1) = false := by rfl) :
    PE X (.Call (.Name x p) (e :: es) [] pos) (tCall sp [] E0 t) := by
  obtain ⟨fd, G, b, kp⟩ := O
  exact pe_call G hr hg hm kp b .nil pass0 ha hdb he hpl
theorem pe_okm {pl : Sem Bool} (O : Ok X.prog X.w X.K X.mg X.base k f ps sp) (hr : Room k X.A) (c : Cls X.K C) (hm : Meth X.K C m f) (he : PE X o ta) (ha : PA X (e :: es) t)
    (hst : starEach (e :: es) X.env = (false, eval e X.env) :: starEach es X.env := by rfl) (hpl : (backTo pos (starEach es X.env)).any (·.1) = false := by rfl)
    (ht : eval (.Call (.Attribute o m apos) (e :: es) [] pos) X.env = (do
      let r ← eval o X.env
      standAt apos.atName
      let (g, fst) ← holding [r] (getMethod r m pl)
      callWith pos g fst (backTo pos (starEach (e :: es) X.env)) (backToKw pos (keywordEach [] X.env))) := by rfl) :
    PE X (.Call (.Attribute o m apos) (e :: es) [] pos) (tMeth C m sp [] E0 ta t) := by
  obtain ⟨fd, G, b, kp⟩ := O
  exact pe_meth he c hm G hr b .nil pass0 ha hst hpl ht
theorem pe_okm0 {pl : Sem Bool} (O : Ok X.prog X.w X.K X.mg X.base k f ps sp) (hr : Room k X.A) (c : Cls X.K C) (hm : Meth X.K C m f) (he : PE X o ta)
    (ht : eval (.Call (.Attribute o m apos) [] [] pos) X.env = (do
      let r ← eval o X.env
      standAt apos.atName
      let (g, fst) ← holding [r] (getMethod r m pl)
      callWith pos g fst (backTo pos (starEach [] X.env)) (backToKw pos (keywordEach [] X.env))) := by rfl) :
    PE X (.Call (.Attribute o m apos) [] [] pos) (tMeth C m sp [] E0 ta tNil) := by
  obtain ⟨fd, G, b, kp⟩ := O
  exact pe_meth0 he c hm G hr b .nil pass0 ht
theorem pe_okmk (M : Mk X.K C f) (O : Ok X.prog X.w X.K X.mg X.base k f ps sp) (hr : Room (k + 1) X.A) (hm : X.mg x = some (.ref C)) (ha : PA X (e :: es) t) (hg : Gl X x := by rfl)
    (hdb : (x == ("__debug__" : Str)) = false := by decide) (he : starEach (e :: es) X.env = (false, eval e X.env) :: starEach es X.env := by rfl) (hpl : (backTo pos (starEach es X.env)).any (·.1) = false := by rfl) :
    PE X (.Call (.Name x p) (e :: es) [] pos) (tMake C sp [] E0 t) := by
  obtain ⟨fd, G, b, kp⟩ := O
  exact pe_make M G hr hg hm b .nil pass0 ha hdb he hpl
/-- two readings of one expression -/
theorem pe_alt {te te' : TE} (h : PE X e te) (h' : PE X e te') : PE X e (fun σ H Q => te σ H Q ∨ te' σ H Q) :=
  ⟨fun pins s σ H Q I q => q.elim (h.run pins s σ H Q I) (h'.run pins s σ H Q I)⟩

/-! ### C.m(..) where m is a plain def of the class C -/
/-- C.m read off the class is the def f itself -/
structure ClsFn (K : PySem.W.Frag) (C : Addr) (m : Str) (f : Addr) : Prop where
  rd : PySem.W.readsIn K C (.type "type") = true
  ga : PySem.W.specialIn K (.ref C) "__getattribute__" = some (some (.builtin "type.__getattribute__"))
  at_ : PySem.W.findCls K (.ref C) (.type "type") m = some (.val (.ref f))
theorem pe_clsm {pl : Sem Bool} {n : Str} (O : Ok X.prog X.w X.K X.mg X.base k f ps sp) (hr : Room k X.A) (c : ClsFn X.K C m f) (hm : X.mg n = some (.ref C)) (ha : PA X (e :: es) t) (hg : Gl X n := by rfl)
    (hdb : (n == ("__debug__" : Str)) = false := by decide)
    (hst : starEach (e :: es) X.env = (false, eval e X.env) :: starEach es X.env := by rfl) (hpl : (backTo pos (starEach es X.env)).any (·.1) = false := by rfl)
    (ht : eval (.Call (.Attribute (.Name n p) m apos) (e :: es) [] pos) X.env = (do
      let r ← eval (.Name n p) X.env
      standAt apos.atName
      let (g, fst) ← holding [r] (getMethod r m pl)
      callWith pos g fst (backTo pos (starEach (e :: es) X.env)) (backToKw pos (keywordEach [] X.env))) := by rfl) :
    PE X (.Call (.Attribute (.Name n p) m apos) (e :: es) [] pos) (tCall sp [] E0 t) := by
  obtain ⟨fd, G, b, kp⟩ := O
  refine ⟨fun pins s σ H Q I q => ?_⟩
  refine PySem.W.methodCall_KW (pl := pl) (ld_glob I hg hm ?_ hdb) ht
  refine PySem.W.method_cls I.kIn c.ga (ClX.getcval_ok (mc := .type "type") (v := .ref f) (u := .ref f) I ⟨c.rd, c.ga⟩ ⟨c.at_, rfl⟩ fun s1 I1 => ?_)
  refine PySem.W.callWith_K (first := []) (h₀ := X.base) I1.ok.mod.kin kp (thn (ha.run pos pins s1 σ H _ I1 q) fun us s2 ⟨vs, H2, I2, r, q2⟩ => ⟨I2.kIn, ?_⟩) hst hpl
  exact run_fn G hr b .nil pass0 I2 r q2
end

/-! ### t[1::2] of a tuple -/
/-- the items at the odd places -/
def oddsV {α : Type} : List α → List α
  | [] => []
  | [_] => []
  | _ :: b :: r => b :: oddsV r
theorem vals_odds : ∀ {xs : List V} {us : List Value}, Vals xs us → Vals (oddsV xs) (oddsV us)
  | _, _, .nil => .nil
  | _, _, .cons _ .nil => .nil
  | _, _, .cons _ (.cons r t) => .cons r (vals_odds t)
theorem oddsV_length {α : Type} : ∀ l : List α, (oddsV l).length ≤ l.length
  | [] => by simp [oddsV]
  | [_] => by simp [oddsV]
  | _ :: b :: r => by
    have ih := oddsV_length r
    simp only [oddsV, List.length_cons]
    omega
theorem fm_congr {α β : Type} {f g : α → Option β} : ∀ {l : List α}, (∀ x ∈ l, f x = g x) → l.filterMap f = l.filterMap g
  | [], _ => rfl
  | a :: r, h => by
    rw [List.filterMap_cons, List.filterMap_cons, h a List.mem_cons_self, fm_congr fun x hx => h x (List.mem_cons_of_mem _ hx)]
theorem odds_pick {α : Type} : ∀ (l : List α), (List.range (l.length / 2)).filterMap (fun m => l[1 + 2 * m]?) = oddsV l
  | [] => by simp [oddsV]
  | [_] => by simp [oddsV]
  | a :: b :: r => by
    have ih := odds_pick r
    have e : (a :: b :: r).length / 2 = r.length / 2 + 1 := by simp only [List.length_cons]; omega
    rw [e, List.range_succ_eq_map, List.filterMap_cons]
    have e1 : (a :: b :: r)[1 + 2 * 0]? = some b := rfl
    rw [e1]
    show b :: List.filterMap (fun m => (a :: b :: r)[1 + 2 * m]?) (List.map Nat.succ (List.range (r.length / 2))) = b :: oddsV r
    rw [List.filterMap_map, ← ih]
    congr 1
section
variable {prog : Program} {w : World} {A : Around} {E : Value → Shared → Prop} {s : Shared}
theorem adj_odd (n : Nat) : Builtin.Slice.sliceAdjust (some 1) none 2 (n : Int) = (((min 1 n : Nat) : Int), (n : Int)) := by
  unfold Builtin.Slice.sliceAdjust
  have h1 : ¬ ((2 : Int) < 0) := by omega
  simp only [h1, if_false]
  refine Prod.ext ?_ ?_
  · show (if (1 : Int) < 0 then max (1 + (n : Int)) 0 else min 1 (n : Int)) = _
    rw [if_neg (by omega)]
    omega
  · rfl
theorem places_odd (n : Nat) : Builtin.Slice.slicePlaces ((min 1 n : Nat) : Int) (n : Int) 2 = n / 2 := by
  unfold Builtin.Slice.slicePlaces
  have h1 : (2 : Int) > 0 := by omega
  simp only [h1, if_true]
  split <;> omega
theorem applied_odd {sl : Addr} {v1 v2 v3 : Value} {n : Nat} {Q : Int × Int × Nat → Shared → Prop} (hs : s.heap.IsSliceOf sl v1 v2 v3) (p1 : IsPart v1 (some 1)) (p2 : IsPart v2 none) (p3 : IsPart v3 (some 2))
    (h : Q (((min 1 n : Nat) : Int), 2, n / 2) s) : wpAny (model prog w) A (Builtin.Slice.sliceApplied (.ref sl) (pure (n : Int))) Q E s := by
  obtain ⟨ob, hob, hcb, hdb⟩ := id hs
  unfold Builtin.Slice.sliceApplied Builtin.Slice.sliceFields
  refine wpAny_bind (wpAny_bind (wpAny_field hob hdb (x := v1) rfl (wpAny_bind (wpAny_field hob hdb (x := v2) rfl (wpAny_bind (wpAny_field hob hdb (x := v3) rfl (wpAny_pure ?_)))))))
  refine wpAny_bind (HT.slicePart_ p3 ?_)
  show wpAny _ _ (if ((2 : Int) == 0) = true then _ else _) _ _ s
  rw [if_neg (by decide)]
  refine wpAny_bind (HT.slicePart_ p1 (wpAny_bind (HT.slicePart_ p2 (wpAny_bind (wpAny_pure ?_)))))
  show wpAny _ _ (match Builtin.Slice.sliceAdjust (some 1) none 2 (n : Int) with | (a, b) => pure (a, (2 : Int), Builtin.Slice.slicePlaces a b 2)) _ _ s
  rw [adj_odd n]
  show wpAny _ _ (pure (((min 1 n : Nat) : Int), (2 : Int), Builtin.Slice.slicePlaces ((min 1 n : Nat) : Int) (n : Int) 2)) _ _ s
  rw [places_odd]
  exact wpAny_pure h
theorem getItem_odd {t sl : Addr} {its : Array Value} {v1 v2 v3 : Value} {Q : Value → Shared → Prop} (ht : IsTup s.heap t its) (hs : s.heap.IsSliceOf sl v1 v2 v3) (p1 : IsPart v1 (some 1)) (p2 : IsPart v2 none) (p3 : IsPart v3 (some 2))
    (h : Q (.ref s.heap.objs.size) { s with heap := s.heap.push { cls := .type "tuple", data := .seq (oddsV its.toList).toArray } })
    (hz : its.size ≤ sizeLine) : wpAny (model prog w) A (getItem (.ref t) (.ref sl)) Q E s := by
  have hok : sizeOk (.seq (oddsV its.toList).toArray) := by
    show (oddsV its.toList).toArray.size ≤ sizeLine
    have hh := oddsV_length its.toList
    rw [Array.length_toList] at hh
    rw [List.size_toArray]
    exact Nat.le_trans hh hz
  obtain ⟨ob, hob, hcb, hdb⟩ := id hs
  have hTy : s.TypeIs (.ref sl) "slice" := ⟨ob, hob, hcb⟩
  unfold getItem
  try with_reducible refine wpAny_holding ?_
  first | (refine wpAny_bind (wpAny_pure ?_)) | skip
  refine wpAny_bind (wpAny_sequenceKey (ht.typeIs) (by decide) ?_)
  refine wpAny_bind (wpAny_callSpecial?_slot (name := Str.ofString "__getitem__") (ht.typeIs) PyProof.Rows.slot_tuple_getitem
    (wpAny_call_entry PyProof.Rows.slot_tuple_getitem (ht.typeIs) entry_tuple_getitem ?_ (args_tuple_getitem _ _)))
  show wpAny _ _ (Builtin.Tuple.tupleItemsOf (Value.ref t) >>= _) _ _ s
  refine wpAny_bind (tupleItemsOf_ ht ?_)
  refine wpAny_bind (wpAny_typeOf hTy ?_)
  rw [if_pos (by decide)]
  refine wpAny_bind (applied_odd hs p1 p2 p3 ?_)
  have hno : ¬ ((((min 1 its.size : Nat) : Int) == 0 && (2 : Int) == 1 && (its.size / 2) == its.size) = true) := by
    intro q
    rw [Bool.and_eq_true, Bool.and_eq_true] at q
    exact absurd (eq_of_beq q.1.2) (by decide)
  show wpAny _ _ (if (((min 1 its.size : Nat) : Int) == 0 && (2 : Int) == 1 && (its.size / 2) == its.size) = true then _ else _) _ _ s
  rw [if_neg hno]
  have e : (List.range (its.size / 2)).filterMap (fun (m : Nat) => its[(((min 1 its.size : Nat) : Int) + (m : Int) * 2).toNat]?) = oddsV its.toList := by
    rw [← odds_pick, Array.length_toList]
    refine fm_congr fun m hm => ?_
    have hm' := List.mem_range.mp hm
    have e2 : (((min 1 its.size : Nat) : Int) + (m : Int) * 2).toNat = 1 + 2 * m := by omega
    rw [e2, Array.getElem?_toList]
  rw [e]
  first
    | exact wpAny_bind (m := Builtin.Tuple.tupleExact _) (wpAny_newObj_type (wpAny_pure ⟨_, rfl, wpAny_pure h⟩) hok)
    | exact wpAny_bind (m := Builtin.Tuple.tupleExact _) (wpAny_newObj_type (wpAny_bind (wpAny_pure (wpAny_pure ⟨_, rfl, wpAny_pure h⟩))) hok)
    | exact wpAny_bind (wpAny_bind (m := Builtin.Tuple.tupleExact _) (wpAny_newObj_type (wpAny_pure (wpAny_pure ⟨_, rfl, wpAny_pure h⟩)) hok))
    | exact wpAny_bind (wpAny_bind (m := Builtin.Tuple.tupleExact _) (wpAny_newObj_type (wpAny_pure ⟨_, rfl, wpAny_pure h⟩) hok))
end
section
variable {X : Cx} {e : Expr} {te : TE} {p1 p2 p3 pos : Pos} {k1 k2 : Nat}
def tOdd (K : PySem.W.Frag) (te : TE) : TE := fun σ H Q => te σ H fun x H1 => ∃ a xs, x = .ref a ∧ SqT K H1 a xs ∧ ∀ p, H1 p = none → Q (.ref p) (upd H1 p (.tup (oddsV xs)))
theorem pe_odd {j1 j2} (he : PE X e te) : PE X (.Subscript e (.Slice (some (.Constant (.int 1) j1 p1)) none (some (.Constant (.int 2) j2 p2)) p3) pos) (tOdd X.K te) := by
  refine ⟨fun pins s σ H Q I q => ?_⟩
  refine Subscript_ (thn (he.run pins s σ H _ I q) fun v s1 ⟨x, H1, I1, r1, q1⟩ => ?_)
  obtain ⟨a, xs, ex, hx, q1⟩ := q1
  subst ex
  cases r1
  have h1 : PO X (some (.Constant (.int 1) j1 p1)) (tPart (tC (.int 1))) := po_some pe_int
  have h2 : PO X (some (.Constant (.int 2) j2 p2)) (tPart (tC (.int 2))) := po_some pe_int
  refine wpAny_Slice (thn (h1.run pins s1 σ H1 (fun o H2 => o = some 1 ∧ H2 = H1) I1 ⟨1, rfl, rfl, rfl⟩) fun v1 s2 ⟨o1, H2, I2, q1', e1, e2⟩ => ?_)
  subst e1 e2
  refine thn (po_none.run pins s2 σ H2 (fun o H3 => o = none ∧ H3 = H2) I2 ⟨rfl, rfl⟩) fun v2 s3 ⟨o2, H3, I3, q2', e3, e4⟩ => ?_
  subst e3 e4
  refine thn (h2.run pins s3 σ H3 (fun o H4 => o = some 2 ∧ H4 = H3) I3 ⟨2, rfl, rfl, rfl⟩) fun v3 s4 ⟨o3, H4, I4, q3', e5, e6⟩ => ?_
  subst e5 e6
  have I5 : Inv X pins σ H4 { s4 with heap := s4.heap.push { cls := .type "slice", data := .fields #[v1, v2, v3] } } := I4.kept (t' := s4.toks) fun b ob q => Heap.get?_push_of_some _ q
  obtain ⟨its, r, ht, hz⟩ := I5.tuple hx
  have hlen := r.length
  show wpAny (model X.prog X.w) X.A (subscriptTail e (.Slice (some (.Constant (.int 1) j1 p1)) none (some (.Constant (.int 2) j2 p2)) p3) (.ref a) (.ref s4.heap.objs.size)) (EP X pins σ Q) X.xe { s4 with heap := s4.heap.push { cls := .type "slice", data := .fields #[v1, v2, v3] } }
  refine tail_any (ops := [.ref a, .ref s4.heap.objs.size]) ht.typeIs PyProof.Rows.slot_tuple_getitem.lookup ?_ (by with_unfolding_all rfl)
  refine getItem_odd ht (Heap.IsSliceOf.new _ v1 v2 v3) q1' q2' q3' ?_ (by rw [List.size_toArray]; omega)
  refine ⟨.ref _, _, I5.laid (t' := s4.toks) (o := .tup (oddsV xs)) (fun b ob q => Heap.get?_push_of_some _ q) (Nat.le_refl _) ?_, rfl, q1 _ (I5.hok.fresh (Nat.le_refl _))⟩
  refine ⟨Nat.le_trans (oddsV_length xs) hz, _, vals_odds r, IsTup.new _ _⟩
end

/-! ### enumerate(t) of a tuple -/
theorem meets_enum_tup (t : Addr) (its : Array Value) (n : Nat) (dd : Option Addr) (sl : Array (Option Value)) :
    Meets (Builtin.«enumerate.__new__» ⟨[.type "enumerate", .ref t], []⟩) (fun _ R z => z.heap.get? t = some { cls := .type "tuple", dict := dd, data := .seq its n, slots := sl } ∧
      R (.ok (.ret (.ref (z.heap.push { cls := .type "tuple_iterator", data := .fields #[.ref t, .int 0 0] }).objs.size)))
        { z with heap := (z.heap.push { cls := .type "tuple_iterator", data := .fields #[.ref t, .int 0 0] }).push { cls := .type "enumerate", data := .fields #[.none, .bool false, .ref z.heap.objs.size, rawInt 0, .none, .none] } }) :=
  .of_wp fun P w A R z h => by
    obtain ⟨hp, gs, dr, tk, os⟩ := z
    obtain ⟨hl, h⟩ := h
    have hsub := sub_enumerate
    have hT : Heap.IsTuple (Shared.heap ⟨hp, gs, dr, tk, os⟩) t its := ⟨_, hl, rfl, n, rfl⟩
    wp_walk using AutoSeq1.wpAny_loadPart' hl
    refine wpAny_stack_any fun _ => wpAny_pure ?_
    split
    · rename_i c _ _ _ _ _
      cases (c == Value.type "enumerate")
      · wp_walk using AutoSeq1.wpAny_loadPart' hl, wpAny_pyIter_tuple hT
        exact ⟨_, rfl, h⟩
      · wp_walk using AutoSeq1.wpAny_loadPart' hl, wpAny_pyIter_tuple hT
        exact ⟨_, rfl, h⟩
    · wp_walk using AutoSeq1.wpAny_loadPart' hl, wpAny_pyIter_tuple hT
      exact ⟨_, rfl, h⟩
theorem call_enum_tup {prog : Program} {w : World} {A : Around} {E : Value → Shared → Prop} {s : Shared} {t : Addr} {its : Array Value} {Q : Value → Shared → Prop} (hT : s.heap.IsTuple t its)
    (h : ∀ h', IsEnum h' (s.heap.objs.size + 1) s.heap.objs.size 0 .none → h'.IsTupleIter s.heap.objs.size t 0 →
      (∀ b u, s.heap.get? b = some u → h'.get? b = some u) → Q (.ref (s.heap.objs.size + 1)) { s with heap := h' }) :
    wpAny (model prog w) A (call (.type "enumerate") [.ref t]) Q E s := by
  obtain ⟨⟨cc, dd, dt, sl⟩, hl, hc, n, hd⟩ := hT
  simp only at hc hd
  subst hc hd
  refine callType_new F.called_enumerate (by decide) (F.typeCall_enumerate_1 _) (F.newCall_enumerate_1 _) (fun ob => F.args_object_init_2 ob _) F.entry_enumerate_new
    (meets_enum_tup t its n dd sl) ⟨hl, ?_⟩
  have hz : (s.heap.push { cls := .type "tuple_iterator", data := .fields #[.ref t, .int 0 0] }).objs.size = s.heap.objs.size + 1 := Heap.size_push ..
  show _ ∧ _
  rw [hz]
  have he : IsEnum ((s.heap.push { cls := .type "tuple_iterator", data := .fields #[.ref t, .int 0 0] }).push
      { cls := .type "enumerate", data := .fields #[.none, .bool false, .ref s.heap.objs.size, rawInt 0, .none, .none] }) (s.heap.objs.size + 1) s.heap.objs.size 0 .none := by
    have q := Heap.get?_push_size (s.heap.push { cls := .type "tuple_iterator", data := .fields #[.ref t, .int 0 0] })
      (o := { cls := .type "enumerate", data := .fields #[.none, .bool false, .ref s.heap.objs.size, rawInt 0, .none, .none] }) rfl
    rw [hz] at q
    exact q
  exact ⟨⟨_, he, rfl⟩, h _ he ⟨_, Heap.get?_push_of_some _ (Heap.get?_push_size _ rfl), rfl, rfl⟩ fun b u x => Heap.get?_push_of_some _ (Heap.get?_push_of_some _ x)⟩
/-- the tuple at a, each item in a new pair -/
def ItEnumT (K : PySem.W.Frag) (a : Addr) : It :=
  ⟨fun i H => ∃ (xs : List V) (x : V), SqT K H a xs ∧ xs[i]? = some x, fun i H v H' => ∃ T x, v = .ref T ∧ H T = none ∧ H' = upd H T (.tup [.int (i : Nat), x]) ∧ ∀ xs, SqT K H a xs → xs[i]? = some x, fun i H => ∃ xs : List V, SqT K H a xs ∧ i = xs.length⟩
theorem turn_enumT {P : Program} {w : World} {K : PySem.W.Frag} {elts : List Expr} {kk : Nat} {tpos : Pos} (a e it : Addr) :
    Turn P w K (.Tuple elts kk tpos) (ItEnumT K a) [e, it] e (fun i h => (∃ old, IsEnum h e it ((i : Nat) : Int) old) ∧ h.IsTupleIter it a i ∧ e ≠ it) where
  mem := by simp
  obj := fun i h st b hb => by
    obtain ⟨⟨old, he⟩, ⟨u, hu, _, hd⟩, _⟩ := st
    have z : b = e ∨ b = it := by simpa using hb
    rcases z with z | z
    · subst z; exact ⟨_, he, fun v q => nomatch q⟩
    · subst z; exact ⟨u, hu, fun v q => by rw [hd] at q; cases q⟩
  keep := fun i h h' st k => ⟨⟨st.1.choose, k e (by simp) _ st.1.choose_spec⟩, st.2.1.at fun u q => k it (by simp) u q, st.2.2⟩
  item := by
    intro X hP hw hK hc i pins s σ H E I hf st hg
    subst hP hw hK
    obtain ⟨⟨old, he⟩, hit, hne⟩ := st
    obtain ⟨xs, x, hq, hx⟩ := hg
    obtain ⟨its, rv, p, _⟩ := I.tuple hq
    have hlt : i < its.toArray.size := by
      have h1 := (List.getElem?_eq_some_iff.mp hx).1
      rw [List.size_toArray, ← rv.length]
      exact h1
    have hel : e < s.heap.objs.size := Heap.lt_size he
    have hil : it < s.heap.objs.size := by
      obtain ⟨_, q, _⟩ := hit
      exact Heap.lt_size q
    have hai : a ≠ it := by
      rintro rfl
      obtain ⟨u1, q1, c1, _⟩ := hit
      obtain ⟨u2, q2, c2, _⟩ := p
      rw [q1] at q2
      cases q2
      rw [c1] at c2
      exact absurd c2 (by decide)
    have hae : e ≠ a := by
      rintro rfl
      obtain ⟨u2, q2, c2, _⟩ := p
      rw [he] at q2
      cases q2
      exact absurd (show Value.type "enumerate" = Value.type "tuple" from c2) (by decide)
    have D := Draws.tuple (prog := X.prog) (w := X.w) (A := X.A.in1) (by have := I.ok.hd hc; simpa using this) it a hai its.toArray
    refine wpAny_pyNext_enum_itemC (i := i) D he ⟨hit, p⟩ hlt hne (by simp only [List.mem_cons, List.not_mem_nil, or_false, not_or]; exact ⟨hne, hae⟩) fun y h' tk hy ho hs2 hT hsz hk => ?_
    refine ⟨_, rfl, wpAny_letOwnedTupleGo_enum (s := { s with heap := h', toks := tk + 1 }) ho fun h'' he' sb => ?_⟩
    obtain ⟨u, hu, ru⟩ := rv.get hx
    have eu : y = u := by
      have hy' : its[i]? = some y := by simpa using hy
      rw [hu] at hy'
      exact (Option.some.inj hy').symm
    subst eu
    have hT2 : h''.get? s.heap.objs.size = some { cls := .type "tuple", data := .seq #[.int i tk, y] } := (sb.2 _ (Nat.ne_of_gt hel)).trans hT
    have new : ObjOk X.prog X.w (upd H s.heap.objs.size (.tup [.int (i : Nat), x])) h'' s.heap.objs.size (.tup [.int (i : Nat), x]) :=
      ⟨(by show 2 ≤ sizeLine; decide), [.int i tk, y], .cons ⟨_, rfl⟩ (.cons ru .nil), ⟨_, hT2, rfl, _, rfl⟩⟩
    have I1 : Inv X pins σ (upd H s.heap.objs.size (.tup [.int (i : Nat), x])) { s with heap := h'', toks := tk + 1 } :=
      I.turnedNew (ch := [e, it]) (fun b ob hb q => (sb.2 b (fun z => hb (by simp [z]))).trans (hk b ob (fun z => hb (by simp [z])) (fun z => hb (by simp [z])) q)) hf (Nat.le_refl _) new
    refine ⟨.ref s.heap.objs.size, _, I1, rfl, ⟨_, x, rfl, I.hok.fresh (Nat.le_refl _), rfl, fun ys hy => by rw [I.tuple_inj hy hq]; exact hx⟩, ⟨⟨y, ?_⟩, hs2.1.at fun u q => (sb.2 it (Ne.symm hne)).trans q, hne⟩, fun b hb => ?_⟩
    · have e1 : ((i + 1 : Nat) : Int) = (i : Int) + 1 := by omega
      rw [e1]
      exact he'
    · have z : b = e ∨ b = it := by simpa using hb
      have hb' : b < s.heap.objs.size := by
        rcases z with z | z
        · rw [z]; exact hel
        · rw [z]; exact hil
      rw [upd_ne (Nat.ne_of_lt hb')]
      exact (hf b hb).1
  done := by
    intro X hP hw hK hc i pins s σ H E I hf st hg
    subst hP hw hK
    obtain ⟨⟨old, he⟩, hit, hne⟩ := st
    obtain ⟨xs, hq, hx⟩ := hg
    obtain ⟨its, rv, p, _⟩ := I.tuple hq
    obtain ⟨f0, f1, f2, f3, f4, f5⟩ := hf it (by simp)
    have hai : a ≠ it := by
      rintro rfl
      obtain ⟨u1, q1, c1, _⟩ := hit
      obtain ⟨u2, q2, c2, _⟩ := p
      rw [q1] at q2
      cases q2
      rw [c1] at c2
      exact absurd c2 (by decide)
    have hn : i = its.toArray.size := by rw [List.size_toArray, ← rv.length]; exact hx
    have D := Draws.tuple (prog := X.prog) (w := X.w) (A := X.A.in1) (by have := I.ok.hd hc; simpa using this) it a hai its.toArray
    exact wpAny_pyNext_enum_endD D he ⟨by rw [← hn]; exact hit, p⟩ fun h' eb => ⟨rfl, I.turned (t' := s.toks) (fun b o hb q => eb b o hb q) f0 f1 f3 f4 f5⟩
  self := fun A i s Q E st h => let ⟨⟨_, he⟩, _⟩ := st; wpAny_pyIter_enum he h
def iEnumT (K : PySem.W.Frag) (ta : TA) : TI := fun σ H R => ta σ H fun vs H1 => ∃ a xs, vs = [.ref a] ∧ SqT K H1 a xs ∧ R (ItEnumT K a) H1
theorem pi_enumT {X : Cx} {e : Expr} {ta : TA} {p pos tpos : Pos} {elts : List Expr} {kk : Nat} (hm : X.mg "enumerate" = none) (ha : PA X [e] ta) (hg : Gl X "enumerate" := by rfl) (hs : starEach [e] X.env = [(false, eval e X.env)] := by rfl) :
    PI X (.Tuple elts kk tpos) (.Call (.Name "enumerate" p) [e] [] pos) (iEnumT X.K ta) := by
  refine ⟨fun pins s σ H R I q => ?_⟩
  refine Call_ (ld_blt I hg hm boot_enumerate (PyProof.Rows.callWith_type1 (thn (ha.run pos pins s σ H _ I q) fun us s1 ⟨vs, H1, I1, r1, q1⟩ => ?_) hs rfl))
  obtain ⟨a, xs, ex, hq, q1⟩ := q1
  subst ex
  cases r1 with
  | cons r rr =>
    cases rr
    cases r
    obtain ⟨its, rv, p', _⟩ := I1.tuple hq
    refine call_enum_tup p' fun h' he hit hk => wpAny_pyIter_enum he ?_
    have I2 : Inv X pins σ H1 { s1 with heap := h' } := I1.kept (t' := s1.toks) hk
    refine ⟨s1.heap.objs.size + 1, [s1.heap.objs.size + 1, s1.heap.objs.size], _, _, H1, rfl, I2, turn_enumT a (s1.heap.objs.size + 1) s1.heap.objs.size, ⟨⟨.none, he⟩, hit, Nat.succ_ne_self _⟩, fun b hb => ?_, q1⟩
    have z : b = s1.heap.objs.size + 1 ∨ b = s1.heap.objs.size := by simpa using hb
    have hle : s1.heap.objs.size ≤ b := by
      rcases z with z | z
      · rw [z]; exact Nat.le_add_right _ _
      · rw [z]; exact Nat.le_refl _
    exact I1.fpOk hle (I1.hok.fresh hle)

/-! ### sum(t) of a tuple of ints -/
theorem sum_tup {prog : Program} {w : World} {A : Around} {E : Value → Shared → Prop} {s : Shared} {t : Addr} {its : List Value} {ns : List Int} {Q : Value → Shared → Prop} (hh : A.handled = none) (ht : s.heap.IsTuple t its.toArray) (hi : IntsAre its ns)
    (h : ∀ h' tk t', (∀ b u, s.heap.get? b = some u → h'.get? b = some u) → Q (.int ns.sum t') { s with heap := h', toks := tk }) : wpAny (model prog w) A (call (.builtin "sum") [.ref t]) Q E s := by
  obtain ⟨xs, e⟩ := hi.allInts.items
  have hn : numsOf (intItems xs).toList = ns := by rw [← e]; exact hi.numsOf
  rw [nums_intItems] at hn
  rw [e] at ht
  have hlt : t < s.heap.objs.size := by
    obtain ⟨_, q, _⟩ := ht
    exact Heap.lt_size q
  refine call_sum_walkG (wpAny_pyIter_tuple ht ?_)
  refine ⟨_, _, _, _, _, _, numAt xs, rfl, Walks.tuple (A := A.in1) hh s.heap.objs.size t (Nat.ne_of_lt hlt) (intItems xs), ⟨⟨_, Heap.get?_push_size _ rfl, rfl, rfl⟩, ht.push _⟩, fun b hb => ?_, (fun _ _ => intItems_at), fun h' tk t' hk => ?_⟩
  · show b < (s.heap.push _).objs.size
    rw [Heap.size_push]
    have z : b = s.heap.objs.size ∨ b = t := by simpa using hb
    rcases z with z | z
    · rw [z]; exact Nat.lt_succ_self _
    · rw [z]; exact Nat.lt_succ_of_lt hlt
  · have q := h h' tk t' fun b u x => hk b u (fun z => by
      have z' : b = s.heap.objs.size := by simpa using z
      exact absurd (z' ▸ Heap.lt_size x) (Nat.lt_irrefl _)) (Heap.get?_push_of_some _ x)
    rw [preSum_eq, List.take_of_length_le (by simp [intItems]), hn]
    exact q
def rSumT (K : PySem.W.Frag) : List V → Hp → VK → Prop := fun vs H Q => ∃ (a : Addr) (ns : List Int), vs = [V.ref a] ∧ SqT K H a (ns.map V.int) ∧ Q (.int ns.sum) H
theorem cr_sumT {X : Cx} (hc : X.calm = true) : CallR X (.builtin "sum") (rSumT X.K) := by
  intro pins s σ H vs us Q I r h
  obtain ⟨a, ns, rfl, hs, q⟩ := h
  obtain ⟨its, rv, ht, _⟩ := I.tuple hs
  rw [Vals.ref1 r]
  exact sum_tup (I.ok.hd hc) ht rv.ints fun h' tk t' hk => ⟨.int _, H, I.kept hk, ⟨_, rfl⟩, q⟩

/-! ### set(xs) of a list of ints -/
abbrev fset (w : World) : Obj := { cls := .type "set", dict := none, data := .set #[] 0 (.fresh 0 0 (!w.params.followText "set-order")) }
section
variable {P : Program} {w : World} {A : Around} {E : Value → Shared → Prop} {s : Shared}
set_option maxRecDepth 100000 in
set_option maxHeartbeats 6400000 in
theorem call_set_lstI {l : Addr} {items : Array Value} (ns : List Int) {Q : Value → Shared → Prop} (hh : A.handled = none) (hl : s.heap.IsList l items) (hit : IntsAre items.toList ns) (hb : ns.length + 1 < scanBound)
    (h : ∀ (g : Heap) (tk c : Nat), SetR w g s.heap.objs.size (fun j => decide (j ∈ ns)) c → c ≤ ns.length → (∀ b u, s.heap.get? b = some u → g.get? b = some u) → Q (.ref s.heap.objs.size) { s with heap := g, toks := tk }) :
    wpAny (model P w) A (call (.type "set") [.ref l]) Q E s := by
  have hisz : items.size = ns.length := by
    have q := IntsAre.length hit
    rw [Array.length_toList] at q
    exact q
  obtain ⟨cc, tl, hmro⟩ := F.called_set.mro
  have hmade := F.called_set.made
  have hsub := F.called_set.sub
  refine wpAny_call (codeAny_of_tree ?_)
  show wpAny _ _ (callAny (Value.type "set") _) _ _ _
  refine wpAny_pure ⟨Code.quiet_builtin _ (by decide +kernel), codeAny_builtin (F.entry_type_call) ?_⟩
  rw [Around.under_plain (weight_type_call_type "set" [Value.ref l] []) rfl]
  have k1 := F.called_set.notType
  have k2 := F.called_set.canCreate
  have hct := F.typeCall_set_1 (.ref l)
  repeat (any_goals (first | assumption | wp_step))
  refine codeAny_mono (code_set_led1 (.ref l) (E := E) (Q₁ := fun ob z => ob = .ref s.heap.objs.size ∧ z = { s with heap := s.heap.push (fset w) }) ⟨rfl, rfl⟩) fun r z hr => ?_
  cases r with
  | error e => exact hr
  | ok fl =>
    cases fl with
    | ret ob =>
      obtain ⟨rfl, rfl⟩ := hr
      have hS : (s.heap.push (fset w)).get? s.heap.objs.size = some (fset w) := Heap.get?_push_size _ rfl
      have hT : Shared.TypeIs { s with heap := s.heap.push (fset w) } (.ref s.heap.objs.size) "set" := ⟨_, hS, rfl⟩
      have hli := F.called_set.init.lookup
      have hbi := F.called_set.init.bind (.ref s.heap.objs.size)
      repeat (any_goals (first | assumption | wp_step))
      refine codeAny_mono (codeAny_call_builtin (R := wants (fun r z => r = .none ∧ ∃ g tk c, z = { s with heap := g, toks := tk } ∧ SetR w g s.heap.objs.size (fun j => decide (j ∈ ns)) c ∧ c ≤ ns.length ∧
          (∀ b u, s.heap.get? b = some u → g.get? b = some u)) E) F.called_set.init.plain F.entry_set_init (check_set_init_1 hT ?_)) fun r2 z2 hr2 => ?_
      · obtain ⟨ol, hol, hcl, nl, hdl⟩ := hl
        obtain ⟨oc, od, odt, osl⟩ := ol
        simp only at hcl hdl
        subst hcl hdl
        have hol' : (s.heap.push (fset w)).get? l = some { cls := .type "list", dict := od, data := .seq items nl, slots := osl } := Heap.get?_push_of_some _ hol
        have hsls := F.sub_list_set
        have hslf := F.sub_list_frozenset
        have hne : (Value.type "list" == Value.type "dict") = false := by decide
        have hl1 : (s.heap.push (fset w)).IsList l items := ⟨_, hol', rfl, nl, rfl⟩
        unfold Builtin.«set.__init__» noKeywords Builtin.Frozenset.updateFrom
        generalize hPI : pyIter = PI
        wp_walk
        subst hPI
        refine wpAny_pyIter_list (s := { s with heap := s.heap.push (fset w) }) hl1 ?_
        refine wpAny_bind (wpAny_runValue ?_)
        have hlS : l < s.heap.objs.size := Heap.lt_size hol
        have hh3 : A.in1.in1.in1.handled = none := by simp [hh]
        have hsp : (s.heap.push (fset w)).objs.size = s.heap.objs.size + 1 := Heap.size_push ..
        have hneI : l ≠ (s.heap.push (fset w)).objs.size := by
          rw [hsp]
          exact Nat.ne_of_lt (Nat.lt_succ_of_lt hlS)
        have hSf : s.heap.objs.size ∉ [(s.heap.push (fset w)).objs.size, l] := by
          rw [hsp]
          simp only [List.mem_cons, List.not_mem_nil, or_false, not_or]
          exact ⟨Nat.ne_of_lt (Nat.lt_succ_self _), Nat.ne_of_gt hlS⟩
        have hval : ∀ (i : Nat) (v : Value), items[i]? = some v → ∃ k t, ns[i]? = some k ∧ v = .int k t := fun i v hv => by
          have hi : i < ns.length := by rw [← hisz]; exact (Array.getElem?_eq_some_iff.mp hv).1
          obtain ⟨t, e⟩ := PyProof.Rows.IntsAre.int_at hit i v (by rw [Array.getElem?_toList]; exact hv)
          refine ⟨ns[i], t, List.getElem?_eq_getElem hi, ?_⟩
          rw [e, List.getD_eq_getElem?_getD, List.getElem?_eq_getElem hi] <;> rfl
        refine set_update_ints ((Walks.list hh3 _ l hneI items).toS) s.heap.objs.size hSf ns hisz hb hval (items.size - 0) 0 _ (by omega) (Nat.zero_le _)
          ⟨⟨_, Heap.get?_push_size _ rfl, rfl, rfl⟩, (hl1.push _)⟩ ⟨0, Nat.le_refl 0, setR_new_at (Heap.get?_push_of_some _ hS)⟩ ?_
        intro z' c' hm hc' hS'
        obtain ⟨g, g2, d', tk', os'⟩ := z'
        have eg : g2 = s.gens := hm.gens
        have ed : d' = s.drawn := hm.drawn
        have eo : os' = s.os := hm.os
        subst eg ed eo
        show wpAny _ _ _ _ _ _
        refine wpAny_pure ?_
        show wpAny _ _ (ret Value.none) _ _ _
        rw [hisz] at hc'
        refine wpAny_pure ⟨rfl, g, tk', c', rfl, hS', hc', fun b u e => ?_⟩
        have hb0 : b < s.heap.objs.size := Heap.lt_size e
        have hb2 : b ≠ (s.heap.push (fset w)).objs.size := by
          rw [hsp]
          exact Nat.ne_of_lt (Nat.lt_succ_of_lt hb0)
        exact hm.heap b u (by simp only [List.mem_cons, List.not_mem_nil, or_false, not_or]; exact ⟨Nat.ne_of_lt hb0, hb2⟩) (Heap.get?_push_of_some _ (Heap.get?_push_of_some _ e))
      · cases r2 with
        | error e => exact hr2
        | ok fl2 =>
          cases fl2 with
          | ret r =>
            obtain ⟨rfl, g, tk, c, rfl, hS', hc', hk'⟩ := hr2
            repeat (any_goals (first | assumption | wp_step))
            exact h _ _ _ hS' hc' hk'
          | _ => exact hr2.elim
    | _ => exact hr.elim
end
def rSetL (K : PySem.W.Frag) (w : World) : List V → Hp → VK → Prop := fun vs H Q => ∃ (a : Addr) (ns : List Int), vs = [V.ref a] ∧ SqL K H a (ns.map V.int) ∧ ns.length ≤ 1000 ∧
  ∀ p c, H p = none → c ≤ ns.length → Q (.ref p) (upd H p (SetO w p (fun j => decide (j ∈ ns)) c))
theorem cr_setL {X : Cx} (hc : X.calm = true) : CallR X (.type "set") (rSetL X.K X.w) := by
  intro pins s σ H vs us Q I r h
  obtain ⟨a, ns, rfl, hs, hl, q⟩ := h
  obtain ⟨its, rv, pl, _⟩ := I.list hs
  rw [Vals.ref1 r]
  refine call_set_lstI ns (I.ok.hd hc) pl.isList (by simpa using rv.ints) (by unfold scanBound; omega) fun g tk c hS hcn hk => ?_
  exact ⟨.ref _, _, I.laid (t' := tk) hk (Nat.le_refl _) (setO_new hS), rfl, q _ c (I.hok.fresh (Nat.le_refl _)) hcn⟩
end My
/-! Readings over data: what an expression's value is, as PyData, while the heap grows. -/
namespace My
open PySem PySem.Spec PyProof.Rows L2

/-! ### heaps -/
def isD : HO → Prop
  | .lst _ => True
  | .tup _ => True
  | .frz _ _ => True
  | _ => False
/-- lists, tuples and locked things stand -/
def Kd (H H' : Hp) : Prop := ∀ b o, H b = some o → isD o → H' b = some o
theorem Kd.refl (H : Hp) : Kd H H := fun _ _ h _ => h
theorem Kd.trans {H H1 H2 : Hp} (a : Kd H H1) (b : Kd H1 H2) : Kd H H2 := fun c o h d => b c o (a c o h d) d
theorem kd_of {H H' : Hp} (e : Same H H') : Kd H H' := fun b o h _ => e b o h
/-- all but the instance at p stands -/
def Kx (p : Addr) (H H' : Hp) : Prop := ∀ b o, H b = some o → b ≠ p → H' b = some o
theorem Kx.refl (p : Addr) (H : Hp) : Kx p H H := fun _ _ h _ => h
theorem Kx.trans {p : Addr} {H H1 H2 : Hp} (a : Kx p H H1) (b : Kx p H1 H2) : Kx p H H2 := fun c o h d => b c o (a c o h d) d
theorem kx_of {p : Addr} {H H' : Hp} (e : Same H H') : Kx p H H' := fun b o h _ => e b o h
theorem kx_upd {p : Addr} {H : Hp} {o : HO} : Kx p H (upd H p o) := fun b u h n => by rw [upd_ne n]; exact h
theorem Kx.kd {p C dx : Addr} {fs : List (Str × V)} {H H' : Hp} (e : Kx p H H') (hp : H p = some (.ins C dx fs)) : Kd H H' := fun b o h d => e b o h fun z => by
  subst z
  rw [hp] at h
  cases h
  exact d
theorem same_new {H : Hp} {p : Addr} {o : HO} (h : H p = none) : Same H (upd H p o) := fun b u e => by rw [upd_ne (ne_of_none e h)]; exact e
theorem same_mut {H H' : Hp} {p : Addr} {o : HO} (e : Same H H') (h : H p = none) : Same H (upd H' p o) := fun b u x => by rw [upd_ne (ne_of_none x h)]; exact e b u x

section
variable {K : PySem.W.Frag} {H H' H1 H2 : Hp}
theorem Kd.rd {a : Addr} {u : HO} (e : Kd H H') (d : isD u) (h : Rd H a u) : Rd H' a u := by
  rcases h with h | ⟨o, h⟩
  · exact .inl (e a _ h d)
  · exact .inr ⟨o, e a _ h True.intro⟩
theorem Kd.l {a : Addr} {xs : List V} (e : Kd H H') (h : SqL K H a xs) : SqL K H' a xs := by
  rcases h with h | h
  · exact .inl (e.rd True.intro h)
  · exact .inr h
theorem Kd.t {a : Addr} {xs : List V} (e : Kd H H') (h : SqT K H a xs) : SqT K H' a xs := by
  rcases h with h | h
  · exact .inl (e.rd True.intro h)
  · exact .inr h
mutual
theorem dp_mono (e : Kd H H') : ∀ (d : PyData) (v : V), Dp K H v d → Dp K H' v d
  | .none, _, h => by cases h; exact .non
  | .bool _, _, h => by cases h; exact .bl _
  | .int _, _, h => by cases h; exact .int _
  | .str _, _, h => by cases h; exact .str _
  | .list ds, _, h => by
    cases h with
    | lst hs ha => exact .lst (e.l hs) (dpall_mono e ds _ ha)
  | .tuple ds, _, h => by
    cases h with
    | tup hs ha => exact .tup (e.t hs) (dpall_mono e ds _ ha)
  | .dict _, _, h => by cases h
theorem dpall_mono (e : Kd H H') : ∀ (ds : List PyData) (vs : List V), DpAll K H vs ds → DpAll K H' vs ds
  | [], _, h => by cases h; exact .nil
  | d :: ds, _, h => by
    cases h with
    | cons h1 h2 => exact .cons (dp_mono e d _ h1) (dpall_mono e ds _ h2)
end
end

/-! ### data without lists: it stands while the tuples stand -/
mutual
def noL : PyData → Bool
  | .list _ => false
  | .tuple ds => noLs ds
  | .dict _ => false
  | _ => true
def noLs : List PyData → Bool
  | [] => true
  | d :: ds => noL d && noLs ds
end
def Kt (K : PySem.W.Frag) (H H' : Hp) : Prop := ∀ a xs, SqT K H a xs → SqT K H' a xs
theorem Kd.kt {K : PySem.W.Frag} {H H' : Hp} (e : Kd H H') : Kt K H H' := fun _ _ h => e.t h
theorem Kt.refl (K : PySem.W.Frag) (H : Hp) : Kt K H H := fun _ _ h => h
theorem Kt.trans {K : PySem.W.Frag} {H H1 H2 : Hp} (a : Kt K H H1) (b : Kt K H1 H2) : Kt K H H2 := fun x xs h => b x xs (a x xs h)
theorem kt_upd {K : PySem.W.Frag} {H : Hp} {p : Addr} {xs ys : List V} (h : H p = some (.lst xs)) : Kt K H (upd H p (.lst ys)) := fun a zs q => by
  rcases q with (q | ⟨o, q⟩) | q
  · exact .inl (.inl (by rw [upd_ne (ne_of q h (by intro z; cases z))]; exact q))
  · exact .inl (.inr ⟨o, by rw [upd_ne (ne_of q h (by intro z; cases z))]; exact q⟩)
  · exact .inr q
section
variable {K : PySem.W.Frag} {H H' : Hp}
mutual
theorem dp_kt (e : Kt K H H') : ∀ (d : PyData) (v : V), noL d = true → Dp K H v d → Dp K H' v d
  | .none, _, _, h => by cases h; exact .non
  | .bool _, _, _, h => by cases h; exact .bl _
  | .int _, _, _, h => by cases h; exact .int _
  | .str _, _, _, h => by cases h; exact .str _
  | .list ds, _, n, _ => by cases n
  | .tuple ds, _, n, h => by
    cases h with
    | tup hs ha => exact .tup (e _ _ hs) (dpall_kt e ds _ n ha)
  | .dict _, _, n, _ => by cases n
theorem dpall_kt (e : Kt K H H') : ∀ (ds : List PyData) (vs : List V), noLs ds = true → DpAll K H vs ds → DpAll K H' vs ds
  | [], _, _, h => by cases h; exact .nil
  | d :: ds, _, n, h => by
    cases h with
    | cons h1 h2 =>
      have n' := Bool.and_eq_true_iff.mp (show (noL d && noLs ds) = true from n)
      exact .cons (dp_kt e d _ n'.1 h1) (dpall_kt e ds _ n'.2 h2)
end
end
theorem noLs_iff : ∀ {ds : List PyData}, noLs ds = true ↔ ∀ d ∈ ds, noL d = true
  | [] => by simp [noLs]
  | d :: ds => by
    have ih := noLs_iff (ds := ds)
    simp [noLs, ih]

end My
namespace L2
open PySem PySem.Spec PyProof.Rows My
/-! ### lists of data -/
section
variable {K : PySem.W.Frag} {H H' : Hp}
theorem DpAll.len : ∀ {vs : List V} {ds : List PyData}, DpAll K H vs ds → vs.length = ds.length
  | _, _, .nil => rfl
  | _, _, .cons _ t => by simp [DpAll.len t]
theorem DpAll.at_ : ∀ {vs : List V} {ds : List PyData} {i : Nat} {d : PyData}, DpAll K H vs ds → ds[i]? = some d → ∃ v, vs[i]? = some v ∧ Dp K H v d
  | _, _, _, _, .nil, h => by simp at h
  | _, _, 0, _, .cons r _, h => by simp at h; subst h; exact ⟨_, rfl, r⟩
  | _, _, i + 1, _, .cons _ t, h => by
    obtain ⟨v, h1, h2⟩ := DpAll.at_ (i := i) t (by simpa using h)
    exact ⟨v, by simpa using h1, h2⟩
theorem DpAll.of_at : ∀ {vs : List V} {ds : List PyData} {i : Nat} {v : V}, DpAll K H vs ds → vs[i]? = some v → ∃ d, ds[i]? = some d ∧ Dp K H v d
  | _, _, _, _, .nil, h => by simp at h
  | _, _, 0, _, .cons r _, h => by simp at h; subst h; exact ⟨_, rfl, r⟩
  | _, _, i + 1, _, .cons _ t, h => by
    obtain ⟨v, h1, h2⟩ := DpAll.of_at (i := i) t (by simpa using h)
    exact ⟨v, by simpa using h1, h2⟩
theorem DpAll.app : ∀ {vs ws : List V} {ds es : List PyData}, DpAll K H vs ds → DpAll K H ws es → DpAll K H (vs ++ ws) (ds ++ es)
  | _, _, _, _, .nil, h => h
  | _, _, _, _, .cons r t, h => .cons r (DpAll.app t h)
theorem DpAll.odds : ∀ {vs : List V} {ds : List PyData}, DpAll K H vs ds → DpAll K H (oddsV vs) (oddsV ds)
  | _, _, .nil => .nil
  | _, _, .cons _ .nil => .nil
  | _, _, .cons _ (.cons r t) => .cons r (DpAll.odds t)
theorem DpAll.take : ∀ {vs : List V} {ds : List PyData} (n : Nat), DpAll K H vs ds → DpAll K H (vs.take n) (ds.take n)
  | _, _, 0, _ => by simpa using .nil
  | _, _, n + 1, .nil => by simpa using .nil
  | _, _, n + 1, .cons r t => .cons r (DpAll.take n t)
theorem DpAll.drop : ∀ {vs : List V} {ds : List PyData} (n : Nat), DpAll K H vs ds → DpAll K H (vs.drop n) (ds.drop n)
  | _, _, 0, h => h
  | _, _, n + 1, .nil => by simpa using .nil
  | _, _, n + 1, .cons _ t => DpAll.drop n t
theorem DpAll.set : ∀ {vs : List V} {ds : List PyData} {v : V} {d : PyData} (n : Nat), DpAll K H vs ds → Dp K H v d → DpAll K H (vs.set n v) (ds.set n d)
  | _, _, _, _, _, .nil, _ => .nil
  | _, _, _, _, 0, .cons _ t, q => .cons q t
  | _, _, _, _, n + 1, .cons r t, q => .cons r (DpAll.set n t q)
theorem DpAll.snoc {vs : List V} {ds : List PyData} {v : V} {d : PyData} (h : DpAll K H vs ds) (q : Dp K H v d) : DpAll K H (vs ++ [v]) (ds ++ [d]) := h.app (.cons q .nil)
theorem DpAll.ints : ∀ {vs : List V} {ns : List Int}, DpAll K H vs (ns.map PyData.int) → vs = ns.map V.int
  | _, [], h => by cases h; rfl
  | _, n :: ns, h => by
    cases h with
    | cons r t =>
      cases r
      rw [DpAll.ints t]
      rfl
theorem DpAll.bls : ∀ {vs : List V} {ns : List Bool}, DpAll K H vs (ns.map PyData.bool) → vs = ns.map V.bl
  | _, [], h => by cases h; rfl
  | _, n :: ns, h => by
    cases h with
    | cons r t =>
      cases r
      rw [DpAll.bls t]
      rfl
end
end L2
namespace My
open PySem PySem.Spec PyProof.Rows L2
section
variable {K : PySem.W.Frag} {H H' : Hp}
theorem dp_int {v : V} {i : Int} (h : Dp K H v (.int i)) : v = .int i := by cases h; rfl
theorem dp_bool {v : V} {i : Bool} (h : Dp K H v (.bool i)) : v = .bl i := by cases h; rfl
theorem dp_str {v : V} {i : Str} (h : Dp K H v (.str i)) : v = .str i := by cases h; rfl
theorem dp_none {v : V} (h : Dp K H v .none) : v = .non := by cases h; rfl
theorem dp_tup {v : V} {ds : List PyData} (h : Dp K H v (.tuple ds)) : ∃ a xs, v = .ref a ∧ SqT K H a xs ∧ DpAll K H xs ds := by
  cases h with
  | tup h1 h2 => exact ⟨_, _, rfl, h1, h2⟩
theorem dp_lst {v : V} {ds : List PyData} (h : Dp K H v (.list ds)) : ∃ a xs, v = .ref a ∧ SqL K H a xs ∧ DpAll K H xs ds := by
  cases h with
  | lst h1 h2 => exact ⟨_, _, rfl, h1, h2⟩
end

/-! ### frames -/
inductive FV where
  | un
  | d (x : PyData)
  | v (x : V)
def FvOk (K : PySem.W.Frag) (H : Hp) : FV → Option V → Prop
  | .un, _ => True
  | .d x, o => ∃ v, o = some v ∧ Dp K H v x
  | .v x, o => o = some x
theorem FvOk.mono {K : PySem.W.Frag} {H H' : Hp} (e : Kd H H') : ∀ {f : FV} {o : Option V}, FvOk K H f o → FvOk K H' f o
  | .un, _, _ => True.intro
  | .d _, _, h => let ⟨v, h1, h2⟩ := h; ⟨v, h1, dp_mono e _ _ h2⟩
  | .v _, _, h => h
def Fd (K : PySem.W.Frag) (H : Hp) (σ : L2.St) (fr : List FV) : Prop := Paired (fun (o : Option V) (f : FV) => FvOk K H f o) σ fr
theorem paired_map {α β : Type} {F G : α → β → Prop} : ∀ {l1 : List α} {l2 : List β}, Paired F l1 l2 → (∀ a b, F a b → G a b) → Paired G l1 l2
  | _, _, .nil, _ => .nil
  | _, _, .cons r t, f => .cons (f _ _ r) (paired_map t f)
theorem paired_at {α β : Type} {F : α → β → Prop} : ∀ {l1 : List α} {l2 : List β} {i : Nat} {b : β}, Paired F l1 l2 → l2[i]? = some b → ∃ a, l1[i]? = some a ∧ F a b
  | _, _, _, _, .nil, h => by simp at h
  | _, _, 0, _, .cons r _, h => by simp at h; subst h; exact ⟨_, rfl, r⟩
  | _, _, i + 1, _, .cons _ t, h => by
    obtain ⟨a, h1, h2⟩ := paired_at (i := i) t (by simpa using h)
    exact ⟨a, by simpa using h1, h2⟩
theorem paired_set {α β : Type} {F : α → β → Prop} {a : α} {b : β} (r : F a b) : ∀ {l1 : List α} {l2 : List β} (i : Nat), Paired F l1 l2 → Paired F (l1.set i a) (l2.set i b)
  | _, _, _, .nil => .nil
  | _, _, 0, .cons _ t => .cons r t
  | _, _, i + 1, .cons q t => .cons q (paired_set r i t)
section
variable {K : PySem.W.Frag} {H H' : Hp} {σ : L2.St} {fr : List FV}
theorem Fd.mono (e : Kd H H') (F : Fd K H σ fr) : Fd K H' σ fr := paired_map F fun _ _ h => FvOk.mono e h
theorem Fd.same (F : Fd K H σ fr) (e : Same H H') : Fd K H' σ fr := F.mono (kd_of e)
theorem Fd.set {v : V} {f : FV} (F : Fd K H σ fr) (i : Nat) (h : FvOk K H f (some v)) : Fd K H (σ.set i (some v)) (fr.set i f) := paired_set (F := fun (o : Option V) (f : FV) => FvOk K H f o) h i F
theorem Fd.d {i : Nat} {x : PyData} (F : Fd K H σ fr) (h : fr[i]? = some (.d x)) : ∃ v, σ[i]? = some (some v) ∧ Dp K H v x := by
  obtain ⟨o, h1, v, rfl, h3⟩ := paired_at F h
  exact ⟨v, h1, h3⟩
theorem Fd.v {i : Nat} {x : V} (F : Fd K H σ fr) (h : fr[i]? = some (.v x)) : σ[i]? = some (some x) := by
  obtain ⟨o, h1, h2⟩ := paired_at F h
  rw [h1, show o = some x from h2]
theorem fd_start : ∀ {vs : List V} {ds : List PyData} (n : Nat), DpAll K H vs ds → Fd K H (vs.map some ++ List.replicate n none) (ds.map FV.d ++ List.replicate n .un)
  | _, _, 0, .nil => .nil
  | _, _, n + 1, .nil => .cons True.intro (fd_start n .nil)
  | _, _, n, .cons r t => .cons ⟨_, rfl, r⟩ (fd_start n t)
/-- forgotten slots -/
def wipeF (fr : List FV) : List Nat → List FV
  | [] => fr
  | v :: vs => (wipeF fr vs).set v .un
theorem Fd.wipe (F : Fd K H σ fr) : ∀ vs : List Nat, Fd K H (L2.wipe σ vs) (wipeF fr vs)
  | [] => F
  | v :: vs => paired_set (F := fun (o : Option V) (f : FV) => FvOk K H f o) (a := none) (b := FV.un) True.intro v (Fd.wipe F vs)
end
theorem wipe_set {σ : L2.St} {j : Nat} {x : Option V} : ∀ {vs : List Nat}, j ∈ vs → wipe (σ.set j x) vs = wipe σ vs
  | [], h => by simp at h
  | v :: vs, h => by
    unfold wipe
    by_cases e : j = v
    · subst e
      have : ∀ (ws : List Nat), (wipe (σ.set j x) ws).set j none = (wipe σ ws).set j none := by
        intro ws
        induction ws with
        | nil => simp [wipe]
        | cons u us ih =>
          unfold wipe
          by_cases e : u = j
          · subst e; rw [List.set_set, List.set_set]; exact ih
          · rw [List.set_comm _ _ e, List.set_comm _ _ e, ih]
      exact this vs
    · rw [wipe_set (by rcases List.mem_cons.mp h with h | h; exact absurd h e; exact h)]
theorem wipe_wipe {σ : L2.St} : ∀ {vs : List Nat}, wipe (wipe σ vs) vs = wipe σ vs := by
  have key : ∀ (us vs : List Nat), (∀ u ∈ us, u ∈ vs) → wipe (wipe σ us) vs = wipe σ vs := by
    intro us
    induction us with
    | nil => intro vs _; rfl
    | cons u us ih =>
      intro vs h
      show wipe ((wipe σ us).set u none) vs = _
      rw [wipe_set (h u List.mem_cons_self)]
      exact ih vs fun x hx => h x (List.mem_cons_of_mem _ hx)
  exact fun {vs} => key vs vs fun _ h => h

/-! ### what is evaluated -/
section
variable (K : PySem.W.Frag)
def ED (te : TE) (σ : L2.St) (H : Hp) (d : PyData) : Prop := ∀ H1, Same H H1 → ∀ Q : VK, (∀ v H2, Same H1 H2 → Dp K H2 v d → Q v H2) → te σ H1 Q
def EV (te : TE) (σ : L2.St) (H : Hp) (v : V) : Prop := ∀ H1, Same H H1 → ∀ Q : VK, (∀ H2, Same H1 H2 → Q v H2) → te σ H1 Q
def ET (tt : TT) (σ : L2.St) (H : Hp) (b : Bool) : Prop := ∀ H1, Same H H1 → ∀ Q : Bool → Hp → Prop, (∀ H2, Same H1 H2 → Q b H2) → tt σ H1 Q
def EA (ta : TA) (σ : L2.St) (H : Hp) (ds : List PyData) : Prop := ∀ H1, Same H H1 → ∀ Q : List V → Hp → Prop, (∀ vs H2, Same H1 H2 → DpAll K H2 vs ds → Q vs H2) → ta σ H1 Q
/-- an operator on data -/
def RD (r : R2) (x y z : PyData) : Prop := ∀ (a b : V) (H : Hp) (Q : VK), Dp K H a x → Dp K H b y → (∀ v H2, Same H H2 → Dp K H2 v z → Q v H2) → r a b H Q
/-- a call on data -/
def RCd (r : List V → Hp → VK → Prop) (xs : List PyData) (z : PyData) : Prop := ∀ (vs : List V) (H : Hp) (Q : VK), DpAll K H vs xs → (∀ v H2, Same H H2 → Dp K H2 v z → Q v H2) → r vs H Q
end
section
variable {K : PySem.W.Frag} {σ : L2.St} {H H' : Hp} {fr : List FV} {ta tb te tc : TE} {t u : TT} {x y z d : PyData} {r : R2}
theorem ED.mono (h : ED K te σ H d) (e : Same H H') : ED K te σ H' d := fun H1 a Q q => h H1 (e.trans a) Q q
theorem EV.mono {v : V} (h : EV te σ H v) (e : Same H H') : EV te σ H' v := fun H1 a Q q => h H1 (e.trans a) Q q
theorem ET.mono {b : Bool} (h : ET t σ H b) (e : Same H H') : ET t σ H' b := fun H1 a Q q => h H1 (e.trans a) Q q
theorem ED.is (h : ED K te σ H d) (e : d = x) : ED K te σ H x := e ▸ h
theorem ET.is {b c : Bool} (h : ET t σ H b) (e : b = c) : ET t σ H c := e ▸ h
theorem e_var {i : Nat} (F : Fd K H σ fr) (h : fr[i]? = some (.d x)) : ED K (tVar i) σ H x := fun H1 e Q q => by
  obtain ⟨v, h1, h2⟩ := F.d h
  exact ⟨v, h1, q v H1 (Same.refl H1) (dp_mono (kd_of e) _ _ h2)⟩
theorem e_varV {i : Nat} {v : V} (F : Fd K H σ fr) (h : fr[i]? = some (.v v)) : EV (tVar i) σ H v := fun H1 e Q q => ⟨v, F.v h, q H1 (Same.refl H1)⟩
theorem e_varI {i : Nat} {n : Int} (F : Fd K H σ fr) (h : fr[i]? = some (.v (.int n))) : ED K (tVar i) σ H (.int n) := fun H1 e Q q => ⟨.int n, F.v h, q _ H1 (Same.refl H1) (.int n)⟩
theorem e_c {v : V} (h : ∀ H, Dp K H v d) : ED K (tC v) σ H d := fun H1 _ Q q => q v H1 (Same.refl H1) (h H1)
theorem e_int {i : Int} : ED K (tC (.int i)) σ H (.int i) := e_c fun _ => .int i
theorem e_str {i : Str} : ED K (tC (.str i)) σ H (.str i) := e_c fun _ => .str i
theorem e_bl {i : Bool} : ED K (tC (.bl i)) σ H (.bool i) := e_c fun _ => .bl i
theorem e_non : ED K (tC .non) σ H .none := e_c fun _ => .non
theorem e_op (ha : ED K ta σ H x) (hb : ED K tb σ H y) (hr : RD K r x y z) : ED K (tOp r ta tb) σ H z := fun H1 e Q q =>
  ha H1 e _ fun v H2 e2 d2 => hb H2 (e.trans e2) _ fun w H3 e3 d3 => hr v w H3 Q (dp_mono (kd_of e3) _ _ d2) d3 fun o H4 e4 d4 => q o H4 ((e2.trans e3).trans e4) d4
theorem r_I0 {g : Int → Int → V} {i j : Int} (h : ∀ H, Dp K H (g i j) z) : RD K (rI0 g) (.int i) (.int j) z := fun a b H Q da db q => ⟨i, j, dp_int da, dp_int db, q _ H (Same.refl H) (h H)⟩
theorem r_I {C : Int → Int → Prop} {g : Int → Int → V} {i j : Int} (hc : C i j) (h : ∀ H, Dp K H (g i j) z) : RD K (rI C g) (.int i) (.int j) z := fun a b H Q da db q => ⟨i, j, dp_int da, dp_int db, hc, q _ H (Same.refl H) (h H)⟩
theorem r_eqI {i j : Int} : RD K rEq (.int i) (.int j) (.bool (decide (i = j))) := fun a b H Q da db q => by
  cases da; cases db
  have e : decide (V.int i = V.int j) = decide (i = j) := by simp
  exact ⟨rfl, by rw [e]; exact q _ H (Same.refl H) (.bl _)⟩
theorem r_eqS {i j : Str} : RD K rEq (.str i) (.str j) (.bool (decide (i = j))) := fun a b H Q da db q => by
  cases da; cases db
  have e : decide (V.str i = V.str j) = decide (i = j) := by simp
  exact ⟨rfl, by rw [e]; exact q _ H (Same.refl H) (.bl _)⟩
theorem r_neI {i j : Int} : RD K rNe (.int i) (.int j) (.bool (!decide (i = j))) := fun a b H Q da db q => by
  cases da; cases db
  have e : decide (V.int i = V.int j) = decide (i = j) := by simp
  exact ⟨rfl, by rw [e]; exact q _ H (Same.refl H) (.bl _)⟩
def isNone : PyData → Bool
  | .none => true
  | _ => false
theorem dec_non {v : V} (h : Dp K H v x) : decide (v = .non) = isNone x := by cases h <;> rfl
theorem r_isN : RD K (fun x y H Q => y = .non ∧ Q (.bl (decide (x = .non))) H) x .none (.bool (isNone x)) := fun a b H Q da db q => ⟨dp_none db, by rw [dec_non da]; exact q _ H (Same.refl H) (.bl _)⟩
theorem r_notN : RD K (fun x y H Q => y = .non ∧ Q (.bl (!decide (x = .non))) H) x .none (.bool (!isNone x)) := fun a b H Q da db q => ⟨dp_none db, by rw [dec_non da]; exact q _ H (Same.refl H) (.bl _)⟩
theorem r_eqD (h1 : SeqAt.shaped x = true) (h2 : SeqAt.shaped y = true) : RD K (rEqD K) x y (.bool (PyData.eqv x y)) := fun a b H Q da db q => ⟨x, y, da, db, h1, h2, q _ H (Same.refl H) (.bl _)⟩
theorem r_neD (h1 : SeqAt.shaped x = true) (h2 : SeqAt.shaped y = true) : RD K (rNeD K) x y (.bool (!PyData.eqv x y)) := fun a b H Q da db q => ⟨x, y, da, db, h1, h2, q _ H (Same.refl H) (.bl _)⟩
theorem r_ixT {ds : List PyData} {i : Int} (h : atI ds i = some z) : RD K (rIxT K) (.tuple ds) (.int i) z := fun a b H Q da db q => by
  obtain ⟨p, xs, rfl, h1, h2⟩ := dp_tup da
  cases db
  obtain ⟨j, e, hj⟩ := Option.bind_eq_some_iff.mp h
  obtain ⟨v, hv, dv⟩ := h2.at_ hj
  exact ⟨p, xs, i, v, rfl, rfl, h1, by show (ixN xs.length i).bind _ = _; rw [h2.len, e]; exact hv, q v H (Same.refl H) dv⟩
theorem r_ixL {ds : List PyData} {i : Int} (h : atI ds i = some z) : RD K (rIxL K) (.list ds) (.int i) z := fun a b H Q da db q => by
  obtain ⟨p, xs, rfl, h1, h2⟩ := dp_lst da
  cases db
  obtain ⟨j, e, hj⟩ := Option.bind_eq_some_iff.mp h
  obtain ⟨v, hv, dv⟩ := h2.at_ hj
  exact ⟨p, xs, i, v, rfl, rfl, h1, by show (ixN xs.length i).bind _ = _; rw [h2.len, e]; exact hv, q v H (Same.refl H) dv⟩
theorem inV_ints (i : Int) : ∀ ns : List Int, inV (.int i) (ns.map V.int) = decide (i ∈ ns)
  | [] => by simp [inV]
  | n :: ns => by
    have ih := inV_ints i ns
    show (eqV (.int n) (.int i) || inV (.int i) (ns.map V.int)) = _
    rw [ih]
    have e : eqV (.int n) (.int i) = decide (i = n) := by
      show (n == i) = _
      by_cases z : i = n
      · subst z; simp
      · have z2 : ¬ n = i := fun q => z q.symm
        simp [z, z2]
    rw [e]
    simp
theorem flat_ints : ∀ ns : List Int, (ns.map V.int).all flatV = true
  | [] => rfl
  | n :: ns => by
    show (flatV (.int n) && (ns.map V.int).all flatV) = true
    rw [flat_ints ns]
    rfl
theorem r_in {i : Int} {ns : List Int} : RD K (rIn K false) (.int i) (.list (ns.map PyData.int)) (.bool (decide (i ∈ ns))) := fun a b H Q da db q => by
  obtain ⟨p, xs, rfl, h1, h2⟩ := dp_lst db
  cases da
  have e := h2.ints
  subst e
  refine ⟨p, _, rfl, .inl h1, rfl, flat_ints ns, ?_⟩
  show Q (.bl (inV (.int i) (ns.map V.int))) H
  rw [inV_ints]
  exact q _ H (Same.refl H) (.bl _)
theorem r_notIn {i : Int} {ns : List Int} : RD K (rIn K true) (.int i) (.list (ns.map PyData.int)) (.bool (!decide (i ∈ ns))) := fun a b H Q da db q => by
  obtain ⟨p, xs, rfl, h1, h2⟩ := dp_lst db
  cases da
  have e := h2.ints
  subst e
  refine ⟨p, _, rfl, .inl h1, rfl, flat_ints ns, ?_⟩
  show Q (.bl (!inV (.int i) (ns.map V.int))) H
  rw [inV_ints]
  exact q _ H (Same.refl H) (.bl _)
theorem r_catT {ds es : List PyData} (hl : ds.length + es.length ≤ 100000) : RD K (rCatA K) (.tuple ds) (.tuple es) (.tuple (ds ++ es)) := fun a b H Q da db q => by
  obtain ⟨p, xs, rfl, h1, h2⟩ := dp_tup da
  obtain ⟨p2, ys, rfl, h3, h4⟩ := dp_tup db
  refine ⟨p, p2, xs, ys, rfl, rfl, h1, h3, ?_, fun z => ?_, fun _ z => ?_, fun _ _ l hl => ?_⟩
  · rw [h2.len, h4.len]
    exact Nat.le_trans hl (by decide)
  · subst z
    cases h2
    exact q _ H (Same.refl H) db
  · subst z
    cases h4
    rw [List.append_nil] at q
    exact q _ H (Same.refl H) da
  · exact q _ _ (same_new hl) (.tup (SqT.of upd_same) (dpall_mono (kd_of (same_new hl)) _ _ (h2.app h4)))
/-! tests -/
theorem e_test {b : Bool} (h : ED K te σ H (.bool b)) : ET (tTest te) σ H b := fun H1 e Q q => h H1 e _ fun v H2 e2 d2 => ⟨b, dp_bool d2, q H2 e2⟩
theorem e_tB {b : Bool} (h : ED K te σ H (.bool b)) : ET (tB te) σ H b := fun H1 e Q q => h H1 e _ fun v H2 e2 d2 => ⟨b, dp_bool d2, q H2 e2⟩
theorem e_and {a b : Bool} (h1 : ET t σ H a) (h2 : a = true → ET u σ H b) : ET (tAnd t u) σ H (a && b) := fun H1 e Q q => h1 H1 e _ fun H2 e2 => by
  cases a with
  | true => exact iteT (h2 rfl H2 (e.trans e2) Q fun H3 e3 => q H3 (e2.trans e3))
  | false => exact iteF (q H2 e2)
theorem e_or {a b : Bool} (h1 : ET t σ H a) (h2 : a = false → ET u σ H b) : ET (tOr t u) σ H (a || b) := fun H1 e Q q => h1 H1 e _ fun H2 e2 => by
  cases a with
  | true => exact iteT (q H2 e2)
  | false => exact iteF (h2 rfl H2 (e.trans e2) Q fun H3 e3 => q H3 (e2.trans e3))
theorem e_not {a : Bool} (h1 : ET t σ H a) : ET (tNot t) σ H (!a) := fun H1 e _ q => h1 H1 e _ fun H2 e2 => q H2 e2
theorem e_andV {a b : Bool} (h1 : ED K ta σ H (.bool a)) (h2 : a = true → ED K tb σ H (.bool b)) : ED K (tAndV ta tb) σ H (.bool (a && b)) := fun H1 e Q q => h1 H1 e _ fun v H2 e2 d2 => ⟨a, dp_bool d2, by
  cases a with
  | true => exact iteT (h2 rfl H2 (e.trans e2) Q fun w H3 e3 d3 => q w H3 (e2.trans e3) d3)
  | false => exact iteF (q _ H2 e2 (.bl _))⟩
theorem e_notV {a : Bool} (h1 : ED K ta σ H (.bool a)) : ED K (tNotV ta) σ H (.bool (!a)) := fun H1 e Q q => h1 H1 e _ fun v H2 e2 d2 => ⟨a, dp_bool d2, q _ H2 e2 (.bl _)⟩
/-! arguments, displays, calls -/
theorem e_nil : EA K tNil σ H [] := fun H1 _ Q q => q [] H1 (Same.refl H1) .nil
theorem e_cons {tr : TA} {ds : List PyData} (h : ED K ta σ H x) (hr : EA K tr σ H ds) : EA K (tCons ta tr) σ H (x :: ds) := fun H1 e Q q =>
  h H1 e _ fun v H2 e2 d2 => hr H2 (e.trans e2) _ fun vs H3 e3 d3 => q (v :: vs) H3 (e2.trans e3) (.cons (dp_mono (kd_of e3) _ _ d2) d3)
theorem e_tup {tr : TA} {ds : List PyData} (h : EA K tr σ H ds) (hl : ds.length ≤ 100000) : ED K (tTup tr) σ H (.tuple ds) := fun H1 e Q q =>
  h H1 e _ fun vs H2 e2 d2 => ⟨by rw [d2.len]; exact Nat.le_trans hl (by decide), fun p hp => q _ _ (e2.trans (same_new hp)) (.tup (SqT.of upd_same) (dpall_mono (kd_of (same_new hp)) _ _ d2))⟩
theorem e_lst {tr : TA} {ds : List PyData} (h : EA K tr σ H ds) (hl : ds.length ≤ 100000) : ED K (tLst tr) σ H (.list ds) := fun H1 e Q q =>
  h H1 e _ fun vs H2 e2 d2 => ⟨by rw [d2.len]; exact Nat.le_trans hl (by decide), fun p hp => q _ _ (e2.trans (same_new hp)) (.lst (SqL.of upd_same) (dpall_mono (kd_of (same_new hp)) _ _ d2))⟩
theorem e_cb {tr : TA} {ds : List PyData} {rc : List V → Hp → VK → Prop} (h : EA K tr σ H ds) (hr : RCd K rc ds z) : ED K (tCB rc tr) σ H z := fun H1 e Q q =>
  h H1 e _ fun vs H2 e2 d2 => hr vs H2 Q d2 fun v H3 e3 d3 => q v H3 (e2.trans e3) d3
theorem dpall1 {vs : List V} (h : DpAll K H vs [x]) : ∃ v, vs = [v] ∧ Dp K H v x := by
  cases h with
  | cons r t => cases t; exact ⟨_, rfl, r⟩
theorem dpall2 {vs : List V} (h : DpAll K H vs [x, y]) : ∃ v w, vs = [v, w] ∧ Dp K H v x ∧ Dp K H w y := by
  cases h with
  | cons r t =>
    cases t with
    | cons r2 t2 => cases t2; exact ⟨_, _, rfl, r, r2⟩
theorem c_lenT {ds : List PyData} : RCd K (fun xs H Q => ∃ p ys, xs = [.ref p] ∧ (SqL K H p ys ∨ SqT K H p ys) ∧ Q (.int ys.length) H) [.tuple ds] (.int (ds.length : Nat)) := fun vs H Q d q => by
  obtain ⟨v, rfl, h⟩ := dpall1 d
  obtain ⟨p, xs, rfl, h1, h2⟩ := dp_tup h
  exact ⟨p, xs, rfl, .inr h1, by rw [h2.len]; exact q _ H (Same.refl H) (.int _)⟩
theorem c_lenL {ds : List PyData} : RCd K (fun xs H Q => ∃ p ys, xs = [.ref p] ∧ (SqL K H p ys ∨ SqT K H p ys) ∧ Q (.int ys.length) H) [.list ds] (.int (ds.length : Nat)) := fun vs H Q d q => by
  obtain ⟨v, rfl, h⟩ := dpall1 d
  obtain ⟨p, xs, rfl, h1, h2⟩ := dp_lst h
  exact ⟨p, xs, rfl, .inl h1, by rw [h2.len]; exact q _ H (Same.refl H) (.int _)⟩
theorem c_sumL {ns : List Int} : RCd K (rSum K) [.list (ns.map PyData.int)] (.int ns.sum) := fun vs H Q d q => by
  obtain ⟨v, rfl, h⟩ := dpall1 d
  obtain ⟨p, xs, rfl, h1, h2⟩ := dp_lst h
  have e := h2.ints
  subst e
  exact ⟨p, ns, rfl, h1, q _ H (Same.refl H) (.int _)⟩
theorem c_sumT {ns : List Int} : RCd K (rSumT K) [.tuple (ns.map PyData.int)] (.int ns.sum) := fun vs H Q d q => by
  obtain ⟨v, rfl, h⟩ := dpall1 d
  obtain ⟨p, xs, rfl, h1, h2⟩ := dp_tup h
  have e := h2.ints
  subst e
  exact ⟨p, ns, rfl, h1, q _ H (Same.refl H) (.int _)⟩
theorem c_all {bs : List Bool} : RCd K (rAll K) [.list (bs.map PyData.bool)] (.bool (bs.all id)) := fun vs H Q d q => by
  obtain ⟨v, rfl, h⟩ := dpall1 d
  obtain ⟨p, xs, rfl, h1, h2⟩ := dp_lst h
  have e := h2.bls
  subst e
  exact ⟨p, bs, rfl, h1, q _ H (Same.refl H) (.bl _)⟩
theorem c_min {ns : List Int} {m : Int} (hn : 0 < ns.length) (hm : ∀ k, k ∈ ns → (∀ y, y ∈ ns → k ≤ y) → k = m) : RCd K (rMin K) [.list (ns.map PyData.int)] (.int m) := fun vs H Q d q => by
  obtain ⟨v, rfl, h⟩ := dpall1 d
  obtain ⟨p, xs, rfl, h1, h2⟩ := dp_lst h
  have e := h2.ints
  subst e
  exact ⟨p, ns, rfl, h1, hn, fun k k1 k2 => by rw [hm k k1 k2]; exact q _ H (Same.refl H) (.int _)⟩
theorem c_max {ns : List Int} {m : Int} (hn : 0 < ns.length) (hm : ∀ k, k ∈ ns → (∀ y, y ∈ ns → y ≤ k) → k = m) : RCd K (rMax K) [.list (ns.map PyData.int)] (.int m) := fun vs H Q d q => by
  obtain ⟨v, rfl, h⟩ := dpall1 d
  obtain ⟨p, xs, rfl, h1, h2⟩ := dp_lst h
  have e := h2.ints
  subst e
  exact ⟨p, ns, rfl, h1, hn, fun k k1 k2 => by rw [hm k k1 k2]; exact q _ H (Same.refl H) (.int _)⟩
theorem c_abs {i : Int} : RCd K (fun xs H Q => ∃ i, xs = [.int i] ∧ Q (.int (if i < 0 then -i else i)) H) [.int i] (.int (if i < 0 then -i else i)) := fun vs H Q d q => by
  obtain ⟨v, rfl, h⟩ := dpall1 d
  cases h
  exact ⟨i, rfl, q _ H (Same.refl H) (.int _)⟩
theorem c_tupL {ds : List PyData} : RCd K (fun xs H Q => ∃ p ys, xs = [.ref p] ∧ ((SqL K H p ys ∧ ∀ l, H l = none → Q (.ref l) (upd H l (.tup ys))) ∨ (SqT K H p ys ∧ Q (.ref p) H))) [.list ds] (.tuple ds) := fun vs H Q d q => by
  obtain ⟨v, rfl, h⟩ := dpall1 d
  obtain ⟨p, xs, rfl, h1, h2⟩ := dp_lst h
  exact ⟨p, xs, rfl, .inl ⟨h1, fun l hl => q _ _ (same_new hl) (.tup (SqT.of upd_same) (dpall_mono (kd_of (same_new hl)) _ _ h2))⟩⟩
/-- isinstance(x, T): of ints and tuples -/
def isiB (T : String) : PyData → Option Bool
  | .int _ => some (T == "int")
  | .tuple _ => some (T == "tuple")
  | _ => none
/-! a def's promise over data -/
def spD (K : PySem.W.Frag) (R : List PyData → PyData → Prop) : Sp := fun vs H Q _ => ∃ ds d, DpAll K H vs ds ∧ R ds d ∧ ∀ v H', Same H H' → Dp K H' v d → Q v H'
theorem e_call {R : List PyData → PyData → Prop} {tr : TA} {ds : List PyData} (h : EA K tr σ H ds) (hR : R ds z) : ED K (tCall (spD K R) [] E0 tr) σ H z := fun H1 e Q q =>
  h H1 e _ fun vs H2 e2 d2 => ⟨ds, z, by rw [List.append_nil]; exact d2, hR, fun v H3 e3 d3 => q v H3 (e2.trans e3) d3⟩
end
end My
/-! Readings over data: comprehensions, statements, loops, instances. -/
namespace My
open PySem PySem.Spec PyProof.Rows L2

theorem fvd {K : PySem.W.Frag} {H : Hp} {v : V} {d : PyData} (h : Dp K H v d) : FvOk K H (.d d) (some v) := ⟨v, rfl, h⟩
theorem fd_begin {K : PySem.W.Frag} {H : Hp} {N : List Str} {vs : List V} {ds : List PyData} (h : DpAll K H vs ds) : Fd K H (start N vs) (ds.map FV.d ++ List.replicate (N.length - ds.length) .un) := by
  unfold L2.start
  rw [h.len]
  exact fd_start _ h
/-! ### comprehensions -/
section
variable {K : PySem.W.Frag} {σ : L2.St} {H H' : Hp} {fr : List FV} {tl te : TE} {tt : TT} {ta : TA}
/-- the list that is being made at D holds acc; all else stands -/
def Cw (K : PySem.W.Frag) (H : Hp) (D : Addr) (acc : List PyData) (H' : Hp) : Prop := H D = none ∧ Same H H' ∧ ∃ ws, H' D = some (.lst ws) ∧ DpAll K H' ws acc
theorem cw_start {D : Addr} (h : H D = none) : Cw K H D [] (upd H D (.lst [])) := ⟨h, same_new h, [], upd_same, .nil⟩
/-- what D holds tells of what H knows alone: no item of acc hangs on D -/
theorem cw_turn {D : Addr} {acc : List PyData} {σ2 : L2.St} {b : Bool} {y : PyData} {P : Hp → Prop} (p : Cw K H D acc H') (hn : acc.length < 50000) (hl : noLs acc = true) (hy : b = true → noL y = true)
    (ht : ET tt σ2 H b) (he : b = true → ED K te σ2 H y) (hP : ∀ H2, Cw K H D (acc ++ if b = true then [y] else []) H2 → P H2) :
    tt σ2 H' fun c H3 => if c = true then te σ2 H3 fun v H4 => ∃ l, H4 D = some (.lst l) ∧ l.length < sizeLine ∧ P (upd H4 D (.lst (l ++ [v]))) else P H3 := by
  obtain ⟨p1, p2, ws, p3, p4⟩ := p
  refine ht H' p2 _ fun H3 e3 => ?_
  cases b with
  | true =>
    refine iteT (he rfl H3 (p2.trans e3) _ fun v H4 e4 d4 => ⟨ws, e4 D _ (e3 D _ p3), ?_, hP _ ⟨p1, same_mut ((p2.trans e3).trans e4) p1, _, upd_same, ?_⟩⟩)
    · rw [p4.len]
      exact Nat.lt_of_lt_of_le hn (by decide)
    · have k : Kt K H4 (upd H4 D (.lst (ws ++ [v]))) := kt_upd (e4 D _ (e3 D _ p3))
      exact (dpall_kt k _ _ hl (dpall_mono (kd_of (e3.trans e4)) _ _ p4)).snoc (dp_kt k _ _ (hy rfl) d4)
  | false =>
    refine iteF (hP _ ⟨p1, p2.trans e3, ws, e3 D _ p3, ?_⟩)
    show DpAll K H3 ws (acc ++ [])
    rw [List.append_nil]
    exact dpall_mono (kd_of e3) _ _ p4

theorem noLs_map {α : Type} {l : List α} {f : α → Bool} {g : α → PyData} (h : ∀ d ∈ l, f d = true → noL (g d) = true) : noLs ((l.filter f).map g) = true := by
  rw [noLs_iff]
  intro d hd
  obtain ⟨x, hx, rfl⟩ := List.mem_map.mp hd
  obtain ⟨h1, h2⟩ := List.mem_filter.mp hx
  exact h x h1 h2
theorem take_fm {α : Type} {l : List α} {f : α → Bool} {g : α → PyData} {i : Nat} {d : α} (h : l[i]? = some d) : ((l.take (i + 1)).filter f).map g = ((l.take i).filter f).map g ++ if f d = true then [g d] else [] := by
  rw [List.take_add_one, h]
  simp only [Option.toList_some, List.filter_append, List.map_append, List.filter_cons, List.filter_nil]
  by_cases e : f d = true
  · rw [if_pos e, if_pos e]; rfl
  · rw [if_neg e, if_neg e]; rfl
theorem fm_len {α : Type} {l : List α} {f : α → Bool} {g : α → PyData} {i : Nat} : (((l.take i).filter f).map g).length ≤ l.length := by
  rw [List.length_map]
  exact Nat.le_trans (List.length_filter_le _ _) (by rw [List.length_take]; omega)
/-- [e for x in t if c], t a tuple -/
theorem e_lcT {ds : List PyData} {vs : List Nat} {j : Nat} (f : PyData → Bool) (g : PyData → PyData) (F : Fd K H σ fr) (h : ED K tl σ H (.tuple ds)) (hl : ds.length ≤ 40000) (hj : j ∈ vs) (hg : ∀ d ∈ ds, f d = true → noL (g d) = true)
    (ht : ∀ d ∈ ds, ∀ σ' H', Same H H' → Fd K H' σ' ((wipeF fr vs).set j (.d d)) → ET tt σ' H' (f d)) (he : ∀ d ∈ ds, f d = true → ∀ σ' H', Same H H' → Fd K H' σ' ((wipeF fr vs).set j (.d d)) → ED K te σ' H' (g d)) :
    ED K (tLc (iTup K tl) (gName j) tt te vs) σ H (.list ((ds.filter f).map g)) := fun H0 e0 Q q => h H0 e0 _ fun v H1 e1 d1 => by
  obtain ⟨a, xs, rfl, hs, hd⟩ := dp_tup d1
  refine ⟨a, rfl, ⟨xs, hs⟩, fun Dl hD => lc_tup (xs := xs) (fun i H' => Cw K H1 Dl (((ds.take i).filter f).map g) H') (cw_start hD) (fun i H' _ p => (kd_of p.2.1).t hs) (fun i x H' hi p => ?_) (fun H' p => ?_)⟩
  · obtain ⟨d, hd1, hd2⟩ := hd.of_at hi
    have hm := List.mem_of_getElem? hd1
    have F1 : Fd K H1 ((wipe σ vs).set j (some x)) ((wipeF fr vs).set j (.d d)) := ((F.same (e0.trans e1)).wipe vs).set j ⟨x, rfl, hd2⟩
    refine ⟨by show wipe ((wipe σ vs).set j (some x)) vs = _; rw [wipe_set hj, wipe_wipe], ?_⟩
    exact cw_turn p (Nat.lt_of_le_of_lt fm_len (by omega)) (noLs_map fun e he => hg e (List.mem_of_mem_take he)) (hg d hm) (ht d hm _ H1 (e0.trans e1) F1) (fun hf => he d hm hf _ H1 (e0.trans e1) F1) fun H2 p2 => by rw [take_fm hd1]; exact p2
  · have e2 : ds.take xs.length = ds := List.take_of_length_le (by rw [hd.len]; exact Nat.le_refl _)
    rw [e2] at p
    obtain ⟨p1, p2, ws, p3, p4⟩ := p
    exact q _ H' (e1.trans p2) (.lst (SqL.of p3) p4)
/-- .. a list -/
theorem e_lcL {ds : List PyData} {vs : List Nat} {j : Nat} (f : PyData → Bool) (g : PyData → PyData) (F : Fd K H σ fr) (h : ED K tl σ H (.list ds)) (hl : ds.length ≤ 40000) (hj : j ∈ vs) (hg : ∀ d ∈ ds, f d = true → noL (g d) = true)
    (ht : ∀ d ∈ ds, ∀ σ' H', Same H H' → Fd K H' σ' ((wipeF fr vs).set j (.d d)) → ET tt σ' H' (f d)) (he : ∀ d ∈ ds, f d = true → ∀ σ' H', Same H H' → Fd K H' σ' ((wipeF fr vs).set j (.d d)) → ED K te σ' H' (g d)) :
    ED K (tLc (iList K tl) (gName j) tt te vs) σ H (.list ((ds.filter f).map g)) := fun H0 e0 Q q => h H0 e0 _ fun v H1 e1 d1 => by
  obtain ⟨a, xs, rfl, hs, hd⟩ := dp_lst d1
  refine ⟨a, rfl, ⟨xs, hs⟩, fun Dl hD => lc_list (xs := xs) (fun i H' => Cw K H1 Dl (((ds.take i).filter f).map g) H') (cw_start hD) (fun i H' _ p => (kd_of p.2.1).l hs) (fun i x H' hi p => ?_) (fun H' p => ?_)⟩
  · obtain ⟨d, hd1, hd2⟩ := hd.of_at hi
    have hm := List.mem_of_getElem? hd1
    have F1 : Fd K H1 ((wipe σ vs).set j (some x)) ((wipeF fr vs).set j (.d d)) := ((F.same (e0.trans e1)).wipe vs).set j ⟨x, rfl, hd2⟩
    refine ⟨by show wipe ((wipe σ vs).set j (some x)) vs = _; rw [wipe_set hj, wipe_wipe], ?_⟩
    exact cw_turn p (Nat.lt_of_le_of_lt fm_len (by omega)) (noLs_map fun e he => hg e (List.mem_of_mem_take he)) (hg d hm) (ht d hm _ H1 (e0.trans e1) F1) (fun hf => he d hm hf _ H1 (e0.trans e1) F1) fun H2 p2 => by rw [take_fm hd1]; exact p2
  · have e2 : ds.take xs.length = ds := List.take_of_length_le (by rw [hd.len]; exact Nat.le_refl _)
    rw [e2] at p
    obtain ⟨p1, p2, ws, p3, p4⟩ := p
    exact q _ H' (e1.trans p2) (.lst (SqL.of p3) p4)
/-- .. a range -/
theorem e_lcR {vs : List Nat} {j n : Nat} {lo hi : Int} (f : Int → Bool) (g : Int → PyData) (F : Fd K H σ fr) (h : EA K ta σ H [.int lo, .int hi]) (hb : -1000000 ≤ lo ∧ lo ≤ 1000000 ∧ -1000000 ≤ hi ∧ hi ≤ 1000000) (hn : n = (hi - lo).toNat) (hz : n ≤ 40000) (hj : j ∈ vs) (hg : ∀ d, f d = true → noL (g d) = true)
    (ht : ∀ d, lo ≤ d → d < hi → ∀ σ' H', Same H H' → Fd K H' σ' ((wipeF fr vs).set j (.d (.int d))) → ET tt σ' H' (f d)) (he : ∀ d, lo ≤ d → d < hi → f d = true → ∀ σ' H', Same H H' → Fd K H' σ' ((wipeF fr vs).set j (.d (.int d))) → ED K te σ' H' (g d)) :
    ED K (tLc (iRng2 ta) (gName j) tt te vs) σ H (.list ((((List.range n).map fun (i : Nat) => lo + (i : Int)).filter f).map g)) := fun H0 e0 Q q => h H0 e0 _ fun ws H1 e1 d1 => by
  obtain ⟨v, w, rfl, dv, dw⟩ := dpall2 d1
  cases dv; cases dw
  refine ⟨lo, hi, rfl, ⟨by omega, by omega, by omega, by omega⟩, fun Dl hD => ?_⟩
  have ln : ((List.range n).map fun (i : Nat) => lo + (i : Int)).length = n := by simp
  refine lc_range (lo := lo) (n := (hi - lo).toNat) (fun i H' => Cw K H1 Dl (((((List.range n).map fun (i : Nat) => lo + (i : Int)).take i).filter f).map g) H') (cw_start hD) (fun i H' hi' p => ?_) (fun H' p => ?_)
  · have hm : ((List.range n).map fun (i : Nat) => lo + (i : Int))[i]? = some (lo + (i : Int)) := by
      rw [List.getElem?_map, List.getElem?_range (by omega)]
      rfl
    have F1 : Fd K H1 ((wipe σ vs).set j (some (.int (lo + (i : Int))))) ((wipeF fr vs).set j (.d (.int (lo + (i : Int))))) := ((F.same (e0.trans e1)).wipe vs).set j ⟨_, rfl, .int _⟩
    refine ⟨by show wipe ((wipe σ vs).set j (some _)) vs = _; rw [wipe_set hj, wipe_wipe], ?_⟩
    exact cw_turn p (Nat.lt_of_le_of_lt fm_len (by omega)) (noLs_map fun e _ he => hg e he) (hg _) (ht _ (by omega) (by omega) _ H1 (e0.trans e1) F1) (fun hf => he _ (by omega) (by omega) hf _ H1 (e0.trans e1) F1) fun H2 p2 => by rw [take_fm hm]; exact p2
  · have e2 : ((List.range n).map fun (i : Nat) => lo + (i : Int)).take (hi - lo).toNat = (List.range n).map fun (i : Nat) => lo + (i : Int) := List.take_of_length_le (by rw [ln]; omega)
    rw [e2] at p
    obtain ⟨p1, p2, ws, p3, p4⟩ := p
    exact q _ H' (e1.trans p2) (.lst (SqL.of p3) p4)
theorem Cw.new {D T : Addr} {acc : List PyData} {o : HO} (p : Cw K H D acc H') (hT : H' T = none) : Cw K H D acc (upd H' T o) := by
  obtain ⟨p1, p2, ws, p3, p4⟩ := p
  exact ⟨p1, p2.trans (same_new hT), ws, same_new hT D _ p3, dpall_mono (kd_of (same_new hT)) _ _ p4⟩
/-- [e for i, x in enumerate(t) if c], t a tuple -/
theorem e_lcE {ds : List PyData} {vs : List Nat} {j1 j2 : Nat} (f : PyData × Nat → Bool) (g : PyData × Nat → PyData) (F : Fd K H σ fr) (h : EA K ta σ H [.tuple ds]) (hl : ds.length ≤ 40000) (hj1 : j1 ∈ vs) (hj2 : j2 ∈ vs) (hg : ∀ d ∈ ds, ∀ i, f (d, i) = true → noL (g (d, i)) = true)
    (ht : ∀ d ∈ ds, ∀ (i : Nat) σ' H', Same H H' → Fd K H' σ' (((wipeF fr vs).set j1 (.d (.int (i : Int)))).set j2 (.d d)) → ET tt σ' H' (f (d, i)))
    (he : ∀ d ∈ ds, ∀ (i : Nat), f (d, i) = true → ∀ σ' H', Same H H' → Fd K H' σ' (((wipeF fr vs).set j1 (.d (.int (i : Int)))).set j2 (.d d)) → ED K te σ' H' (g (d, i))) :
    ED K (tLc (iEnumT K ta) (gTup K 2 (gCons (gName j1) (gCons (gName j2) gNil))) tt te vs) σ H (.list ((ds.zipIdx.filter f).map g)) := fun H0 e0 Q q => h H0 e0 _ fun ws H1 e1 d1 => by
  obtain ⟨v, rfl, dv⟩ := dpall1 d1
  obtain ⟨a, xs, rfl, hs, hd⟩ := dp_tup dv
  refine ⟨a, xs, rfl, hs, fun Dl hD => ?_⟩
  have W : Walk (ItEnumT K a) xs.length (fun H => SqT K H a xs) (YPair (fun i => some (.int (i : Nat))) (fun i => xs[i]?)) :=
    ⟨fun i H hi h => ⟨xs, xs[i], h, by simp [hi]⟩, fun H h => ⟨xs, h, rfl⟩, fun i H x H' hi h y => by
      obtain ⟨T, z, e1, e2, e3, e4⟩ := y
      exact ⟨T, _, z, e1, e2, e3, rfl, e4 xs h⟩⟩
  refine lc_it W (fun i H' => Cw K H1 Dl (((ds.zipIdx.take i).filter f).map g) H') (cw_start hD) (fun i H' _ p => (kd_of p.2.1).t hs) (fun i x H2 H3 hi p y => ?_) (fun H' p => ?_)
  · obtain ⟨T, x1, x2, rfl, hT, rfl, ex1, ex2⟩ := y
    have ex1' : V.int (i : Nat) = x1 := Option.some.inj ex1
    subst ex1'
    obtain ⟨d, hd1, hd2⟩ := hd.of_at ex2
    have hm := List.mem_of_getElem? hd1
    have hz : ds.zipIdx[i]? = some (d, i) := by
      rw [List.getElem?_zipIdx, hd1]
      simp
    have F1 : Fd K H1 (((wipe σ vs).set j1 (some (.int (i : Int)))).set j2 (some x2)) (((wipeF fr vs).set j1 (.d (.int (i : Int)))).set j2 (.d d)) := (((F.same (e0.trans e1)).wipe vs).set j1 (fvd (.int _))).set j2 (fvd hd2)
    refine ⟨T, _, rfl, SqT.of upd_same, rfl, _, _, rfl, _, _, rfl, rfl, ?_, ?_⟩
    · show wipe (((wipe σ vs).set j1 (some (.int (i : Int)))).set j2 (some x2)) vs = _
      rw [wipe_set hj2, wipe_set hj1, wipe_wipe]
    · exact cw_turn (p.new hT) (Nat.lt_of_le_of_lt fm_len (by rw [List.length_zipIdx]; omega)) (noLs_map fun e he he2 => hg e.1 (by
        obtain ⟨e1, e2⟩ := e
        have := List.mk_mem_zipIdx_iff_getElem?.mp (List.mem_of_mem_take he)
        exact List.mem_of_getElem? this) e.2 he2) (hg d hm i) (ht d hm i _ H1 (e0.trans e1) F1) (fun hf => he d hm i hf _ H1 (e0.trans e1) F1) fun H4 p4 => by rw [take_fm hz]; exact p4
  · have e2 : ds.zipIdx.take xs.length = ds.zipIdx := List.take_of_length_le (by rw [List.length_zipIdx, hd.len]; exact Nat.le_refl _)
    rw [e2] at p
    obtain ⟨p1, p2, ws, p3, p4⟩ := p
    exact q _ H' (e1.trans p2) (.lst (SqL.of p3) p4)
end

/-! ### instances -/
def putG {α : Type} (f : Str) (v : α) : List (Str × α) → List (Str × α)
  | [] => [(f, v)]
  | (g, x) :: r => if g = f then (g, v) :: r else (g, x) :: putG f v r
def FldOk (K : PySem.W.Frag) (H : Hp) (a : Str × V) (b : Str × FV) : Prop := a.1 = b.1 ∧ FvOk K H b.2 (some a.2)
def Ob (K : PySem.W.Frag) (H : Hp) (p C : Addr) (fds : List (Str × FV)) : Prop := ∃ dx fs, H p = some (.ins C dx fs) ∧ Paired (FldOk K H) fs fds
section
variable {K : PySem.W.Frag} {H H' : Hp} {p C : Addr} {fds : List (Str × FV)} {fs : List (Str × V)}
theorem flds_mono (e : Kd H H') (h : Paired (FldOk K H) fs fds) : Paired (FldOk K H') fs fds := paired_map h fun _ _ q => ⟨q.1, q.2.mono e⟩
theorem Ob.same (h : Ob K H p C fds) (e : Same H H') : Ob K H' p C fds := let ⟨dx, fs, h1, h2⟩ := h; ⟨dx, fs, e _ _ h1, flds_mono (kd_of e) h2⟩
theorem Ob.kd (h : Ob K H p C fds) (e : Kx p H H') : Kd H H' := let ⟨_, _, h1, _⟩ := h; e.kd h1
theorem flds_look : ∀ {fs : List (Str × V)} {fds : List (Str × FV)} {f : Str} {x : FV}, Paired (FldOk K H) fs fds → fds.lookup f = some x → ∃ v, fs.lookup f = some v ∧ FvOk K H x (some v)
  | _, _, _, _, .nil, h => by simp at h
  | (a, v) :: fs, (b, y) :: fds, f, x, .cons r t, h => by
    obtain ⟨r1, r2⟩ := r
    have r1 : a = b := r1
    subst r1
    rw [List.lookup_cons] at h ⊢
    cases q : f == a with
    | true =>
      rw [q] at h
      cases h
      exact ⟨v, rfl, r2⟩
    | false =>
      rw [q] at h
      exact flds_look t h
theorem flds_none : ∀ {fs : List (Str × V)} {fds : List (Str × FV)} {f : Str}, Paired (FldOk K H) fs fds → fds.lookup f = none → fs.lookup f = none
  | _, _, _, .nil, h => rfl
  | (a, v) :: fs, (b, y) :: fds, f, .cons r t, h => by
    obtain ⟨r1, r2⟩ := r
    have r1 : a = b := r1
    subst r1
    rw [List.lookup_cons] at h ⊢
    cases q : f == a with
    | true =>
      rw [q] at h
      cases h
    | false =>
      rw [q] at h
      exact flds_none t h
theorem flds_put {f : Str} {v : V} {x : FV} (r : FvOk K H x (some v)) : ∀ {fs : List (Str × V)} {fds : List (Str × FV)}, Paired (FldOk K H) fs fds → Paired (FldOk K H) (putF f v fs) (putG f x fds)
  | _, _, .nil => .cons ⟨rfl, r⟩ .nil
  | (a, v') :: fs, (b, y) :: fds, .cons q t => by
    obtain ⟨r1, r2⟩ := q
    have r1 : a = b := r1
    subst r1
    show Paired _ (if a = f then _ else _) (if a = f then _ else _)
    by_cases e : a = f
    · rw [if_pos e, if_pos e]
      exact .cons ⟨rfl, r⟩ t
    · rw [if_neg e, if_neg e]
      exact .cons ⟨rfl, r2⟩ (flds_put r t)
theorem flds_len : ∀ {fs : List (Str × V)} {fds : List (Str × FV)}, Paired (FldOk K H) fs fds → fs.length = fds.length
  | _, _, .nil => rfl
  | _, _, .cons _ t => by simp [flds_len t]
end

/-! ### statements -/
section
variable {K : PySem.W.Frag} {σ : L2.St} {H H' : Hp} {fr : List FV} {te ta tv : TE} {tt : TT} {tu tw tz : TS} {D : Ends} {d : PyData} {i : Nat} {p C : Addr} {fds : List (Str × FV)} {f : Str} {x : PyData}
theorem e_fld (O : Ob K H p C fds) (h : EV ta σ H (.ref p)) (hc : Cls K C) (hn : NoAttr K C f) (hl : fds.lookup f = some (.d x)) : ED K (tFld K ta f) σ H x := fun H1 e Q q => h H1 e _ fun H2 e2 => by
  obtain ⟨dx, fs, h1, h2⟩ := O.same (e.trans e2)
  obtain ⟨v, hv, w, ew, dw⟩ := flds_look h2 hl
  cases ew
  exact ⟨p, C, dx, fs, v, rfl, h1, hc, hn, hv, q v H2 e2 dw⟩
theorem q_asg (F : Fd K H σ fr) (h : ED K te σ H d) (k : ∀ σ' H1, Same H H1 → Fd K H1 σ' (fr.set i (.d d)) → tz D σ' H1) : tSeq (tAsg te (gName i)) tz D σ H :=
  h H (Same.refl H) _ fun v H1 e d1 => k _ H1 e ((F.same e).set i ⟨v, rfl, d1⟩)
theorem s_asg (F : Fd K H σ fr) (h : ED K te σ H d) (k : ∀ σ' H1, Same H H1 → Fd K H1 σ' (fr.set i (.d d)) → D.nx σ' H1) : tAsg te (gName i) D σ H :=
  h H (Same.refl H) _ fun v H1 e d1 => k _ H1 e ((F.same e).set i ⟨v, rfl, d1⟩)
theorem s_ret (h : ED K te σ H d) (k : ∀ v H1, Same H H1 → Dp K H1 v d → D.rt v H1) : tRet te D σ H := h H (Same.refl H) _ k
theorem s_ifT (F : Fd K H σ fr) (h : ET tt σ H true) (k : ∀ H1, Same H H1 → Fd K H1 σ fr → tu D σ H1) : tIfS tt tu tw D σ H := h H (Same.refl H) _ fun H1 e => iteT (k H1 e (F.same e))
theorem s_ifF (F : Fd K H σ fr) (h : ET tt σ H false) (k : ∀ H1, Same H H1 → Fd K H1 σ fr → tw D σ H1) : tIfS tt tu tw D σ H := h H (Same.refl H) _ fun H1 e => iteF (k H1 e (F.same e))
theorem q_ifT (F : Fd K H σ fr) (h : ET tt σ H true) (k : ∀ H1, Same H H1 → Fd K H1 σ fr → tu { D with nx := tz D } σ H1) : tSeq (tIfS tt tu tw) tz D σ H := h H (Same.refl H) _ fun H1 e => iteT (k H1 e (F.same e))
theorem q_ifF (F : Fd K H σ fr) (h : ET tt σ H false) (k : ∀ H1, Same H H1 → Fd K H1 σ fr → tw { D with nx := tz D } σ H1) : tSeq (tIfS tt tu tw) tz D σ H := h H (Same.refl H) _ fun H1 e => iteF (k H1 e (F.same e))
/-- if c without else: what is behind is reached either way -/
theorem q_ifN (F : Fd K H σ fr) (h : ET tt σ H false) (k : ∀ H1, Same H H1 → Fd K H1 σ fr → tz D σ H1) : tSeq (tIfS tt tu tNext) tz D σ H := h H (Same.refl H) _ fun H1 e => iteF (k H1 e (F.same e))
/-- self.f = e -/
theorem s_fld (F : Fd K H σ fr) (O : Ob K H p C fds) (hs : EV ta σ H (.ref p)) (h : ED K tv σ H d) (hc : Cls K C) (hn : NoAttr K C f) (hl : fds.length < 1000)
    (k : ∀ H1, Kx p H H1 → Ob K H1 p C (putG f (.d d) fds) → Fd K H1 σ fr → D.nx σ H1) : sFld K ta tv f D σ H :=
  h H (Same.refl H) _ fun v H1 e1 d1 => hs H1 e1 _ fun H2 e2 => by
    have e12 := e1.trans e2
    obtain ⟨dx, fs, h1, h2⟩ := O.same e12
    refine ⟨p, C, dx, fs, rfl, h1, hc, hn, by rw [flds_len h2]; exact hl, ?_⟩
    have k2 : Kx p H2 (upd H2 p (.ins C dx (putF f v fs))) := kx_upd
    have k3 := k2.kd h1
    exact k _ ((kx_of e12).trans k2) ⟨dx, _, upd_same, flds_mono k3 (flds_put (fvd (dp_mono (kd_of e2) _ _ d1)) h2)⟩ ((F.same e12).mono k3)
theorem q_fld (F : Fd K H σ fr) (O : Ob K H p C fds) (hs : EV ta σ H (.ref p)) (h : ED K tv σ H d) (hc : Cls K C) (hn : NoAttr K C f) (hl : fds.length < 1000)
    (k : ∀ H1, Kx p H H1 → Ob K H1 p C (putG f (.d d) fds) → Fd K H1 σ fr → tz D σ H1) : tSeq (sFld K ta tv f) tz D σ H := s_fld (D := { D with nx := tz D }) F O hs h hc hn hl k
/-! loops over data -/
theorem s_forT {ds : List PyData} {tl : TE} {j : Nat} (h : ED K tl σ H (.tuple ds)) (Pv : Hp → Nat → L2.St → Hp → Prop) (h0 : ∀ H1, Same H H1 → Pv H1 0 σ H1) (hk : ∀ H1 i σ' H', Pv H1 i σ' H' → Kd H1 H')
    (hs : ∀ H1 i e x σ' H', Same H H1 → ds[i]? = some e → Dp K H' x e → Pv H1 i σ' H' → tu { D with nx := Pv H1 (i + 1), ct := Pv H1 (i + 1), bk := D.nx } (σ'.set j (some x)) H') (hd : ∀ H1 σ' H', Same H H1 → Pv H1 ds.length σ' H' → D.nx σ' H') :
    tFor (iTup K tl) (gName j) tu D σ H := h H (Same.refl H) _ fun v H1 e1 d1 => by
  obtain ⟨a, xs, rfl, hs1, hd1⟩ := dp_tup d1
  refine ⟨a, rfl, ⟨xs, hs1⟩, for_tup (xs := xs) (Pv H1) (h0 H1 e1) (fun i σ' H' _ p => (hk H1 i σ' H' p).t hs1) (fun i x σ' H' hi p => ?_) (fun σ' H' p => hd H1 σ' H' e1 (by rw [← hd1.len]; exact p))⟩
  obtain ⟨e, he1, he2⟩ := hd1.of_at hi
  exact hs H1 i e x σ' H' e1 he1 (dp_mono (hk H1 i σ' H' p) _ _ he2) p
theorem s_forL {ds : List PyData} {tl : TE} {j : Nat} (h : ED K tl σ H (.list ds)) (Pv : Hp → Nat → L2.St → Hp → Prop) (h0 : ∀ H1, Same H H1 → Pv H1 0 σ H1) (hk : ∀ H1 i σ' H', Pv H1 i σ' H' → Kd H1 H')
    (hs : ∀ H1 i e x σ' H', Same H H1 → ds[i]? = some e → Dp K H' x e → Pv H1 i σ' H' → tu { D with nx := Pv H1 (i + 1), ct := Pv H1 (i + 1), bk := D.nx } (σ'.set j (some x)) H') (hd : ∀ H1 σ' H', Same H H1 → Pv H1 ds.length σ' H' → D.nx σ' H') :
    tFor (iList K tl) (gName j) tu D σ H := h H (Same.refl H) _ fun v H1 e1 d1 => by
  obtain ⟨a, xs, rfl, hs1, hd1⟩ := dp_lst d1
  refine ⟨a, rfl, ⟨xs, hs1⟩, for_list (xs := xs) (Pv H1) (h0 H1 e1) (fun i σ' H' _ p => (hk H1 i σ' H' p).l hs1) (fun i x σ' H' hi p => ?_) (fun σ' H' p => hd H1 σ' H' e1 (by rw [← hd1.len]; exact p))⟩
  obtain ⟨e, he1, he2⟩ := hd1.of_at hi
  exact hs H1 i e x σ' H' e1 he1 (dp_mono (hk H1 i σ' H' p) _ _ he2) p
theorem q_forT {ds : List PyData} {tl : TE} {j : Nat} (h : ED K tl σ H (.tuple ds)) (Pv : Hp → Nat → L2.St → Hp → Prop) (h0 : ∀ H1, Same H H1 → Pv H1 0 σ H1) (hk : ∀ H1 i σ' H', Pv H1 i σ' H' → Kd H1 H')
    (hs : ∀ H1 i e x σ' H', Same H H1 → ds[i]? = some e → Dp K H' x e → Pv H1 i σ' H' → tu { D with nx := Pv H1 (i + 1), ct := Pv H1 (i + 1), bk := tz D } (σ'.set j (some x)) H') (hd : ∀ H1 σ' H', Same H H1 → Pv H1 ds.length σ' H' → tz D σ' H') :
    tSeq (tFor (iTup K tl) (gName j) tu) tz D σ H := s_forT (D := { D with nx := tz D }) h Pv h0 hk hs hd
theorem q_forL {ds : List PyData} {tl : TE} {j : Nat} (h : ED K tl σ H (.list ds)) (Pv : Hp → Nat → L2.St → Hp → Prop) (h0 : ∀ H1, Same H H1 → Pv H1 0 σ H1) (hk : ∀ H1 i σ' H', Pv H1 i σ' H' → Kd H1 H')
    (hs : ∀ H1 i e x σ' H', Same H H1 → ds[i]? = some e → Dp K H' x e → Pv H1 i σ' H' → tu { D with nx := Pv H1 (i + 1), ct := Pv H1 (i + 1), bk := tz D } (σ'.set j (some x)) H') (hd : ∀ H1 σ' H', Same H H1 → Pv H1 ds.length σ' H' → tz D σ' H') :
    tSeq (tFor (iList K tl) (gName j) tu) tz D σ H := s_forL (D := { D with nx := tz D }) h Pv h0 hk hs hd
end
end My
namespace My
open PySem L2
/-! the text by its places -/
def top (i : Nat) : Stmt := PySem.Challenge.pw_wholeglance_k14_whole_jobs_done_at_once.main.body.getD i (.Pass ⟨0, 0, 0, 0⟩)
abbrev sIsWhole : Stmt := top 4
abbrev sIsNumber : Stmt := top 5
abbrev sIsValueWithin : Stmt := top 6
abbrev sIsValue : Stmt := top 7
abbrev sLess : Stmt := top 15
abbrev sHalfway : Stmt := top 16
abbrev sAtJob : Stmt := top 18
abbrev sNextDeed : Stmt := top 19
abbrev sAnswerOf : Stmt := top 20
abbrev sLawHand : Stmt := top 22
abbrev sLawTake : Stmt := top 23
abbrev sLawPick : Stmt := top 24
abbrev sLawBuilt : Stmt := top 25
abbrev sLawLess : Stmt := top 26
abbrev sLawFit : Stmt := top 27
abbrev sLawDone : Stmt := top 28
abbrev sLawSumsRight : Stmt := top 29
abbrev sLaw : Stmt := top 30
abbrev sJob_init : Stmt := inClass (top 10) 0
abbrev sSums_deed : Stmt := inClass (top 12) 0
abbrev sSums_answer : Stmt := inClass (top 12) 1
abbrev sName_init : Stmt := inClass (top 13) 0
abbrev sName_hear : Stmt := inClass (top 13) 1
abbrev sName_deed : Stmt := inClass (top 13) 2
abbrev sName_answer : Stmt := inClass (top 13) 3
abbrev sJob_others : Stmt := inClass (top 10) 1
abbrev sLeast_there : Stmt := inClass (top 14) 0
abbrev sLeast_deed : Stmt := inClass (top 14) 1
abbrev sLeast_answer : Stmt := inClass (top 14) 2
abbrev sCloser_init : Stmt := inClass (top 17) 0
abbrev sCloser_hear : Stmt := inClass (top 17) 1
abbrev sCloser_deed : Stmt := inClass (top 17) 2
abbrev sCloser_answer : Stmt := inClass (top 17) 3
def d_is_whole : He.DefD := ⟨("is_whole", none), "is_whole", "is_whole", defArgs sIsWhole, defBody sIsWhole, defScope sIsWhole, [], []⟩
def d_is_number : He.DefD := ⟨("is_number", none), "is_number", "is_number", defArgs sIsNumber, defBody sIsNumber, defScope sIsNumber, [], []⟩
def d_is_value_within : He.DefD := ⟨("is_value_within", none), "is_value_within", "is_value_within", defArgs sIsValueWithin, defBody sIsValueWithin, defScope sIsValueWithin, [], []⟩
def d_is_value : He.DefD := ⟨("is_value", none), "is_value", "is_value", defArgs sIsValue, defBody sIsValue, defScope sIsValue, [], []⟩
def d_less : He.DefD := ⟨("less", none), "less", "less", defArgs sLess, defBody sLess, defScope sLess, [], []⟩
def d_halfway : He.DefD := ⟨("halfway", none), "halfway", "halfway", defArgs sHalfway, defBody sHalfway, defScope sHalfway, [], []⟩
def d_at_job : He.DefD := ⟨("at_job", none), "at_job", "at_job", defArgs sAtJob, defBody sAtJob, defScope sAtJob, [], []⟩
def d_next_deed : He.DefD := ⟨("next_deed", none), "next_deed", "next_deed", defArgs sNextDeed, defBody sNextDeed, defScope sNextDeed, [], []⟩
def d_answer_of : He.DefD := ⟨("answer_of", none), "answer_of", "answer_of", defArgs sAnswerOf, defBody sAnswerOf, defScope sAnswerOf, [], []⟩
def d_law_hand : He.DefD := ⟨("_law_hand", none), "_law_hand", "_law_hand", defArgs sLawHand, defBody sLawHand, defScope sLawHand, [], []⟩
def d_law_take : He.DefD := ⟨("_law_take", none), "_law_take", "_law_take", defArgs sLawTake, defBody sLawTake, defScope sLawTake, [], []⟩
def d_law_pick : He.DefD := ⟨("_law_pick", none), "_law_pick", "_law_pick", defArgs sLawPick, defBody sLawPick, defScope sLawPick, [], []⟩
def d_law_built : He.DefD := ⟨("_law_built", none), "_law_built", "_law_built", defArgs sLawBuilt, defBody sLawBuilt, defScope sLawBuilt, [], []⟩
def d_law_less : He.DefD := ⟨("_law_less", none), "_law_less", "_law_less", defArgs sLawLess, defBody sLawLess, defScope sLawLess, [], []⟩
def d_law_fit : He.DefD := ⟨("_law_fit", none), "_law_fit", "_law_fit", defArgs sLawFit, defBody sLawFit, defScope sLawFit, [], []⟩
def d_law_done : He.DefD := ⟨("_law_done", none), "_law_done", "_law_done", defArgs sLawDone, defBody sLawDone, defScope sLawDone, [], []⟩
def d_law_sums_right : He.DefD := ⟨("_law_sums_right", none), "_law_sums_right", "_law_sums_right", defArgs sLawSumsRight, defBody sLawSumsRight, defScope sLawSumsRight, [], []⟩
def d_law : He.DefD := ⟨("law", none), "law", "law", defArgs sLaw, defBody sLaw, defScope sLaw, [], []⟩
def d_Job_init : He.DefD := ⟨("Job", some "__init__"), "__init__", "Job.__init__", defArgs sJob_init, defBody sJob_init, defScope sJob_init, [], []⟩
def d_Sums_init : He.DefD := ⟨("Sums", some "__init__"), "__init__", "Job.__init__", defArgs sJob_init, defBody sJob_init, defScope sJob_init, [], []⟩
def d_Sums_deed : He.DefD := ⟨("Sums", some "deed"), "deed", "Sums.deed", defArgs sSums_deed, defBody sSums_deed, defScope sSums_deed, [], []⟩
def d_Sums_answer : He.DefD := ⟨("Sums", some "answer"), "answer", "Sums.answer", defArgs sSums_answer, defBody sSums_answer, defScope sSums_answer, [], []⟩
def d_Name_init : He.DefD := ⟨("Name", some "__init__"), "__init__", "Name.__init__", defArgs sName_init, defBody sName_init, defScope sName_init, [], []⟩
def d_Name_hear : He.DefD := ⟨("Name", some "hear"), "hear", "Name.hear", defArgs sName_hear, defBody sName_hear, defScope sName_hear, [], []⟩
def d_Name_deed : He.DefD := ⟨("Name", some "deed"), "deed", "Name.deed", defArgs sName_deed, defBody sName_deed, defScope sName_deed, [], []⟩
def d_Name_answer : He.DefD := ⟨("Name", some "answer"), "answer", "Name.answer", defArgs sName_answer, defBody sName_answer, defScope sName_answer, [], []⟩
def d_Name_others : He.DefD := ⟨("Name", some "others"), "others", "Job.others", defArgs sJob_others, defBody sJob_others, defScope sJob_others, [], []⟩
def d_Least_init : He.DefD := ⟨("Least", some "__init__"), "__init__", "Job.__init__", defArgs sJob_init, defBody sJob_init, defScope sJob_init, [], []⟩
def d_Least_there : He.DefD := ⟨("Least", some "there"), "there", "Least.there", defArgs sLeast_there, defBody sLeast_there, defScope sLeast_there, [], []⟩
def d_Least_deed : He.DefD := ⟨("Least", some "deed"), "deed", "Least.deed", defArgs sLeast_deed, defBody sLeast_deed, defScope sLeast_deed, [], []⟩
def d_Least_answer : He.DefD := ⟨("Least", some "answer"), "answer", "Least.answer", defArgs sLeast_answer, defBody sLeast_answer, defScope sLeast_answer, [], []⟩
def d_Closer_init : He.DefD := ⟨("Closer", some "__init__"), "__init__", "Closer.__init__", defArgs sCloser_init, defBody sCloser_init, defScope sCloser_init, [], []⟩
def d_Closer_hear : He.DefD := ⟨("Closer", some "hear"), "hear", "Closer.hear", defArgs sCloser_hear, defBody sCloser_hear, defScope sCloser_hear, [], []⟩
def d_Closer_deed : He.DefD := ⟨("Closer", some "deed"), "deed", "Closer.deed", defArgs sCloser_deed, defBody sCloser_deed, defScope sCloser_deed, [], []⟩
def d_Closer_answer : He.DefD := ⟨("Closer", some "answer"), "answer", "Closer.answer", defArgs sCloser_answer, defBody sCloser_answer, defScope sCloser_answer, [], []⟩
def d_Closer_others : He.DefD := ⟨("Closer", some "others"), "others", "Job.others", defArgs sJob_others, defBody sJob_others, defScope sJob_others, [], []⟩
def fnL : List He.DefD := [d_is_whole, d_is_number, d_is_value_within, d_is_value, d_less, d_halfway, d_at_job, d_next_deed, d_answer_of, d_law_hand, d_law_take, d_law_pick, d_law_built, d_law_less, d_law_fit, d_law_done, d_law_sums_right, d_law, d_Job_init, d_Sums_init, d_Sums_deed, d_Sums_answer, d_Name_init, d_Name_hear, d_Name_deed, d_Name_answer, d_Name_others, d_Least_init, d_Least_there, d_Least_deed, d_Least_answer, d_Closer_init, d_Closer_hear, d_Closer_deed, d_Closer_answer, d_Closer_others]
def faL : List He.Fa := [.glo "is_whole", .glo "is_number", .glo "is_value_within", .glo "is_value", .glo "less", .glo "halfway", .glo "at_job", .glo "next_deed", .glo "answer_of", .glo "_law_hand", .glo "_law_take", .glo "_law_pick", .glo "_law_built", .glo "_law_less", .glo "_law_fit", .glo "_law_done", .glo "_law_sums_right", .glo "law", .glo "Job", .glo "Sums", .glo "Name", .glo "Least", .glo "Closer", .glo "LOOK", .int "MOST_VALUES" 8, .int "MOST_DEEP" 3, .int "TOO_GREAT" 1000000000000, .free "isinstance", .free "int", .free "bool", .free "tuple", .free "abs", .free "len", .free "all", .free "sum", .free "enumerate", .free "range", .free "min", .free "max", .free "set", .free "sorted", .cls "Sums", .cls "Name", .cls "Least", .cls "Closer", .noat "Sums" "own", .noat "Sums" "said", .noat "Sums" "told", .noat "Name" "own", .noat "Name" "said", .noat "Name" "told", .noat "Least" "own", .noat "Least" "said", .noat "Least" "told", .noat "Closer" "own", .noat "Closer" "said", .noat "Closer" "told", .noat "Name" "number", .noat "Name" "known", .noat "Closer" "numbers", .meth "Sums" "deed", .meth "Sums" "answer", .meth "Name" "hear", .meth "Name" "deed", .meth "Name" "answer", .meth "Name" "others", .meth "Least" "there", .meth "Least" "deed", .meth "Least" "answer", .meth "Closer" "hear", .meth "Closer" "deed", .meth "Closer" "answer", .meth "Closer" "others", .mkr "Sums", .mkr "Name", .mkr "Least", .mkr "Closer"]
/-- besides: LOOK's items, how Job's attributes are read -/
def exB (K : PySem.W.Frag) : Bool := He.tupB K "LOOK" [.str "look"] && (PySem.W.readsIn K (He.ga K "Job") (.type "type") && (He.eqO (PySem.W.specialIn K (.ref (He.ga K "Job")) "__getattribute__") (some (some (.builtin "type.__getattribute__"))) &&
  (match PySem.W.findCls K (.ref (He.ga K "Job")) (.type "type") "__init__" with
    | some (.val (.ref a)) => decide (a = He.ma K (He.ga K "Job") "__init__")
    | _ => false)))
/-! the written part -/
def partG (n : Nat) (g : Addr → Option Obj) : PySem.W.Frag := He.frG g (He.asD g n ++ [cStatics])
def obsM (g : Addr → Option Obj) : He.AlD × Bool := (He.obsD faL fnL (partG 5 g), exB (partG 5 g))
def SaysM (K : PySem.W.Frag) : Prop := He.SaysD faL fnL K ∧ exB K = true
def hookM : PySem.W.Hook where
  α := He.AlD × Bool
  obs := fun s => obsM s.heap.get?
  val := fun _ => (He.valD fnL, true)
  says := fun _ h => ∃ K : PySem.W.Frag, K.In h ∧ SaysM K
  of := fun _ _ e => ⟨_, He.frG_in, congrArg (fun z : He.AlD × Bool => z.1) e, congrArg (fun z : He.AlD × Bool => z.2) e⟩
  keeps := fun _ _ _ ⟨K, hK, c⟩ k => ⟨K, PySem.W.Frag.In.keeps hK k, c⟩
abbrev RowM : PySem.W.OpenRow := PySem.W.OpenLaw.row PySem.Challenge.rw_wholeglance_k14_whole_jobs_done_at_once
def obM (s : PySem.W.SharedT) : He.AlD × Bool := obsM (HandSHeadRun.getT s)
theorem obM_eq (s : PySem.W.SharedT) : obM s = hookM.obs s.abs := by
  have e : HandSHeadRun.getT s = s.abs.heap.get? := funext fun a => HandSHeadRun.getT_eq s a
  show obsM (HandSHeadRun.getT s) = obsM s.abs.heap.get?
  rw [e]
def looseM : List PySem.Str := ["MOST_VALUES", "MOST_DEEP", "TOO_GREAT", "is_whole", "is_number", "is_value_within", "is_value", "LOOK", "Job", "Deeds", "Sums", "Name", "Least", "less", "halfway", "Closer", "at_job", "next_deed", "answer_of", "_law_hand", "_law_take", "_law_pick", "_law_built", "_law_less", "_law_fit", "_law_done", "_law_sums_right"]
theorem runM (w : World) : HandSHeadRun.RunEq RowM (PySem.W.view RowM.prog [30]) hookM obM 6000 looseM w := by
  intro os
  kernel_rfl
end My
/-! What the top has left, fact by fact. -/
namespace My
open PySem PySem.Spec PyProof.Rows L2
theorem fun_of {K : PySem.W.Frag} {x q : Str} {st : Stmt} {f : Addr} {fd : FuncData} (F : FunD K x q (defArgs st) (defBody st) (defScope st) [] [] f fd) : Fun K x q st f fd := by
  obtain ⟨oc, od, dV, kV, doc, pm, an, cdv, ct, osl, e, lk, hc, hd, hk⟩ := F.ex
  rcases hd with ⟨_, e2⟩ | ⟨ne, _⟩
  · subst e2
    exact ⟨⟨oc, od, kV, doc, pm, an, cdv, ct, osl, e, lk, hc⟩, F.kp⟩
  · exact absurd rfl ne
structure Tx (K : PySem.W.Frag) (mg : Str → Option Value) : Prop where
  g_is_whole : mg "is_whole" = some (.ref (He.ga K "is_whole"))
  g_is_number : mg "is_number" = some (.ref (He.ga K "is_number"))
  g_is_value_within : mg "is_value_within" = some (.ref (He.ga K "is_value_within"))
  g_is_value : mg "is_value" = some (.ref (He.ga K "is_value"))
  g_less : mg "less" = some (.ref (He.ga K "less"))
  g_halfway : mg "halfway" = some (.ref (He.ga K "halfway"))
  g_at_job : mg "at_job" = some (.ref (He.ga K "at_job"))
  g_next_deed : mg "next_deed" = some (.ref (He.ga K "next_deed"))
  g_answer_of : mg "answer_of" = some (.ref (He.ga K "answer_of"))
  g_law_hand : mg "_law_hand" = some (.ref (He.ga K "_law_hand"))
  g_law_take : mg "_law_take" = some (.ref (He.ga K "_law_take"))
  g_law_pick : mg "_law_pick" = some (.ref (He.ga K "_law_pick"))
  g_law_built : mg "_law_built" = some (.ref (He.ga K "_law_built"))
  g_law_less : mg "_law_less" = some (.ref (He.ga K "_law_less"))
  g_law_fit : mg "_law_fit" = some (.ref (He.ga K "_law_fit"))
  g_law_done : mg "_law_done" = some (.ref (He.ga K "_law_done"))
  g_law_sums_right : mg "_law_sums_right" = some (.ref (He.ga K "_law_sums_right"))
  g_law : mg "law" = some (.ref (He.ga K "law"))
  g_Job : mg "Job" = some (.ref (He.ga K "Job"))
  g_Sums : mg "Sums" = some (.ref (He.ga K "Sums"))
  g_Name : mg "Name" = some (.ref (He.ga K "Name"))
  g_Least : mg "Least" = some (.ref (He.ga K "Least"))
  g_Closer : mg "Closer" = some (.ref (He.ga K "Closer"))
  g_LOOK : mg "LOOK" = some (.ref (He.ga K "LOOK"))
  i_MOST_VALUES : ∃ t, mg "MOST_VALUES" = some (.int 8 t)
  i_MOST_DEEP : ∃ t, mg "MOST_DEEP" = some (.int 3 t)
  i_TOO_GREAT : ∃ t, mg "TOO_GREAT" = some (.int 1000000000000 t)
  b_isinstance : mg "isinstance" = none
  b_int : mg "int" = none
  b_bool : mg "bool" = none
  b_tuple : mg "tuple" = none
  b_abs : mg "abs" = none
  b_len : mg "len" = none
  b_all : mg "all" = none
  b_sum : mg "sum" = none
  b_enumerate : mg "enumerate" = none
  b_range : mg "range" = none
  b_min : mg "min" = none
  b_max : mg "max" = none
  b_set : mg "set" = none
  b_sorted : mg "sorted" = none
  c_Sums : Cls K (He.ga K "Sums")
  c_Name : Cls K (He.ga K "Name")
  c_Least : Cls K (He.ga K "Least")
  c_Closer : Cls K (He.ga K "Closer")
  n_Sums_own : NoAttr K (He.ga K "Sums") "own"
  n_Sums_said : NoAttr K (He.ga K "Sums") "said"
  n_Sums_told : NoAttr K (He.ga K "Sums") "told"
  n_Name_own : NoAttr K (He.ga K "Name") "own"
  n_Name_said : NoAttr K (He.ga K "Name") "said"
  n_Name_told : NoAttr K (He.ga K "Name") "told"
  n_Least_own : NoAttr K (He.ga K "Least") "own"
  n_Least_said : NoAttr K (He.ga K "Least") "said"
  n_Least_told : NoAttr K (He.ga K "Least") "told"
  n_Closer_own : NoAttr K (He.ga K "Closer") "own"
  n_Closer_said : NoAttr K (He.ga K "Closer") "said"
  n_Closer_told : NoAttr K (He.ga K "Closer") "told"
  n_Name_number : NoAttr K (He.ga K "Name") "number"
  n_Name_known : NoAttr K (He.ga K "Name") "known"
  n_Closer_numbers : NoAttr K (He.ga K "Closer") "numbers"
  m_Sums_deed : Meth K (He.ga K "Sums") "deed" (He.ma K (He.ga K "Sums") "deed")
  m_Sums_answer : Meth K (He.ga K "Sums") "answer" (He.ma K (He.ga K "Sums") "answer")
  m_Name_hear : Meth K (He.ga K "Name") "hear" (He.ma K (He.ga K "Name") "hear")
  m_Name_deed : Meth K (He.ga K "Name") "deed" (He.ma K (He.ga K "Name") "deed")
  m_Name_answer : Meth K (He.ga K "Name") "answer" (He.ma K (He.ga K "Name") "answer")
  m_Name_others : Meth K (He.ga K "Name") "others" (He.ma K (He.ga K "Name") "others")
  m_Least_there : Meth K (He.ga K "Least") "there" (He.ma K (He.ga K "Least") "there")
  m_Least_deed : Meth K (He.ga K "Least") "deed" (He.ma K (He.ga K "Least") "deed")
  m_Least_answer : Meth K (He.ga K "Least") "answer" (He.ma K (He.ga K "Least") "answer")
  m_Closer_hear : Meth K (He.ga K "Closer") "hear" (He.ma K (He.ga K "Closer") "hear")
  m_Closer_deed : Meth K (He.ga K "Closer") "deed" (He.ma K (He.ga K "Closer") "deed")
  m_Closer_answer : Meth K (He.ga K "Closer") "answer" (He.ma K (He.ga K "Closer") "answer")
  m_Closer_others : Meth K (He.ga K "Closer") "others" (He.ma K (He.ga K "Closer") "others")
  k_Sums : Mk K (He.ga K "Sums") (He.ma K (He.ga K "Sums") "__init__")
  k_Name : Mk K (He.ga K "Name") (He.ma K (He.ga K "Name") "__init__")
  k_Least : Mk K (He.ga K "Least") (He.ma K (He.ga K "Least") "__init__")
  k_Closer : Mk K (He.ga K "Closer") (He.ma K (He.ga K "Closer") "__init__")
  look : ∀ H, SqT K H (He.ga K "LOOK") [.str "look"]
  job : ClsFn K (He.ga K "Job") "__init__" (He.ma K (He.ga K "Job") "__init__")
  f_is_whole : ∃ fd, Fun K "is_whole" "is_whole" sIsWhole (He.ga K "is_whole") fd
  f_is_number : ∃ fd, Fun K "is_number" "is_number" sIsNumber (He.ga K "is_number") fd
  f_is_value_within : ∃ fd, Fun K "is_value_within" "is_value_within" sIsValueWithin (He.ga K "is_value_within") fd
  f_is_value : ∃ fd, Fun K "is_value" "is_value" sIsValue (He.ga K "is_value") fd
  f_less : ∃ fd, Fun K "less" "less" sLess (He.ga K "less") fd
  f_halfway : ∃ fd, Fun K "halfway" "halfway" sHalfway (He.ga K "halfway") fd
  f_at_job : ∃ fd, Fun K "at_job" "at_job" sAtJob (He.ga K "at_job") fd
  f_next_deed : ∃ fd, Fun K "next_deed" "next_deed" sNextDeed (He.ga K "next_deed") fd
  f_answer_of : ∃ fd, Fun K "answer_of" "answer_of" sAnswerOf (He.ga K "answer_of") fd
  f_law_hand : ∃ fd, Fun K "_law_hand" "_law_hand" sLawHand (He.ga K "_law_hand") fd
  f_law_take : ∃ fd, Fun K "_law_take" "_law_take" sLawTake (He.ga K "_law_take") fd
  f_law_pick : ∃ fd, Fun K "_law_pick" "_law_pick" sLawPick (He.ga K "_law_pick") fd
  f_law_built : ∃ fd, Fun K "_law_built" "_law_built" sLawBuilt (He.ga K "_law_built") fd
  f_law_less : ∃ fd, Fun K "_law_less" "_law_less" sLawLess (He.ga K "_law_less") fd
  f_law_fit : ∃ fd, Fun K "_law_fit" "_law_fit" sLawFit (He.ga K "_law_fit") fd
  f_law_done : ∃ fd, Fun K "_law_done" "_law_done" sLawDone (He.ga K "_law_done") fd
  f_law_sums_right : ∃ fd, Fun K "_law_sums_right" "_law_sums_right" sLawSumsRight (He.ga K "_law_sums_right") fd
  f_law : ∃ fd, Fun K "law" "law" sLaw (He.ga K "law") fd
  f_Job_init : ∃ fd, Fun K "__init__" "Job.__init__" sJob_init (He.ma K (He.ga K "Job") "__init__") fd
  f_Sums_init : ∃ fd, Fun K "__init__" "Job.__init__" sJob_init (He.ma K (He.ga K "Sums") "__init__") fd
  f_Sums_deed : ∃ fd, Fun K "deed" "Sums.deed" sSums_deed (He.ma K (He.ga K "Sums") "deed") fd
  f_Sums_answer : ∃ fd, Fun K "answer" "Sums.answer" sSums_answer (He.ma K (He.ga K "Sums") "answer") fd
  f_Name_init : ∃ fd, Fun K "__init__" "Name.__init__" sName_init (He.ma K (He.ga K "Name") "__init__") fd
  f_Name_hear : ∃ fd, Fun K "hear" "Name.hear" sName_hear (He.ma K (He.ga K "Name") "hear") fd
  f_Name_deed : ∃ fd, Fun K "deed" "Name.deed" sName_deed (He.ma K (He.ga K "Name") "deed") fd
  f_Name_answer : ∃ fd, Fun K "answer" "Name.answer" sName_answer (He.ma K (He.ga K "Name") "answer") fd
  f_Name_others : ∃ fd, Fun K "others" "Job.others" sJob_others (He.ma K (He.ga K "Name") "others") fd
  f_Least_init : ∃ fd, Fun K "__init__" "Job.__init__" sJob_init (He.ma K (He.ga K "Least") "__init__") fd
  f_Least_there : ∃ fd, Fun K "there" "Least.there" sLeast_there (He.ma K (He.ga K "Least") "there") fd
  f_Least_deed : ∃ fd, Fun K "deed" "Least.deed" sLeast_deed (He.ma K (He.ga K "Least") "deed") fd
  f_Least_answer : ∃ fd, Fun K "answer" "Least.answer" sLeast_answer (He.ma K (He.ga K "Least") "answer") fd
  f_Closer_init : ∃ fd, Fun K "__init__" "Closer.__init__" sCloser_init (He.ma K (He.ga K "Closer") "__init__") fd
  f_Closer_hear : ∃ fd, Fun K "hear" "Closer.hear" sCloser_hear (He.ma K (He.ga K "Closer") "hear") fd
  f_Closer_deed : ∃ fd, Fun K "deed" "Closer.deed" sCloser_deed (He.ma K (He.ga K "Closer") "deed") fd
  f_Closer_answer : ∃ fd, Fun K "answer" "Closer.answer" sCloser_answer (He.ma K (He.ga K "Closer") "answer") fd
  f_Closer_others : ∃ fd, Fun K "others" "Job.others" sJob_others (He.ma K (He.ga K "Closer") "others") fd
theorem ex_job {K : PySem.W.Frag} (h : exB K = true) : ClsFn K (He.ga K "Job") "__init__" (He.ma K (He.ga K "Job") "__init__") := by
  obtain ⟨h1, h⟩ := He.ba h
  obtain ⟨h2, h⟩ := He.ba h
  obtain ⟨h3, h4⟩ := He.ba h
  refine ⟨h2, He.eqO_ok h3, ?_⟩
  split at h4
  · rename_i a e
    rw [e, of_decide_eq_true h4]
  · cases h4
theorem tx_mk {K : PySem.W.Frag} {mg : Str → Option Value} {h : Heap} (X : K.In h) (G : h.Ns mainGlobals mg) (c : SaysM K) : Tx K mg :=
  ⟨He.glo_ok X G (c.1.fact 0 (f := .glo "is_whole") rfl),
   He.glo_ok X G (c.1.fact 1 (f := .glo "is_number") rfl),
   He.glo_ok X G (c.1.fact 2 (f := .glo "is_value_within") rfl),
   He.glo_ok X G (c.1.fact 3 (f := .glo "is_value") rfl),
   He.glo_ok X G (c.1.fact 4 (f := .glo "less") rfl),
   He.glo_ok X G (c.1.fact 5 (f := .glo "halfway") rfl),
   He.glo_ok X G (c.1.fact 6 (f := .glo "at_job") rfl),
   He.glo_ok X G (c.1.fact 7 (f := .glo "next_deed") rfl),
   He.glo_ok X G (c.1.fact 8 (f := .glo "answer_of") rfl),
   He.glo_ok X G (c.1.fact 9 (f := .glo "_law_hand") rfl),
   He.glo_ok X G (c.1.fact 10 (f := .glo "_law_take") rfl),
   He.glo_ok X G (c.1.fact 11 (f := .glo "_law_pick") rfl),
   He.glo_ok X G (c.1.fact 12 (f := .glo "_law_built") rfl),
   He.glo_ok X G (c.1.fact 13 (f := .glo "_law_less") rfl),
   He.glo_ok X G (c.1.fact 14 (f := .glo "_law_fit") rfl),
   He.glo_ok X G (c.1.fact 15 (f := .glo "_law_done") rfl),
   He.glo_ok X G (c.1.fact 16 (f := .glo "_law_sums_right") rfl),
   He.glo_ok X G (c.1.fact 17 (f := .glo "law") rfl),
   He.glo_ok X G (c.1.fact 18 (f := .glo "Job") rfl),
   He.glo_ok X G (c.1.fact 19 (f := .glo "Sums") rfl),
   He.glo_ok X G (c.1.fact 20 (f := .glo "Name") rfl),
   He.glo_ok X G (c.1.fact 21 (f := .glo "Least") rfl),
   He.glo_ok X G (c.1.fact 22 (f := .glo "Closer") rfl),
   He.glo_ok X G (c.1.fact 23 (f := .glo "LOOK") rfl),
   He.int_ok X G (c.1.fact 24 (f := .int "MOST_VALUES" 8) rfl),
   He.int_ok X G (c.1.fact 25 (f := .int "MOST_DEEP" 3) rfl),
   He.int_ok X G (c.1.fact 26 (f := .int "TOO_GREAT" 1000000000000) rfl),
   He.free_ok X G (c.1.fact 27 (f := .free "isinstance") rfl),
   He.free_ok X G (c.1.fact 28 (f := .free "int") rfl),
   He.free_ok X G (c.1.fact 29 (f := .free "bool") rfl),
   He.free_ok X G (c.1.fact 30 (f := .free "tuple") rfl),
   He.free_ok X G (c.1.fact 31 (f := .free "abs") rfl),
   He.free_ok X G (c.1.fact 32 (f := .free "len") rfl),
   He.free_ok X G (c.1.fact 33 (f := .free "all") rfl),
   He.free_ok X G (c.1.fact 34 (f := .free "sum") rfl),
   He.free_ok X G (c.1.fact 35 (f := .free "enumerate") rfl),
   He.free_ok X G (c.1.fact 36 (f := .free "range") rfl),
   He.free_ok X G (c.1.fact 37 (f := .free "min") rfl),
   He.free_ok X G (c.1.fact 38 (f := .free "max") rfl),
   He.free_ok X G (c.1.fact 39 (f := .free "set") rfl),
   He.free_ok X G (c.1.fact 40 (f := .free "sorted") rfl),
   He.cls_ok (c.1.fact 41 (f := .cls "Sums") rfl),
   He.cls_ok (c.1.fact 42 (f := .cls "Name") rfl),
   He.cls_ok (c.1.fact 43 (f := .cls "Least") rfl),
   He.cls_ok (c.1.fact 44 (f := .cls "Closer") rfl),
   He.noat_ok (c.1.fact 45 (f := .noat "Sums" "own") rfl),
   He.noat_ok (c.1.fact 46 (f := .noat "Sums" "said") rfl),
   He.noat_ok (c.1.fact 47 (f := .noat "Sums" "told") rfl),
   He.noat_ok (c.1.fact 48 (f := .noat "Name" "own") rfl),
   He.noat_ok (c.1.fact 49 (f := .noat "Name" "said") rfl),
   He.noat_ok (c.1.fact 50 (f := .noat "Name" "told") rfl),
   He.noat_ok (c.1.fact 51 (f := .noat "Least" "own") rfl),
   He.noat_ok (c.1.fact 52 (f := .noat "Least" "said") rfl),
   He.noat_ok (c.1.fact 53 (f := .noat "Least" "told") rfl),
   He.noat_ok (c.1.fact 54 (f := .noat "Closer" "own") rfl),
   He.noat_ok (c.1.fact 55 (f := .noat "Closer" "said") rfl),
   He.noat_ok (c.1.fact 56 (f := .noat "Closer" "told") rfl),
   He.noat_ok (c.1.fact 57 (f := .noat "Name" "number") rfl),
   He.noat_ok (c.1.fact 58 (f := .noat "Name" "known") rfl),
   He.noat_ok (c.1.fact 59 (f := .noat "Closer" "numbers") rfl),
   He.meth_ok (c.1.fact 60 (f := .meth "Sums" "deed") rfl),
   He.meth_ok (c.1.fact 61 (f := .meth "Sums" "answer") rfl),
   He.meth_ok (c.1.fact 62 (f := .meth "Name" "hear") rfl),
   He.meth_ok (c.1.fact 63 (f := .meth "Name" "deed") rfl),
   He.meth_ok (c.1.fact 64 (f := .meth "Name" "answer") rfl),
   He.meth_ok (c.1.fact 65 (f := .meth "Name" "others") rfl),
   He.meth_ok (c.1.fact 66 (f := .meth "Least" "there") rfl),
   He.meth_ok (c.1.fact 67 (f := .meth "Least" "deed") rfl),
   He.meth_ok (c.1.fact 68 (f := .meth "Least" "answer") rfl),
   He.meth_ok (c.1.fact 69 (f := .meth "Closer" "hear") rfl),
   He.meth_ok (c.1.fact 70 (f := .meth "Closer" "deed") rfl),
   He.meth_ok (c.1.fact 71 (f := .meth "Closer" "answer") rfl),
   He.meth_ok (c.1.fact 72 (f := .meth "Closer" "others") rfl),
   He.mkr_ok (c.1.fact 73 (f := .mkr "Sums") rfl),
   He.mkr_ok (c.1.fact 74 (f := .mkr "Name") rfl),
   He.mkr_ok (c.1.fact 75 (f := .mkr "Least") rfl),
   He.mkr_ok (c.1.fact 76 (f := .mkr "Closer") rfl),
   fun H => He.tupB_ok (He.ba c.2).1 H,
   ex_job c.2,
   let ⟨fd, F⟩ := c.1.def_ 0 (d := d_is_whole) rfl; ⟨fd, fun_of F⟩,
   let ⟨fd, F⟩ := c.1.def_ 1 (d := d_is_number) rfl; ⟨fd, fun_of F⟩,
   let ⟨fd, F⟩ := c.1.def_ 2 (d := d_is_value_within) rfl; ⟨fd, fun_of F⟩,
   let ⟨fd, F⟩ := c.1.def_ 3 (d := d_is_value) rfl; ⟨fd, fun_of F⟩,
   let ⟨fd, F⟩ := c.1.def_ 4 (d := d_less) rfl; ⟨fd, fun_of F⟩,
   let ⟨fd, F⟩ := c.1.def_ 5 (d := d_halfway) rfl; ⟨fd, fun_of F⟩,
   let ⟨fd, F⟩ := c.1.def_ 6 (d := d_at_job) rfl; ⟨fd, fun_of F⟩,
   let ⟨fd, F⟩ := c.1.def_ 7 (d := d_next_deed) rfl; ⟨fd, fun_of F⟩,
   let ⟨fd, F⟩ := c.1.def_ 8 (d := d_answer_of) rfl; ⟨fd, fun_of F⟩,
   let ⟨fd, F⟩ := c.1.def_ 9 (d := d_law_hand) rfl; ⟨fd, fun_of F⟩,
   let ⟨fd, F⟩ := c.1.def_ 10 (d := d_law_take) rfl; ⟨fd, fun_of F⟩,
   let ⟨fd, F⟩ := c.1.def_ 11 (d := d_law_pick) rfl; ⟨fd, fun_of F⟩,
   let ⟨fd, F⟩ := c.1.def_ 12 (d := d_law_built) rfl; ⟨fd, fun_of F⟩,
   let ⟨fd, F⟩ := c.1.def_ 13 (d := d_law_less) rfl; ⟨fd, fun_of F⟩,
   let ⟨fd, F⟩ := c.1.def_ 14 (d := d_law_fit) rfl; ⟨fd, fun_of F⟩,
   let ⟨fd, F⟩ := c.1.def_ 15 (d := d_law_done) rfl; ⟨fd, fun_of F⟩,
   let ⟨fd, F⟩ := c.1.def_ 16 (d := d_law_sums_right) rfl; ⟨fd, fun_of F⟩,
   let ⟨fd, F⟩ := c.1.def_ 17 (d := d_law) rfl; ⟨fd, fun_of F⟩,
   let ⟨fd, F⟩ := c.1.def_ 18 (d := d_Job_init) rfl; ⟨fd, fun_of F⟩,
   let ⟨fd, F⟩ := c.1.def_ 19 (d := d_Sums_init) rfl; ⟨fd, fun_of F⟩,
   let ⟨fd, F⟩ := c.1.def_ 20 (d := d_Sums_deed) rfl; ⟨fd, fun_of F⟩,
   let ⟨fd, F⟩ := c.1.def_ 21 (d := d_Sums_answer) rfl; ⟨fd, fun_of F⟩,
   let ⟨fd, F⟩ := c.1.def_ 22 (d := d_Name_init) rfl; ⟨fd, fun_of F⟩,
   let ⟨fd, F⟩ := c.1.def_ 23 (d := d_Name_hear) rfl; ⟨fd, fun_of F⟩,
   let ⟨fd, F⟩ := c.1.def_ 24 (d := d_Name_deed) rfl; ⟨fd, fun_of F⟩,
   let ⟨fd, F⟩ := c.1.def_ 25 (d := d_Name_answer) rfl; ⟨fd, fun_of F⟩,
   let ⟨fd, F⟩ := c.1.def_ 26 (d := d_Name_others) rfl; ⟨fd, fun_of F⟩,
   let ⟨fd, F⟩ := c.1.def_ 27 (d := d_Least_init) rfl; ⟨fd, fun_of F⟩,
   let ⟨fd, F⟩ := c.1.def_ 28 (d := d_Least_there) rfl; ⟨fd, fun_of F⟩,
   let ⟨fd, F⟩ := c.1.def_ 29 (d := d_Least_deed) rfl; ⟨fd, fun_of F⟩,
   let ⟨fd, F⟩ := c.1.def_ 30 (d := d_Least_answer) rfl; ⟨fd, fun_of F⟩,
   let ⟨fd, F⟩ := c.1.def_ 31 (d := d_Closer_init) rfl; ⟨fd, fun_of F⟩,
   let ⟨fd, F⟩ := c.1.def_ 32 (d := d_Closer_hear) rfl; ⟨fd, fun_of F⟩,
   let ⟨fd, F⟩ := c.1.def_ 33 (d := d_Closer_deed) rfl; ⟨fd, fun_of F⟩,
   let ⟨fd, F⟩ := c.1.def_ 34 (d := d_Closer_answer) rfl; ⟨fd, fun_of F⟩,
   let ⟨fd, F⟩ := c.1.def_ 35 (d := d_Closer_others) rfl; ⟨fd, fun_of F⟩⟩
end My
/-! is_whole, is_number, is_value_within, is_value -/
namespace My
open PySem PySem.Spec PyProof.Rows L2
section
variable {P : Program} {w : World} {K : PySem.W.Frag} {mg : Str → Option Value} {base : Heap}

/-! isinstance -/
theorem tyx_of {H : Hp} {v : V} {x : PyData} {T : String} {b : Bool} (h : Dp K H v x) (hb : isiB T x = some b) (ht : T = "int" ∨ T = "bool" ∨ T = "tuple") : ∃ t, TyX K H v t ∧ PySem.W.kitOne K t (.type T) = some b := by
  cases h with
  | int i =>
    have e : (T == "int") = b := Option.some.inj hb
    refine ⟨_, .base (.int i), kit_ty ?_⟩
    rw [← e]
    rcases ht with rfl | rfl | rfl <;> decide +kernel
  | @tup a xs ds hs ha =>
    have e0 : (T == "tuple") = b := Option.some.inj hb
    have e : kitB "tuple" T = some b := by
      rw [← e0]
      rcases ht with rfl | rfl | rfl <;> decide +kernel
    rcases hs with (hs | ⟨o, hs⟩) | ⟨o, its, n, hk, hc, _⟩
    · exact ⟨_, .base (.tup hs), kit_ty e⟩
    · exact ⟨_, .fTuple hs, kit_ty e⟩
    · exact ⟨_, .kTuple hk hc, kit_ty e⟩
  | _ => cases hb
theorem e_isi {ta : TE} {σ : L2.St} {H : Hp} {x : PyData} {T : String} {b : Bool} (h : ED K ta σ H x) (hb : isiB T x = some b) (ht : T = "int" ∨ T = "bool" ∨ T = "tuple") :
    ED K (tCB (rIsi K) (tCons ta (tCons (tC (.ty T)) tNil))) σ H (.bool b) := fun H1 e Q q => h H1 e _ fun v H2 e2 d2 => by
  obtain ⟨t, h1, h2⟩ := tyx_of d2 hb ht
  exact ⟨v, .ty T, t, .type T, b, rfl, .ty T, h1, h2, q _ H2 e2 (.bl b)⟩

def RWhole (ds : List PyData) (r : PyData) : Prop := ∃ x b, ds = [x] ∧ isiB "int" x = some b ∧ r = .bool b
theorem scWhole : FnScope ["thing"] ["thing"] (defScope sIsWhole) := ⟨rfl, rfl, rfl, by decide +kernel, rfl, by decide +kernel, by decide +kernel⟩
theorem ok_is_whole (T : Tx K mg) : Ok P w K mg base 1 (He.ga K "is_whole") ["thing"] (spD K RWhole) := by
  obtain ⟨fd, F⟩ := T.f_is_whole
  refine ⟨fd, F.ok scWhole (fun vs H Q E h => ?_) (fun cdv A outer s H vs Q E hr h => ?_), F.binds (fun _ _ _ _ _ _ us hl => match us, hl with | [_], _ => rfl), F.kp⟩
  · obtain ⟨ds, d, hd, ⟨x, b, rfl, _⟩, _⟩ := h
    exact hd.len
  · obtain ⟨ds, d, hd, ⟨x, b, rfl, hb, rfl⟩, k⟩ := h
    refine ⟨_, pss_one (ps_ret (pe_and (pe_callB call_isi (by rfl) T.b_isinstance (by decide +kernel) (pa_cons (pv 0) (pa_cons (pe_bltn (v := .ty "int") (by rfl) T.b_int (by decide +kernel) rfl) pa_nil)))
      (pe_one (pe_not (pe_callB call_isi (by rfl) T.b_isinstance (by decide +kernel) (pa_cons (pv 0) (pa_cons (pe_bltn (v := .ty "bool") (by rfl) T.b_bool (by decide +kernel) rfl) pa_nil))))))), ?_⟩
    have F0 : Fd K H (start ["thing"] vs) [.d x] := fd_begin hd
    have hb2 : b = true → isiB "bool" x = some false := by
      rintro rfl
      cases x with
      | int i => rfl
      | tuple ds => cases hb
      | _ => cases hb
    refine s_ret ((e_andV (e_isi (e_var F0 rfl) hb (.inl rfl)) fun hb' => e_notV (e_isi (e_var F0 rfl) (hb2 hb') (.inr (.inl rfl)))).is (by simp)) k

def tooGreat : Int := 1000000000000
def RNumber (ds : List PyData) (r : PyData) : Prop := (∃ i : Int, ds = [.int i] ∧ -tooGreat < i ∧ i < tooGreat ∧ r = .bool true) ∨ ∃ xs, ds = [.tuple xs] ∧ r = .bool false
theorem scNumber : FnScope ["thing"] ["thing"] (defScope sIsNumber) := ⟨rfl, rfl, rfl, by decide +kernel, rfl, by decide +kernel, by decide +kernel⟩
theorem ok_is_number (T : Tx K mg) : Ok P w K mg base 2 (He.ga K "is_number") ["thing"] (spD K RNumber) := by
  obtain ⟨fd, F⟩ := T.f_is_number
  have OW : Ok P w K mg base 1 (He.ga K "is_whole") ["thing"] (spD K RWhole) := ok_is_whole T
  obtain ⟨tk, hT⟩ := T.i_TOO_GREAT
  refine ⟨fd, F.ok scNumber (fun vs H Q E h => ?_) (fun cdv A outer s H vs Q E hr h => ?_), F.binds (fun _ _ _ _ _ _ us hl => match us, hl with | [_], _ => rfl), F.kp⟩
  · obtain ⟨ds, d, hd, hR, _⟩ := h
    rcases hR with ⟨i, rfl, _⟩ | ⟨xs, rfl, _⟩ <;> exact hd.len
  · obtain ⟨ds, d, hd, hR, k⟩ := h
    refine ⟨_, pss_one (ps_ret (pe_and (pe_ok OW hr T.g_is_whole (pa_cons (pv 0) pa_nil)) (pe_one (pe_cmpR op_lt (pe_callB call_abs (by rfl) T.b_abs (by decide +kernel) (pa_cons (pv 0) pa_nil)) (pe_glob (v := .int 1000000000000) (by rfl) hT ⟨_, rfl⟩) (nomark _))))), ?_⟩
    rcases hR with ⟨i, rfl, h1, h2, rfl⟩ | ⟨xs, rfl, rfl⟩
    · have F0 : Fd K H (start ["thing"] vs) [.d (.int i)] := fd_begin hd
      refine s_ret ((e_andV (a := true) (e_call (e_cons (e_var F0 rfl) e_nil) ⟨_, true, rfl, rfl, rfl⟩) fun _ => e_op (e_cb (e_cons (e_var F0 rfl) e_nil) c_abs) e_int (r_I0 (z := .bool true) fun H => ?_)).is rfl) k
      have e : decide ((if i < 0 then -i else i) < 1000000000000) = true := by
        unfold tooGreat at h1 h2
        rw [decide_eq_true_eq]
        split <;> omega
      show Dp K H (.bl (decide ((if i < 0 then -i else i) < 1000000000000))) _
      rw [e]
      exact .bl true
    · have F0 : Fd K H (start ["thing"] vs) [.d (.tuple xs)] := fd_begin hd
      refine s_ret ((e_andV (a := false) (b := false) (e_call (e_cons (e_var F0 rfl) e_nil) ⟨_, false, rfl, rfl, rfl⟩) fun z => by cases z).is rfl) k

/-- a value nested at most n deep -/
def VOk : Nat → PyData → Prop
  | 0, .int i => -tooGreat < i ∧ i < tooGreat
  | _ + 1, .int i => -tooGreat < i ∧ i < tooGreat
  | n + 1, .tuple ds => ds.length ≤ 8 ∧ ∀ d ∈ ds, VOk n d
  | _, _ => False
def RWithin (n : Nat) (ds : List PyData) (r : PyData) : Prop := ∃ x, ds = [x, .int (n : Int)] ∧ VOk n x ∧ r = .bool true
theorem scWithin : FnScope ["thing", "deep", "one"] ["thing", "deep"] (defScope sIsValueWithin) := ⟨rfl, rfl, rfl, by decide +kernel, rfl, by decide +kernel, by decide +kernel⟩
theorem all_true {ds : List PyData} : (ds.filter fun _ => true).map (fun _ => PyData.bool true) = (ds.map fun _ => true).map PyData.bool := by
  rw [List.filter_eq_self.mpr (fun _ _ => rfl), List.map_map]
  rfl
theorem ok_is_value_within (T : Tx K mg) (n : Nat) : Ok P w K mg base (3 + n) (He.ga K "is_value_within") ["thing", "deep"] (spD K (RWithin n)) := by
  induction n with
  | zero =>
    obtain ⟨fd, F⟩ := T.f_is_value_within
    have ON : Ok P w K mg base 2 (He.ga K "is_number") ["thing"] (spD K RNumber) := ok_is_number T
    refine ⟨fd, F.ok scWithin (fun vs H Q E h => ?_) (fun cdv A outer s H vs Q E hr h => ?_), F.binds (fun _ _ _ _ _ _ us hl => match us, hl with | [_, _], _ => rfl), F.kp⟩
    · obtain ⟨ds, d, hd, ⟨x, rfl, _⟩, _⟩ := h
      exact hd.len
    · obtain ⟨ds, d, hd, ⟨x, rfl, hx, rfl⟩, k⟩ := h
      refine ⟨_, pss_cons (ps_if (pt_val (pe_ok ON hr T.g_is_number (pa_cons (pv 0) pa_nil))) (pss_one (ps_ret pe_bl)) pss_nil) pss_never, ?_⟩
      have F0 : Fd K H (start ["thing", "deep", "one"] vs) [.d x, .d (.int ((0 : Nat) : Int)), .un] := fd_begin hd
      cases x with
      | int i => exact q_ifT F0 (e_tB (e_call (e_cons (e_var F0 rfl) e_nil) (.inl ⟨i, rfl, hx.1, hx.2, rfl⟩))) fun H1 e1 F1 => s_ret e_bl fun v H2 e2 d2 => k v H2 (e1.trans e2) d2
      | _ => exact hx.elim
  | succ m ih =>
    obtain ⟨fd, F⟩ := T.f_is_value_within
    have ON : Ok P w K mg base 2 (He.ga K "is_number") ["thing"] (spD K RNumber) := ok_is_number T
    obtain ⟨tk, hT⟩ := T.i_MOST_VALUES
    refine ⟨fd, F.ok scWithin (fun vs H Q E h => ?_) (fun cdv A outer s H vs Q E hr h => ?_), F.binds (fun _ _ _ _ _ _ us hl => match us, hl with | [_, _], _ => rfl), F.kp⟩
    · obtain ⟨ds, d, hd, ⟨x, rfl, _⟩, _⟩ := h
      exact hd.len
    · obtain ⟨ds, d, hd, ⟨x, rfl, hx, rfl⟩, k⟩ := h
      refine ⟨_, pss_cons (ps_if (pt_val (pe_ok ON (hr.mono (show 2 ≤ 3 + m by omega)) T.g_is_number (pa_cons (pv 0) pa_nil))) (pss_one (ps_ret pe_bl)) pss_nil)
        (pss_cons (ps_if (PW.pt (pw_or (pt_not (pt_val (pe_callB call_isi (by rfl) T.b_isinstance (by decide +kernel) (pa_cons (pv 0) (pa_cons (pe_bltn (v := .ty "tuple") (by rfl) T.b_tuple (by decide +kernel) rfl) pa_nil)))))
            (pw_or (pt_cmpR op_gt (pe_callB call_len_seq (by rfl) T.b_len (by decide +kernel) (pa_cons (pv 0) pa_nil)) (pe_glob (v := .int 8) (by rfl) hT ⟨_, rfl⟩) (nomark _)) (pw_or1 (pt_cmpR op_eq (pv 1) pe_int (nomark _))))))
            (pss_one (ps_ret pe_bl)) pss_nil)
          (pss_one (ps_ret (pe_callB (cr_all rfl) (by rfl) T.b_all (by decide +kernel) (pa_cons (pe_lc (own := [("one", 2)]) (g := gName 2) (tt := tYes) (by rfl) scWithin.nd (pi_tup (pv 0)) (blkOk_by (own := [("one", 2)]) (N := ["thing", "deep", "one"]) (sc := defScope sIsValueWithin) (by decide +kernel))
            (fun _ _ _ _ _ => pg_name (i := 2) scWithin.nd rfl (Or.inl rfl)) (fun _ _ _ _ _ => pts_nil) (fun _ _ _ _ _ => pe_ok ih hr T.g_is_value_within (pa_cons (pv 2) (pa_cons (pe_op op_sub (pv 1) pe_int) pa_nil)))) pa_nil))))), ?_⟩
      have F0 : Fd K H (start ["thing", "deep", "one"] vs) [.d x, .d (.int ((m + 1 : Nat) : Int)), .un] := fd_begin hd
      cases x with
      | int i => exact q_ifT F0 (e_tB (e_call (e_cons (e_var F0 rfl) e_nil) (.inl ⟨i, rfl, hx.1, hx.2, rfl⟩))) fun H1 e1 F1 => s_ret e_bl fun v H2 e2 d2 => k v H2 (e1.trans e2) d2
      | tuple ds =>
        obtain ⟨h8, hd8⟩ := hx
        refine q_ifF F0 (e_tB (e_call (e_cons (e_var F0 rfl) e_nil) (.inr ⟨ds, rfl, rfl⟩))) fun H1 e1 F1 => ?_
        refine q_ifF F1 ((e_or (e_not (e_tB (e_isi (e_var F1 rfl) (b := true) rfl (.inr (.inr rfl))))) fun _ => e_or (e_test (e_op (e_cb (e_cons (e_var F1 rfl) e_nil) c_lenT) e_int (r_I0 (z := .bool false) fun H => ?_))) fun _ => e_test (e_op (e_var F1 rfl) e_int r_eqI)).is (b := (!true || (false || decide (((m + 1 : Nat) : Int) = 0))) ) (by simp; omega)) fun H2 e2 F2 => ?_
        · show Dp K H (.bl (decide ((8 : Int) < ((ds.length : Nat) : Int)))) _
          rw [decide_eq_false (by omega)]
          exact .bl false
        · refine s_ret (e_cb (e_cons ((e_lcT (fun _ => true) (fun _ => .bool true) F2 (e_var F2 rfl) (by omega) (by simp) (fun _ _ _ => rfl) (fun d hd σ' H' e F' => fun H1 e1 Q q => q H1 (Same.refl H1)) (fun d hd _ σ' H' e F' => e_call (e_cons (e_var F' rfl) (e_cons (e_op (e_var F' rfl) e_int (r_I0 (z := .int (m : Int)) fun H => ?_)) e_nil)) ⟨d, rfl, hd8 d hd, rfl⟩)).is (congrArg PyData.list all_true)) e_nil) c_all) fun v H3 e3 d3 => ?_
          · show Dp K H (.int (((m + 1 : Nat) : Int) - 1)) _
            rw [show ((m + 1 : Nat) : Int) - 1 = (m : Int) by omega]
            exact .int _
          · refine k v H3 ((e1.trans e2).trans e3) ?_
            have e : (ds.map fun _ => true).all id = true := by simp
            rw [e] at d3
            exact d3
      | _ => exact hx.elim

def RValue (ds : List PyData) (r : PyData) : Prop := ∃ x, ds = [x] ∧ VOk 3 x ∧ r = .bool true
theorem scValue : FnScope ["thing"] ["thing"] (defScope sIsValue) := ⟨rfl, rfl, rfl, by decide +kernel, rfl, by decide +kernel, by decide +kernel⟩
theorem ok_is_value (T : Tx K mg) : Ok P w K mg base 7 (He.ga K "is_value") ["thing"] (spD K RValue) := by
  obtain ⟨fd, F⟩ := T.f_is_value
  have OW : Ok P w K mg base 6 (He.ga K "is_value_within") ["thing", "deep"] (spD K (RWithin 3)) := ok_is_value_within T 3
  obtain ⟨tk, hT⟩ := T.i_MOST_DEEP
  refine ⟨fd, F.ok scValue (fun vs H Q E h => ?_) (fun cdv A outer s H vs Q E hr h => ?_), F.binds (fun _ _ _ _ _ _ us hl => match us, hl with | [_], _ => rfl), F.kp⟩
  · obtain ⟨ds, d, hd, ⟨x, rfl, _⟩, _⟩ := h
    exact hd.len
  · obtain ⟨ds, d, hd, ⟨x, rfl, hx, rfl⟩, k⟩ := h
    refine ⟨_, pss_one (ps_ret (pe_ok OW hr T.g_is_value_within (pa_cons (pv 0) (pa_cons (pe_glob (v := .int 3) (by rfl) hT ⟨_, rfl⟩) pa_nil)))), ?_⟩
    have F0 : Fd K H (start ["thing"] vs) [.d x] := fd_begin hd
    exact s_ret (e_call (e_cons (e_var F0 rfl) (e_cons e_int e_nil)) ⟨x, rfl, hx, rfl⟩) k
end
end My
/-! The mirror's things as data; calls of methods and classes over data. -/
namespace My
open PySem PySem.Spec PyProof.Rows L2

def encF (x : Fr) : PyData := .tuple [.int x.1, .int x.2]
def Val.enc : Val → PyData
  | .int i => .int i
  | .nm i k => .tuple [.int i, .int k]
  | .ls n => .tuple [.int n]
  | .cl xs => .tuple (xs.map encF)
def encSt (st : List Val) : PyData := .tuple (st.map Val.enc)
def encE : Ent → PyData
  | none => .none
  | some st => encSt st
def encT (t : Tld) : PyData := .tuple (t.map encE)
def encO : Option Int → PyData
  | none => .none
  | some i => .int i
def Job.enc : Job → PyData
  | .sums items => .tuple [.str "sums", .tuple (items.map encO)]
  | .name id => .tuple [.str "name", .int id]
  | .least n w => .tuple [.str "least", .int n, .int (w : Int)]
  | .closer n r => .tuple [.str "closer", .int n, .int (r : Int)]
def Deed.enc (own : Nat) : Deed → PyData
  | .idle => .none
  | .look => .tuple [.str "look"]
  | .put v => .tuple [.str "put", .int (own : Int), v.enc]
def Ans.enc : Ans → PyData
  | .num i => .int i
  | .frac x => encF x
  | .tup xs => .tuple (xs.map PyData.int)
def encA : Option Ans → PyData
  | none => .none
  | some a => a.enc

theorem noL_F (x : Fr) : noL (encF x) = true := rfl
theorem noLs_F : ∀ xs : List Fr, noLs (xs.map encF) = true
  | [] => rfl
  | x :: xs => noLs_F xs
theorem noL_V : ∀ v : Val, noL v.enc = true
  | .int _ => rfl
  | .nm _ _ => rfl
  | .ls _ => rfl
  | .cl xs => noLs_F xs
theorem noLs_V : ∀ vs : List Val, noLs (vs.map Val.enc) = true
  | [] => rfl
  | v :: vs => by
    show (noL v.enc && noLs (vs.map Val.enc)) = true
    rw [noL_V, noLs_V] <;> rfl
theorem noL_E : ∀ e : Ent, noL (encE e) = true
  | none => rfl
  | some st => noLs_V st
theorem noLs_T : ∀ t : Tld, noLs (t.map encE) = true
  | [] => rfl
  | e :: t => by
    show (noL (encE e) && noLs (t.map encE)) = true
    rw [noL_E, noLs_T] <;> rfl
theorem noL_T (t : Tld) : noL (encT t) = true := noLs_T t
theorem noLs_O : ∀ xs : List (Option Int), noLs (xs.map encO) = true
  | [] => rfl
  | none :: xs => noLs_O xs
  | some _ :: xs => noLs_O xs
theorem noL_J : ∀ j : Job, noL j.enc = true
  | .sums items => by
    show (noLs (items.map encO) && true) = true
    rw [noLs_O] <;> rfl
  | .name _ => rfl
  | .least _ _ => rfl
  | .closer _ _ => rfl
theorem noLs_I : ∀ xs : List Int, noLs (xs.map PyData.int) = true
  | [] => rfl
  | _ :: xs => noLs_I xs
theorem noL_A : ∀ a : Option Ans, noL (encA a) = true
  | none => rfl
  | some (.num _) => rfl
  | some (.frac _) => rfl
  | some (.tup xs) => noLs_I xs

theorem can_F : ∀ xs : List Fr, PyData.canLayAll0 (xs.map encF) = true
  | [] => rfl
  | x :: xs => by
    show (PyData.canLay0 (encF x) && PyData.canLayAll0 (xs.map encF)) = true
    rw [can_F xs]
    rfl
theorem dep_F : ∀ xs : List Fr, PyData.depthAll (xs.map encF) ≤ 1
  | [] => Nat.zero_le _
  | x :: xs => by
    show max (PyData.depth (encF x)) (PyData.depthAll (xs.map encF)) ≤ 1
    have ih := dep_F xs
    have h : PyData.depth (encF x) = 1 := rfl
    omega
theorem shp_V : ∀ v : Val, v.enc.canLay0 = true ∧ v.enc.depth ≤ 2
  | .int _ => ⟨rfl, by show 0 ≤ 2; omega⟩
  | .nm _ _ => ⟨rfl, by show 1 ≤ 2; omega⟩
  | .ls _ => ⟨rfl, by show 1 ≤ 2; omega⟩
  | .cl xs => ⟨can_F xs, by
    show PyData.depthAll (xs.map encF) + 1 ≤ 2
    have := dep_F xs
    omega⟩
theorem shaped_V (v : Val) : SeqAt.shaped v.enc = true := by
  obtain ⟨h1, h2⟩ := shp_V v
  unfold SeqAt.shaped
  rw [h1, decide_eq_true (by omega)]
  rfl
theorem shaped_D (own : Nat) : ∀ d : Deed, SeqAt.shaped (d.enc own) = true
  | .idle => rfl
  | .look => by
    show SeqAt.shaped (.tuple [.str "look"]) = true
    decide +kernel
  | .put v => by
    obtain ⟨h1, h2⟩ := shp_V v
    unfold SeqAt.shaped
    have c1 : (Deed.enc own (.put v)).canLay0 = true := by
      show (PyData.canLay0 (.str "put") && (true && (v.enc.canLay0 && true))) = true
      rw [h1, show PyData.canLay0 (.str "put") = true by decide +kernel]
      rfl
    have c2 : (Deed.enc own (.put v)).depth ≤ 64 := by
      show max 0 (max 0 (max v.enc.depth 0)) + 1 ≤ 64
      omega
    rw [c1, decide_eq_true c2]
    rfl
theorem ne_zero (v : Val) : (!PyData.eqv v.enc (.int 0)) = !v.isZ := by
  cases v with
  | int i => rfl
  | _ => rfl

/-! ### classes and methods over data -/
section
variable {K : PySem.W.Frag} {σ : L2.St} {H H' : Hp} {fr : List FV} {te ta tv : TE} {tr : TA} {tz : TS} {D : Ends} {C : Addr} {fds fds' : List (Str × FV)} {ds : List PyData} {z : PyData} {m : Str}
/-- a new instance -/
def EO (K : PySem.W.Frag) (te : TE) (σ : L2.St) (H : Hp) (C : Addr) (fds : List (Str × FV)) : Prop := ∀ H1, Same H H1 → ∀ Q : VK, (∀ p H2, Same H1 H2 → Ob K H2 p C fds → Q (.ref p) H2) → te σ H1 Q
/-- __init__: the fields it gives -/
def spI (K : PySem.W.Frag) (C : Addr) (R : List PyData → List (Str × FV) → Prop) : Sp := fun vs H Q _ => ∃ p ws ds fds, vs = .ref p :: ws ∧ Ob K H p C [] ∧ DpAll K H ws ds ∧ R ds fds ∧ ∀ H', Kx p H H' → Ob K H' p C fds → Q .non H'
/-- a method that reads -/
def spM (K : PySem.W.Frag) (C : Addr) (R : List (Str × FV) → List PyData → PyData → Prop) : Sp := fun vs H Q _ => ∃ p ws ds fds d, vs = .ref p :: ws ∧ Ob K H p C fds ∧ DpAll K H ws ds ∧ R fds ds d ∧ ∀ v H', Same H H' → Dp K H' v d → Q v H'
/-- a method that stores -/
def spX (K : PySem.W.Frag) (C : Addr) (R : List (Str × FV) → List PyData → List (Str × FV) → Prop) : Sp := fun vs H Q _ => ∃ p ws ds fds fds', vs = .ref p :: ws ∧ Ob K H p C fds ∧ DpAll K H ws ds ∧ R fds ds fds' ∧ ∀ H', Kx p H H' → Ob K H' p C fds' → Q .non H'
theorem e_make {R : List PyData → List (Str × FV) → Prop} (h : EA K tr σ H ds) (hR : R ds fds) : EO K (tMake C (spI K C R) [] E0 tr) σ H C fds := fun H1 e Q q =>
  h H1 e _ fun vs H2 e2 d2 => fun x dx nx nd ne => by
    have s2 : Same H2 (upd (upd H2 dx (.own x)) x (.ins C dx [])) := fun b o u => by rw [upd_ne (ne_of_none u nx), upd_ne (ne_of_none u nd)]; exact u
    refine ⟨x, vs, ds, fds, by rw [List.append_nil], ⟨dx, [], upd_same, .nil⟩, dpall_mono (kd_of s2) _ _ d2, hR, fun H' k O => ⟨rfl, q x H' (e2.trans fun b o u => k b o (s2 b o u) (ne_of_none u nx)) O⟩⟩
theorem ob_look {f : Str} {p : Addr} {fs : List (Str × V)} (h : Paired (FldOk K H) fs fds) (hl : fds.lookup f = none) : fs.lookup f = none := flds_none h hl
theorem e_meth {R : List (Str × FV) → List PyData → PyData → Prop} {p : Addr} (hs : EV ta σ H (.ref p)) (O : Ob K H p C fds) (h : EA K tr σ H ds) (hR : R fds ds z) (hl : fds.lookup m = none) :
    ED K (tMeth C m (spM K C R) [] E0 ta tr) σ H z := fun H1 e Q q => hs H1 e _ fun H2 e2 => by
  obtain ⟨dx, fs, h1, h2⟩ := O.same (e.trans e2)
  refine ⟨p, dx, fs, rfl, h1, flds_none h2 hl, h H2 (e.trans e2) _ fun vs H3 e3 d3 => ?_⟩
  exact ⟨p, vs, ds, fds, z, by rw [List.append_nil], O.same ((e.trans e2).trans e3), d3, hR, fun v H4 e4 d4 => q v H4 ((e2.trans e3).trans e4) d4⟩
/-- the same of an instance that the receiver makes -/
theorem e_methO {R : List (Str × FV) → List PyData → PyData → Prop} (ho : EO K ta σ H C fds) (hR : R fds [] z) (hl : fds.lookup m = none) :
    ED K (tMeth C m (spM K C R) [] E0 ta tNil) σ H z := fun H1 e Q q => ho H1 e _ fun p H2 e2 O => by
  obtain ⟨dx, fs, h1, h2⟩ := id O
  exact ⟨p, dx, fs, rfl, h1, flds_none h2 hl, p, [], [], fds, z, rfl, O, .nil, hR, fun v H4 e4 d4 => q v H4 (e2.trans e4) d4⟩
/-- self.m(..) that stores -/
theorem s_methX {R : List (Str × FV) → List PyData → List (Str × FV) → Prop} {p : Addr} (F : Fd K H σ fr) (hs : EV ta σ H (.ref p)) (O : Ob K H p C fds) (h : EA K tr σ H ds) (hR : R fds ds fds') (hl : fds.lookup m = none)
    (k : ∀ H1, Kx p H H1 → Ob K H1 p C fds' → Fd K H1 σ fr → D.nx σ H1) : tDrop (tMeth C m (spX K C R) [] E0 ta tr) D σ H := hs H (Same.refl H) _ fun H2 e2 => by
  obtain ⟨dx, fs, h1, h2⟩ := O.same e2
  refine ⟨p, dx, fs, rfl, h1, flds_none h2 hl, h H2 e2 _ fun vs H3 e3 d3 => ?_⟩
  have O3 := O.same (e2.trans e3)
  exact ⟨p, vs, ds, fds, fds', by rw [List.append_nil], O3, d3, hR, fun H4 k4 O4 => k H4 ((kx_of (e2.trans e3)).trans k4) O4 ((F.same (e2.trans e3)).mono (O3.kd k4))⟩
end
end My
/-! Job.__init__, others; Sums; Least -/
namespace My
open PySem PySem.Spec PyProof.Rows L2
section
variable {P : Program} {w : World} {K : PySem.W.Frag} {mg : Str → Option Value} {base : Heap}

/-- a class whose objects are jobs -/
structure JCls (K : PySem.W.Frag) (C : Addr) : Prop where
  cls : Cls K C
  own : NoAttr K C "own"
  said : NoAttr K C "said"
  told : NoAttr K C "told"
theorem Tx.jSums (T : Tx K mg) : JCls K (He.ga K "Sums") := ⟨T.c_Sums, T.n_Sums_own, T.n_Sums_said, T.n_Sums_told⟩
theorem Tx.jName (T : Tx K mg) : JCls K (He.ga K "Name") := ⟨T.c_Name, T.n_Name_own, T.n_Name_said, T.n_Name_told⟩
theorem Tx.jLeast (T : Tx K mg) : JCls K (He.ga K "Least") := ⟨T.c_Least, T.n_Least_own, T.n_Least_said, T.n_Least_told⟩
theorem Tx.jCloser (T : Tx K mg) : JCls K (He.ga K "Closer") := ⟨T.c_Closer, T.n_Closer_own, T.n_Closer_said, T.n_Closer_told⟩
/-- the three fields -/
def f3 (h j t : PyData) : List (Str × FV) := [("own", .d h), ("said", .d j), ("told", .d t)]
def RInit (ds : List PyData) (fds : List (Str × FV)) : Prop := ∃ h j t, ds = [h, j, t] ∧ fds = f3 h j t
theorem spI_len {C : Addr} {R : List PyData → List (Str × FV) → Prop} {n : Nat} (h : ∀ ds fds, R ds fds → ds.length = n) {vs : List V} {H : Hp} {Q : VK} {E : XK} (q : spI K C R vs H Q E) : vs.length = n + 1 := by
  obtain ⟨p, ws, ds, fds, rfl, _, hd, hR, _⟩ := q
  rw [List.length_cons, hd.len, h _ _ hR]
theorem spM_len {C : Addr} {R : List (Str × FV) → List PyData → PyData → Prop} {n : Nat} (h : ∀ fds ds d, R fds ds d → ds.length = n) {vs : List V} {H : Hp} {Q : VK} {E : XK} (q : spM K C R vs H Q E) : vs.length = n + 1 := by
  obtain ⟨p, ws, ds, fds, d, rfl, _, hd, hR, _⟩ := q
  rw [List.length_cons, hd.len, h _ _ _ hR]
theorem spX_len {C : Addr} {R : List (Str × FV) → List PyData → List (Str × FV) → Prop} {n : Nat} (h : ∀ fds ds d, R fds ds d → ds.length = n) {vs : List V} {H : Hp} {Q : VK} {E : XK} (q : spX K C R vs H Q E) : vs.length = n + 1 := by
  obtain ⟨p, ws, ds, fds, d, rfl, _, hd, hR, _⟩ := q
  rw [List.length_cons, hd.len, h _ _ _ hR]
theorem spD_len {R : List PyData → PyData → Prop} {n : Nat} (h : ∀ ds d, R ds d → ds.length = n) {vs : List V} {H : Hp} {Q : VK} {E : XK} (q : spD K R vs H Q E) : vs.length = n := by
  obtain ⟨ds, d, hd, hR, _⟩ := q
  rw [hd.len, h _ _ hR]
/-- the frame of a method: self, its arguments -/
theorem fd_self {N : List Str} {H : Hp} {p : Addr} {ws : List V} {ds : List PyData} (h : DpAll K H ws ds) : Fd K H (L2.start N (.ref p :: ws)) (.v (.ref p) :: (ds.map FV.d ++ List.replicate (N.length - (ds.length + 1)) .un)) := by
  unfold L2.start
  rw [List.length_cons, h.len]
  exact .cons rfl (fd_start _ h)

theorem scJobI : FnScope ["self", "hand", "said", "told"] ["self", "hand", "said", "told"] (defScope sJob_init) := ⟨rfl, rfl, rfl, by decide +kernel, rfl, by decide +kernel, by decide +kernel⟩
theorem ok_jobI {f C : Addr} {fd : FuncData} (F : Fun K "__init__" "Job.__init__" sJob_init f fd) (J : JCls K C) : Ok P w K mg base 1 f ["self", "hand", "said", "told"] (spI K C RInit) := by
  refine ⟨fd, F.ok scJobI (fun vs H Q E h => spI_len (n := 3) (fun ds fds ⟨h, j, t, e, _⟩ => by rw [e] <;> rfl) h) (fun cdv A outer s H vs Q E hr h => ?_), F.binds (fun _ _ _ _ _ _ us hl => match us, hl with | [_, _, _, _], _ => rfl), F.kp⟩
  obtain ⟨p, ws, ds, fds, rfl, O, hd, ⟨h, j, t, rfl, rfl⟩, k⟩ := h
  refine ⟨_, pss_cons (ps_fld (pv 0) (pv 1) rfl) (pss_cons (ps_fld (pv 0) (pv 2) rfl) (pss_one (ps_fld (pv 0) (pv 3) rfl))), ?_⟩
  have F0 : Fd K H (L2.start ["self", "hand", "said", "told"] (.ref p :: ws)) [.v (.ref p), .d h, .d j, .d t] := fd_self hd
  refine q_fld F0 O (e_varV F0 rfl) (e_var F0 rfl) J.cls J.own (by decide) fun H1 k1 O1 F1 => ?_
  refine q_fld F1 O1 (e_varV F1 rfl) (e_var F1 rfl) J.cls J.said (by show 1 < 1000; decide) fun H2 k2 O2 F2 => ?_
  exact s_fld F2 O2 (e_varV F2 rfl) (e_var F2 rfl) J.cls J.told (by show 2 < 1000; decide) fun H3 k3 O3 F3 => k H3 ((k1.trans k2).trans k3) O3

/-! ### others -/
/-- what others asks of an object: its own number -/
def ROthers (fds : List (Str × FV)) (ds : List PyData) (d : PyData) : Prop := ∃ (own : Nat) (seen : List Val), fds.lookup ("own" : Str) = some (.d (.int (own : Int))) ∧ ds = [encSt seen] ∧ seen.length ≤ 100 ∧ d = .list ((others own seen).map Val.enc)
theorem scOthers : FnScope ["self", "seen", "place", "value"] ["self", "seen"] (defScope sJob_others) := ⟨rfl, rfl, rfl, by decide +kernel, rfl, by decide +kernel, by decide +kernel⟩
theorem map_zip {α β : Type} (g : α → β) : ∀ (l : List α) (k : Nat), (l.map g).zipIdx k = (l.zipIdx k).map fun p => (g p.1, p.2)
  | [], _ => rfl
  | a :: l, k => by
    simp only [List.map_cons, List.zipIdx_cons]
    rw [map_zip g l]
theorem ok_others {f C : Addr} {fd : FuncData} (F : Fun K "others" "Job.others" sJob_others f fd) (J : JCls K C) (T : Tx K mg) : Ok P w K mg base 1 f ["self", "seen"] (spM K C ROthers) := by
  refine ⟨fd, F.ok scOthers (fun vs H Q E h => spM_len (n := 1) (fun fds ds d ⟨_, _, _, e, _⟩ => by rw [e] <;> rfl) h) (fun cdv A outer s H vs Q E hr h => ?_), F.binds (fun _ _ _ _ _ _ us hl => match us, hl with | [_, _], _ => rfl), F.kp⟩
  obtain ⟨p, ws, ds, fds, d, rfl, O, hd, ⟨own, seen, hown, rfl, hl, rfl⟩, k⟩ := h
  refine ⟨_, pss_one (ps_ret (pe_lc (own := [("place", 2), ("value", 3)]) (g := gTup K 2 (gCons (gName 2) (gCons (gName 3) gNil))) (tt := tAnd (tTest (tOp rNe (tVar 2) (tFld K (tVar 0) "own"))) (tTest (tOp (rNeD K) (tVar 3) (tC (.int 0))))) (te := tVar 3) (by rfl) scOthers.nd (pi_enumT T.b_enumerate (pa_cons (pv 1) pa_nil)) (blkOk_by (own := [("place", 2), ("value", 3)]) (N := ["self", "seen", "place", "value"]) (sc := defScope sJob_others) (by decide +kernel))
    (fun _ _ _ _ _ => pg_tup rfl (pgs_cons (pg_name (i := 2) scOthers.nd rfl (Or.inl rfl)) (pgs_cons (pg_name (i := 3) scOthers.nd rfl (Or.inl rfl)) pgs_nil)))
    (fun _ _ _ _ _ => pts_one (PW.pt (pw_and (pt_cmpR op_ne (pv 2) (pe_fld (pv 0) rfl) (nomark _)) (pw_and1 (pt_cmpR (op_neD hr.units) (pv 3) pe_int (nomark _))))))
    (fun _ _ _ _ _ => pv 3))), ?_⟩
  have F0 : Fd K H (L2.start ["self", "seen", "place", "value"] (.ref p :: ws)) [.v (.ref p), .d (encSt seen), .un, .un] := fd_self hd
  refine s_ret ((e_lcE (fun p => !decide ((p.2 : Int) = (own : Int)) && !PyData.eqv p.1 (.int 0)) (fun p => p.1) F0 (e_cons (e_var F0 rfl) e_nil) (by rw [List.length_map]; omega) (by simp) (by simp) (fun d hd' i _ => ?_) (fun d hd' i σ' H' e F' => ?_) (fun d hd' i _ σ' H' e F' => e_var F' rfl)).is ?_) k
  · obtain ⟨v, _, rfl⟩ := List.mem_map.mp hd'
    exact noL_V v
  · obtain ⟨v, _, rfl⟩ := List.mem_map.mp hd'
    refine e_and (e_test (e_op (e_var F' rfl) (e_fld (O.same e) (e_varV F' rfl) J.cls J.own hown) r_neI)) fun _ => e_test (e_op (e_var F' rfl) e_int (r_neD (shaped_V v) rfl))
  · refine congrArg PyData.list ?_
    unfold others
    rw [map_zip, List.filter_map, List.map_map, List.map_map]
    have e : ((fun (p : PyData × Nat) => !decide ((p.2 : Int) = (own : Int)) && !PyData.eqv p.1 (.int 0)) ∘ fun (p : Val × Nat) => (p.1.enc, p.2)) = fun p => decide (p.2 ≠ own) && !p.1.isZ := by
      funext q
      show (!decide ((q.2 : Int) = (own : Int)) && !PyData.eqv q.1.enc (.int 0)) = _
      rw [ne_zero]
      by_cases z : q.2 = own
      · simp [z]
      · have z2 : ¬ (q.2 : Int) = (own : Int) := by omega
        simp [z, z2]
    rw [e]
    rfl

/-! ### Sums -/
theorem e_un {σ : L2.St} {H : Hp} {ta : TE} {i : Int} (h : ED K ta σ H (.int i)) : ED K (tUn (rU fun i => .int (-i)) ta) σ H (.int (-i)) := fun H1 e Q q => h H1 e _ fun v H2 e2 d2 => ⟨i, dp_int d2, q _ H2 e2 (.int _)⟩
theorem e_look {σ : L2.St} {H : Hp} (T : Tx K mg) : ED K (tC (.ref (He.ga K "LOOK"))) σ H (.tuple [.str "look"]) := e_c fun H => .tup (T.look H) (.cons (.str _) .nil)
/-- t[:i] -/
theorem e_slT {σ : L2.St} {H : Hp} {te th : TE} {ds : List PyData} {i : Nat} (h : ED K te σ H (.tuple ds)) (h2 : ED K th σ H (.int (i : Int))) : ED K (tSl (rSlA K) te tNoPart (tPart th)) σ H (.tuple (ds.take i)) := fun H1 e Q q =>
  h H1 e _ fun v H2 e2 d2 => h2 H2 (e.trans e2) _ fun u H3 e3 d3 => by
    obtain ⟨a, xs, rfl, hs, hd⟩ := dp_tup (dp_mono (kd_of e3) _ _ d2)
    have hi : HT.sIx xs.length xs.length (some (i : Int)) = min i xs.length := HT.sIx_nat _ _ _
    have hc : cutV xs none (some (i : Int)) = xs.take i := by
      unfold cutV
      rw [hi]
      show (xs.drop 0).take (min i xs.length - 0) = _
      rw [List.drop_zero, Nat.sub_zero]
      by_cases z : i ≤ xs.length
      · rw [Nat.min_eq_left z]
      · rw [Nat.min_eq_right (by omega), List.take_of_length_le (Nat.le_refl _), List.take_of_length_le (by omega)]
    refine ⟨i, dp_int d3, a, xs, rfl, hs, fun z => ?_, fun z p hp => ?_⟩
    · obtain ⟨_, z2⟩ := z
      rw [hi] at z2
      have hle : ds.length ≤ i := by rw [← hd.len]; omega
      rw [List.take_of_length_le hle] at q
      exact q _ H3 (e2.trans e3) (.tup hs hd)
    · rw [hc]
      refine q _ _ ((e2.trans e3).trans (same_new hp)) (.tup (SqT.of upd_same) (dpall_mono (kd_of (same_new hp)) _ _ (hd.take i)))
theorem some_ints : ∀ l : List (Option Int), ((l.map encO).filter fun d => !isNone d).map (fun d => d) = (l.filterMap id).map PyData.int
  | [] => rfl
  | none :: l => some_ints l
  | some i :: l => by
    show PyData.int i :: _ = PyData.int i :: _
    rw [← some_ints l]
def RDeedS (fds : List (Str × FV)) (ds : List PyData) (d : PyData) : Prop := ∃ (own : Nat) (items : List (Option Int)) (told : Tld), fds = f3 (.int (own : Int)) (Job.enc (.sums items)) (encT told) ∧ ds = [] ∧ items.length ≤ 8 ∧ told.length ≤ items.length ∧ d = (nextDeed own (.sums items) told).enc own
theorem scSumsD : FnScope ["self", "many", "items", "item"] ["self"] (defScope sSums_deed) := ⟨rfl, rfl, rfl, by decide +kernel, rfl, by decide +kernel, by decide +kernel⟩
theorem ok_sumsD (T : Tx K mg) : Ok P w K mg base 1 (He.ma K (He.ga K "Sums") "deed") ["self"] (spM K (He.ga K "Sums") RDeedS) := by
  obtain ⟨fd, F⟩ := T.f_Sums_deed
  have J := T.jSums
  refine ⟨fd, F.ok scSumsD (fun vs H Q E h => spM_len (n := 0) (fun fds ds d ⟨_, _, _, _, e, _⟩ => by rw [e] <;> rfl) h) (fun cdv A outer s H vs Q E hr h => ?_), F.binds (fun _ _ _ _ _ _ us hl => match us, hl with | [_], _ => rfl), F.kp⟩
  obtain ⟨p, ws, ds, fds, d, rfl, O, hd, ⟨own, items, told, rfl, rfl, hi, ht, rfl⟩, k⟩ := h
  refine ⟨_, (pss_cons (ps_set (i := 1) scSumsD.nd rfl (Or.inl rfl) (pe_callB call_len_seq (by rfl) T.b_len (by decide +kernel) (pa_cons (pe_fld (pv 0) rfl) pa_nil)))
      (pss_cons (ps_set (i := 2) scSumsD.nd rfl (Or.inl rfl) (pe_ix ix_tup (pe_fld (pv 0) rfl) pe_int (fun _ _ => rfl)))
      (pss_cons (ps_if (pt_cmpR op_eq (pv 1) (pe_callB call_len_seq (by rfl) T.b_len (by decide +kernel) (pa_cons (pv 2) pa_nil)) (nomark _)) (pss_one (ps_ret pe_non)) pss_nil)
      (pss_cons (ps_if (pt_cmpR op_isN (pe_ix ix_tup (pv 2) (pv 1) (fun _ _ => rfl)) pe_non (nomark _)) (pss_one (ps_ret (pe_glob (v := .ref (He.ga K "LOOK")) (by rfl) T.g_LOOK rfl))) pss_nil)
      (pss_one (ps_ret (pe_tup (pa_cons pe_str (pa_cons (pe_fld (pv 0) rfl) (pa_cons (pe_callB (cr_sum rfl) (by rfl) T.b_sum (by decide +kernel) (pa_cons (pe_lc (own := [("item", 3)]) (g := (gName 3)) (tt := (tTest (tOp (fun x y H Q => y = .non ∧ Q (.bl (!decide (x = .non))) H) (tVar 3) (tC .non)))) (te := (tVar 3)) (by rfl) scSumsD.nd (pi_tup (pe_slice sl_tupA (pv 2) po_none (po_some (pe_op op_add (pv 1) pe_int)))) (blkOk_by (own := [("item", 3)]) (N := ["self", "many", "items", "item"]) (sc := defScope sSums_deed) (by decide +kernel)) (fun _ _ _ _ _ => (pg_name (i := 3) scSumsD.nd rfl (Or.inl rfl))) (fun _ _ _ _ _ => (pts_one (pt_cmpR op_notN (pv 3) pe_non (nomark _)))) (fun _ _ _ _ _ => (pv 3))) pa_nil)) pa_nil)))))))))), ?_⟩
  have F0 : Fd K H (L2.start ["self", "many", "items", "item"] (.ref p :: ws)) [.v (.ref p), .un, .un, .un] := fd_self hd
  refine q_asg F0 (e_cb (e_cons (e_fld O (e_varV F0 rfl) J.cls J.told (by rfl)) e_nil) c_lenT) fun σ1 H1 e1 F1 => ?_
  have O1 := O.same e1
  refine q_asg F1 (e_op (e_fld O1 (e_varV F1 rfl) J.cls J.said (by rfl)) e_int (r_ixT (z := .tuple (items.map encO)) (by rfl))) fun σ2 H2 e2 F2 => ?_
  have O2 := O1.same e2
  have tl : ((told.map encE).length : Int) = (told.length : Int) := by rw [List.length_map]
  have il : ((items.map encO).length : Int) = (items.length : Int) := by rw [List.length_map]
  by_cases hz : told.length = items.length
  · refine q_ifT F2 ((e_test (e_op (e_var F2 rfl) (e_cb (e_cons (e_var F2 rfl) e_nil) c_lenT) r_eqI)).is (by rw [tl, il]; simp [hz])) fun H3 e3 F3 => ?_
    refine s_ret (K := K) e_non fun v H4 e4 d4 => k v H4 (((e1.trans e2).trans e3).trans e4) ?_
    rw [nd_sums, if_pos hz]
    exact d4
  · refine q_ifN F2 ((e_test (e_op (e_var F2 rfl) (e_cb (e_cons (e_var F2 rfl) e_nil) c_lenT) r_eqI)).is (by rw [tl, il]; simp; omega)) fun H3 e3 F3 => ?_
    have hlt : told.length < items.length := by omega
    obtain ⟨it, hit⟩ : ∃ it, items[told.length]? = some it := ⟨_, List.getElem?_eq_getElem hlt⟩
    have hat : atI (items.map encO) ((told.map encE).length : Int) = some (encO it) := by
      rw [tl]
      exact atI_nat (by rw [List.getElem?_map, hit] <;> rfl)
    have hgd : items.getD told.length none = it := by rw [List.getD_eq_getElem?_getD, hit] <;> rfl
    cases it with
    | none =>
      refine q_ifT F3 (e_test (e_op (e_op (e_var F3 rfl) (e_var F3 rfl) (r_ixT hat)) e_non r_isN)) fun H4 e4 F4 => ?_
      refine s_ret (e_look T) fun v H5 e5 d5 => k v H5 ((((e1.trans e2).trans e3).trans e4).trans e5) ?_
      rw [nd_sums, if_neg hz, hgd]
      exact d5
    | some i =>
      refine q_ifN F3 (e_test (e_op (e_op (e_var F3 rfl) (e_var F3 rfl) (r_ixT hat)) e_non r_isN)) fun H4 e4 F4 => ?_
      have O4 := (O2.same e3).same e4
      refine s_ret (e_tup (e_cons e_str (e_cons (e_fld (x := .int (own : Int)) O4 (e_varV F4 rfl) J.cls J.own (by rfl)) (e_cons (e_cb (e_cons ((e_lcT (fun d => !isNone d) (fun d => d) F4 (e_slT (i := told.length + 1) (e_var F4 rfl) ((e_op (e_var F4 rfl) e_int (r_I0 (z := .int ((told.map encE).length + 1 : Int)) fun H => .int _)).is (by rw [tl] <;> rfl))) (by
          rw [List.length_take, List.length_map]; omega) (by simp) (fun d hd' _ => ?_) (fun d hd' σ' H' e F' => e_test (e_op (e_var F' rfl) e_non r_notN)) (fun d hd' _ σ' H' e F' => e_var F' rfl)).is (by
          rw [← List.map_take, some_ints])) e_nil) c_sumL) e_nil))) (by show 3 ≤ 100000; omega)) fun v H5 e5 d5 => k v H5 ((((e1.trans e2).trans e3).trans e4).trans e5) ?_
      · obtain ⟨o, _, rfl⟩ := List.mem_map.mp (List.mem_of_mem_take hd')
        cases o <;> rfl
      · rw [nd_sums, if_neg hz, hgd]
        exact d5

def toI : PyData → Int
  | .int i => i
  | _ => 0
def sumI : PyData → PyData
  | .tuple ds => .int (ds.map toI).sum
  | _ => .int 0
theorem sum_st {st : List Val} (h : ∀ v ∈ st, PInt v) : encSt st = .tuple ((st.map Val.int').map PyData.int) ∧ sumI (encSt st) = .int (st.map Val.int').sum := by
  have e : st.map Val.enc = (st.map Val.int').map PyData.int := by
    rw [List.map_map]
    apply List.map_congr_left
    intro v hv
    obtain ⟨i, rfl⟩ := h v hv
    rfl
  refine ⟨congrArg PyData.tuple e, ?_⟩
  show PyData.int ((st.map Val.enc).map toI).sum = _
  rw [e, List.map_map]
  have : (toI ∘ PyData.int) = id := rfl
  rw [this, List.map_id]
theorem sums_of : ∀ {told : Tld}, (∀ e ∈ told, ∀ st, e = some st → ∀ v ∈ st, PInt v) → ((told.map encE).filter fun d => !isNone d).map sumI = (sumsOf told).map PyData.int
  | [], _ => rfl
  | none :: told, h => sums_of (told := told) fun e he => h e (List.mem_cons_of_mem _ he)
  | some st :: told, h => by
    have ih := sums_of (told := told) fun e he => h e (List.mem_cons_of_mem _ he)
    have e := (sum_st (h _ List.mem_cons_self st rfl)).2
    show sumI (encSt st) :: _ = PyData.int (st.map Val.int').sum :: _
    rw [e]
    exact congrArg _ ih
def RAnsS (fds : List (Str × FV)) (ds : List PyData) (d : PyData) : Prop := ∃ (h j : PyData) (told : Tld), fds = f3 h j (encT told) ∧ ds = [] ∧ told.length ≤ 1000 ∧ (∀ e ∈ told, ∀ st, e = some st → ∀ v ∈ st, PInt v) ∧ d = .tuple ((sumsOf told).map PyData.int)
theorem scSumsA : FnScope ["self", "seen"] ["self"] (defScope sSums_answer) := ⟨rfl, rfl, rfl, by decide +kernel, rfl, by decide +kernel, by decide +kernel⟩
theorem ok_sumsA (T : Tx K mg) : Ok P w K mg base 1 (He.ma K (He.ga K "Sums") "answer") ["self"] (spM K (He.ga K "Sums") RAnsS) := by
  obtain ⟨fd, F⟩ := T.f_Sums_answer
  have J := T.jSums
  refine ⟨fd, F.ok scSumsA (fun vs H Q E h => spM_len (n := 0) (fun fds ds d ⟨_, _, _, _, e, _⟩ => by rw [e] <;> rfl) h) (fun cdv A outer s H vs Q E hr h => ?_), F.binds (fun _ _ _ _ _ _ us hl => match us, hl with | [_], _ => rfl), F.kp⟩
  obtain ⟨p, ws, ds, fds, d, rfl, O, hd, ⟨h, j, told, rfl, rfl, hl, hI, rfl⟩, k⟩ := h
  refine ⟨_, (pss_one (ps_ret (pe_callTy call_tuple_of (by rfl) T.b_tuple (by decide +kernel) (pa_cons (pe_lc (own := [("seen", 1)]) (g := (gName 1)) (tt := (tTest (tOp (fun x y H Q => y = .non ∧ Q (.bl (!decide (x = .non))) H) (tVar 1) (tC .non)))) (te := (tCB (rSumT K) (tCons (tVar 1) tNil))) (by rfl) scSumsA.nd (pi_tup (pe_fld (pv 0) rfl)) (blkOk_by (own := [("seen", 1)]) (N := ["self", "seen"]) (sc := defScope sSums_answer) (by decide +kernel)) (fun _ _ _ _ _ => (pg_name (i := 1) scSumsA.nd rfl (Or.inl rfl))) (fun _ _ _ _ _ => (pts_one (pt_cmpR op_notN (pv 1) pe_non (nomark _)))) (fun _ _ _ _ _ => (pe_callB (cr_sumT rfl) (by rfl) T.b_sum (by decide +kernel) (pa_cons (pv 1) pa_nil)))) pa_nil)))), ?_⟩
  have F0 : Fd K H (L2.start ["self", "seen"] (.ref p :: ws)) [.v (.ref p), .un] := fd_self hd
  refine s_ret (e_cb (e_cons ((e_lcT (ds := told.map encE) (fun d => !isNone d) sumI F0 (e_fld O (e_varV F0 rfl) J.cls J.told (by rfl)) (by rw [List.length_map]; omega) (by simp) (fun d hd' _ => ?_) (fun d hd' σ' H' e F' => e_test (e_op (e_var F' rfl) e_non r_notN)) (fun d hd' hf σ' H' e F' => ?_)).is (by rw [sums_of hI])) e_nil) c_tupL) k
  · obtain ⟨e, _, rfl⟩ := List.mem_map.mp hd'
    cases e <;> rfl
  · obtain ⟨e, he, rfl⟩ := List.mem_map.mp hd'
    cases e with
    | none => cases hf
    | some st =>
      obtain ⟨e1, e2⟩ := sum_st (hI _ he st rfl)
      show ED K _ σ' H' (sumI (encSt st))
      rw [e2]
      refine e_cb (e_cons ?_ e_nil) c_sumT
      rw [← e1]
      exact e_var F' rfl

/-! ### Least -/
theorem PLst.nz {v : Val} (h : PLst v) (hz : v.isZ = false) : v.enc = .tuple [.int v.one] := by
  rcases h with rfl | ⟨k, rfl⟩
  · simp [Val.isZ] at hz
  · rfl
theorem at_last {α β : Type} {l : List α} {f : α → β} {x : α} (h : l.getLast? = some x) : atI (l.map f) (-1) = some (f x) := by
  obtain ⟨r, rfl⟩ := List.getLast?_eq_some_iff.mp h
  rw [List.map_append]
  exact atI_last _ _
def oneD : PyData → PyData
  | .tuple (d :: _) => d
  | _ => .int 0
theorem nums_of : ∀ {st : List Val}, (∀ v ∈ st, PLst v) → ((st.map Val.enc).filter fun d => !PyData.eqv d (.int 0)).map oneD = (nums st).map PyData.int
  | [], _ => rfl
  | v :: st, h => by
    have ih := nums_of fun e he => h e (List.mem_cons_of_mem _ he)
    have hv := h v List.mem_cons_self
    unfold nums at ih ⊢
    rw [List.map_cons, List.filter_cons, ne_zero, List.filter_cons]
    cases hz : v.isZ with
    | true => exact ih
    | false =>
      simp only [Bool.not_false, if_true]
      rw [List.map_cons, List.map_cons, List.map_cons, ih, hv.nz hz]
      rfl
def RThere (fds : List (Str × FV)) (ds : List PyData) (d : PyData) : Prop := ∃ (h : PyData) (n : Int) (wt : Nat) (told : Tld), fds = f3 h (Job.enc (.least n wt)) (encT told) ∧ ds = [] ∧ told.length ≤ 1000 ∧ TLst told ∧ d = .list ((there wt told).map PyData.int)
theorem scLeastT : FnScope ["self", "numbers", "value"] ["self"] (defScope sLeast_there) := ⟨rfl, rfl, rfl, by decide +kernel, rfl, by decide +kernel, by decide +kernel⟩
theorem ok_leastT (T : Tx K mg) : Ok P w K mg base 1 (He.ma K (He.ga K "Least") "there") ["self"] (spM K (He.ga K "Least") RThere) := by
  obtain ⟨fd, F⟩ := T.f_Least_there
  have J := T.jLeast
  refine ⟨fd, F.ok scLeastT (fun vs H Q E h => spM_len (n := 0) (fun fds ds d ⟨_, _, _, _, _, e, _⟩ => by rw [e] <;> rfl) h) (fun cdv A outer s H vs Q E hr h => ?_), F.binds (fun _ _ _ _ _ _ us hl => match us, hl with | [_], _ => rfl), F.kp⟩
  obtain ⟨p, ws, ds, fds, d, rfl, O, hd, ⟨h, n, wt, told, rfl, rfl, hl, hT, rfl⟩, k⟩ := h
  refine ⟨_, (pss_cons (ps_if (pt_cmpR op_lt (pe_callB call_len_seq (by rfl) T.b_len (by decide +kernel) (pa_cons (pe_fld (pv 0) rfl) pa_nil)) pe_int (nomark _)) (pss_one (ps_ret (pe_lst pa_nil))) pss_nil)
      (pss_cons (ps_setLc (i := 1) (own := [("value", 2)]) (g := (gName 2)) (tt := (tTest (tOp (rNeD K) (tVar 2) (tC (.int 0))))) (te := (tOp (rIxT K) (tVar 2) (tC (.int 0)))) rfl scLeastT.nd rfl rfl (sw_true rfl rfl rfl (by decide +kernel)) (pi_tup (pe_ix ix_tup (pe_fld (pv 0) rfl) (pe_un un_neg pe_int) (fun _ _ => rfl))) (blkOk_by (own := [("value", 2)]) (N := ["self", "numbers", "value"]) (sc := defScope sLeast_there) (by decide +kernel)) (fun _ _ _ _ _ => (pg_name (i := 2) scLeastT.nd rfl (Or.inl rfl))) (fun _ _ _ _ _ => (pts_one (pt_cmpR (op_neD hr.units) (pv 2) pe_int (nomark _)))) (fun _ _ _ _ _ => (pe_ix ix_tup (pv 2) pe_int (fun _ _ => rfl))))
      (pss_cons (ps_if (pt_cmpR op_lt (pe_callB call_len_seq (by rfl) T.b_len (by decide +kernel) (pa_cons (pv 1) pa_nil)) (pe_ix ix_tup (pe_fld (pv 0) rfl) pe_int (fun _ _ => rfl)) (nomark _)) (pss_one (ps_ret (pe_lst pa_nil))) pss_nil)
      (pss_one (ps_ret (pv 1)))))), ?_⟩
  have F0 : Fd K H (L2.start ["self", "numbers", "value"] (.ref p :: ws)) [.v (.ref p), .un, .un] := fd_self hd
  have tl : ((told.map encE).length : Int) = (told.length : Int) := by rw [List.length_map]
  have eb : ∀ {a : Int} {H : Hp}, Dp K H (.bl (decide (a < 2))) (.bool (decide (a < 2))) := .bl _
  have E1 : ED K (tOp (rI0 fun i j => V.bl (decide (i < j))) (tCB _ (tCons (tFld K (tVar 0) "told") tNil)) (tC (V.int 2))) _ H (.bool (decide ((told.length : Int) < 2))) :=
    e_op (e_cb (e_cons (e_fld (x := encT told) O (e_varV F0 rfl) J.cls J.told (by rfl)) e_nil) c_lenT) e_int (r_I0 fun H => by rw [tl]; exact .bl _)
  by_cases hs : told.length < 2
  · refine q_ifT F0 ((e_test E1).is (decide_eq_true (by omega))) fun H1 e1 F1 => s_ret (K := K) (e_lst e_nil (by show 0 ≤ 100000; omega)) fun v H2 e2 d2 => k v H2 (e1.trans e2) ?_
    unfold there
    rw [if_pos hs]
    exact d2
  · refine q_ifN F0 ((e_test E1).is (decide_eq_false (by omega))) fun H1 e1 F1 => ?_
    have O1 := O.same e1
    obtain ⟨st, hst, hsl, hP⟩ := hT (by omega)
    have hth : there wt told = if (nums st).length < wt then [] else nums st := by
      unfold there
      rw [if_neg hs, hst]
      rfl
    refine q_asg F1 ((e_lcT (ds := st.map Val.enc) (fun d => !PyData.eqv d (.int 0)) oneD F1 (e_op (e_fld (x := encT told) O1 (e_varV F1 rfl) J.cls J.told (by rfl)) (e_un e_int) (r_ixT (at_last hst))) (by rw [List.length_map]; omega) (by simp) (fun d hd' hf => ?_) (fun d hd' σ' H' e F' => ?_) (fun d hd' hf σ' H' e F' => ?_)).is (by rw [nums_of hP])) fun σ2 H2 e2 F2 => ?_
    · obtain ⟨v, hv, rfl⟩ := List.mem_map.mp hd'
      rw [ne_zero] at hf
      rw [(hP v hv).nz (by simpa using hf)]
      rfl
    · obtain ⟨v, hv, rfl⟩ := List.mem_map.mp hd'
      exact e_test (e_op (e_var F' rfl) e_int (r_neD (shaped_V v) rfl))
    · obtain ⟨v, hv, rfl⟩ := List.mem_map.mp hd'
      rw [ne_zero] at hf
      have ev := (hP v hv).nz (by simpa using hf)
      rw [ev] at F' ⊢
      exact e_op (e_var F' rfl) e_int (r_ixT (by rfl))
    · have O2 := O1.same e2
      have nl : (((nums st).map PyData.int).length : Int) = ((nums st).length : Int) := by rw [List.length_map]
      have E2 : ED K (tOp (rI0 fun i j => V.bl (decide (i < j))) (tCB _ (tCons (tVar 1) tNil)) (tOp (rIxT K) (tFld K (tVar 0) "said") (tC (V.int 2)))) σ2 H2 (.bool (decide (((nums st).length : Int) < (wt : Int)))) :=
        e_op (e_cb (e_cons (e_var F2 rfl) e_nil) c_lenL) (e_op (e_fld (x := Job.enc (.least n wt)) O2 (e_varV F2 rfl) J.cls J.said (by rfl)) e_int (r_ixT (by rfl))) (r_I0 fun H => by rw [nl]; exact .bl _)
      by_cases hw : (nums st).length < wt
      · refine q_ifT F2 ((e_test E2).is (decide_eq_true (by omega))) fun H3 e3 F3 => s_ret (K := K) (e_lst e_nil (by show 0 ≤ 100000; omega)) fun v H4 e4 d4 => k v H4 (((e1.trans e2).trans e3).trans e4) ?_
        rw [hth, if_pos hw]
        exact d4
      · refine q_ifN F2 ((e_test E2).is (decide_eq_false (by omega))) fun H3 e3 F3 => s_ret (e_var F3 rfl) fun v H4 e4 d4 => k v H4 (((e1.trans e2).trans e3).trans e4) ?_
        rw [hth, if_neg hw]
        exact d4

theorem eqv_nil : ∀ ns : List Int, PyData.eqv (.list (ns.map PyData.int)) (.list []) = ns.isEmpty
  | [] => rfl
  | _ :: _ => rfl
theorem can_I : ∀ ns : List Int, PyData.canLayAll0 (ns.map PyData.int) = true
  | [] => rfl
  | n :: ns => by
    show (PyData.canLay0 (.int n) && PyData.canLayAll0 (ns.map PyData.int)) = true
    rw [can_I ns]
    rfl
theorem dep_I : ∀ ns : List Int, PyData.depthAll (ns.map PyData.int) = 0
  | [] => rfl
  | n :: ns => by
    show max (PyData.depth (.int n)) (PyData.depthAll (ns.map PyData.int)) = 0
    rw [dep_I ns]
    rfl
theorem shaped_IL (ns : List Int) : SeqAt.shaped (.list (ns.map PyData.int)) = true := by
  unfold SeqAt.shaped
  have h1 : PyData.canLay0 (.list (ns.map PyData.int)) = true := can_I ns
  have h2 : PyData.depth (.list (ns.map PyData.int)) ≤ 64 := by
    show PyData.depthAll (ns.map PyData.int) + 1 ≤ 64
    rw [dep_I]
    omega
  rw [h1, decide_eq_true h2]
  rfl
abbrev sp_thereL (K : PySem.W.Frag) : Sp := spM K (He.ga K "Least") RThere
def RDeedL (fds : List (Str × FV)) (ds : List PyData) (d : PyData) : Prop := ∃ (own : Nat) (n : Int) (wt : Nat) (told : Tld), fds = f3 (.int (own : Int)) (Job.enc (.least n wt)) (encT told) ∧ ds = [] ∧ told.length ≤ 1000 ∧ TLst told ∧ d = (nextDeed own (.least n wt) told).enc own
theorem scLeastD : FnScope ["self"] ["self"] (defScope sLeast_deed) := ⟨rfl, rfl, rfl, by decide +kernel, rfl, by decide +kernel, by decide +kernel⟩
theorem ok_leastD (T : Tx K mg) : Ok P w K mg base 2 (He.ma K (He.ga K "Least") "deed") ["self"] (spM K (He.ga K "Least") RDeedL) := by
  obtain ⟨fd, F⟩ := T.f_Least_deed
  have J := T.jLeast
  have O_there : Ok P w K mg base 1 (He.ma K (He.ga K "Least") "there") ["self"] (spM K (He.ga K "Least") RThere) := ok_leastT T
  refine ⟨fd, F.ok scLeastD (fun vs H Q E h => spM_len (n := 0) (fun fds ds d ⟨_, _, _, _, _, e, _⟩ => by rw [e] <;> rfl) h) (fun cdv A outer s H vs Q E hr h => ?_), F.binds (fun _ _ _ _ _ _ us hl => match us, hl with | [_], _ => rfl), F.kp⟩
  obtain ⟨p, ws, ds, fds, d, rfl, O, hd, ⟨own, n, wt, told, rfl, rfl, hl, hT, rfl⟩, k⟩ := h
  refine ⟨_, (pss_cons (ps_if (pt_cmpR op_eq (pe_callB call_len_seq (by rfl) T.b_len (by decide +kernel) (pa_cons (pe_fld (pv 0) rfl) pa_nil)) pe_int (nomark _)) (pss_one (ps_ret (pe_tup (pa_cons pe_str (pa_cons (pe_fld (pv 0) rfl) (pa_cons (pe_tup (pa_cons (pe_ix ix_tup (pe_fld (pv 0) rfl) pe_int (fun _ _ => rfl)) pa_nil)) pa_nil)))))) pss_nil)
      (pss_cons (ps_if (pt_cmpR (op_eqD hr.units) (pe_okm0 O_there (hr.mono (by decide)) T.c_Least T.m_Least_there (pv 0)) (pe_lst pa_nil) (nomark _)) (pss_one (ps_ret (pe_glob (v := .ref (He.ga K "LOOK")) (by rfl) T.g_LOOK rfl))) pss_nil)
      (pss_one (ps_ret pe_non)))), ?_⟩
  have F0 : Fd K H (L2.start ["self"] (.ref p :: ws)) [.v (.ref p)] := fd_self hd
  have tl : ((told.map encE).length : Int) = (told.length : Int) := by rw [List.length_map]
  have E1 : ED K (tOp rEq (tCB _ (tCons (tFld K (tVar 0) "told") tNil)) (tC (V.int 0))) _ H (.bool (decide ((told.length : Int) = 0))) :=
    (e_op (e_cb (e_cons (e_fld (x := encT told) O (e_varV F0 rfl) J.cls J.told (by rfl)) e_nil) c_lenT) e_int r_eqI).is (by rw [tl])
  by_cases hs : told.length = 0
  · refine q_ifT F0 ((e_test E1).is (decide_eq_true (by omega))) fun H1 e1 F1 => ?_
    have O1 := O.same e1
    refine s_ret (e_tup (e_cons e_str (e_cons (e_fld (x := .int (own : Int)) O1 (e_varV F1 rfl) J.cls J.own (by rfl)) (e_cons (e_tup (e_cons (e_op (e_fld (x := Job.enc (.least n wt)) O1 (e_varV F1 rfl) J.cls J.said (by rfl)) e_int (r_ixT (z := .int n) (by rfl))) e_nil) (by show 1 ≤ 100000; omega)) e_nil))) (by show 3 ≤ 100000; omega)) fun v H2 e2 d2 => k v H2 (e1.trans e2) ?_
    rw [nd_least, if_pos hs]
    exact d2
  · refine q_ifN F0 ((e_test E1).is (decide_eq_false (by omega))) fun H1 e1 F1 => ?_
    have O1 := O.same e1
    have E2 : ED K (tOp (rEqD K) (tMeth (He.ga K "Least") "there" (spM K (He.ga K "Least") RThere) [] E0 (tVar 0) tNil) (tLst tNil)) _ H1 (.bool (there wt told).isEmpty) :=
      (e_op (e_meth (e_varV F1 rfl) O1 e_nil (z := .list ((there wt told).map PyData.int)) ⟨_, n, wt, told, rfl, rfl, hl, hT, rfl⟩ (by rfl)) (e_lst e_nil (by show 0 ≤ 100000; omega)) (r_eqD (shaped_IL _) rfl)).is (by rw [eqv_nil])
    by_cases hth : there wt told = []
    · refine q_ifT F1 ((e_test E2).is (by rw [hth] <;> rfl)) fun H2 e2 F2 => s_ret (e_look T) fun v H3 e3 d3 => k v H3 ((e1.trans e2).trans e3) ?_
      rw [nd_least, if_neg hs, if_pos hth]
      exact d3
    · refine q_ifN F1 ((e_test E2).is (by cases q : there wt told with | nil => exact absurd q hth | cons _ _ => rfl)) fun H2 e2 F2 => s_ret (K := K) e_non fun v H3 e3 d3 => k v H3 ((e1.trans e2).trans e3) ?_
      rw [nd_least, if_neg hs, if_neg hth]
      exact d3
theorem minL_ok {ns : List Int} {k : Int} (h1 : k ∈ ns) (h2 : ∀ y, y ∈ ns → k ≤ y) : k = minL ns := by
  have key : ∀ (l : List Int) (a : Int), l.foldl min a ≤ a ∧ (∀ y ∈ l, l.foldl min a ≤ y) ∧ (l.foldl min a = a ∨ l.foldl min a ∈ l) := by
    intro l
    induction l with
    | nil => intro a; simp
    | cons x l ih =>
      intro a
      obtain ⟨i1, i2, i3⟩ := ih (min a x)
      rw [List.foldl_cons]
      refine ⟨by omega, fun y hy => ?_, ?_⟩
      · rcases List.mem_cons.mp hy with rfl | hy
        · omega
        · exact i2 y hy
      · rcases i3 with i3 | i3
        · rw [i3]
          by_cases z : a ≤ x
          · exact .inl (by omega)
          · exact .inr (by rw [show min a x = x by omega]; exact List.mem_cons_self)
        · exact .inr (List.mem_cons_of_mem _ i3)
  cases ns with
  | nil => simp at h1
  | cons a r =>
    obtain ⟨i1, i2, i3⟩ := key r a
    have e1 : ∀ y ∈ a :: r, minL (a :: r) ≤ y := fun y hy => by
      rcases List.mem_cons.mp hy with rfl | hy
      · exact i1
      · exact i2 y hy
    have e2 : minL (a :: r) ∈ a :: r := by
      rcases i3 with i3 | i3
      · show r.foldl min a ∈ _
        rw [i3]
        exact List.mem_cons_self
      · exact List.mem_cons_of_mem _ i3
    have := e1 k h1
    have := h2 _ e2
    omega
def RAnsL (fds : List (Str × FV)) (ds : List PyData) (d : PyData) : Prop := ∃ (h : PyData) (n : Int) (wt : Nat) (told : Tld), fds = f3 h (Job.enc (.least n wt)) (encT told) ∧ ds = [] ∧ told.length ≤ 1000 ∧ TLst told ∧ there wt told ≠ [] ∧ d = .int (minL (there wt told))
theorem scLeastA : FnScope ["self"] ["self"] (defScope sLeast_answer) := ⟨rfl, rfl, rfl, by decide +kernel, rfl, by decide +kernel, by decide +kernel⟩
theorem ok_leastA (T : Tx K mg) : Ok P w K mg base 2 (He.ma K (He.ga K "Least") "answer") ["self"] (spM K (He.ga K "Least") RAnsL) := by
  obtain ⟨fd, F⟩ := T.f_Least_answer
  have J := T.jLeast
  have O_there : Ok P w K mg base 1 (He.ma K (He.ga K "Least") "there") ["self"] (spM K (He.ga K "Least") RThere) := ok_leastT T
  refine ⟨fd, F.ok scLeastA (fun vs H Q E h => spM_len (n := 0) (fun fds ds d ⟨_, _, _, _, _, e, _⟩ => by rw [e] <;> rfl) h) (fun cdv A outer s H vs Q E hr h => ?_), F.binds (fun _ _ _ _ _ _ us hl => match us, hl with | [_], _ => rfl), F.kp⟩
  obtain ⟨p, ws, ds, fds, d, rfl, O, hd, ⟨h, n, wt, told, rfl, rfl, hl, hT, hne, rfl⟩, k⟩ := h
  refine ⟨_, (pss_one (ps_ret (pe_callB (cr_min rfl) (by rfl) T.b_min (by decide +kernel) (pa_cons (pe_okm0 O_there (hr.mono (by decide)) T.c_Least T.m_Least_there (pv 0)) pa_nil)))), ?_⟩
  have F0 : Fd K H (L2.start ["self"] (.ref p :: ws)) [.v (.ref p)] := fd_self hd
  exact s_ret (e_cb (e_cons (e_meth (e_varV F0 rfl) O e_nil (z := .list ((there wt told).map PyData.int)) ⟨_, n, wt, told, rfl, rfl, hl, hT, rfl⟩ (by rfl)) e_nil) (c_min (List.length_pos_iff.mpr hne) fun k h1 h2 => minL_ok h1 h2)) k
end
end My
/-! Name -/
namespace My
open PySem PySem.Spec PyProof.Rows L2
section
variable {P : Program} {w : World} {K : PySem.W.Frag} {mg : Str → Option Value} {base : Heap}
section
variable {σ : L2.St} {H : Hp} {fr : List FV} {te ta : TE} {tr : TA} {D : Ends} {C : Addr} {fds : List (Str × FV)} {ds : List PyData}
/-- C.__init__(self, ..) called off a class -/
theorem s_initX {R : List PyData → List (Str × FV) → Prop} {p : Addr} (F : Fd K H σ fr) (hs : EV ta σ H (.ref p)) (O : Ob K H p C []) (h : EA K tr σ H ds) (hR : R ds fds)
    (k : ∀ H1, Kx p H H1 → Ob K H1 p C fds → Fd K H1 σ fr → D.nx σ H1) : tDrop (tCall (spI K C R) [] E0 (tCons ta tr)) D σ H := hs H (Same.refl H) _ fun H2 e2 => h H2 e2 _ fun vs H3 e3 d3 => by
  have O3 := O.same (e2.trans e3)
  exact ⟨p, vs, ds, fds, by rw [List.append_nil], O3, d3, hR, fun H4 k4 O4 => k H4 ((kx_of (e2.trans e3)).trans k4) O4 ((F.same (e2.trans e3)).mono (O3.kd k4))⟩
theorem q_initX {R : List PyData → List (Str × FV) → Prop} {p : Addr} {tz : TS} (F : Fd K H σ fr) (hs : EV ta σ H (.ref p)) (O : Ob K H p C []) (h : EA K tr σ H ds) (hR : R ds fds)
    (k : ∀ H1, Kx p H H1 → Ob K H1 p C fds → Fd K H1 σ fr → tz D σ H1) : tSeq (tDrop (tCall (spI K C R) [] E0 (tCons ta tr))) tz D σ H := s_initX (D := { D with nx := tz D }) F hs O h hR k
theorem e_odd (h : ED K te σ H (.tuple ds)) : ED K (tOdd K te) σ H (.tuple (oddsV ds)) := fun H1 e Q q => h H1 e _ fun v H2 e2 d2 => by
  obtain ⟨a, xs, rfl, hs, hd⟩ := dp_tup d2
  exact ⟨a, xs, rfl, hs, fun p hp => q _ _ (e2.trans (same_new hp)) (.tup (SqT.of upd_same) (dpall_mono (kd_of (same_new hp)) _ _ hd.odds))⟩
end
theorem odds_map {α β : Type} (f : α → β) : ∀ l : List α, oddsV (l.map f) = (odds l).map f
  | [] => rfl
  | [_] => rfl
  | _ :: b :: r => by
    show f b :: oddsV (r.map f) = f b :: (odds r).map f
    rw [odds_map f r]

/-! ### the data of names -/
theorem PName.enc {v : Val} (h : PName v) (hz : v.isZ = false) : v.enc = .tuple [.int v.id, .int v.num] := by
  obtain ⟨i, k, rfl⟩ := h.nz hz
  rfl
def sndD : PyData → PyData
  | .tuple [_, d] => d
  | _ => .int 0
def fstI : PyData → Int
  | .tuple (.int i :: _) => i
  | _ => 0
/-- names that stand at places -/
def Nms (os : List Val) : Prop := ∀ v ∈ os, v.enc = .tuple [.int v.id, .int v.num]
theorem nms_others {own : Nat} {seen : List Val} (h : ∀ v ∈ seen, PName v) : Nms (others own seen) := fun v hv => by
  obtain ⟨i, _, h1, h2⟩ := mem_others.mp hv
  exact (h v (List.mem_of_getElem? h1)).enc h2
theorem taken_of : ∀ {os : List Val}, Nms os → ((os.map Val.enc).filter fun _ => true).map sndD = (os.map Val.num).map PyData.int := fun {os} h => by
  rw [List.filter_eq_self.mpr (fun _ _ => rfl), List.map_map, List.map_map]
  apply List.map_congr_left
  intro v hv
  show sndD v.enc = .int v.num
  rw [h v hv]
  rfl
theorem rank_of {id : Int} : ∀ {os : List Val}, Nms os → (((os.map Val.enc).filter fun d => decide (fstI d < id)).map fun d => d).length = (os.filter fun v => decide (v.id < id)).length := fun {os} h => by
  rw [List.length_map, List.filter_map, List.length_map]
  congr 1
  apply List.filter_congr
  intro v hv
  show decide (fstI v.enc < id) = _
  rw [h v hv]
  rfl
def f5 (h j t : PyData) (n : Int) (k : Bool) : List (Str × FV) := [("own", .d h), ("said", .d j), ("told", .d t), ("number", .d (.int n)), ("known", .d (.bool k))]
def RHearN (fds : List (Str × FV)) (ds : List PyData) (fds' : List (Str × FV)) : Prop := ∃ (own : Nat) (id : Int) (t : PyData) (n : Int) (b : Bool) (seen : List Val), fds = f5 (.int (own : Int)) (Job.enc (.name id)) t n b ∧ ds = [encSt seen] ∧
  own < seen.length ∧ seen.length ≤ 100 ∧ (∀ v ∈ seen, PName v) ∧ fds' = f5 (.int (own : Int)) (Job.enc (.name id)) t (hearName own id (n, b) seen).1 (hearName own id (n, b) seen).2
theorem scNameH : FnScope ["self", "seen", "others", "taken", "rank", "free", "value", "number"] ["self", "seen"] (defScope sName_hear) := ⟨rfl, rfl, rfl, by decide +kernel, rfl, by decide +kernel, by decide +kernel⟩
theorem ok_nameH (T : Tx K mg) : Ok P w K mg base 2 (He.ma K (He.ga K "Name") "hear") ["self", "seen"] (spX K (He.ga K "Name") RHearN) := by
  obtain ⟨fd, F⟩ := T.f_Name_hear
  obtain ⟨fdo, Fo⟩ := T.f_Name_others
  have J := T.jName
  have O_others : Ok P w K mg base 1 (He.ma K (He.ga K "Name") "others") ["self", "seen"] (spM K (He.ga K "Name") ROthers) := ok_others Fo J T
  refine ⟨fd, F.ok scNameH (fun vs H Q E h => spX_len (n := 1) (fun fds ds d ⟨_, _, _, _, _, _, _, e, _⟩ => by rw [e] <;> rfl) h) (fun cdv A outer s H vs Q E hr h => ?_), F.binds (fun _ _ _ _ _ _ us hl => match us, hl with | [_, _], _ => rfl), F.kp⟩
  obtain ⟨p, ws, ds, fds, fds', rfl, O, hd, ⟨own, id, t, n, b, seen, rfl, rfl, ho, hl, hP, rfl⟩, k⟩ := h
  refine ⟨_, (pss_cons (ps_set (i := 2) scNameH.nd rfl (Or.inl rfl) (pe_okm O_others (hr.mono (by decide)) T.c_Name T.m_Name_others (pv 0) (pa_cons (pv 1) pa_nil)))
      (pss_cons (ps_set (i := 3) scNameH.nd rfl (Or.inr rfl) (pe_lc (own := [("value", 6)]) (g := (gName 6)) (tt := tYes) (te := (tOp (rIxT K) (tVar 6) (tC (.int 1)))) (by rfl) scNameH.nd (pi_list (pv 2)) (blkOk_by (own := [("value", 6)]) (N := ["self", "seen", "others", "taken", "rank", "free", "value", "number"]) (sc := defScope sName_hear) (by decide +kernel)) (fun _ _ _ _ _ => (pg_name (i := 6) scNameH.nd rfl (Or.inl rfl))) (fun _ _ _ _ _ => pts_nil) (fun _ _ _ _ _ => (pe_ix ix_tup (pv 6) pe_int (fun _ _ => rfl)))))
      (pss_cons (ps_fld (pv 0) (pe_cmpR op_notIn_seq (pe_fld (pv 0) rfl) (pv 3) (by rfl)) rfl)
      (pss_one (ps_if (pt_not (pt_val (pe_fld (pv 0) rfl))) (pss_cons (ps_set (i := 4) scNameH.nd rfl (Or.inl rfl) (pe_callB call_len_seq (by rfl) T.b_len (by decide +kernel) (pa_cons (pe_lc (own := [("value", 6)]) (g := (gName 6)) (tt := (tTest (tOp (rI0 fun i j => .bl (decide (i < j))) (tOp (rIxT K) (tVar 6) (tC (.int 0))) (tOp (rIxT K) (tFld K (tVar 0) "said") (tC (.int 1)))))) (te := (tVar 6)) (by rfl) scNameH.nd (pi_list (pv 2)) (blkOk_by (own := [("value", 6)]) (N := ["self", "seen", "others", "taken", "rank", "free", "value", "number"]) (sc := defScope sName_hear) (by decide +kernel)) (fun _ _ _ _ _ => (pg_name (i := 6) scNameH.nd rfl (Or.inl rfl))) (fun _ _ _ _ _ => (pts_one (pt_cmpR op_lt (pe_ix ix_tup (pv 6) pe_int (fun _ _ => rfl)) (pe_ix ix_tup (pe_fld (pv 0) rfl) pe_int (fun _ _ => rfl)) (nomark _)))) (fun _ _ _ _ _ => (pv 6))) pa_nil)))
      (pss_cons (ps_setLc (i := 5) (own := [("number", 7)]) (g := (gName 7)) (tt := (tTest (tOp (rIn K true) (tVar 7) (tVar 3)))) (te := (tVar 7)) rfl scNameH.nd rfl rfl (sw_true rfl rfl rfl (by decide +kernel)) (pi_range2 (by rfl) T.b_range (pa_cons pe_int (pa_cons (pe_op op_add (pe_op op_mul pe_int (pe_callB call_len_seq (by rfl) T.b_len (by decide +kernel) (pa_cons (pv 1) pa_nil))) pe_int) pa_nil))) (blkOk_by (own := [("number", 7)]) (N := ["self", "seen", "others", "taken", "rank", "free", "value", "number"]) (sc := defScope sName_hear) (by decide +kernel)) (fun _ _ _ _ _ => (pg_name (i := 7) scNameH.nd rfl (Or.inl rfl))) (fun _ _ _ _ _ => (pts_one (pt_cmpR op_notIn_seq (pv 7) (pv 3) (by rfl)))) (fun _ _ _ _ _ => (pv 7)))
      (pss_one (ps_fld (pv 0) (pe_ix ix_list (pv 5) (pv 4) (fun _ _ => rfl)) rfl)))) pss_nil))))), ?_⟩
  have F0 : Fd K H (L2.start ["self", "seen", "others", "taken", "rank", "free", "value", "number"] (.ref p :: ws)) [.v (.ref p), .d (encSt seen), .un, .un, .un, .un, .un, .un] := fd_self hd
  have hN := nms_others (own := own) hP
  have holen := others_len ho
  refine q_asg F0 (e_meth (e_varV F0 rfl) O (e_cons (e_var F0 rfl) e_nil) (z := .list ((others own seen).map Val.enc)) ⟨own, seen, rfl, rfl, hl, rfl⟩ (by rfl)) fun σ1 H1 e1 F1 => ?_
  have O1 := O.same e1
  refine q_asg F1 ((e_lcL (ds := (others own seen).map Val.enc) (fun _ => true) sndD F1 (e_var F1 rfl) (by rw [List.length_map]; omega) (by simp) (fun d hd' _ => ?_) (fun d hd' σ' H' e F' => fun H1 _ Q q => q H1 (Same.refl H1)) (fun d hd' _ σ' H' e F' => ?_)).is (by rw [taken_of hN])) fun σ2 H2 e2 F2 => ?_
  · obtain ⟨v, hv, rfl⟩ := List.mem_map.mp hd'
    rw [hN v hv]
    rfl
  · obtain ⟨v, hv, rfl⟩ := List.mem_map.mp hd'
    rw [hN v hv] at F' ⊢
    exact e_op (e_var F' rfl) e_int (r_ixT (by rfl))
  have O2 := O1.same e2
  refine q_fld F2 O2 (e_varV F2 rfl) (e_op (e_fld (x := .int n) O2 (e_varV F2 rfl) J.cls T.n_Name_number (by rfl)) (e_var F2 rfl) r_notIn) J.cls T.n_Name_known (by show 5 < 1000; decide) fun H3 k3 O3 F3 => ?_
  have O3' : Ob K H3 p (He.ga K "Name") (f5 (.int (own : Int)) (Job.enc (.name id)) t n (!decide (n ∈ (others own seen).map Val.num))) := O3
  have k03 : Kx p H H3 := (kx_of (e1.trans e2)).trans k3
  by_cases hm : n ∈ (others own seen).map Val.num
  · have hh : hearName own id (n, b) seen = ((freeN 1 (2 * seen.length + 1) ((others own seen).map Val.num)).getD (((others own seen).filter fun v => decide (v.id < id)).length) 0, false) := by
      unfold hearName
      simp only [hm, if_true]
    refine s_ifT F3 ((e_not (e_tB (e_fld (x := .bool (!decide (n ∈ (others own seen).map Val.num))) O3' (e_varV F3 rfl) J.cls T.n_Name_known (by rfl)))).is (by simp [hm])) fun H4 e4 F4 => ?_
    have O4 := O3'.same e4
    refine q_asg F4 (e_cb (e_cons (e_lcL (ds := (others own seen).map Val.enc) (fun d => decide (fstI d < id)) (fun d => d) F4 (e_var F4 rfl) (by rw [List.length_map]; omega) (by simp) (fun d hd' _ => ?_) (fun d hd' σ' H' e F' => ?_) (fun d hd' _ σ' H' e F' => e_var F' rfl)) e_nil) c_lenL) fun σ5 H5 e5 F5 => ?_
    · obtain ⟨v, hv, rfl⟩ := List.mem_map.mp hd'
      exact noL_V v
    · obtain ⟨v, hv, rfl⟩ := List.mem_map.mp hd'
      rw [hN v hv] at F' ⊢
      refine e_test (e_op (e_op (e_var F' rfl) e_int (r_ixT (z := .int v.id) (by rfl))) (e_op (e_fld (x := Job.enc (.name id)) (O4.same e) (e_varV F' rfl) J.cls J.said (by rfl)) e_int (r_ixT (z := .int id) (by rfl))) (r_I0 fun H => .bl _))
    rw [rank_of hN] at F5
    refine q_asg F5 (e_lcR (n := 2 * seen.length + 1) (lo := 1) (hi := 2 * (seen.length : Int) + 2) (fun x => !decide (x ∈ (others own seen).map Val.num)) PyData.int F5 (e_cons e_int (e_cons (e_op (e_op e_int (e_cb (e_cons (e_var F5 rfl) e_nil) c_lenT) (r_I (z := .int (2 * (seen.length : Int))) (.inl ⟨by decide, by decide⟩) fun H => by rw [List.length_map]; exact .int _)) e_int (r_I0 fun H => .int _)) e_nil)) (by omega) (by omega) (by omega) (by simp) (fun _ _ => rfl) (fun d _ _ σ' H' e F' => ?_) (fun d _ _ _ σ' H' e F' => e_var F' rfl)) fun σ6 H6 e6 F6 => ?_
    · exact e_test (e_op (e_var F' rfl) (e_var F' rfl) r_notIn)
    have O6 := (O4.same e5).same e6
    have hrk := List.length_filter_le (fun v => decide (v.id < id)) (others own seen)
    have hfl := free_len (2 * seen.length + 1) 1 ((others own seen).map Val.num)
    rw [List.length_map] at hfl
    have hlen : ((others own seen).filter fun v => decide (v.id < id)).length < (freeN 1 (2 * seen.length + 1) ((others own seen).map Val.num)).length := by omega
    have hg := List.getElem?_eq_getElem hlen
    have F6' : Fd K H6 σ6 _ := F6
    refine s_fld F6 O6 (e_varV F6 rfl) (e_op (e_var F6 rfl) (e_var F6 rfl) (r_ixL (z := .int ((freeN 1 (2 * seen.length + 1) ((others own seen).map Val.num)).getD (((others own seen).filter fun v => decide (v.id < id)).length) 0)) (atI_nat (by
      show ((freeN 1 (2 * seen.length + 1) ((others own seen).map Val.num)).map PyData.int)[_]? = _
      rw [List.getElem?_map, hg, List.getD_eq_getElem?_getD, hg]
      rfl)))) J.cls T.n_Name_number (by show 5 < 1000; decide) fun H7 k7 O7 F7 => ?_
    refine k H7 (((k03.trans (kx_of (e4.trans e5))).trans (kx_of e6)).trans k7) ?_
    rw [hh]
    have e9 : (!decide (n ∈ (others own seen).map Val.num)) = false := by simp [hm]
    rw [e9] at O7
    exact O7
  · have hh : hearName own id (n, b) seen = (n, true) := by
      unfold hearName
      simp only [hm, if_false]
    refine s_ifF F3 ((e_not (e_tB (e_fld (x := .bool (!decide (n ∈ (others own seen).map Val.num))) O3' (e_varV F3 rfl) J.cls T.n_Name_known (by rfl)))).is (by simp [hm])) fun H4 e4 F4 => ?_
    refine k H4 (k03.trans (kx_of e4)) ?_
    rw [hh]
    have O4 := O3'.same e4
    have e9 : (!decide (n ∈ (others own seen).map Val.num)) = true := by simp [hm]
    rw [e9] at O4
    exact O4

def RInitN (ds : List PyData) (fds : List (Str × FV)) : Prop := ∃ (own n : Nat) (id : Int) (told : Tld), ds = [.int (own : Int), Job.enc (.name id), encT told] ∧ own < n ∧ n ≤ 100 ∧ told.length ≤ 1000 ∧ TOk PName n told ∧
  fds = f5 (.int (own : Int)) (Job.enc (.name id)) (encT told) (nameSt own id told).1 (nameSt own id told).2
theorem scNameI : FnScope ["self", "hand", "said", "told", "seen"] ["self", "hand", "said", "told"] (defScope sName_init) := ⟨rfl, rfl, rfl, by decide +kernel, rfl, by decide +kernel, by decide +kernel⟩
theorem ok_nameI (T : Tx K mg) : Ok P w K mg base 3 (He.ma K (He.ga K "Name") "__init__") ["self", "hand", "said", "told"] (spI K (He.ga K "Name") RInitN) := by
  obtain ⟨fd, F⟩ := T.f_Name_init
  obtain ⟨fdj, Fj⟩ := T.f_Job_init
  have J := T.jName
  have O_hear : Ok P w K mg base 2 (He.ma K (He.ga K "Name") "hear") ["self", "seen"] (spX K (He.ga K "Name") RHearN) := ok_nameH T
  have O_Job_init : Ok P w K mg base 1 (He.ma K (He.ga K "Job") "__init__") ["self", "hand", "said", "told"] (spI K (He.ga K "Name") RInit) := ok_jobI Fj J
  refine ⟨fd, F.ok scNameI (fun vs H Q E h => spI_len (n := 3) (fun ds fds ⟨_, _, _, _, e, _⟩ => by rw [e] <;> rfl) h) (fun cdv A outer s H vs Q E hr h => ?_), F.binds (fun _ _ _ _ _ _ us hl => match us, hl with | [_, _, _, _], _ => rfl), F.kp⟩
  obtain ⟨p, ws, ds, fds, rfl, O, hd, ⟨own, n, id, told, rfl, ho, hn, hl, hT, rfl⟩, k⟩ := h
  refine ⟨_, (pss_cons (ps_expr (pe_clsm O_Job_init (hr.mono (by decide)) T.job T.g_Job (pa_cons (pv 0) (pa_cons (pv 1) (pa_cons (pv 2) (pa_cons (pv 3) pa_nil))))))
      (pss_cons (ps_fld (pv 0) pe_int rfl)
      (pss_cons (ps_fld (pv 0) pe_bl rfl)
      (pss_one (ps_for PassesOwn.never rfl (pi_tup (pe_odd (pv 3))) (pg_name (i := 4) scNameI.nd rfl (Or.inl rfl)) (pss_one (ps_expr (pe_okm O_hear (hr.mono (by decide)) T.c_Name T.m_Name_hear (pv 0) (pa_cons (pv 4) pa_nil))))))))), ?_⟩
  have F0 : Fd K H (L2.start ["self", "hand", "said", "told", "seen"] (.ref p :: ws)) [.v (.ref p), .d (.int (own : Int)), .d (Job.enc (.name id)), .d (encT told), .un] := fd_self hd
  refine q_initX F0 (e_varV F0 rfl) O (e_cons (e_var F0 rfl) (e_cons (e_var F0 rfl) (e_cons (e_var F0 rfl) e_nil))) ⟨_, _, _, rfl, rfl⟩ fun H1 k1 O1 F1 => ?_
  refine q_fld F1 O1 (e_varV F1 rfl) e_int J.cls T.n_Name_number (by show 3 < 1000; decide) fun H2 k2 O2 F2 => ?_
  refine q_fld F2 O2 (e_varV F2 rfl) e_bl J.cls T.n_Name_known (by show 4 < 1000; decide) fun H3 k3 O3 F3 => ?_
  have k03 := (k1.trans k2).trans k3
  let st := fun i => ((odds told).take i).foldl (fun s (e : Ent) => hearName own id s (e.getD [])) (1, false)
  refine s_forT (e_odd (e_var (x := encT told) F3 rfl)) (fun Hb i σ' H' => Kx p Hb H' ∧ Kd Hb H' ∧ Ob K H' p (He.ga K "Name") (f5 (.int (own : Int)) (Job.enc (.name id)) (encT told) (st i).1 (st i).2) ∧ Fd K H' σ' [.v (.ref p), .d (.int (own : Int)), .d (Job.enc (.name id)), .d (encT told), .un])
    (fun Hb e => ⟨Kx.refl _ _, Kd.refl _, O3.same e, F3.same e⟩) (fun Hb i σ' H' q => q.2.1) (fun Hb i e x σ' H' eb he dx q => ?_) (fun Hb σ' H' eb q => ?_)
  · obtain ⟨q1, q2, q3, q4⟩ := q
    rw [odds_map, List.getElem?_map] at he
    obtain ⟨en, hen, rfl⟩ := Option.map_eq_some_iff.mp he
    have hmo := List.mem_of_getElem? hen
    obtain ⟨seen, rfl⟩ := hT.odd en hmo
    obtain ⟨hs1, hs2⟩ := hT.all _ (odds_mem hmo) seen rfl
    have F5 : Fd K H' (σ'.set 4 (some x)) [.v (.ref p), .d (.int (own : Int)), .d (Job.enc (.name id)), .d (encT told), .d (encSt seen)] := q4.set 4 (fvd dx)
    refine s_methX F5 (e_varV F5 rfl) q3 (e_cons (e_var F5 rfl) e_nil) ⟨own, id, encT told, _, _, seen, rfl, rfl, by omega, by omega, hs2, rfl⟩ (by rfl) fun H6 k6 O6 F6 => ?_
    have es : st (i + 1) = hearName own id (st i) seen := by
      show ((odds told).take (i + 1)).foldl _ _ = _
      rw [List.take_add_one, hen, List.foldl_append]
      rfl
    refine ⟨q1.trans k6, q2.trans (q3.kd k6), ?_, ?_⟩
    · rw [es]
      exact O6
    · have z2 : Fd K H6 ((σ'.set 4 (some x)).set 4 (some x)) [.v (.ref p), .d (.int (own : Int)), .d (Job.enc (.name id)), .d (encT told), .un] := F6.set 4 (f := .un) (v := x) True.intro
      rw [List.set_set] at z2
      exact z2
  · obtain ⟨q1, q2, q3, q4⟩ := q
    refine k H' ((k03.trans (kx_of eb)).trans q1) ?_
    have es : st (oddsV (told.map encE)).length = nameSt own id told := by
      rw [odds_map, List.length_map]
      show ((odds told).take _).foldl _ _ = _
      rw [List.take_of_length_le (Nat.le_refl _)]
      rfl
    rw [es] at q3
    exact q3

def RDeedN (fds : List (Str × FV)) (ds : List PyData) (d : PyData) : Prop := ∃ (own : Nat) (id : Int) (told : Tld), fds = f5 (.int (own : Int)) (Job.enc (.name id)) (encT told) (nameSt own id told).1 (nameSt own id told).2 ∧ ds = [] ∧ d = (nextDeed own (.name id) told).enc own
theorem scNameD : FnScope ["self"] ["self"] (defScope sName_deed) := ⟨rfl, rfl, rfl, by decide +kernel, rfl, by decide +kernel, by decide +kernel⟩
theorem ok_nameD (T : Tx K mg) : Ok P w K mg base 1 (He.ma K (He.ga K "Name") "deed") ["self"] (spM K (He.ga K "Name") RDeedN) := by
  obtain ⟨fd, F⟩ := T.f_Name_deed
  have J := T.jName
  refine ⟨fd, F.ok scNameD (fun vs H Q E h => spM_len (n := 0) (fun fds ds d ⟨_, _, _, _, e, _⟩ => by rw [e] <;> rfl) h) (fun cdv A outer s H vs Q E hr h => ?_), F.binds (fun _ _ _ _ _ _ us hl => match us, hl with | [_], _ => rfl), F.kp⟩
  obtain ⟨p, ws, ds, fds, d, rfl, O, hd, ⟨own, id, told, rfl, rfl, rfl⟩, k⟩ := h
  refine ⟨_, (pss_cons (ps_if (pt_cmpR op_eq (pe_op op_mod (pe_callB call_len_seq (by rfl) T.b_len (by decide +kernel) (pa_cons (pe_fld (pv 0) rfl) pa_nil)) pe_int) pe_int (nomark _)) (pss_one (ps_ret (pe_glob (v := .ref (He.ga K "LOOK")) (by rfl) T.g_LOOK rfl))) pss_nil)
      (pss_cons (ps_if (pt_val (pe_fld (pv 0) rfl)) (pss_one (ps_ret pe_non)) pss_nil)
      (pss_one (ps_ret (pe_tup (pa_cons pe_str (pa_cons (pe_fld (pv 0) rfl) (pa_cons (pe_tup (pa_cons (pe_ix ix_tup (pe_fld (pv 0) rfl) pe_int (fun _ _ => rfl)) (pa_cons (pe_fld (pv 0) rfl) pa_nil))) pa_nil)))))))), ?_⟩
  have F0 : Fd K H (L2.start ["self"] (.ref p :: ws)) [.v (.ref p)] := fd_self hd
  have tl : ((told.map encE).length : Int) = (told.length : Int) := by rw [List.length_map]
  have E1 : ED K (tOp rEq (tOp (rI (fun _ j => 0 < j) fun i j => .int (i % j)) (tCB _ (tCons (tFld K (tVar 0) "told") tNil)) (tC (V.int 2))) (tC (V.int 1))) _ H (.bool (decide ((told.length : Int) % 2 = 1))) :=
    (e_op (e_op (e_cb (e_cons (e_fld (x := encT told) O (e_varV F0 rfl) J.cls J.told (by rfl)) e_nil) c_lenT) e_int (r_I (by decide) fun H => .int _)) e_int r_eqI).is (by rw [tl])
  by_cases hs : told.length % 2 = 1
  · refine q_ifT F0 ((e_test E1).is (decide_eq_true (by omega))) fun H1 e1 F1 => s_ret (e_look T) fun v H2 e2 d2 => k v H2 (e1.trans e2) ?_
    rw [nd_name, if_pos hs]
    exact d2
  · refine q_ifN F0 ((e_test E1).is (decide_eq_false (by omega))) fun H1 e1 F1 => ?_
    have O1 := O.same e1
    have E2 : ED K (tFld K (tVar 0) "known") _ H1 (.bool (nameSt own id told).2) := e_fld O1 (e_varV F1 rfl) J.cls T.n_Name_known (by rfl)
    by_cases hk : (nameSt own id told).2 = true
    · refine q_ifT F1 ((e_tB E2).is hk) fun H2 e2 F2 => s_ret (K := K) e_non fun v H3 e3 d3 => k v H3 ((e1.trans e2).trans e3) ?_
      rw [nd_name, if_neg hs, if_pos hk]
      exact d3
    · refine q_ifN F1 ((e_tB E2).is (by simpa using hk)) fun H2 e2 F2 => ?_
      have O2 := O1.same e2
      refine s_ret (e_tup (e_cons e_str (e_cons (e_fld (x := .int (own : Int)) O2 (e_varV F2 rfl) J.cls J.own (by rfl)) (e_cons (e_tup (e_cons (e_op (e_fld (x := Job.enc (.name id)) O2 (e_varV F2 rfl) J.cls J.said (by rfl)) e_int (r_ixT (z := .int id) (by rfl))) (e_cons (e_fld (x := .int (nameSt own id told).1) O2 (e_varV F2 rfl) J.cls T.n_Name_number (by rfl)) e_nil)) (by show 2 ≤ 100000; omega)) e_nil))) (by show 3 ≤ 100000; omega)) fun v H3 e3 d3 => k v H3 ((e1.trans e2).trans e3) ?_
      rw [nd_name, if_neg hs, if_neg hk]
      exact d3
def RAnsN (fds : List (Str × FV)) (ds : List PyData) (d : PyData) : Prop := ∃ (h j t : PyData) (n : Int) (b : Bool), fds = f5 h j t n b ∧ ds = [] ∧ d = .int n
theorem scNameA : FnScope ["self"] ["self"] (defScope sName_answer) := ⟨rfl, rfl, rfl, by decide +kernel, rfl, by decide +kernel, by decide +kernel⟩
theorem ok_nameA (T : Tx K mg) : Ok P w K mg base 1 (He.ma K (He.ga K "Name") "answer") ["self"] (spM K (He.ga K "Name") RAnsN) := by
  obtain ⟨fd, F⟩ := T.f_Name_answer
  have J := T.jName
  refine ⟨fd, F.ok scNameA (fun vs H Q E h => spM_len (n := 0) (fun fds ds d ⟨_, _, _, _, _, _, e, _⟩ => by rw [e] <;> rfl) h) (fun cdv A outer s H vs Q E hr h => ?_), F.binds (fun _ _ _ _ _ _ us hl => match us, hl with | [_], _ => rfl), F.kp⟩
  obtain ⟨p, ws, ds, fds, d, rfl, O, hd, ⟨h, j, t, n, b, rfl, rfl, rfl⟩, k⟩ := h
  refine ⟨_, (pss_one (ps_ret (pe_fld (pv 0) rfl))), ?_⟩
  have F0 : Fd K H (L2.start ["self"] (.ref p :: ws)) [.v (.ref p)] := fd_self hd
  exact s_ret (e_fld O (e_varV F0 rfl) J.cls T.n_Name_number (by rfl)) k
end
end My
/-! less, halfway, Closer -/
namespace My
open PySem PySem.Spec PyProof.Rows L2
section
variable {P : Program} {w : World} {K : PySem.W.Frag} {mg : Str → Option Value} {base : Heap}
section
variable {σ : L2.St} {H : Hp} {fr : List FV} {tr : TA} {tt : TT} {tb tz : TS} {D : Ends} {d e : PyData} {i j : Nat}
theorem q_par (F : Fd K H σ fr) (h : EA K tr σ H [d, e]) (k : ∀ σ' H1, Same H H1 → Fd K H1 σ' ((fr.set i (.d d)).set j (.d e)) → tz D σ' H1) : tSeq (tPar i j tr) tz D σ H := h H (Same.refl H) _ fun vs H1 e1 d1 => by
  obtain ⟨v, u, rfl, dv, du⟩ := dpall2 d1
  exact ⟨v, u, rfl, k _ H1 e1 (((F.same e1).set i (fvd dv)).set j (fvd du))⟩
theorem s_par (F : Fd K H σ fr) (h : EA K tr σ H [d, e]) (k : ∀ σ' H1, Same H H1 → Fd K H1 σ' ((fr.set i (.d d)).set j (.d e)) → D.nx σ' H1) : tPar i j tr D σ H := h H (Same.refl H) _ fun vs H1 e1 d1 => by
  obtain ⟨v, u, rfl, dv, du⟩ := dpall2 d1
  exact ⟨v, u, rfl, k _ H1 e1 (((F.same e1).set i (fvd dv)).set j (fvd du))⟩
theorem q_while {α : Type} (ff : α → List FV) (I : α → Prop) (c : α → Bool) (μ : α → Nat) (x0 : α) (F : Fd K H σ (ff x0)) (h0 : I x0)
    (ht : ∀ x σ' H', Same H H' → I x → Fd K H' σ' (ff x) → ET tt σ' H' (c x))
    (hb : ∀ x σ' H' (D' : Ends), Same H H' → I x → c x = true → Fd K H' σ' (ff x) → (∀ x' σ'' H'', Same H H'' → I x' → μ x' < μ x → Fd K H'' σ'' (ff x') → D'.nx σ'' H'') → tb D' σ' H')
    (hd : ∀ x σ' H', Same H H' → I x → c x = false → Fd K H' σ' (ff x) → tz D σ' H') : tSeq (tWhile tt tb) tz D σ H := by
  refine ⟨fun m σ' H' => ∃ x, m = μ x ∧ Same H H' ∧ I x ∧ Fd K H' σ' (ff x), ⟨_, x0, rfl, Same.refl H, h0, F⟩, ?_⟩
  rintro m σ1 H1 ⟨x, rfl, e1, i1, F1⟩
  refine ht x σ1 H1 e1 i1 F1 H1 (Same.refl H1) _ fun H2 e2 => ?_
  cases hc : c x with
  | true =>
    refine iteT ⟨fun σ' H' => ∃ x', μ x' < μ x ∧ Same H H' ∧ I x' ∧ Fd K H' σ' (ff x'), fun σ' H' ⟨x', q1, q2, q3, q4⟩ => ⟨μ x', q1, x', rfl, q2, q3, q4⟩, ?_⟩
    exact hb x σ1 H2 _ (e1.trans e2) i1 hc (F1.same e2) fun x' σ'' H'' q1 q2 q3 q4 => ⟨x', q3, q1, q2, q4⟩
  | false => exact iteF (hd x σ1 H2 (e1.trans e2) i1 hc (F1.same e2))
end

/-! ### less -/
def B64 (i : Int) : Prop := -(2 ^ 64) < i ∧ i < 2 ^ 64
theorem cmul_l {i j : Int} (h : B64 i) : CMul i j := .inl h
theorem cmul_r {i j : Int} (h : B64 j) : CMul i j := .inr h
theorem OkF.b64 {j : Nat} {x : Fr} (h : OkF j x) : B64 x.1 := by
  have := h.top
  unfold topN at this
  unfold B64
  omega
def RLess (ds : List PyData) (d : PyData) : Prop := ∃ x y : Fr, ds = [encF x, encF y] ∧ B64 x.1 ∧ B64 y.1 ∧ d = .bool (lessF x y)
theorem scLess : FnScope ["one", "other"] ["one", "other"] (defScope sLess) := ⟨rfl, rfl, rfl, by decide +kernel, rfl, by decide +kernel, by decide +kernel⟩
theorem ok_less (T : Tx K mg) : Ok P w K mg base 1 (He.ga K "less") ["one", "other"] (spD K RLess) := by
  obtain ⟨fd, F⟩ := T.f_less
  refine ⟨fd, F.ok scLess (fun vs H Q E h => spD_len (n := 2) (fun ds d ⟨_, _, e, _⟩ => by rw [e] <;> rfl) h) (fun cdv A outer s H vs Q E hr h => ?_), F.binds (fun _ _ _ _ _ _ us hl => match us, hl with | [_, _], _ => rfl), F.kp⟩
  obtain ⟨ds, d, hd, ⟨x, y, rfl, bx, by_, rfl⟩, k⟩ := h
  refine ⟨_, (pss_one (ps_ret (pe_cmpR op_lt (pe_op op_mul (pe_ix ix_tup (pv 0) pe_int (fun _ _ => rfl)) (pe_ix ix_tup (pv 1) pe_int (fun _ _ => rfl))) (pe_op op_mul (pe_ix ix_tup (pv 1) pe_int (fun _ _ => rfl)) (pe_ix ix_tup (pv 0) pe_int (fun _ _ => rfl))) (nomark _)))), ?_⟩
  have F0 : Fd K H (L2.start ["one", "other"] vs) [.d (encF x), .d (encF y)] := fd_begin hd
  refine s_ret (e_op (e_op (e_op (e_var F0 rfl) e_int (r_ixT (z := .int x.1) (by rfl))) (e_op (e_var F0 rfl) e_int (r_ixT (z := .int y.2) (by rfl))) (r_I (cmul_l bx) fun H => .int _))
    (e_op (e_op (e_var F0 rfl) e_int (r_ixT (z := .int y.1) (by rfl))) (e_op (e_var F0 rfl) e_int (r_ixT (z := .int x.2) (by rfl))) (r_I (cmul_l by_) fun H => .int _)) (r_I0 fun H => .bl _)) k

/-! ### halfway -/
def RHalf (ds : List PyData) (d : PyData) : Prop := ∃ (j : Nat) (x y : Fr), ds = [encF x, encF y] ∧ OkF j x ∧ OkF j y ∧ j ≤ 5 ∧ d = encF (halfway x y)
theorem scHalfway : FnScope ["one", "other", "top", "bottom", "a", "b"] ["one", "other"] (defScope sHalfway) := ⟨rfl, rfl, rfl, by decide +kernel, rfl, by decide +kernel, by decide +kernel⟩
theorem gcd_step {a b g : Int} (h0 : 0 ≤ a) (hb : 0 < b) (h : ((Int.gcd a b : Nat) : Int) = g) : ((Int.gcd b (a % b) : Nat) : Int) = g := by
  rw [← h]
  have hm := Int.emod_nonneg a (show b ≠ 0 by omega)
  have e : (a % b).natAbs = a.natAbs % b.natAbs := by
    rw [Int.natAbs_emod_of_nonneg h0]
  show ((Nat.gcd b.natAbs (a % b).natAbs : Nat) : Int) = ((Nat.gcd a.natAbs b.natAbs : Nat) : Int)
  rw [e, Nat.gcd_comm b.natAbs, ← Nat.gcd_rec, Nat.gcd_comm]
theorem ok_halfway (T : Tx K mg) : Ok P w K mg base 1 (He.ga K "halfway") ["one", "other"] (spD K RHalf) := by
  obtain ⟨fd, F⟩ := T.f_halfway
  refine ⟨fd, F.ok scHalfway (fun vs H Q E h => spD_len (n := 2) (fun ds d ⟨_, _, _, e, _⟩ => by rw [e] <;> rfl) h) (fun cdv A outer s H vs Q E hr h => ?_), F.binds (fun _ _ _ _ _ _ us hl => match us, hl with | [_, _], _ => rfl), F.kp⟩
  obtain ⟨ds, d, hd, ⟨j, x, y, rfl, ox, oy, hj, rfl⟩, k⟩ := h
  refine ⟨_, (pss_cons (ps_par (i := 2) (j := 3) (by rfl) scHalfway.nd rfl rfl (by decide) rfl rfl (pa_cons (pe_op op_add (pe_op op_mul (pe_ix ix_tup (pv 0) pe_int (fun _ _ => rfl)) (pe_ix ix_tup (pv 1) pe_int (fun _ _ => rfl))) (pe_op op_mul (pe_ix ix_tup (pv 1) pe_int (fun _ _ => rfl)) (pe_ix ix_tup (pv 0) pe_int (fun _ _ => rfl)))) (pa_cons (pe_op op_mul (pe_op op_mul pe_int (pe_ix ix_tup (pv 0) pe_int (fun _ _ => rfl))) (pe_ix ix_tup (pv 1) pe_int (fun _ _ => rfl))) pa_nil)) (by rfl))
      (pss_cons (ps_par (i := 4) (j := 5) (by rfl) scHalfway.nd rfl rfl (by decide) rfl rfl (pa_cons (pe_callB call_abs (by rfl) T.b_abs (by decide +kernel) (pa_cons (pv 2) pa_nil)) (pa_cons (pv 3) pa_nil)) (by rfl))
      (pss_cons (ps_while PassesOwn.never (pt_cmpR op_gt (pv 5) pe_int (nomark _)) (pss_one (ps_par (i := 4) (j := 5) (by rfl) scHalfway.nd rfl rfl (by decide) rfl rfl (pa_cons (pv 5) (pa_cons (pe_op op_mod (pv 4) (pv 5)) pa_nil)) (by rfl))))
      (pss_one (ps_ret (pe_tup (pa_cons (pe_op op_fdiv (pv 2) (pv 4)) (pa_cons (pe_op op_fdiv (pv 3) (pv 4)) pa_nil)))))))), ?_⟩
  have F0 : Fd K H (L2.start ["one", "other", "top", "bottom", "a", "b"] vs) [.d (encF x), .d (encF y), .un, .un, .un, .un] := fd_begin hd
  have bx := ox.b64
  have by_ := oy.b64
  have x1 : ∀ {H : Hp} {σ : L2.St} {fr : List FV} {i : Nat}, Fd K H σ fr → fr[i]? = some (.d (encF x)) → ED K (tOp (rIxT K) (tVar i) (tC (.int 0))) σ H (.int x.1) := fun F h => e_op (e_var F h) e_int (r_ixT (by rfl))
  have x2 : ∀ {H : Hp} {σ : L2.St} {fr : List FV} {i : Nat}, Fd K H σ fr → fr[i]? = some (.d (encF x)) → ED K (tOp (rIxT K) (tVar i) (tC (.int 1))) σ H (.int x.2) := fun F h => e_op (e_var F h) e_int (r_ixT (by rfl))
  have y1 : ∀ {H : Hp} {σ : L2.St} {fr : List FV} {i : Nat}, Fd K H σ fr → fr[i]? = some (.d (encF y)) → ED K (tOp (rIxT K) (tVar i) (tC (.int 0))) σ H (.int y.1) := fun F h => e_op (e_var F h) e_int (r_ixT (by rfl))
  have y2 : ∀ {H : Hp} {σ : L2.St} {fr : List FV} {i : Nat}, Fd K H σ fr → fr[i]? = some (.d (encF y)) → ED K (tOp (rIxT K) (tVar i) (tC (.int 1))) σ H (.int y.2) := fun F h => e_op (e_var F h) e_int (r_ixT (by rfl))
  have px := ox.pos
  have py := oy.pos
  have dx := ox.den
  have dy := oy.den
  have two : B64 (2 : Int) := by unfold B64; omega
  have bpos : 0 < 2 * x.2 * y.2 := Int.mul_pos (Int.mul_pos (by decide) px) py
  have bhi : 2 * x.2 * y.2 ≤ 8192 := by
    have h1 : 2 * x.2 * y.2 ≤ 2 * x.2 * 64 := Int.mul_le_mul_of_nonneg_left dy (by omega)
    omega
  have by2 : B64 y.2 := by unfold B64; omega
  refine q_par (d := .int (x.1 * y.2 + y.1 * x.2)) (e := .int (2 * x.2 * y.2)) F0 (e_cons (e_op (e_op (x1 F0 rfl) (y2 F0 rfl) (r_I (cmul_l bx) fun H => .int _)) (e_op (y1 F0 rfl) (x2 F0 rfl) (r_I (cmul_l by_) fun H => .int _)) (r_I0 fun H => .int _))
    (e_cons (e_op (e_op e_int (x2 F0 rfl) (r_I (cmul_l two) fun H => .int _)) (y2 F0 rfl) (r_I (cmul_r by2) fun H => .int _)) e_nil)) fun σ1 H1 e1 F1 => ?_
  generalize hT : x.1 * y.2 + y.1 * x.2 = tp at *
  generalize hB : 2 * x.2 * y.2 = bt at *
  have hw : halfway x y = (tp / ((Int.gcd tp bt : Nat) : Int), bt / ((Int.gcd tp bt : Nat) : Int)) := by rw [← hT, ← hB] <;> rfl
  refine q_par (d := .int (if tp < 0 then -tp else tp)) (e := .int bt) F1 (e_cons (e_cb (e_cons (e_var F1 rfl) e_nil) c_abs) (e_cons (e_var F1 rfl) e_nil)) fun σ2 H2 e2 F2 => ?_
  have gp : 0 < Int.gcd tp bt := Int.gcd_pos_of_ne_zero_right _ (by omega)
  refine q_while (fun (p : Int × Int) => [.d (encF x), .d (encF y), .d (.int tp), .d (.int bt), .d (.int p.1), .d (.int p.2)]) (fun p => 0 ≤ p.1 ∧ 0 ≤ p.2 ∧ ((Int.gcd p.1 p.2 : Nat) : Int) = ((Int.gcd tp bt : Nat) : Int)) (fun p => decide (0 < p.2)) (fun p => p.2.toNat) (if tp < 0 then -tp else tp, bt) F2 ⟨by show 0 ≤ (if tp < 0 then -tp else tp); split <;> omega, by show 0 ≤ bt; omega, ?_⟩ (fun p σ' H' e i F' => ?_) (fun p σ' H' D' e i hc F' kk => ?_) (fun p σ' H' e i hc F' => ?_)
  · show ((Nat.gcd (if tp < 0 then -tp else tp).natAbs bt.natAbs : Nat) : Int) = ((Nat.gcd tp.natAbs bt.natAbs : Nat) : Int)
    have : (if tp < 0 then -tp else tp).natAbs = tp.natAbs := by split <;> omega
    rw [this]
  · exact e_test (e_op (e_var F' rfl) e_int (r_I0 fun H => .bl _))
  · obtain ⟨i1, i2, i3⟩ := i
    have hp : 0 < p.2 := of_decide_eq_true hc
    have hm := Int.emod_nonneg p.1 (show p.2 ≠ 0 by omega)
    have hl := Int.emod_lt_of_pos p.1 hp
    refine s_par (d := .int p.2) (e := .int (p.1 % p.2)) F' (e_cons (e_var F' rfl) (e_cons (e_op (e_var F' rfl) (e_var F' rfl) (r_I hp fun H => .int _)) e_nil)) fun σ'' H'' e'' F'' => ?_
    exact kk (p.2, p.1 % p.2) σ'' H'' (e.trans e'') ⟨by show 0 ≤ p.2; omega, hm, gcd_step i1 hp i3⟩ (by show (p.1 % p.2).toNat < p.2.toNat; omega) F''
  · obtain ⟨i1, i2, i3⟩ := i
    have hp : ¬ 0 < p.2 := of_decide_eq_false hc
    have h0 : p.2 = 0 := by omega
    have ha : p.1 = ((Int.gcd tp bt : Nat) : Int) := by
      rw [← i3, h0, Int.gcd_zero]
      omega
    have hle : ((Int.gcd tp bt : Nat) : Int) ≤ 8192 := by
      have := Int.le_of_dvd bpos (Int.gcd_dvd_right tp bt)
      omega
    have cd : CDiv tp p.1 := ⟨by omega, by omega⟩
    have cd2 : CDiv bt p.1 := ⟨by omega, by omega⟩
    refine s_ret ((e_tup (e_cons (e_op (e_var F' rfl) (e_var F' rfl) (r_I cd fun H => .int _)) (e_cons (e_op (e_var F' rfl) (e_var F' rfl) (r_I cd2 fun H => .int _)) e_nil)) (by show 2 ≤ 100000; omega)).is ?_) fun v H3 e3 d3 => k v H3 (((e1.trans e2).trans e).trans e3) d3
    rw [hw, ha] <;> rfl

/-! ### Closer -/
def fC (h j t : PyData) (ns : List Fr) : List (Str × FV) := [("own", .d h), ("said", .d j), ("told", .d t), ("numbers", .d (.tuple (ns.map encF)))]
def RHearC (fds : List (Str × FV)) (ds : List PyData) (fds' : List (Str × FV)) : Prop := ∃ (own : Nat) (j t : PyData) (ns : List Fr) (seen : List Val), fds = fC (.int (own : Int)) j t ns ∧ ds = [encSt seen] ∧ ns ≠ [] ∧ ns.length ≤ 6 ∧ (∀ i x, ns[i]? = some x → OkF i x) ∧
  seen.length ≤ 100 ∧ (∀ v ∈ seen, PCl v) ∧ fds' = fC (.int (own : Int)) j t (hearCl own ns seen)
theorem scCloserH : FnScope ["self", "seen", "many", "lowest", "highest", "value"] ["self", "seen"] (defScope sCloser_hear) := ⟨rfl, rfl, rfl, by decide +kernel, rfl, by decide +kernel, by decide +kernel⟩
theorem PCl.enc {v : Val} (h : PCl v) (hz : v.isZ = false) : v.enc = .tuple (v.fr.map encF) := by
  rcases h.1 with rfl | ⟨xs, rfl⟩
  · simp [Val.isZ] at hz
  · rfl
theorem ok_closerH (T : Tx K mg) : Ok P w K mg base 2 (He.ma K (He.ga K "Closer") "hear") ["self", "seen"] (spX K (He.ga K "Closer") RHearC) := by
  obtain ⟨fd, F⟩ := T.f_Closer_hear
  obtain ⟨fdo, Fo⟩ := T.f_Closer_others
  have J := T.jCloser
  have O_others : Ok P w K mg base 1 (He.ma K (He.ga K "Closer") "others") ["self", "seen"] (spM K (He.ga K "Closer") ROthers) := ok_others Fo J T
  have O_less : Ok P w K mg base 1 (He.ga K "less") ["one", "other"] (spD K RLess) := ok_less T
  have O_halfway : Ok P w K mg base 1 (He.ga K "halfway") ["one", "other"] (spD K RHalf) := ok_halfway T
  refine ⟨fd, F.ok scCloserH (fun vs H Q E h => spX_len (n := 1) (fun fds ds d ⟨_, _, _, _, _, _, e, _⟩ => by rw [e] <;> rfl) h) (fun cdv A outer s H vs Q E hr h => ?_), F.binds (fun _ _ _ _ _ _ us hl => match us, hl with | [_, _], _ => rfl), F.kp⟩
  obtain ⟨p, ws, ds, fds, fds', rfl, O, hd, ⟨own, jd, t, ns, seen, rfl, rfl, hne, h6, hok, hl, hP, rfl⟩, k⟩ := h
  refine ⟨_, (pss_cons (ps_set (i := 2) scCloserH.nd rfl (Or.inl rfl) (pe_callB call_len_seq (by rfl) T.b_len (by decide +kernel) (pa_cons (pe_fld (pv 0) rfl) pa_nil)))
      (pss_cons (ps_par (i := 3) (j := 4) (by rfl) scCloserH.nd rfl rfl (by decide) rfl rfl (pa_cons (pe_ix ix_tup (pe_fld (pv 0) rfl) (pe_un un_neg pe_int) (fun _ _ => rfl)) (pa_cons (pe_ix ix_tup (pe_fld (pv 0) rfl) (pe_un un_neg pe_int) (fun _ _ => rfl)) pa_nil)) (by rfl))
      (pss_cons (ps_for PassesOwn.never rfl (pi_list (pe_okm O_others (hr.mono (by decide)) T.c_Closer T.m_Closer_others (pv 0) (pa_cons (pv 1) pa_nil))) (pg_name (i := 5) scCloserH.nd rfl (Or.inl rfl)) (pss_one (ps_if (pt_cmpR op_ge (pe_callB call_len_seq (by rfl) T.b_len (by decide +kernel) (pa_cons (pv 5) pa_nil)) (pv 2) (nomark _)) (pss_cons (ps_if (pt_val (pe_ok O_less (hr.mono (by decide)) T.g_less (pa_cons (pe_ix ix_tup (pv 5) (pe_op op_sub (pv 2) pe_int) (fun _ _ => rfl)) (pa_cons (pv 3) pa_nil)))) (pss_one (ps_set (i := 3) scCloserH.nd rfl (Or.inl rfl) (pe_ix ix_tup (pv 5) (pe_op op_sub (pv 2) pe_int) (fun _ _ => rfl)))) pss_nil)
      (pss_one (ps_if (pt_val (pe_ok O_less (hr.mono (by decide)) T.g_less (pa_cons (pv 4) (pa_cons (pe_ix ix_tup (pv 5) (pe_op op_sub (pv 2) pe_int) (fun _ _ => rfl)) pa_nil)))) (pss_one (ps_set (i := 4) scCloserH.nd rfl (Or.inl rfl) (pe_ix ix_tup (pv 5) (pe_op op_sub (pv 2) pe_int) (fun _ _ => rfl)))) pss_nil))) pss_nil)))
      (pss_one (ps_fld (pv 0) (pe_op op_catA (pe_fld (pv 0) rfl) (pe_tup (pa_cons (pe_ok O_halfway (hr.mono (by decide)) T.g_halfway (pa_cons (pv 3) (pa_cons (pv 4) pa_nil))) pa_nil))) rfl))))), ?_⟩
  have F0 : Fd K H (L2.start ["self", "seen", "many", "lowest", "highest", "value"] (.ref p :: ws)) [.v (.ref p), .d (encSt seen), .un, .un, .un, .un] := fd_self hd
  obtain ⟨j, hj⟩ : ∃ j, ns.length = j + 1 := ⟨ns.length - 1, by have := List.length_pos_iff.mpr hne; omega⟩
  obtain ⟨z, hz⟩ : ∃ z, ns[j]? = some z := ⟨_, List.getElem?_eq_getElem (by omega)⟩
  have hgl : ns.getLast? = some z := by rw [List.getLast?_eq_getElem?, hj, Nat.add_sub_cancel, hz]
  have oz := hok j z hz
  have numsE : ∀ {H1 : Hp} {σ : L2.St} {fr : List FV}, Ob K H1 p (He.ga K "Closer") (fC (.int (own : Int)) jd t ns) → Fd K H1 σ fr → fr[0]? = some (.v (.ref p)) → ED K (tFld K (tVar 0) "numbers") σ H1 (.tuple (ns.map encF)) := fun O F h => e_fld O (e_varV F h) J.cls T.n_Closer_numbers (by rfl)
  have lastE : ∀ {H1 : Hp} {σ : L2.St} {fr : List FV}, Ob K H1 p (He.ga K "Closer") (fC (.int (own : Int)) jd t ns) → Fd K H1 σ fr → fr[0]? = some (.v (.ref p)) → ED K (tOp (rIxT K) (tFld K (tVar 0) "numbers") (tUn (rU fun i => .int (-i)) (tC (.int 1)))) σ H1 (encF z) := fun O F h => e_op (numsE O F h) (e_un e_int) (r_ixT (at_last hgl))
  refine q_asg F0 (e_cb (e_cons (numsE O F0 rfl) e_nil) c_lenT) fun σ1 H1 e1 F1 => ?_
  have O1 := O.same e1
  have ml : ((ns.map encF).length : Int) = ((j + 1 : Nat) : Int) := by rw [List.length_map, hj]
  rw [ml] at F1
  refine q_par F1 (e_cons (lastE O1 F1 rfl) (e_cons (lastE O1 F1 rfl) e_nil)) fun σ2 H2 e2 F2 => ?_
  have O2 := O1.same e2
  have hPo : ∀ v ∈ others own seen, PCl v ∧ v.enc = .tuple (v.fr.map encF) := fun v hv => by
    obtain ⟨i, _, q1, q2⟩ := mem_others.mp hv
    have := hP v (List.mem_of_getElem? q1)
    exact ⟨this, this.enc q2⟩
  let st := fun i => ((others own seen).take i).foldl (ext1 (j + 1)) (z, z)
  have stok : ∀ i, OkF j (st i).1 ∧ OkF j (st i).2 := fun i => by
    obtain ⟨i1, i2, _⟩ := ext_spec (j := j) ((others own seen).take i) (z, z) (fun v hv => (hPo v (List.mem_of_mem_take hv)).1.2.2) oz oz (Int.le_refl _)
    exact ⟨i1, i2⟩
  refine q_forL (e_meth (e_varV F2 rfl) O2 (e_cons (e_var F2 rfl) e_nil) (z := .list ((others own seen).map Val.enc)) ⟨own, seen, rfl, rfl, hl, rfl⟩ (by rfl))
    (fun Hb i σ' H' => Same Hb H' ∧ Fd K H' σ' [.v (.ref p), .d (encSt seen), .d (.int ((j + 1 : Nat) : Int)), .d (encF (st i).1), .d (encF (st i).2), .un])
    (fun Hb e => ⟨Same.refl _, F2.same e⟩) (fun Hb i σ' H' q => kd_of q.1) (fun Hb i e x σ' H' eb he dx q => ?_) (fun Hb σ' H' eb q => ?_)
  · obtain ⟨q1, q2⟩ := q
    rw [List.getElem?_map] at he
    obtain ⟨v, hv, rfl⟩ := Option.map_eq_some_iff.mp he
    obtain ⟨pv', ev⟩ := hPo v (List.mem_of_getElem? hv)
    rw [ev] at dx
    have F3 : Fd K H' (σ'.set 5 (some x)) [.v (.ref p), .d (encSt seen), .d (.int ((j + 1 : Nat) : Int)), .d (encF (st i).1), .d (encF (st i).2), .d (.tuple (v.fr.map encF))] := q2.set 5 (fvd dx)
    have es : st (i + 1) = ext1 (j + 1) (st i) v := by
      show ((others own seen).take (i + 1)).foldl _ _ = _
      rw [List.take_add_one, hv, List.foldl_append]
      rfl
    have out : ∀ {H4 : Hp} {σ4 : L2.St} {s : Fr × Fr}, Same H' H4 → s = st (i + 1) → Fd K H4 σ4 [.v (.ref p), .d (encSt seen), .d (.int ((j + 1 : Nat) : Int)), .d (encF s.1), .d (encF s.2), .d (.tuple (v.fr.map encF))] →
        Same Hb H4 ∧ Fd K H4 σ4 [.v (.ref p), .d (encSt seen), .d (.int ((j + 1 : Nat) : Int)), .d (encF (st (i + 1)).1), .d (encF (st (i + 1)).2), .un] := fun {H4 σ4 s} e4 es F4 => by
      subst es
      refine ⟨q1.trans e4, ?_⟩
      obtain ⟨v5, h5, _⟩ := F4.d (i := 5) rfl
      have z2 : Fd K H4 (σ4.set 5 (some v5)) [.v (.ref p), .d (encSt seen), .d (.int ((j + 1 : Nat) : Int)), .d (encF (st (i + 1)).1), .d (encF (st (i + 1)).2), .un] := F4.set 5 (f := .un) (v := v5) True.intro
      have e6 : σ4.set 5 (some v5) = σ4 := by
        apply List.ext_getElem?
        intro m
        rw [List.getElem?_set]
        split
        · rename_i hm
          subst hm
          split
          · exact h5.symm
          · rename_i hn
            rw [List.getElem?_eq_some_iff] at h5
            exact absurd h5.1 hn
        · rfl
      rw [e6] at z2
      exact z2
    have nl : ((v.fr.map encF).length : Int) = (v.fr.length : Int) := by rw [List.length_map]
    have E1 : ED K (tOp (rI0 fun i j => V.bl (decide (j ≤ i))) (tCB _ (tCons (tVar 5) tNil)) (tVar 2)) (σ'.set 5 (some x)) H' (.bool (decide (((j + 1 : Nat) : Int) ≤ (v.fr.length : Int)))) :=
      e_op (e_cb (e_cons (e_var F3 rfl) e_nil) c_lenT) (e_var F3 rfl) (r_I0 fun H => by rw [nl]; exact .bl _)
    by_cases hlen : j + 1 ≤ v.fr.length
    · refine s_ifT F3 ((e_test E1).is (decide_eq_true (by omega))) fun H4 e4 F4 => ?_
      obtain ⟨u, hu⟩ : ∃ u, v.fr[j]? = some u := ⟨_, List.getElem?_eq_getElem (by omega)⟩
      have ou := pv'.2.2 j u hu
      have ee : ext1 (j + 1) (st i) v = (if lessF u (st i).1 then u else (st i).1, if lessF (st i).2 u then u else (st i).2) := by
        unfold ext1
        rw [if_pos hlen]
        have : v.fr.getD (j + 1 - 1) (0, 1) = u := by rw [List.getD_eq_getElem?_getD, Nat.add_sub_cancel, hu] <;> rfl
        simp only [this]
      have item : ∀ {H5 : Hp} {σ5 : L2.St} {fr : List FV}, Fd K H5 σ5 fr → fr[5]? = some (.d (.tuple (v.fr.map encF))) → fr[2]? = some (.d (.int ((j + 1 : Nat) : Int))) → ED K (tOp (rIxT K) (tVar 5) (tOp (rI0 fun i j => .int (i - j)) (tVar 2) (tC (.int 1)))) σ5 H5 (encF u) := fun {H5 σ5 fr} F h1 h2 =>
        e_op (e_var F h1) ((e_op (e_var F h2) e_int (r_I0 (z := .int (((j + 1 : Nat) : Int) - 1)) fun H => .int _)).is (x := .int (j : Int)) (by congr 1; omega)) (r_ixT (atI_nat (by rw [List.getElem?_map, hu] <;> rfl)))
      have C1 : ∀ {H5 : Hp} {σ5 : L2.St}, Fd K H5 σ5 [.v (.ref p), .d (encSt seen), .d (.int ((j + 1 : Nat) : Int)), .d (encF (st i).1), .d (encF (st i).2), .d (.tuple (v.fr.map encF))] → ED K (tCall (spD K RLess) [] E0 (tCons (tOp (rIxT K) (tVar 5) (tOp (rI0 fun i j => .int (i - j)) (tVar 2) (tC (.int 1)))) (tCons (tVar 3) tNil))) σ5 H5 (.bool (lessF u (st i).1)) := fun F =>
        e_call (e_cons (item F rfl rfl) (e_cons (e_var F rfl) e_nil)) ⟨u, (st i).1, rfl, ou.b64, (stok i).1.b64, rfl⟩
      have rest : ∀ (lo : Fr) {H5 : Hp} {σ5 : L2.St} {D' : Ends}, Same H' H5 → Fd K H5 σ5 [.v (.ref p), .d (encSt seen), .d (.int ((j + 1 : Nat) : Int)), .d (encF lo), .d (encF (st i).2), .d (.tuple (v.fr.map encF))] →
          (∀ H6 σ6, Same H' H6 → Fd K H6 σ6 [.v (.ref p), .d (encSt seen), .d (.int ((j + 1 : Nat) : Int)), .d (encF lo), .d (encF (if lessF (st i).2 u then u else (st i).2)), .d (.tuple (v.fr.map encF))] → D'.nx σ6 H6) →
          tIfS (tB (tCall (spD K RLess) [] E0 (tCons (tVar 4) (tCons (tOp (rIxT K) (tVar 5) (tOp (rI0 fun i j => .int (i - j)) (tVar 2) (tC (.int 1)))) tNil)))) (tAsg (tOp (rIxT K) (tVar 5) (tOp (rI0 fun i j => .int (i - j)) (tVar 2) (tC (.int 1)))) (gName 4)) tNext D' σ5 H5 := fun lo {H5 σ5 D'} e5 F5 kk => by
        have C2 : ED K (tCall (spD K RLess) [] E0 (tCons (tVar 4) (tCons (tOp (rIxT K) (tVar 5) (tOp (rI0 fun i j => .int (i - j)) (tVar 2) (tC (.int 1)))) tNil))) σ5 H5 (.bool (lessF (st i).2 u)) :=
          e_call (e_cons (e_var F5 rfl) (e_cons (item F5 rfl rfl) e_nil)) ⟨(st i).2, u, rfl, (stok i).2.b64, ou.b64, rfl⟩
        by_cases c2 : lessF (st i).2 u = true
        · refine s_ifT F5 ((e_tB C2).is c2) fun H6 e6 F6 => s_asg F6 (item F6 rfl rfl) fun σ7 H7 e7 F7 => kk H7 σ7 ((e5.trans e6).trans e7) ?_
          rw [if_pos c2]
          exact F7
        · refine s_ifF F5 ((e_tB C2).is (by simpa using c2)) fun H6 e6 F6 => kk H6 σ5 (e5.trans e6) ?_
          rw [if_neg c2]
          exact F6
      by_cases c1 : lessF u (st i).1 = true
      · refine q_ifT F4 ((e_tB (C1 F4)).is c1) fun H5 e5 F5 => s_asg F5 (item F5 rfl rfl) fun σ6 H6 e6 F6 => ?_
        refine rest u ((e4.trans e5).trans e6) F6 fun H7 σ7 e7 F7 => out (s := (u, if lessF (st i).2 u then u else (st i).2)) e7 ?_ F7
        rw [es, ee, if_pos c1]
      · refine q_ifN F4 ((e_tB (C1 F4)).is (by simpa using c1)) fun H5 e5 F5 => ?_
        refine rest (st i).1 (e4.trans e5) F5 fun H7 σ7 e7 F7 => out (s := ((st i).1, if lessF (st i).2 u then u else (st i).2)) e7 ?_ F7
        rw [es, ee, if_neg c1]
    · refine s_ifF F3 ((e_test E1).is (decide_eq_false (by omega))) fun H4 e4 F4 => out e4 ?_ F4
      rw [es]
      unfold ext1
      rw [if_neg hlen]
  · obtain ⟨q1, q2⟩ := q
    have O5 := O2.same (eb.trans q1)
    have e9 : st ((others own seen).map Val.enc).length = extremes ns.length (ns.getLast?.getD (0, 1)) (others own seen) := by
      show ((others own seen).take _).foldl _ _ = _
      rw [List.length_map, List.take_of_length_le (Nat.le_refl _), hgl, hj]
      rfl
    obtain ⟨s1, s2⟩ := stok ((others own seen).map Val.enc).length
    have h2 : hearCl own ns seen = ns ++ [halfway (st ((others own seen).map Val.enc).length).1 (st ((others own seen).map Val.enc).length).2] := by
      rw [e9] <;> rfl
    refine s_fld q2 O5 (e_varV q2 rfl) (e_op (numsE O5 q2 rfl) (e_tup (e_cons (e_call (e_cons (e_var q2 rfl) (e_cons (e_var q2 rfl) e_nil)) ⟨j, _, _, rfl, s1, s2, by omega, rfl⟩) e_nil) (by show 1 ≤ 100000; omega)) (r_catT (by rw [List.length_map]; show ns.length + 1 ≤ 100000; omega))) J.cls T.n_Closer_numbers (by show 4 < 1000; decide) fun H6 k6 O6 F6 => ?_
    refine k H6 ((kx_of (((e1.trans e2).trans eb).trans q1)).trans k6) ?_
    rw [h2]
    unfold fC
    rw [List.map_append]
    exact O6
end
end My
/-! Closer's other methods; at_job, next_deed, answer_of -/
namespace My
open PySem PySem.Spec PyProof.Rows L2
section
variable {P : Program} {w : World} {K : PySem.W.Frag} {mg : Str → Option Value} {base : Heap}

def RInitC (ds : List PyData) (fds : List (Str × FV)) : Prop := ∃ (own n r : Nat) (m : Int) (told : Tld), ds = [.int (own : Int), Job.enc (.closer m r), encT told] ∧ n ≤ 100 ∧ told.length ≤ 12 ∧ Bd m ∧ TOk PCl n told ∧
  fds = fC (.int (own : Int)) (Job.enc (.closer m r)) (encT told) (clSt own m told)
theorem scCloserI : FnScope ["self", "hand", "said", "told", "seen"] ["self", "hand", "said", "told"] (defScope sCloser_init) := ⟨rfl, rfl, rfl, by decide +kernel, rfl, by decide +kernel, by decide +kernel⟩
theorem ok_closerI (T : Tx K mg) : Ok P w K mg base 3 (He.ma K (He.ga K "Closer") "__init__") ["self", "hand", "said", "told"] (spI K (He.ga K "Closer") RInitC) := by
  obtain ⟨fd, F⟩ := T.f_Closer_init
  obtain ⟨fdj, Fj⟩ := T.f_Job_init
  have J := T.jCloser
  have O_hear : Ok P w K mg base 2 (He.ma K (He.ga K "Closer") "hear") ["self", "seen"] (spX K (He.ga K "Closer") RHearC) := ok_closerH T
  have O_Job_init : Ok P w K mg base 1 (He.ma K (He.ga K "Job") "__init__") ["self", "hand", "said", "told"] (spI K (He.ga K "Closer") RInit) := ok_jobI Fj J
  refine ⟨fd, F.ok scCloserI (fun vs H Q E h => spI_len (n := 3) (fun ds fds ⟨_, _, _, _, _, e, _⟩ => by rw [e] <;> rfl) h) (fun cdv A outer s H vs Q E hr h => ?_), F.binds (fun _ _ _ _ _ _ us hl => match us, hl with | [_, _, _, _], _ => rfl), F.kp⟩
  obtain ⟨p, ws, ds, fds, rfl, O, hd, ⟨own, n, r, m, told, rfl, hn, hl, hb, hT, rfl⟩, k⟩ := h
  refine ⟨_, (pss_cons (ps_expr (pe_clsm O_Job_init (hr.mono (by decide)) T.job T.g_Job (pa_cons (pv 0) (pa_cons (pv 1) (pa_cons (pv 2) (pa_cons (pv 3) pa_nil))))))
      (pss_cons (ps_fld (pv 0) (pe_tup (pa_cons (pe_tup (pa_cons (pe_ix ix_tup (pv 2) pe_int (fun _ _ => rfl)) (pa_cons pe_int pa_nil))) pa_nil)) rfl)
      (pss_one (ps_for PassesOwn.never rfl (pi_tup (pe_odd (pv 3))) (pg_name (i := 4) scCloserI.nd rfl (Or.inl rfl)) (pss_one (ps_expr (pe_okm O_hear (hr.mono (by decide)) T.c_Closer T.m_Closer_hear (pv 0) (pa_cons (pv 4) pa_nil)))))))), ?_⟩
  have F0 : Fd K H (L2.start ["self", "hand", "said", "told", "seen"] (.ref p :: ws)) [.v (.ref p), .d (.int (own : Int)), .d (Job.enc (.closer m r)), .d (encT told), .un] := fd_self hd
  refine q_initX F0 (e_varV F0 rfl) O (e_cons (e_var F0 rfl) (e_cons (e_var F0 rfl) (e_cons (e_var F0 rfl) e_nil))) ⟨_, _, _, rfl, rfl⟩ fun H1 k1 O1 F1 => ?_
  refine q_fld (d := .tuple [encF (m, 1)]) F1 O1 (e_varV F1 rfl) (e_tup (e_cons (e_tup (e_cons (e_op (e_var F1 rfl) e_int (r_ixT (z := .int m) (by rfl))) (e_cons e_int e_nil)) (by show 2 ≤ 100000; omega)) e_nil) (by show 1 ≤ 100000; omega)) J.cls T.n_Closer_numbers (by show 3 < 1000; decide) fun H3 k3 O3 F3 => ?_
  have k03 := k1.trans k3
  let st := fun i => ((odds told).take i).foldl (fun s (e : Ent) => hearCl own s (e.getD [])) [(m, 1)]
  have hodds : ∀ e ∈ odds told, ∃ st, e = some st ∧ st.length = n ∧ ∀ v ∈ st, PCl v := fun e he => by
    obtain ⟨s, rfl⟩ := hT.odd e he
    obtain ⟨h1, h2⟩ := hT.all _ (odds_mem he) s rfl
    exact ⟨s, rfl, h1, h2⟩
  have hol : (odds told).length ≤ 6 := by rw [odds_length]; omega
  have sts : ∀ i, i ≤ (odds told).length → (st i).length = 1 + i ∧ ∀ j x, (st i)[j]? = some x → OkF j x := fun i hi => by
    obtain ⟨h1, h2⟩ := clFold_ok (own := own) ((odds told).take i) [(m, 1)] (by simp) (fun i x hx => by
      cases i with
      | zero =>
        have : (m, 1) = x := by simpa using hx
        subst this
        exact (okF_whole hb.2 hb.1).1
      | succ i => simp at hx) (fun e he => by
        obtain ⟨s, e1, e2, e3⟩ := hodds e (List.mem_of_mem_take he)
        exact ⟨s, e1, fun v hv => (e3 v hv).2.2⟩) (by rw [List.length_take]; simp; omega)
    refine ⟨?_, h2⟩
    rw [h1, List.length_take]
    simp
    omega
  refine s_forT (e_odd (e_var (x := encT told) F3 rfl)) (fun Hb i σ' H' => Kx p Hb H' ∧ Kd Hb H' ∧ Ob K H' p (He.ga K "Closer") (fC (.int (own : Int)) (Job.enc (.closer m r)) (encT told) (st i)) ∧ Fd K H' σ' [.v (.ref p), .d (.int (own : Int)), .d (Job.enc (.closer m r)), .d (encT told), .un])
    (fun Hb e => ⟨Kx.refl _ _, Kd.refl _, O3.same e, F3.same e⟩) (fun Hb i σ' H' q => q.2.1) (fun Hb i e x σ' H' eb he dx q => ?_) (fun Hb σ' H' eb q => ?_)
  · obtain ⟨q1, q2, q3, q4⟩ := q
    rw [odds_map, List.getElem?_map] at he
    obtain ⟨en, hen, rfl⟩ := Option.map_eq_some_iff.mp he
    have hil := (List.getElem?_eq_some_iff.mp hen).1
    obtain ⟨seen, rfl, hs1, hs2⟩ := hodds en (List.mem_of_getElem? hen)
    have F5 : Fd K H' (σ'.set 4 (some x)) [.v (.ref p), .d (.int (own : Int)), .d (Job.enc (.closer m r)), .d (encT told), .d (encSt seen)] := q4.set 4 (fvd dx)
    obtain ⟨sl, sk⟩ := sts i (by omega)
    refine s_methX F5 (e_varV F5 rfl) q3 (e_cons (e_var F5 rfl) e_nil) ⟨own, Job.enc (.closer m r), encT told, st i, seen, rfl, rfl, (by intro z; rw [z] at sl; simp at sl; omega), by omega, sk, by omega, hs2, rfl⟩ (by rfl) fun H6 k6 O6 F6 => ?_
    have es : st (i + 1) = hearCl own (st i) seen := by
      show ((odds told).take (i + 1)).foldl _ _ = _
      rw [List.take_add_one, hen, List.foldl_append]
      rfl
    refine ⟨q1.trans k6, q2.trans (q3.kd k6), ?_, ?_⟩
    · rw [es]
      exact O6
    · have z2 : Fd K H6 ((σ'.set 4 (some x)).set 4 (some x)) [.v (.ref p), .d (.int (own : Int)), .d (Job.enc (.closer m r)), .d (encT told), .un] := F6.set 4 (f := .un) (v := x) True.intro
      rw [List.set_set] at z2
      exact z2
  · obtain ⟨q1, q2, q3, q4⟩ := q
    refine k H' ((k03.trans (kx_of eb)).trans q1) ?_
    have es : st (oddsV (told.map encE)).length = clSt own m told := by
      rw [odds_map, List.length_map]
      show ((odds told).take _).foldl _ _ = _
      rw [List.take_of_length_le (Nat.le_refl _)]
      rfl
    rw [es] at q3
    exact q3

def RDeedC (fds : List (Str × FV)) (ds : List PyData) (d : PyData) : Prop := ∃ (own r : Nat) (m : Int) (told : Tld), fds = fC (.int (own : Int)) (Job.enc (.closer m r)) (encT told) (clSt own m told) ∧ ds = [] ∧ d = (nextDeed own (.closer m r) told).enc own
theorem scCloserD : FnScope ["self"] ["self"] (defScope sCloser_deed) := ⟨rfl, rfl, rfl, by decide +kernel, rfl, by decide +kernel, by decide +kernel⟩
theorem ok_closerD (T : Tx K mg) : Ok P w K mg base 1 (He.ma K (He.ga K "Closer") "deed") ["self"] (spM K (He.ga K "Closer") RDeedC) := by
  obtain ⟨fd, F⟩ := T.f_Closer_deed
  have J := T.jCloser
  refine ⟨fd, F.ok scCloserD (fun vs H Q E h => spM_len (n := 0) (fun fds ds d ⟨_, _, _, _, _, e, _⟩ => by rw [e] <;> rfl) h) (fun cdv A outer s H vs Q E hr h => ?_), F.binds (fun _ _ _ _ _ _ us hl => match us, hl with | [_], _ => rfl), F.kp⟩
  obtain ⟨p, ws, ds, fds, d, rfl, O, hd, ⟨own, r, m, told, rfl, rfl, rfl⟩, k⟩ := h
  refine ⟨_, (pss_cons (ps_if (pt_cmpR op_eq (pe_op op_mod (pe_callB call_len_seq (by rfl) T.b_len (by decide +kernel) (pa_cons (pe_fld (pv 0) rfl) pa_nil)) pe_int) pe_int (nomark _)) (pss_one (ps_ret (pe_glob (v := .ref (He.ga K "LOOK")) (by rfl) T.g_LOOK rfl))) pss_nil)
      (pss_cons (ps_if (pt_cmpR op_gt (pe_callB call_len_seq (by rfl) T.b_len (by decide +kernel) (pa_cons (pe_fld (pv 0) rfl) pa_nil)) (pe_ix ix_tup (pe_fld (pv 0) rfl) pe_int (fun _ _ => rfl)) (nomark _)) (pss_one (ps_ret pe_non)) pss_nil)
      (pss_one (ps_ret (pe_tup (pa_cons pe_str (pa_cons (pe_fld (pv 0) rfl) (pa_cons (pe_fld (pv 0) rfl) pa_nil)))))))), ?_⟩
  have F0 : Fd K H (L2.start ["self"] (.ref p :: ws)) [.v (.ref p)] := fd_self hd
  have tl : ((told.map encE).length : Int) = (told.length : Int) := by rw [List.length_map]
  have E1 : ED K (tOp rEq (tOp (rI (fun _ j => 0 < j) fun i j => .int (i % j)) (tCB _ (tCons (tFld K (tVar 0) "told") tNil)) (tC (V.int 2))) (tC (V.int 1))) _ H (.bool (decide ((told.length : Int) % 2 = 1))) :=
    (e_op (e_op (e_cb (e_cons (e_fld (x := encT told) O (e_varV F0 rfl) J.cls J.told (by rfl)) e_nil) c_lenT) e_int (r_I (by decide) fun H => .int _)) e_int r_eqI).is (by rw [tl])
  by_cases hs : told.length % 2 = 1
  · refine q_ifT F0 ((e_test E1).is (decide_eq_true (by omega))) fun H1 e1 F1 => s_ret (e_look T) fun v H2 e2 d2 => k v H2 (e1.trans e2) ?_
    rw [nd_closer, if_pos hs]
    exact d2
  · refine q_ifN F0 ((e_test E1).is (decide_eq_false (by omega))) fun H1 e1 F1 => ?_
    have O1 := O.same e1
    have nl : (((clSt own m told).map encF).length : Int) = ((clSt own m told).length : Int) := by rw [List.length_map]
    have E2 : ED K (tOp (rI0 fun i j => V.bl (decide (j < i))) (tCB _ (tCons (tFld K (tVar 0) "numbers") tNil)) (tOp (rIxT K) (tFld K (tVar 0) "said") (tC (V.int 2)))) _ H1 (.bool (decide ((r : Int) < ((clSt own m told).length : Int)))) :=
      e_op (e_cb (e_cons (e_fld (x := .tuple ((clSt own m told).map encF)) O1 (e_varV F1 rfl) J.cls T.n_Closer_numbers (by rfl)) e_nil) c_lenT) (e_op (e_fld (x := Job.enc (.closer m r)) O1 (e_varV F1 rfl) J.cls J.said (by rfl)) e_int (r_ixT (by rfl))) (r_I0 fun H => by rw [nl]; exact .bl _)
    by_cases hk : r < (clSt own m told).length
    · refine q_ifT F1 ((e_test E2).is (decide_eq_true (by omega))) fun H2 e2 F2 => s_ret (K := K) e_non fun v H3 e3 d3 => k v H3 ((e1.trans e2).trans e3) ?_
      rw [nd_closer, if_neg hs, if_pos hk]
      exact d3
    · refine q_ifN F1 ((e_test E2).is (decide_eq_false (by omega))) fun H2 e2 F2 => ?_
      have O2 := O1.same e2
      refine s_ret (e_tup (e_cons e_str (e_cons (e_fld (x := .int (own : Int)) O2 (e_varV F2 rfl) J.cls J.own (by rfl)) (e_cons (e_fld (x := .tuple ((clSt own m told).map encF)) O2 (e_varV F2 rfl) J.cls T.n_Closer_numbers (by rfl)) e_nil))) (by show 3 ≤ 100000; omega)) fun v H3 e3 d3 => k v H3 ((e1.trans e2).trans e3) ?_
      rw [nd_closer, if_neg hs, if_neg hk]
      exact d3
def RAnsC (fds : List (Str × FV)) (ds : List PyData) (d : PyData) : Prop := ∃ (h j t : PyData) (ns : List Fr) (x : Fr), fds = fC h j t ns ∧ ds = [] ∧ ns.getLast? = some x ∧ d = encF x
theorem scCloserA : FnScope ["self"] ["self"] (defScope sCloser_answer) := ⟨rfl, rfl, rfl, by decide +kernel, rfl, by decide +kernel, by decide +kernel⟩
theorem ok_closerA (T : Tx K mg) : Ok P w K mg base 1 (He.ma K (He.ga K "Closer") "answer") ["self"] (spM K (He.ga K "Closer") RAnsC) := by
  obtain ⟨fd, F⟩ := T.f_Closer_answer
  have J := T.jCloser
  refine ⟨fd, F.ok scCloserA (fun vs H Q E h => spM_len (n := 0) (fun fds ds d ⟨_, _, _, _, _, _, e, _⟩ => by rw [e] <;> rfl) h) (fun cdv A outer s H vs Q E hr h => ?_), F.binds (fun _ _ _ _ _ _ us hl => match us, hl with | [_], _ => rfl), F.kp⟩
  obtain ⟨p, ws, ds, fds, d, rfl, O, hd, ⟨h, j, t, ns, x, rfl, rfl, hx, rfl⟩, k⟩ := h
  refine ⟨_, (pss_one (ps_ret (pe_ix ix_tup (pe_fld (pv 0) rfl) (pe_un un_neg pe_int) (fun _ _ => rfl)))), ?_⟩
  have F0 : Fd K H (L2.start ["self"] (.ref p :: ws)) [.v (.ref p)] := fd_self hd
  exact s_ret (e_op (e_fld (x := .tuple (ns.map encF)) O (e_varV F0 rfl) J.cls T.n_Closer_numbers (by rfl)) (e_un e_int) (r_ixT (at_last hx))) k

/-! ### a job at work -/
section
variable {X : Cx} {e : Expr} {ta tb tc td : TE} {σ : L2.St} {H : Hp} {x : PyData}
def alt4 (ta tb tc td : TE) : TE := fun σ H Q => ta σ H Q ∨ (tb σ H Q ∨ (tc σ H Q ∨ td σ H Q))
theorem pe_alt4 (h1 : PE X e ta) (h2 : PE X e tb) (h3 : PE X e tc) (h4 : PE X e td) : PE X e (alt4 ta tb tc td) := pe_alt h1 (pe_alt h2 (pe_alt h3 h4))
theorem e_alt1 (h : ED K ta σ H x) : ED K (alt4 ta tb tc td) σ H x := fun H1 e Q q => .inl (h H1 e Q q)
theorem e_alt2 (h : ED K tb σ H x) : ED K (alt4 ta tb tc td) σ H x := fun H1 e Q q => .inr (.inl (h H1 e Q q))
theorem e_alt3 (h : ED K tc σ H x) : ED K (alt4 ta tb tc td) σ H x := fun H1 e Q q => .inr (.inr (.inl (h H1 e Q q)))
theorem e_alt4 (h : ED K td σ H x) : ED K (alt4 ta tb tc td) σ H x := fun H1 e Q q => .inr (.inr (.inr (h H1 e Q q)))
end
def jCls (K : PySem.W.Frag) : Job → Addr
  | .sums _ => He.ga K "Sums"
  | .name _ => He.ga K "Name"
  | .least _ _ => He.ga K "Least"
  | .closer _ _ => He.ga K "Closer"
def jFds (own : Nat) (told : Tld) : Job → List (Str × FV)
  | .sums items => f3 (.int (own : Int)) (Job.enc (.sums items)) (encT told)
  | .name id => f5 (.int (own : Int)) (Job.enc (.name id)) (encT told) (nameSt own id told).1 (nameSt own id told).2
  | .least m wt => f3 (.int (own : Int)) (Job.enc (.least m wt)) (encT told)
  | .closer m r => fC (.int (own : Int)) (Job.enc (.closer m r)) (encT told) (clSt own m told)
def JPre (own : Nat) (job : Job) (told : Tld) : Prop := ∃ n, own < n ∧ n ≤ 100 ∧ told.length ≤ 1000 ∧ Pre n own told job
def spJ (K : PySem.W.Frag) : Sp := fun vs H Q _ => ∃ (own : Nat) (job : Job) (told : Tld), DpAll K H vs [.int (own : Int), Job.enc job, encT told] ∧ JPre own job told ∧ ∀ p H', Same H H' → Ob K H' p (jCls K job) (jFds own told job) → Q (.ref p) H'
theorem e_callJ {σ : L2.St} {H : Hp} {tr : TA} {own : Nat} {job : Job} {told : Tld} (h : EA K tr σ H [.int (own : Int), Job.enc job, encT told]) (hp : JPre own job told) : EO K (tCall (spJ K) [] E0 tr) σ H (jCls K job) (jFds own told job) := fun H1 e Q q =>
  h H1 e _ fun vs H2 e2 d2 => ⟨own, job, told, by rw [List.append_nil]; exact d2, hp, fun p H3 e3 O => q p H3 (e2.trans e3) O⟩
theorem s_retO {σ : L2.St} {H : Hp} {te : TE} {D : Ends} {C : Addr} {fds : List (Str × FV)} (h : EO K te σ H C fds) (k : ∀ p H1, Same H H1 → Ob K H1 p C fds → D.rt (.ref p) H1) : tRet te D σ H := h H (Same.refl H) _ k
theorem q_asgO {σ : L2.St} {H : Hp} {fr : List FV} {te : TE} {tz : TS} {D : Ends} {i : Nat} {C : Addr} {fds : List (Str × FV)} (F : Fd K H σ fr) (h : EO K te σ H C fds) (k : ∀ p σ' H1, Same H H1 → Ob K H1 p C fds → Fd K H1 σ' (fr.set i (.v (.ref p))) → tz D σ' H1) : tSeq (tAsg te (gName i)) tz D σ H :=
  h H (Same.refl H) _ fun p H1 e O => k p _ H1 e O ((F.same e).set i (f := .v (.ref p)) rfl)
def Job.wd : Job → Str
  | .sums _ => "sums"
  | .name _ => "name"
  | .least _ _ => "least"
  | .closer _ _ => "closer"
theorem e_wd {σ : L2.St} {H : Hp} {te : TE} {job : Job} (h : ED K te σ H (Job.enc job)) : ED K (tOp (rIxT K) te (tC (.int 0))) σ H (.str job.wd) := by
  cases job <;> exact e_op h e_int (r_ixT (by rfl))
theorem scAtJob : FnScope ["hand", "job", "told"] ["hand", "job", "told"] (defScope sAtJob) := ⟨rfl, rfl, rfl, by decide +kernel, rfl, by decide +kernel, by decide +kernel⟩
theorem ok_at_job (T : Tx K mg) : Ok P w K mg base 5 (He.ga K "at_job") ["hand", "job", "told"] (spJ K) := by
  obtain ⟨fd, F⟩ := T.f_at_job
  obtain ⟨fs, Fs⟩ := T.f_Sums_init
  obtain ⟨fl, Fl⟩ := T.f_Least_init
  have OSums : Ok P w K mg base 1 (He.ma K (He.ga K "Sums") "__init__") ["self", "hand", "said", "told"] (spI K (He.ga K "Sums") RInit) := ok_jobI Fs T.jSums
  have OLeast : Ok P w K mg base 1 (He.ma K (He.ga K "Least") "__init__") ["self", "hand", "said", "told"] (spI K (He.ga K "Least") RInit) := ok_jobI Fl T.jLeast
  have OName : Ok P w K mg base 3 (He.ma K (He.ga K "Name") "__init__") ["self", "hand", "said", "told"] (spI K (He.ga K "Name") RInitN) := ok_nameI T
  have OCloser : Ok P w K mg base 3 (He.ma K (He.ga K "Closer") "__init__") ["self", "hand", "said", "told"] (spI K (He.ga K "Closer") RInitC) := ok_closerI T
  let spSums : Sp := spI K (He.ga K "Sums") RInit
  let spLeast : Sp := spI K (He.ga K "Least") RInit
  let spName : Sp := spI K (He.ga K "Name") RInitN
  let spCloser : Sp := spI K (He.ga K "Closer") RInitC
  refine ⟨fd, F.ok scAtJob (fun vs H Q E h => ?_) (fun cdv A outer s H vs Q E hr h => ?_), F.binds (fun _ _ _ _ _ _ us hl => match us, hl with | [_, _, _], _ => rfl), F.kp⟩
  · obtain ⟨_, _, _, hd, _⟩ := h
    exact hd.len
  obtain ⟨own, job, told, hd, ⟨n, ho, hn, hl, hp⟩, k⟩ := h
  refine ⟨_, (pss_cons (ps_if (pt_cmpR op_eq (pe_ix ix_tup (pv 1) pe_int (fun _ _ => rfl)) pe_str (nomark _)) pss_never pss_nil)
      (pss_cons (ps_if (pt_cmpR op_eq (pe_ix ix_tup (pv 1) pe_int (fun _ _ => rfl)) pe_str (nomark _)) (pss_one (ps_ret (pe_okmk T.k_Sums OSums (hr.mono (by decide)) T.g_Sums (pa_cons (pv 0) (pa_cons (pv 1) (pa_cons (pv 2) pa_nil)))))) pss_nil)
      (pss_cons (ps_if (pt_cmpR op_eq (pe_ix ix_tup (pv 1) pe_int (fun _ _ => rfl)) pe_str (nomark _)) (pss_one (ps_ret (pe_okmk T.k_Name OName (hr.mono (by decide)) T.g_Name (pa_cons (pv 0) (pa_cons (pv 1) (pa_cons (pv 2) pa_nil)))))) pss_nil)
      (pss_cons (ps_if (pt_cmpR op_eq (pe_ix ix_tup (pv 1) pe_int (fun _ _ => rfl)) pe_str (nomark _)) (pss_one (ps_ret (pe_okmk T.k_Least OLeast (hr.mono (by decide)) T.g_Least (pa_cons (pv 0) (pa_cons (pv 1) (pa_cons (pv 2) pa_nil)))))) pss_nil)
      (pss_one (ps_ret (pe_okmk T.k_Closer OCloser (hr.mono (by decide)) T.g_Closer (pa_cons (pv 0) (pa_cons (pv 1) (pa_cons (pv 2) pa_nil)))))))))), ?_⟩
  have F0 : Fd K H (L2.start ["hand", "job", "told"] vs) [.d (.int (own : Int)), .d (Job.enc job), .d (encT told)] := fd_begin hd
  have args : ∀ {H : Hp} {σ : L2.St}, Fd K H σ [.d (.int (own : Int)), .d (Job.enc job), .d (encT told)] → EA K (tCons (tVar 0) (tCons (tVar 1) (tCons (tVar 2) tNil))) σ H [.int (own : Int), Job.enc job, encT told] := fun F => e_cons (e_var F rfl) (e_cons (e_var F rfl) (e_cons (e_var F rfl) e_nil))
  have tst : ∀ (w2 : Str) {H : Hp} {σ : L2.St}, Fd K H σ [.d (.int (own : Int)), .d (Job.enc job), .d (encT told)] → ET (tTest (tOp rEq (tOp (rIxT K) (tVar 1) (tC (.int 0))) (tC (.str w2)))) σ H (decide (job.wd = w2)) := fun w2 H σ F =>
    e_test (e_op (e_wd (e_var F rfl)) e_str r_eqS)
  cases job with
  | sums items =>
    refine q_ifN F0 ((tst _ F0).is (by show decide (("sums" : Str) = ("deeds" : Str)) = false; decide)) fun H1 e1 F1 => ?_
    refine q_ifT F1 ((tst _ F1).is (by show decide (("sums" : Str) = ("sums" : Str)) = true; decide)) fun H2 e2 F2 => s_retO (e_make (args F2) ⟨_, _, _, rfl, rfl⟩) fun p H3 e3 O => k p H3 ((e1.trans e2).trans e3) O
  | name id =>
    refine q_ifN F0 ((tst _ F0).is (by show decide (("name" : Str) = ("deeds" : Str)) = false; decide)) fun H1 e1 F1 => ?_
    refine q_ifN F1 ((tst _ F1).is (by show decide (("name" : Str) = ("sums" : Str)) = false; decide)) fun H2 e2 F2 => ?_
    refine q_ifT F2 ((tst _ F2).is (by show decide (("name" : Str) = ("name" : Str)) = true; decide)) fun H3 e3 F3 => s_retO (e_make (args F3) ⟨own, n, id, told, rfl, ho, hn, hl, hp, rfl⟩) fun p H4 e4 O => k p H4 (((e1.trans e2).trans e3).trans e4) O
  | least m wt =>
    refine q_ifN F0 ((tst _ F0).is (by show decide (("least" : Str) = ("deeds" : Str)) = false; decide)) fun H1 e1 F1 => ?_
    refine q_ifN F1 ((tst _ F1).is (by show decide (("least" : Str) = ("sums" : Str)) = false; decide)) fun H2 e2 F2 => ?_
    refine q_ifN F2 ((tst _ F2).is (by show decide (("least" : Str) = ("name" : Str)) = false; decide)) fun H3 e3 F3 => ?_
    refine q_ifT F3 ((tst _ F3).is (by show decide (("least" : Str) = ("least" : Str)) = true; decide)) fun H4 e4 F4 => s_retO (e_make (args F4) ⟨_, _, _, rfl, rfl⟩) fun p H5 e5 O => k p H5 ((((e1.trans e2).trans e3).trans e4).trans e5) O
  | closer m r =>
    obtain ⟨p1, p2, p3, p4⟩ := hp
    refine q_ifN F0 ((tst _ F0).is (by show decide (("closer" : Str) = ("deeds" : Str)) = false; decide)) fun H1 e1 F1 => ?_
    refine q_ifN F1 ((tst _ F1).is (by show decide (("closer" : Str) = ("sums" : Str)) = false; decide)) fun H2 e2 F2 => ?_
    refine q_ifN F2 ((tst _ F2).is (by show decide (("closer" : Str) = ("name" : Str)) = false; decide)) fun H3 e3 F3 => ?_
    refine q_ifN F3 ((tst _ F3).is (by show decide (("closer" : Str) = ("least" : Str)) = false; decide)) fun H4 e4 F4 => s_retO (e_make (args F4) ⟨own, n, r, m, told, rfl, hn, p3, p2, p1, rfl⟩) fun p H5 e5 O => k p H5 ((((e1.trans e2).trans e3).trans e4).trans e5) O

abbrev sp_deedSums (K : PySem.W.Frag) : Sp := spM K (He.ga K "Sums") RDeedS
def RNext (ds : List PyData) (d : PyData) : Prop := ∃ own job told, ds = [.int ((own : Nat) : Int), Job.enc job, encT told] ∧ JPre own job told ∧ d = (nextDeed own job told).enc own
theorem scNextDeed : FnScope ["hand", "job", "told"] ["hand", "job", "told"] (defScope sNextDeed) := ⟨rfl, rfl, rfl, by decide +kernel, rfl, by decide +kernel, by decide +kernel⟩
/-- what a job's deed says -/
theorem e_deed {own : Nat} {job : Job} {told : Tld} (hp : JPre own job told) {ta : TE} {σ : L2.St} {H : Hp} (h : EO K ta σ H (jCls K job) (jFds own told job)) :
    ED K (alt4 (tMeth (He.ga K "Sums") "deed" (spM K (He.ga K "Sums") RDeedS) [] E0 ta tNil) (tMeth (He.ga K "Name") "deed" (spM K (He.ga K "Name") RDeedN) [] E0 ta tNil) (tMeth (He.ga K "Least") "deed" (spM K (He.ga K "Least") RDeedL) [] E0 ta tNil) (tMeth (He.ga K "Closer") "deed" (spM K (He.ga K "Closer") RDeedC) [] E0 ta tNil)) σ H ((nextDeed own job told).enc own) := by
  obtain ⟨n, ho, hn, hl, pr⟩ := hp
  cases job with
  | sums items => exact e_alt1 (e_methO h ⟨own, items, told, rfl, rfl, pr.1, pr.2.1, rfl⟩ (by rfl))
  | name id => exact e_alt2 (e_methO h ⟨own, id, told, rfl, rfl, rfl⟩ (by rfl))
  | least m wt => exact e_alt3 (e_methO h ⟨own, m, wt, told, rfl, rfl, hl, pr, rfl⟩ (by rfl))
  | closer m r => exact e_alt4 (e_methO h ⟨own, r, m, told, rfl, rfl, rfl⟩ (by rfl))
theorem ok_next_deed (T : Tx K mg) : Ok P w K mg base 6 (He.ga K "next_deed") ["hand", "job", "told"] (spD K RNext) := by
  obtain ⟨fd, F⟩ := T.f_next_deed
  have O_at_job : Ok P w K mg base 5 (He.ga K "at_job") ["hand", "job", "told"] (spJ K) := ok_at_job T
  have O_deedSums : Ok P w K mg base 1 (He.ma K (He.ga K "Sums") "deed") ["self"] (spM K (He.ga K "Sums") RDeedS) := ok_sumsD T
  have O_deedName : Ok P w K mg base 1 (He.ma K (He.ga K "Name") "deed") ["self"] (spM K (He.ga K "Name") RDeedN) := ok_nameD T
  have O_deedLeast : Ok P w K mg base 2 (He.ma K (He.ga K "Least") "deed") ["self"] (spM K (He.ga K "Least") RDeedL) := ok_leastD T
  have O_deedCloser : Ok P w K mg base 1 (He.ma K (He.ga K "Closer") "deed") ["self"] (spM K (He.ga K "Closer") RDeedC) := ok_closerD T
  refine ⟨fd, F.ok scNextDeed (fun vs H Q E h => spD_len (n := 3) (fun ds d ⟨_, _, _, e, _⟩ => by rw [e] <;> rfl) h) (fun cdv A outer s H vs Q E hr h => ?_), F.binds (fun _ _ _ _ _ _ us hl => match us, hl with | [_, _, _], _ => rfl), F.kp⟩
  obtain ⟨ds, d, hd, ⟨own, job, told, rfl, hp, rfl⟩, k⟩ := h
  refine ⟨_, (pss_one (ps_ret (pe_alt4 (pe_okm0 O_deedSums (hr.mono (by decide)) T.c_Sums T.m_Sums_deed (pe_ok O_at_job (hr.mono (by decide)) T.g_at_job (pa_cons (pv 0) (pa_cons (pv 1) (pa_cons (pv 2) pa_nil))))) (pe_okm0 O_deedName (hr.mono (by decide)) T.c_Name T.m_Name_deed (pe_ok O_at_job (hr.mono (by decide)) T.g_at_job (pa_cons (pv 0) (pa_cons (pv 1) (pa_cons (pv 2) pa_nil))))) (pe_okm0 O_deedLeast (hr.mono (by decide)) T.c_Least T.m_Least_deed (pe_ok O_at_job (hr.mono (by decide)) T.g_at_job (pa_cons (pv 0) (pa_cons (pv 1) (pa_cons (pv 2) pa_nil))))) (pe_okm0 O_deedCloser (hr.mono (by decide)) T.c_Closer T.m_Closer_deed (pe_ok O_at_job (hr.mono (by decide)) T.g_at_job (pa_cons (pv 0) (pa_cons (pv 1) (pa_cons (pv 2) pa_nil)))))))), ?_⟩
  have F0 : Fd K H (L2.start ["hand", "job", "told"] vs) [.d (.int (own : Int)), .d (Job.enc job), .d (encT told)] := fd_begin hd
  exact s_ret (e_deed hp (e_callJ (e_cons (e_var F0 rfl) (e_cons (e_var F0 rfl) (e_cons (e_var F0 rfl) e_nil))) hp)) k

def RAns (ds : List PyData) (d : PyData) : Prop := ∃ own job told, ds = [.int ((own : Nat) : Int), Job.enc job, encT told] ∧ JPre own job told ∧ d = encA (answer own job told)
theorem scAnswerOf : FnScope ["hand", "job", "told", "here"] ["hand", "job", "told"] (defScope sAnswerOf) := ⟨rfl, rfl, rfl, by decide +kernel, rfl, by decide +kernel, by decide +kernel⟩
theorem eo_var {σ : L2.St} {H : Hp} {te : TE} {p C : Addr} {fds : List (Str × FV)} (h : EV te σ H (.ref p)) (O : Ob K H p C fds) : EO K te σ H C fds := fun H1 e Q q => h H1 e _ fun H2 e2 => q p H2 e2 ((O.same e).same e2)
theorem isNone_deed (own : Nat) : ∀ d : Deed, isNone (d.enc own) = d.isIdle
  | .idle => rfl
  | .look => rfl
  | .put _ => rfl
theorem ok_answer_of (T : Tx K mg) : Ok P w K mg base 6 (He.ga K "answer_of") ["hand", "job", "told"] (spD K RAns) := by
  obtain ⟨fd, F⟩ := T.f_answer_of
  have O_at_job : Ok P w K mg base 5 (He.ga K "at_job") ["hand", "job", "told"] (spJ K) := ok_at_job T
  have O_deedSums : Ok P w K mg base 1 (He.ma K (He.ga K "Sums") "deed") ["self"] (spM K (He.ga K "Sums") RDeedS) := ok_sumsD T
  have O_deedName : Ok P w K mg base 1 (He.ma K (He.ga K "Name") "deed") ["self"] (spM K (He.ga K "Name") RDeedN) := ok_nameD T
  have O_deedLeast : Ok P w K mg base 2 (He.ma K (He.ga K "Least") "deed") ["self"] (spM K (He.ga K "Least") RDeedL) := ok_leastD T
  have O_deedCloser : Ok P w K mg base 1 (He.ma K (He.ga K "Closer") "deed") ["self"] (spM K (He.ga K "Closer") RDeedC) := ok_closerD T
  have O_answerSums : Ok P w K mg base 1 (He.ma K (He.ga K "Sums") "answer") ["self"] (spM K (He.ga K "Sums") RAnsS) := ok_sumsA T
  have O_answerName : Ok P w K mg base 1 (He.ma K (He.ga K "Name") "answer") ["self"] (spM K (He.ga K "Name") RAnsN) := ok_nameA T
  have O_answerLeast : Ok P w K mg base 2 (He.ma K (He.ga K "Least") "answer") ["self"] (spM K (He.ga K "Least") RAnsL) := ok_leastA T
  have O_answerCloser : Ok P w K mg base 1 (He.ma K (He.ga K "Closer") "answer") ["self"] (spM K (He.ga K "Closer") RAnsC) := ok_closerA T
  refine ⟨fd, F.ok scAnswerOf (fun vs H Q E h => spD_len (n := 3) (fun ds d ⟨_, _, _, e, _⟩ => by rw [e] <;> rfl) h) (fun cdv A outer s H vs Q E hr h => ?_), F.binds (fun _ _ _ _ _ _ us hl => match us, hl with | [_, _, _], _ => rfl), F.kp⟩
  obtain ⟨ds, d, hd, ⟨own, job, told, rfl, hp, rfl⟩, k⟩ := h
  refine ⟨_, (pss_cons (ps_set (i := 3) scAnswerOf.nd rfl (Or.inl rfl) (pe_ok O_at_job (hr.mono (by decide)) T.g_at_job (pa_cons (pv 0) (pa_cons (pv 1) (pa_cons (pv 2) pa_nil)))))
      (pss_cons (ps_if (pt_cmpR op_notN (pe_alt4 (pe_okm0 O_deedSums (hr.mono (by decide)) T.c_Sums T.m_Sums_deed (pv 3)) (pe_okm0 O_deedName (hr.mono (by decide)) T.c_Name T.m_Name_deed (pv 3)) (pe_okm0 O_deedLeast (hr.mono (by decide)) T.c_Least T.m_Least_deed (pv 3)) (pe_okm0 O_deedCloser (hr.mono (by decide)) T.c_Closer T.m_Closer_deed (pv 3))) pe_non (nomark _)) (pss_one (ps_ret pe_non)) pss_nil)
      (pss_one (ps_ret (pe_alt4 (pe_okm0 O_answerSums (hr.mono (by decide)) T.c_Sums T.m_Sums_answer (pv 3)) (pe_okm0 O_answerName (hr.mono (by decide)) T.c_Name T.m_Name_answer (pv 3)) (pe_okm0 O_answerLeast (hr.mono (by decide)) T.c_Least T.m_Least_answer (pv 3)) (pe_okm0 O_answerCloser (hr.mono (by decide)) T.c_Closer T.m_Closer_answer (pv 3))))))), ?_⟩
  have F0 : Fd K H (L2.start ["hand", "job", "told", "here"] vs) [.d (.int (own : Int)), .d (Job.enc job), .d (encT told), .un] := fd_begin hd
  refine q_asgO F0 (e_callJ (e_cons (e_var F0 rfl) (e_cons (e_var F0 rfl) (e_cons (e_var F0 rfl) e_nil))) hp) fun p σ1 H1 e1 O1 F1 => ?_
  have ED1 := e_deed hp (eo_var (e_varV (i := 3) F1 rfl) O1)
  by_cases hi : (nextDeed own job told).isIdle = true
  · refine q_ifN F1 ((e_test (e_op ED1 e_non r_notN)).is (by rw [isNone_deed, hi] <;> rfl)) fun H2 e2 F2 => ?_
    have O2 := O1.same e2
    have ho := eo_var (e_varV (i := 3) F2 rfl) O2
    have an : answer own job told = match job with
      | .sums _ => some (.tup (sumsOf told))
      | .name id => some (.num (nameSt own id told).1)
      | .least _ w => some (.num (minL (there w told)))
      | .closer n _ => some (.frac ((clSt own n told).getLast?.getD (0, 1))) := by
      unfold answer
      rw [if_pos hi]
      cases job <;> rfl
    rw [an] at k
    obtain ⟨n, hon, hn, hl, pr⟩ := hp
    cases job with
    | sums items => exact s_ret (e_alt1 (e_methO ho ⟨_, _, told, rfl, rfl, hl, pr.2.2, rfl⟩ (by rfl))) fun v H3 e3 d3 => k v H3 ((e1.trans e2).trans e3) d3
    | name id => exact s_ret (e_alt2 (e_methO ho ⟨_, _, _, _, _, rfl, rfl, rfl⟩ (by rfl))) fun v H3 e3 d3 => k v H3 ((e1.trans e2).trans e3) d3
    | least m wt =>
      refine s_ret (e_alt3 (e_methO ho ⟨_, m, wt, told, rfl, rfl, hl, pr, ?_, rfl⟩ (by rfl))) fun v H3 e3 d3 => k v H3 ((e1.trans e2).trans e3) d3
      intro z
      rw [nd_least, if_pos z] at hi
      split at hi <;> cases hi
    | closer m r =>
      obtain ⟨c1, c2⟩ := clSt_ok (own := own) pr.1 pr.2.1.2 pr.2.1.1 pr.2.2.1
      obtain ⟨x, hx⟩ : ∃ x, (clSt own m told).getLast? = some x := by
        rw [List.getLast?_eq_getElem?]
        exact ⟨_, List.getElem?_eq_getElem (by omega)⟩
      simp only [hx, Option.getD_some] at k
      exact s_ret (e_alt4 (e_methO ho ⟨_, _, _, _, x, rfl, rfl, hx, rfl⟩ (by rfl))) fun v H3 e3 d3 => k v H3 ((e1.trans e2).trans e3) d3
  · refine q_ifT F1 ((e_test (e_op ED1 e_non r_notN)).is (by rw [isNone_deed]; simpa using hi)) fun H2 e2 F2 => s_ret (K := K) e_non fun v H3 e3 d3 => k v H3 ((e1.trans e2).trans e3) ?_
    unfold answer
    rw [if_neg hi]
    exact d3
end
end My
/-! lists that change; the law's hand, take, pick -/
namespace My
open PySem PySem.Spec PyProof.Rows L2

/-! ### lists that change -/
structure Mu (K : PySem.W.Frag) (S : List Addr) (H H' : Hp) : Prop where
  keep : ∀ b o, H b = some o → b ∉ S → H' b = some o
  kt : Kt K H H'
section
variable {K : PySem.W.Frag} {S S' : List Addr} {H H' H1 H2 : Hp} {p q : Addr} {ds es : List PyData} {d : PyData}
theorem Mu.refl (S : List Addr) (H : Hp) : Mu K S H H := ⟨fun _ _ h _ => h, Kt.refl K H⟩
theorem Mu.trans (a : Mu K S H H1) (b : Mu K S H1 H2) : Mu K S H H2 := ⟨fun c o h n => b.keep c o (a.keep c o h n) n, a.kt.trans b.kt⟩
theorem mu_same (e : Same H H') : Mu K S H H' := ⟨fun b o h _ => e b o h, (kd_of e).kt⟩
theorem Mu.mono (a : Mu K S H H') (h : ∀ b ∈ S, b ∈ S') : Mu K S' H H' := ⟨fun b o q n => a.keep b o q fun z => n (h b z), a.kt⟩
theorem Mu.same (a : Mu K S H H1) (e : Same H1 H2) : Mu K S H H2 := a.trans (mu_same e)
theorem mu_upd {xs ys : List V} (h : H p = some (.lst xs)) (hp : p ∈ S) : Mu K S H (upd H p (.lst ys)) := ⟨fun b o e n => by rw [upd_ne (fun z => n (by rw [z]; exact hp))]; exact e, kt_upd h⟩
/-- what was not there does not count -/
theorem Mu.drop (a : Mu K (p :: S) H H') (h : H p = none) : Mu K S H H' := ⟨fun b o e n => a.keep b o e fun z => by
  rcases List.mem_cons.mp z with rfl | z
  · rw [h] at e; cases e
  · exact n z, a.kt⟩
def LsD (K : PySem.W.Frag) (H : Hp) (p : Addr) (ds : List PyData) : Prop := ∃ ws, H p = some (.lst ws) ∧ DpAll K H ws ds
theorem LsD.there (h : LsD K H p ds) : H p ≠ none := fun z => by
  obtain ⟨ws, e, _⟩ := h
  rw [z] at e
  cases e
theorem LsD.mu (h : LsD K H p ds) (hn : noLs ds = true) (a : Mu K S H H') (hp : p ∉ S) : LsD K H' p ds := by
  obtain ⟨ws, e, d⟩ := h
  exact ⟨ws, a.keep p _ e hp, dpall_kt a.kt _ _ hn d⟩
theorem LsD.same (h : LsD K H p ds) (e : Same H H') : LsD K H' p ds := by
  obtain ⟨ws, e1, d⟩ := h
  exact ⟨ws, e p _ e1, dpall_mono (kd_of e) _ _ d⟩
theorem LsD.dp (h : LsD K H p ds) : Dp K H (.ref p) (.list ds) := by
  obtain ⟨ws, e, d⟩ := h
  exact .lst (SqL.of e) d
theorem LsD.upd {ws : List V} (h : DpAll K H ws ds) (hn : noLs ds = true) {xs : List V} (hp : H p = some (.lst xs)) : LsD K (upd H p (.lst ws)) p ds := ⟨ws, upd_same, dpall_kt (kt_upd hp) _ _ hn h⟩
theorem noLs_set {j : Nat} : ∀ {ds : List PyData} {j : Nat}, noLs ds = true → noL d = true → noLs (ds.set j d) = true := fun {ds j} h1 h2 => by
  rw [noLs_iff] at h1 ⊢
  intro x hx
  rcases List.mem_or_eq_of_mem_set hx with hx | hx
  · exact h1 x hx
  · rw [hx]; exact h2
theorem noLs_app (h1 : noLs ds = true) (h2 : noLs es = true) : noLs (ds ++ es) = true := by
  rw [noLs_iff] at h1 h2 ⊢
  intro x hx
  rcases List.mem_append.mp hx with hx | hx
  · exact h1 x hx
  · exact h2 x hx
theorem noLs_one (h : noL d = true) : noLs [d] = true := by
  show (noL d && true) = true
  rw [h]
  rfl
end
def noLF : FV → Bool
  | .d x => noL x
  | _ => true
section
variable {K : PySem.W.Frag} {S : List Addr} {H H' : Hp} {σ : L2.St} {fr : List FV}
theorem FvOk.kt (e : Kt K H H') : ∀ {f : FV} {o : Option V}, noLF f = true → FvOk K H f o → FvOk K H' f o
  | .un, _, _, _ => True.intro
  | .d _, _, n, h => let ⟨v, h1, h2⟩ := h; ⟨v, h1, dp_kt e _ _ n h2⟩
  | .v _, _, _, h => h
theorem fd_kt (e : Kt K H H') : ∀ {σ : L2.St} {fr : List FV}, (∀ f ∈ fr, noLF f = true) → Paired (fun (o : Option V) (f : FV) => FvOk K H f o) σ fr → Paired (fun (o : Option V) (f : FV) => FvOk K H' f o) σ fr
  | _, _, _, .nil => .nil
  | _, _, n, .cons r t => .cons (FvOk.kt e (n _ List.mem_cons_self) r) (fd_kt e (fun f hf => n f (List.mem_cons_of_mem _ hf)) t)
theorem Fd.mu (F : Fd K H σ fr) (n : ∀ f ∈ fr, noLF f = true) (a : Mu K S H H') : Fd K H' σ fr := fd_kt a.kt n F
end

theorem ixN_ofNat {n j : Nat} (hj : j < n) : ixN n (j : Int) = some j := by
  unfold ixN
  rw [if_pos (by omega), if_pos (by omega), Int.toNat_natCast]
/-! ### statements that change lists -/
section
variable {K : PySem.W.Frag} {σ : L2.St} {H H' : Hp} {fr : List FV} {te to ti : TE} {tz : TS} {D : Ends} {d : PyData} {ds : List PyData} {p : Addr} {i j : Nat}
theorem e_varL (F : Fd K H σ fr) (h : fr[i]? = some (.v (.ref p))) (L : LsD K H p ds) : ED K (tVar i) σ H (.list ds) := fun H1 e Q q => ⟨.ref p, F.v h, q _ H1 (Same.refl H1) (L.same e).dp⟩
theorem s_setL (ho : EV to σ H (.ref p)) (hi : ED K ti σ H (.int (j : Int))) (h : ED K te σ H d) (hn : noL d = true) (L : LsD K H p ds) (hnl : noLs ds = true) (hj : j < ds.length)
    (k : ∀ H1, Mu K [p] H H1 → LsD K H1 p (ds.set j d) → D.nx σ H1) : tAsg te (gSub to ti L2.rSetL) D σ H :=
  h H (Same.refl H) _ fun v H1 e1 d1 => ho H1 e1 _ fun H2 e2 => hi H2 (e1.trans e2) _ fun u H3 e3 d3 => by
    have e13 := (e1.trans e2).trans e3
    obtain ⟨ws, hw, dw⟩ := L.same e13
    cases d3
    refine ⟨p, ws, _, j, rfl, rfl, hw, ixN_ofNat (by rw [dw.len]; exact hj), ?_⟩
    exact k _ ((mu_same e13).trans (mu_upd hw (by simp))) (LsD.upd (dw.set j (dp_mono (kd_of (e2.trans e3)) _ _ d1)) (noLs_set (j := j) hnl hn) hw)
theorem q_setL (ho : EV to σ H (.ref p)) (hi : ED K ti σ H (.int (j : Int))) (h : ED K te σ H d) (hn : noL d = true) (L : LsD K H p ds) (hnl : noLs ds = true) (hj : j < ds.length)
    (k : ∀ H1, Mu K [p] H H1 → LsD K H1 p (ds.set j d) → tz D σ H1) : tSeq (tAsg te (gSub to ti L2.rSetL)) tz D σ H := s_setL (D := { D with nx := tz D }) ho hi h hn L hnl hj k
theorem s_app (ho : EV to σ H (.ref p)) (h : ED K te σ H d) (hn : noL d = true) (L : LsD K H p ds) (hnl : noLs ds = true) (hl : ds.length ≤ 100000)
    (k : ∀ H1, Mu K [p] H H1 → LsD K H1 p (ds ++ [d]) → D.nx σ H1) : tDrop (tBM K "list" rAppend to (tCons te tNil)) D σ H :=
  ho H (Same.refl H) _ fun H1 e1 => by
    obtain ⟨ws, hw, dw⟩ := L.same e1
    refine ⟨.inl ⟨rfl, ws, SqL.of hw⟩, ?_⟩
    refine h H1 e1 _ fun v H2 e2 d2 => ?_
    have hw2 := e2 p _ hw
    refine ⟨p, ws, v, rfl, rfl, hw2, by rw [dw.len]; exact Nat.lt_of_le_of_lt hl (by decide), ?_⟩
    exact k _ ((mu_same (e1.trans e2)).trans (mu_upd hw2 (by simp))) (LsD.upd ((dpall_mono (kd_of e2) _ _ dw).snoc d2) (noLs_app hnl (noLs_one hn)) hw2)
theorem q_newL {tr : TA} (F : Fd K H σ fr) (h : EA K tr σ H ds) (hl : ds.length ≤ 100000) (k : ∀ q σ' H1, H q = none → Same H H1 → LsD K H1 q ds → Fd K H1 σ' (fr.set i (.v (.ref q))) → tz D σ' H1) : tSeq (tAsg (tLst tr) (gName i)) tz D σ H :=
  h H (Same.refl H) _ fun vs H1 e1 d1 => ⟨by rw [d1.len]; exact Nat.le_trans hl (by decide), fun q hq => by
    have e2 := e1.trans (same_new (o := .lst vs) hq)
    refine k q _ _ ?_ e2 ⟨vs, upd_same, dpall_mono (kd_of (same_new hq)) _ _ d1⟩ ((F.same e2).set i (f := .v (.ref q)) rfl)
    cases z : H q with
    | none => rfl
    | some o => rw [e1 q o z] at hq; cases hq⟩
theorem s_retL {tr : TA} (h : EA K tr σ H ds) (hl : ds.length ≤ 100000) (k : ∀ q H1, H q = none → Same H H1 → LsD K H1 q ds → D.rt (.ref q) H1) : tRet (tLst tr) D σ H :=
  h H (Same.refl H) _ fun vs H1 e1 d1 => ⟨by rw [d1.len]; exact Nat.le_trans hl (by decide), fun q hq => by
    have e2 := e1.trans (same_new (o := .lst vs) hq)
    refine k q _ ?_ e2 ⟨vs, upd_same, dpall_mono (kd_of (same_new hq)) _ _ d1⟩
    cases z : H q with
    | none => rfl
    | some o => rw [e1 q o z] at hq; cases hq⟩
end
theorem fresh_same {H H1 : Hp} {q : Addr} (e : Same H H1) (h : H1 q = none) : H q = none := by
  cases z : H q with
  | none => rfl
  | some o => rw [e q o z] at h; cases h

section
variable {P : Program} {w : World} {K : PySem.W.Frag} {mg : Str → Option Value} {base : Heap}

/-! ### the law's hand -/
def HandAt (K : PySem.W.Frag) (H : Hp) (p : Addr) (c : Int) : Prop := ∃ a b n : Int, LsD K H p [.int a, .int b, .int n] ∧ 0 ≤ n ∧ n ≤ c
theorem HandAt.mu {S : List Addr} {H H' : Hp} {p : Addr} {c : Int} (h : HandAt K H p c) (a : Mu K S H H') (hp : p ∉ S) : HandAt K H' p c := by
  obtain ⟨x, y, n, L, h1, h2⟩ := h
  exact ⟨x, y, n, L.mu rfl a hp, h1, h2⟩
theorem HandAt.same {H H' : Hp} {p : Addr} {c : Int} (h : HandAt K H p c) (e : Same H H') : HandAt K H' p c := by
  obtain ⟨x, y, n, L, h1, h2⟩ := h
  exact ⟨x, y, n, L.same e, h1, h2⟩
theorem HandAt.le {H : Hp} {p : Addr} {c c' : Int} (h : HandAt K H p c) (hc : c ≤ c') : HandAt K H p c' := by
  obtain ⟨x, y, n, L, h1, h2⟩ := h
  exact ⟨x, y, n, L, h1, by omega⟩
theorem HandAt.there {H : Hp} {p : Addr} {c : Int} (h : HandAt K H p c) : H p ≠ none := by
  obtain ⟨x, y, n, L, h1, h2⟩ := h
  exact L.there
def spHand (K : PySem.W.Frag) : Sp := fun vs H Q _ => ∃ (ns : List Int) (k : Nat), DpAll K H vs [.list (ns.map PyData.int), .int (k : Int)] ∧ k ≤ 100 ∧ ∀ p H', H p = none → Same H H' → HandAt K H' p 0 → Q (.ref p) H'
theorem scLawHand : FnScope ["_law_script", "_law_k", "_law_cell"] ["_law_script", "_law_k"] (defScope sLawHand) := ⟨rfl, rfl, rfl, by decide +kernel, rfl, by decide +kernel, by decide +kernel⟩
theorem ok_law_hand (T : Tx K mg) : Ok P w K mg base 1 (He.ga K "_law_hand") ["_law_script", "_law_k"] (spHand K) := by
  obtain ⟨fd, F⟩ := T.f_law_hand
  refine ⟨fd, F.ok scLawHand (fun vs H Q E h => ?_) (fun cdv A outer s H vs Q E hr h => ?_), F.binds (fun _ _ _ _ _ _ us hl => match us, hl with | [_, _], _ => rfl), F.kp⟩
  · obtain ⟨_, _, hd, _⟩ := h
    exact hd.len
  obtain ⟨ns, kk, hd, hk, k⟩ := h
  refine ⟨_, (pss_cons (ps_set (i := 2) scLawHand.nd rfl (Or.inl rfl) pe_int)
      (pss_cons (ps_if (pt_cmpR op_lt (pv 1) (pe_callB call_len_seq (by rfl) T.b_len (by decide +kernel) (pa_cons (pv 0) pa_nil)) (nomark _)) (pss_one (ps_set (i := 2) scLawHand.nd rfl (Or.inl rfl) (pe_ix ix_list (pv 0) (pv 1) (fun _ _ => rfl)))) pss_nil)
      (pss_one (ps_ret (pe_lst (pa_cons (pe_op op_mul (pv 2) (pe_callTy call_int1 (by rfl) T.b_int (by decide +kernel) (pa_cons (pe_cmpR op_ge (pv 2) (pe_op op_pow pe_int pe_int) (nomark _)) pa_nil))) (pa_cons (pe_op op_add (pe_op op_add (pe_op op_mod (pv 2) pe_int) (pe_op op_mul pe_int (pv 1))) pe_int) (pa_cons pe_int pa_nil)))))))), ?_⟩
  have F0 : Fd K H (L2.start ["_law_script", "_law_k", "_law_cell"] vs) [.d (.list (ns.map PyData.int)), .d (.int (kk : Int)), .un] := fd_begin hd
  have fin : ∀ {H1 : Hp} {σ1 : L2.St} {D : Ends} (cell : Int), Same H H1 → Fd K H1 σ1 [.d (.list (ns.map PyData.int)), .d (.int (kk : Int)), .d (.int cell)] → (∀ v H', D.rt v H' = Q v H') →
      tRet (tLst (tCons (tOp (rI CMul fun i j => .int (i * j)) (tVar 2) (tCB (fun xs H Q => (∃ i, xs = [.int i] ∧ Q (.int i) H) ∨ ∃ k, xs = [.bl k] ∧ Q (.int (if k then 1 else 0)) H) (tCons (tOp (rI0 fun i j => .bl (decide (j ≤ i))) (tVar 2) (tOp (rI CPow fun i j => .int (i ^ j.toNat)) (tC (.int 10)) (tC (.int 18)))) tNil)))
        (tCons (tOp (rI0 fun i j => .int (i + j)) (tOp (rI0 fun i j => .int (i + j)) (tOp (rI (fun _ j => 0 < j) fun i j => .int (i % j)) (tVar 2) (tC (.int 2305843009213693951))) (tOp (rI CMul fun i j => .int (i * j)) (tC (.int 7919)) (tVar 1))) (tC (.int 3))) (tCons (tC (.int 0)) tNil)))) D σ1 H1 := fun {H1 σ1 D} cell e1 F1 hD => by
    refine s_retL (ds := [.int (cell * (if decide ((10 : Int) ^ 18 ≤ cell) = true then 1 else 0)), .int (cell % 2305843009213693951 + 7919 * (kk : Int) + 3), .int 0]) (e_cons (e_op (e_var F1 rfl) (e_cb (z := .int (if decide ((10 : Int) ^ 18 ≤ cell) = true then 1 else 0)) (e_cons (e_op (e_var F1 rfl) (e_op e_int e_int (r_I (z := .int ((10 : Int) ^ 18)) ⟨by decide, by decide, by decide⟩ fun H => .int _)) (r_I0 (z := .bool (decide ((10 : Int) ^ 18 ≤ cell))) fun H => .bl _)) e_nil) (fun vs H Q d q => ?_)) (r_I (cmul_r ?_) fun H => .int _))
      (e_cons (e_op (e_op (e_op (e_var F1 rfl) e_int (r_I (z := .int (cell % 2305843009213693951)) (by decide) fun H => .int _)) (e_op e_int (e_var F1 rfl) (r_I (z := .int (7919 * (kk : Int))) (cmul_l (by unfold B64; omega)) fun H => .int _)) (r_I0 (z := .int (cell % 2305843009213693951 + 7919 * (kk : Int))) fun H => .int _)) e_int (r_I0 fun H => .int _)) (e_cons e_int e_nil))) (by show 3 ≤ 100000; omega) fun p H3 hp e3 L3 => ?_
    · obtain ⟨v, rfl, dv⟩ := dpall1 d
      cases dv
      exact .inr ⟨_, rfl, q _ H (Same.refl H) (.int _)⟩
    · unfold B64
      split <;> omega
    · rw [hD]
      exact k p _ (fresh_same e1 hp) (e1.trans e3) ⟨_, _, 0, L3, by omega, by omega⟩
  refine q_asg F0 e_int fun σ1 H1 e1 F1 => ?_
  have nl : ((ns.map PyData.int).length : Int) = (ns.length : Int) := by rw [List.length_map]
  have E1 : ED K (tOp (rI0 fun i j => V.bl (decide (i < j))) (tVar 1) (tCB _ (tCons (tVar 0) tNil))) σ1 H1 (.bool (decide ((kk : Int) < (ns.length : Int)))) := e_op (e_var F1 rfl) (e_cb (e_cons (e_var F1 rfl) e_nil) c_lenL) (r_I0 fun H => by rw [nl]; exact .bl _)
  by_cases hlt : kk < ns.length
  · obtain ⟨c, hc⟩ : ∃ c, ns[kk]? = some c := ⟨_, List.getElem?_eq_getElem hlt⟩
    refine q_ifT F1 ((e_test E1).is (decide_eq_true (by omega))) fun H2 e2 F2 => s_asg F2 (e_op (e_var F2 rfl) (e_var F2 rfl) (r_ixL (z := .int c) (atI_nat (by rw [List.getElem?_map, hc] <;> rfl)))) fun σ3 H3 e3 F3 => ?_
    exact fin c ((e1.trans e2).trans e3) F3 fun _ _ => rfl
  · refine q_ifN F1 ((e_test E1).is (decide_eq_false (by omega))) fun H2 e2 F2 => fin 0 (e1.trans e2) F2 fun _ _ => rfl

/-! ### take -/
def spTake (K : PySem.W.Frag) : Sp := fun vs H Q _ => ∃ (p : Addr) (many c : Int), vs = [.ref p, .int many] ∧ HandAt K H p c ∧ 0 < many ∧ many < 1073741824 ∧ c ≤ 100000 ∧ ∀ r H', 0 ≤ r → r < many → Mu K [p] H H' → HandAt K H' p (c + 1) → Q (.int r) H'
theorem scLawTake : FnScope ["_law_hand_here", "_law_many", "_law_digit", "_law_turn", "_law_mixed", "_law_other"] ["_law_hand_here", "_law_many"] (defScope sLawTake) := ⟨rfl, rfl, rfl, by decide +kernel, rfl, by decide +kernel, by decide +kernel⟩
theorem ok_law_take (T : Tx K mg) : Ok P w K mg base 1 (He.ga K "_law_take") ["_law_hand_here", "_law_many"] (spTake K) := by
  obtain ⟨fd, F⟩ := T.f_law_take
  refine ⟨fd, F.ok scLawTake (fun vs H Q E h => ?_) (fun cdv A outer s H vs Q E hr h => ?_), F.binds (fun _ _ _ _ _ _ us hl => match us, hl with | [_, _], _ => rfl), F.kp⟩
  · obtain ⟨_, _, _, rfl, _⟩ := h
    rfl
  obtain ⟨p, many, c, rfl, ⟨a, b, n, L, n0, nc⟩, m0, m1, hc, k⟩ := h
  refine ⟨_, (pss_cons (ps_if (pt_cmpR op_gt (pe_ix ix_list (pv 0) pe_int (fun _ _ => rfl)) pe_int (nomark _)) (pss_cons (ps_set (i := 2) scLawTake.nd rfl (Or.inl rfl) (pe_op op_mod (pe_ix ix_list (pv 0) pe_int (fun _ _ => rfl)) (pv 1)))
      (pss_cons (ps_asg (pe_op op_fdiv (pe_ix ix_list (pv 0) pe_int (fun _ _ => rfl)) (pv 1)) (pg_sub (pv 0) pe_int set_list))
      (pss_one (ps_ret (pv 2))))) pss_nil)
      (pss_cons (ps_asg (pe_op op_add (pe_ix ix_list (pv 0) pe_int (fun _ _ => rfl)) pe_int) (pg_sub (pv 0) pe_int set_list))
      (pss_cons (ps_set (i := 3) scLawTake.nd rfl (Or.inl rfl) (pe_ix ix_list (pv 0) pe_int (fun _ _ => rfl)))
      (pss_cons (ps_set (i := 4) scLawTake.nd rfl (Or.inl rfl) (pe_op op_mod (pe_op op_mul (pe_ix ix_list (pv 0) pe_int (fun _ _ => rfl)) (pe_op op_add (pe_op op_add pe_int (pe_op op_mul (pe_op op_mul pe_int (pv 3)) (pv 3))) (pe_op op_mul pe_int (pv 3)))) pe_int))
      (pss_cons (ps_set (i := 5) scLawTake.nd rfl (Or.inl rfl) (pe_op op_add (pe_op op_add (pe_op op_mod (pv 4) pe_int) (pe_op op_mul (pv 3) pe_int)) pe_int))
      (pss_cons (ps_set (i := 4) scLawTake.nd rfl (Or.inl rfl) (pe_op op_mod (pe_op op_mul (pv 4) (pv 5)) pe_int))
      (pss_one (ps_ret (pe_op op_mod (pe_op op_add (pe_op op_fdiv (pv 4) pe_int) (pe_op op_fdiv (pv 4) pe_int)) (pv 1)))))))))), ?_⟩
  have F0 : Fd K H (L2.start ["_law_hand_here", "_law_many", "_law_digit", "_law_turn", "_law_mixed", "_law_other"] [.ref p, .int many]) [.v (.ref p), .d (.int many), .un, .un, .un, .un] := .cons rfl (.cons ⟨_, rfl, .int _⟩ (.cons True.intro (.cons True.intro (.cons True.intro (.cons True.intro .nil)))))
  have it : ∀ {H : Hp} {σ : L2.St} {fr : List FV} {a b n : Int} (i : Nat) (z : Int), Fd K H σ fr → fr[0]? = some (.v (.ref p)) → LsD K H p [.int a, .int b, .int n] → ([PyData.int a, .int b, .int n] : List PyData)[i]? = some (.int z) → ED K (tOp (rIxL K) (tVar 0) (tC (.int (i : Int)))) σ H (.int z) := fun i z F h L hz => e_op (e_varL F h L) e_int (r_ixL (atI_nat hz))
  have E1 : ED K (tOp (rI0 fun i j => V.bl (decide (j < i))) (tOp (rIxL K) (tVar 0) (tC (.int 0))) (tC (.int 0))) _ H (.bool (decide (0 < a))) := e_op (it 0 a F0 rfl L rfl) e_int (r_I0 fun H => .bl _)
  by_cases ha : 0 < a
  · refine q_ifT F0 ((e_test E1).is (decide_eq_true ha)) fun H1 e1 F1 => ?_
    have L1 := L.same e1
    refine q_asg F1 (e_op (it 0 a F1 rfl L1 rfl) (e_var F1 rfl) (r_I m0 fun H => .int _)) fun σ2 H2 e2 F2 => ?_
    have L2' := L1.same e2
    refine q_setL (j := 0) (e_varV F2 rfl) e_int (e_op (it 0 a F2 rfl L2' rfl) (e_var F2 rfl) (r_I (z := .int (a / many)) ⟨m0, m1⟩ fun H => .int _)) rfl L2' rfl (by show 0 < 3; omega) fun H3 u3 L3 => ?_
    have F3 := F2.mu (by simp [noLF, noL]) u3
    refine s_ret (e_var F3 rfl) fun v H4 e4 d4 => ?_
    cases d4
    have hm := Int.emod_nonneg a (show many ≠ 0 by omega)
    have hl := Int.emod_lt_of_pos a m0
    exact k _ H4 hm hl ((mu_same (e1.trans e2)).trans (u3.same e4)) ⟨_, _, _, (L3.same e4), n0, by omega⟩
  · refine q_ifN F0 ((e_test E1).is (decide_eq_false ha)) fun H1 e1 F1 => ?_
    have L1 := L.same e1
    refine q_setL (j := 2) (e_varV F1 rfl) e_int (e_op (it 2 n F1 rfl L1 rfl) e_int (r_I0 (z := .int (n + 1)) fun H => .int _)) rfl L1 rfl (by show 2 < 3; omega) fun H2 u2 L2' => ?_
    have F2 := F1.mu (by simp [noLF, noL]) u2
    have L2'' : LsD K H2 p [.int a, .int b, .int (n + 1)] := L2'
    refine q_asg F2 (it 2 (n + 1) F2 rfl L2'' rfl) fun σ3 H3 e3 F3 => ?_
    have L3 := L2''.same e3
    have t64 : B64 (n + 1) := by unfold B64; omega
    have two : B64 (2 : Int) := by unfold B64; omega
    have sq : 2 * (n + 1) * (n + 1) ≤ 2 * 200000 * 200000 := by
      have h1 : 2 * (n + 1) * (n + 1) ≤ 2 * (n + 1) * 200000 := Int.mul_le_mul_of_nonneg_left (by omega) (by omega)
      omega
    have sq0 : 0 ≤ 2 * (n + 1) * (n + 1) := Int.mul_nonneg (by omega) (by omega)
    refine q_asg F3 (e_op (e_op (it 1 b F3 rfl L3 rfl) (e_op (e_op e_int (e_op (e_op e_int (e_var F3 rfl) (r_I (z := .int (2 * (n + 1))) (cmul_l two) fun H => .int _)) (e_var F3 rfl) (r_I (z := .int (2 * (n + 1) * (n + 1))) (cmul_r t64) fun H => .int _)) (r_I0 (z := .int (48271 + 2 * (n + 1) * (n + 1))) fun H => .int _)) (e_op e_int (e_var F3 rfl) (r_I (z := .int (65537 * (n + 1))) (cmul_r t64) fun H => .int _)) (r_I0 (z := .int (48271 + 2 * (n + 1) * (n + 1) + 65537 * (n + 1))) fun H => .int _)) (r_I (z := .int (b * (48271 + 2 * (n + 1) * (n + 1) + 65537 * (n + 1)))) (cmul_r (by unfold B64; omega)) fun H => .int _)) e_int (r_I (by decide) fun H => .int _)) fun σ4 H4 e4 F4 => ?_
    generalize hM : (b * (48271 + 2 * (n + 1) * (n + 1) + 65537 * (n + 1))) % 2305843009213693921 = m at F4
    refine q_asg F4 (e_op (e_op (e_op (e_var F4 rfl) e_int (r_I (by decide) fun H => .int _)) (e_op (e_var F4 rfl) e_int (r_I (cmul_l t64) fun H => .int _)) (r_I0 fun H => .int _)) e_int (r_I0 fun H => .int _)) fun σ5 H5 e5 F5 => ?_
    have hm0 := Int.emod_nonneg m (show (1000003 : Int) ≠ 0 by omega)
    have hm1 := Int.emod_lt_of_pos m (show (0 : Int) < 1000003 by omega)
    generalize m % 1000003 = mm at F5 hm0 hm1
    refine q_asg F5 (e_op (e_op (e_var F5 rfl) (e_var F5 rfl) (r_I (cmul_r (by unfold B64; omega)) fun H => .int _)) e_int (r_I (by decide) fun H => .int _)) fun σ6 H6 e6 F6 => ?_
    refine s_ret (e_op (e_op (e_op (e_var F6 rfl) e_int (r_I ⟨by decide, by decide⟩ fun H => .int _)) (e_op (e_var F6 rfl) e_int (r_I ⟨by decide, by decide⟩ fun H => .int _)) (r_I0 fun H => .int _)) (e_var F6 rfl) (r_I m0 fun H => .int _)) fun v H7 e7 d7 => ?_
    cases d7
    have e37 := (((e3.trans e4).trans e5).trans e6).trans e7
    exact k _ H7 (Int.emod_nonneg _ (by omega)) (Int.emod_lt_of_pos _ m0) ((mu_same e1).trans (u2.same e37)) ⟨_, _, _, L2''.same e37, by omega, by omega⟩

/-! ### pick -/
def spPick (K : PySem.W.Frag) : Sp := fun vs H Q _ => ∃ (p q : Addr) (c : Int) (ds : List PyData), vs = [.ref p, .ref q] ∧ q ≠ p ∧ HandAt K H p c ∧ LsD K H q ds ∧ noLs ds = true ∧ 0 < ds.length ∧ ds.length < 1000 ∧ c ≤ 100000 ∧
  ∀ (i : Nat) d v H', ds[i]? = some d → Dp K H' v d → Mu K [p] H H' → HandAt K H' p (c + 1) → Q v H'
theorem scLawPick : FnScope ["_law_hand_here", "_law_some"] ["_law_hand_here", "_law_some"] (defScope sLawPick) := ⟨rfl, rfl, rfl, by decide +kernel, rfl, by decide +kernel, by decide +kernel⟩
theorem ok_law_pick (T : Tx K mg) : Ok P w K mg base 2 (He.ga K "_law_pick") ["_law_hand_here", "_law_some"] (spPick K) := by
  obtain ⟨fd, F⟩ := T.f_law_pick
  have O_law_take : Ok P w K mg base 1 (He.ga K "_law_take") ["_law_hand_here", "_law_many"] (spTake K) := ok_law_take T
  refine ⟨fd, F.ok scLawPick (fun vs H Q E h => ?_) (fun cdv A outer s H vs Q E hr h => ?_), F.binds (fun _ _ _ _ _ _ us hl => match us, hl with | [_, _], _ => rfl), F.kp⟩
  · obtain ⟨_, _, _, _, rfl, _⟩ := h
    rfl
  obtain ⟨p, q, c, ds, rfl, hqp, hH, L, hn, l0, l1, hc, k⟩ := h
  refine ⟨_, (pss_one (ps_ret (pe_ix ix_list (pv 1) (pe_ok O_law_take (hr.mono (by decide)) T.g_law_take (pa_cons (pv 0) (pa_cons (pe_callB call_len_seq (by rfl) T.b_len (by decide +kernel) (pa_cons (pv 1) pa_nil)) pa_nil))) (fun _ _ => rfl)))), ?_⟩
  have F0 : Fd K H (L2.start ["_law_hand_here", "_law_some"] [.ref p, .ref q]) [.v (.ref p), .v (.ref q)] := .cons rfl (.cons rfl .nil)
  refine ⟨.ref q, F0.v (i := 1) rfl, ?_⟩
  refine ⟨.ref p, F0.v (i := 0) rfl, ?_⟩
  refine (e_cons (e_cb (e_cons (e_varL F0 rfl L) e_nil) c_lenL) e_nil) H (Same.refl H) _ fun vs H1 e1 d1 => ?_
  obtain ⟨v, rfl, dv⟩ := dpall1 d1
  cases dv
  refine ⟨p, _, c, rfl, hH.same e1, by omega, by omega, hc, fun r H2 r0 r1 u2 hH2 => ?_⟩
  have hqS : q ∉ [p] := by simp [hqp]
  obtain ⟨ws, hw, dw⟩ := (L.same e1).mu hn u2 hqS
  obtain ⟨j, rfl⟩ : ∃ j : Nat, r = (j : Int) := ⟨r.toNat, by omega⟩
  have hj : j < ds.length := by omega
  obtain ⟨d, hd⟩ : ∃ d, ds[j]? = some d := ⟨_, List.getElem?_eq_getElem hj⟩
  obtain ⟨v, hv, dv⟩ := dw.at_ hd
  refine ⟨q, ws, _, v, rfl, rfl, SqL.of hw, atI_nat hv, ?_⟩
  exact k j d v H2 hd dv ((mu_same e1).trans u2) hH2
end
end My
/-! the law's jobs -/
namespace My
open PySem PySem.Spec PyProof.Rows L2
section
variable {P : Program} {w : World} {K : PySem.W.Frag} {mg : Str → Option Value} {base : Heap}
section
variable {σ : L2.St} {H : Hp} {fr : List FV} {ta tm te : TE} {tr : TA} {tu tz : TS} {D : Ends} {p : Addr} {c many : Int} {ds : List PyData}
theorem x_args (h : EA K tr σ H ds) {Q : List V → Hp → Prop} (k : ∀ vs H1, Same H H1 → DpAll K H1 vs ds → Q vs H1) : tr σ H Q := h H (Same.refl H) Q k
theorem x_ed {d : PyData} (h : ED K te σ H d) {Q : VK} (k : ∀ v H1, Same H H1 → Dp K H1 v d → Q v H1) : te σ H Q := h H (Same.refl H) Q k
theorem x_pickT {Q : VK} (hh : EV ta σ H (.ref p)) (k : ∀ H1, Same H H1 → tr σ H1 fun vs H2 => vs.length ≤ sizeLine ∧ ∀ q, H2 q = none → spPick K [.ref p, .ref q] (upd H2 q (.lst vs)) Q E0) : tCall (spPick K) [] E0 (tCons ta (tCons (tLst tr) tNil)) σ H Q := hh H (Same.refl H) _ k
theorem x_opLL {tb tc : TE} {r1 r2 : R2} {d : PyData} {Q : VK} (ha : ED K ta σ H d) (k : ∀ v H1, Same H H1 → Dp K H1 v d → tb σ H1 fun y H2 => r2 v y H2 fun z H3 => tc σ H3 fun u H4 => r1 z u H4 Q) : tOp r1 (tOp r2 ta tb) tc σ H Q := ha H (Same.refl H) _ k
theorem x_take (hh : EV ta σ H (.ref p)) (hm : ED K tm σ H (.int many)) (hH : HandAt K H p c) (m0 : 0 < many) (m1 : many < 1073741824) (hc : c ≤ 100000) {Q : VK}
    (k : ∀ r H', 0 ≤ r → r < many → Mu K [p] H H' → HandAt K H' p (c + 1) → Q (.int r) H') : tCall (spTake K) [] E0 (tCons ta (tCons tm tNil)) σ H Q :=
  hh H (Same.refl H) _ fun H1 e1 => hm H1 e1 _ fun v H2 e2 d2 => by
    cases d2
    exact ⟨p, many, c, rfl, hH.same (e1.trans e2), m0, m1, hc, fun r H' h1 h2 h3 h4 => k r H' h1 h2 ((mu_same (e1.trans e2)).trans h3) h4⟩
theorem x_pick {tl : TE} {q : Addr} (hh : EV ta σ H (.ref p)) (hl : EV tl σ H (.ref q)) (hqp : q ≠ p) (hH : HandAt K H p c) (L : LsD K H q ds) (hn : noLs ds = true) (h0 : 0 < ds.length) (h1 : ds.length < 1000) (hc : c ≤ 100000) {Q : VK}
    (k : ∀ (i : Nat) d v H', ds[i]? = some d → Dp K H' v d → Mu K [p] H H' → HandAt K H' p (c + 1) → Q v H') : tCall (spPick K) [] E0 (tCons ta (tCons tl tNil)) σ H Q :=
  hh H (Same.refl H) _ fun H1 e1 => hl H1 e1 _ fun H2 e2 =>
    ⟨p, q, c, ds, rfl, hqp, hH.same (e1.trans e2), L.same (e1.trans e2), hn, h0, h1, hc, fun i d v H' a1 a2 a3 a4 => k i d v H' a1 a2 ((mu_same (e1.trans e2)).trans a3) a4⟩
/-- a pick off a list display -/
theorem x_pickC (hh : EV ta σ H (.ref p)) (h : EA K tr σ H ds) (hH : HandAt K H p c) (hn : noLs ds = true) (h0 : 0 < ds.length) (h1 : ds.length < 1000) (hc : c ≤ 100000) {Q : VK}
    (k : ∀ (i : Nat) d v H', ds[i]? = some d → Dp K H' v d → Mu K [p] H H' → HandAt K H' p (c + 1) → Q v H') : tCall (spPick K) [] E0 (tCons ta (tCons (tLst tr) tNil)) σ H Q :=
  hh H (Same.refl H) _ fun H1 e1 => h H1 e1 _ fun vs H2 e2 d2 => ⟨by rw [d2.len]; exact Nat.le_trans (show ds.length ≤ 100000 by omega) (by decide), fun q hq => by
    have hH2 := hH.same (e1.trans e2)
    have e3 : Same H2 (upd H2 q (.lst vs)) := same_new hq
    have hqp : q ≠ p := fun z => hH2.there (by rw [← z]; exact hq)
    exact ⟨p, q, c, ds, rfl, hqp, hH2.same e3, ⟨vs, upd_same, dpall_mono (kd_of e3) _ _ d2⟩, hn, h0, h1, hc, fun i d v H' a1 a2 a3 a4 => k i d v H' a1 a2 ((mu_same ((e1.trans e2).trans e3)).trans a3) a4⟩⟩
/-- for x in range(n), whatever changes -/
theorem s_forR {n j : Nat} (h : EA K tr σ H [.int (n : Int)]) (hn : n ≤ 1000000) (Pv : Nat → L2.St → Hp → Prop) (h0 : ∀ H1, Same H H1 → Pv 0 σ H1)
    (hs : ∀ i σ' H', i < n → Pv i σ' H' → tu { D with nx := Pv (i + 1), ct := Pv (i + 1), bk := D.nx } (σ'.set j (some (.int (i : Int)))) H') (hd : ∀ σ' H', Pv n σ' H' → D.nx σ' H') : tFor (iRng1 tr) (gName j) tu D σ H :=
  h H (Same.refl H) _ fun vs H1 e1 d1 => by
    obtain ⟨v, rfl, dv⟩ := dpall1 d1
    cases dv
    refine ⟨_, rfl, by omega, by omega, ?_⟩
    rw [Int.toNat_natCast]
    refine for_range (lo := 0) Pv (h0 H1 e1) (fun i σ' H' hi p => ?_) hd
    rw [Int.zero_add]
    exact hs i σ' H' hi p
theorem q_forR {n j : Nat} (h : EA K tr σ H [.int (n : Int)]) (hn : n ≤ 1000000) (Pv : Nat → L2.St → Hp → Prop) (h0 : ∀ H1, Same H H1 → Pv 0 σ H1)
    (hs : ∀ i σ' H', i < n → Pv i σ' H' → tu { D with nx := Pv (i + 1), ct := Pv (i + 1), bk := tz D } (σ'.set j (some (.int (i : Int)))) H') (hd : ∀ σ' H', Pv n σ' H' → tz D σ' H') : tSeq (tFor (iRng1 tr) (gName j) tu) tz D σ H :=
  s_forR (D := { D with nx := tz D }) h hn Pv h0 hs hd
/-- forgetting a slot's word -/
theorem Fd.forget (F : Fd K H σ fr) (i : Nat) : Fd K H σ (fr.set i .un) := by
  have key : ∀ {σ : L2.St} {fr : List FV} (i : Nat), Paired (fun (o : Option V) (f : FV) => FvOk K H f o) σ fr → Paired (fun (o : Option V) (f : FV) => FvOk K H f o) σ (fr.set i .un) := by
    intro σ fr i F
    induction F generalizing i with
    | nil => exact .nil
    | cons r t ih =>
      cases i with
      | zero => exact .cons True.intro t
      | succ i => exact .cons r (ih i)
  exact key i F
end

/-! ### jobs of one way -/
def OneWay (way : Int) (wt r : Nat) (j : Job) : Prop :=
  (way = 0 ∧ ∃ items, j = .sums items ∧ items.length ≤ 8 ∧ ∀ i, some i ∈ items → Bd i) ∨ (way = 1 ∧ ∃ id, j = .name id ∧ Bd id) ∨ (way = 2 ∧ ∃ m, j = .least m wt ∧ Bd m) ∨ (way = 3 ∧ ∃ m, j = .closer m r ∧ Bd m)
theorem jk_of {way : Int} {wt r n : Nat} {jobs : List Job} (hw : 0 ≤ way ∧ way < 4) (h : ∀ j ∈ jobs, OneWay way wt r j) (hn : jobs.length = n) (h1 : 1 ≤ wt) (h2 : wt ≤ n) (h3 : 1 ≤ r) (h4 : r ≤ 6) : JK jobs := by
  have : way = 0 ∨ way = 1 ∨ way = 2 ∨ way = 3 := by omega
  rcases this with rfl | rfl | rfl | rfl
  · refine .sums fun j hj => ?_
    rcases h j hj with ⟨_, q⟩ | ⟨z, _⟩ | ⟨z, _⟩ | ⟨z, _⟩
    · exact q
    all_goals cases z
  · refine .names fun j hj => ?_
    rcases h j hj with ⟨z, _⟩ | ⟨_, q⟩ | ⟨z, _⟩ | ⟨z, _⟩
    · cases z
    · exact q
    all_goals cases z
  · refine .leasts wt h1 (by omega) fun j hj => ?_
    rcases h j hj with ⟨z, _⟩ | ⟨z, _⟩ | ⟨_, q⟩ | ⟨z, _⟩
    · cases z
    · cases z
    · exact q
    · cases z
  · refine .closers r h3 h4 fun j hj => ?_
    rcases h j hj with ⟨z, _⟩ | ⟨z, _⟩ | ⟨z, _⟩ | ⟨_, q⟩
    · cases z
    · cases z
    · cases z
    · exact q
theorem noLs_J : ∀ js : List Job, noLs (js.map Job.enc) = true
  | [] => rfl
  | j :: js => by
    show (noL j.enc && noLs (js.map Job.enc)) = true
    rw [noL_J, noLs_J] <;> rfl
/-- a thing of a sums job -/
def ItemD (d : PyData) : Prop := ∃ o : Option Int, d = encO o ∧ ∀ i, o = some i → Bd i
def spBuilt (K : PySem.W.Frag) : Sp := fun vs H Q _ => ∃ (p : Addr) (n : Nat) (c : Int), vs = [.ref p, .int (n : Int)] ∧ 1 ≤ n ∧ n ≤ 5 ∧ HandAt K H p c ∧ c ≤ 50000 ∧
  ∀ jobs v H', JK jobs → jobs.length = n → Dp K H' v (.tuple (jobs.map Job.enc)) → Mu K [p] H H' → HandAt K H' p (c + 100) → Q v H'
theorem scLawBuilt : FnScope ["_law_hand_here", "_law_hands", "_law_way", "_law_wait", "_law_rounds", "_law_jobs", "_law_own", "_law_number", "_law_items", "_law_k", "_law_ident"] ["_law_hand_here", "_law_hands"] (defScope sLawBuilt) := ⟨rfl, rfl, rfl, by decide +kernel, rfl, by decide +kernel, by decide +kernel⟩
theorem ok_law_built (T : Tx K mg) : Ok P w K mg base 3 (He.ga K "_law_built") ["_law_hand_here", "_law_hands"] (spBuilt K) := by
  obtain ⟨fd, F⟩ := T.f_law_built
  have O_law_take : Ok P w K mg base 1 (He.ga K "_law_take") ["_law_hand_here", "_law_many"] (spTake K) := ok_law_take T
  have O_law_pick : Ok P w K mg base 2 (He.ga K "_law_pick") ["_law_hand_here", "_law_some"] (spPick K) := ok_law_pick T
  refine ⟨fd, F.ok scLawBuilt (fun vs H Q E h => ?_) (fun cdv A outer s H vs Q E hr h => ?_), F.binds (fun _ _ _ _ _ _ us hl => match us, hl with | [_, _], _ => rfl), F.kp⟩
  · obtain ⟨_, _, _, rfl, _⟩ := h
    rfl
  obtain ⟨p, n, c, rfl, n1, n5, hH, hc, k⟩ := h
  refine ⟨_, (pss_cons (ps_set (i := 2) scLawBuilt.nd rfl (Or.inl rfl) (pe_ok O_law_take (hr.mono (by decide)) T.g_law_take (pa_cons (pv 0) (pa_cons pe_int pa_nil))))
      (pss_cons (ps_par (i := 3) (j := 4) (by rfl) scLawBuilt.nd rfl rfl (by decide) rfl rfl (pa_cons (pe_op op_add pe_int (pe_ok O_law_take (hr.mono (by decide)) T.g_law_take (pa_cons (pv 0) (pa_cons (pv 1) pa_nil)))) (pa_cons (pe_op op_add pe_int (pe_ok O_law_take (hr.mono (by decide)) T.g_law_take (pa_cons (pv 0) (pa_cons pe_int pa_nil)))) pa_nil)) (by rfl))
      (pss_cons (ps_set (i := 5) scLawBuilt.nd rfl (Or.inl rfl) (pe_lst pa_nil))
      (pss_cons (ps_for PassesOwn.never rfl (pi_range1 (by rfl) T.b_range (pa_cons (pv 1) pa_nil)) (pg_name (i := 6) scLawBuilt.nd rfl (Or.inl rfl)) (pss_cons (ps_set (i := 7) scLawBuilt.nd rfl (Or.inl rfl) (pe_ok O_law_pick (hr.mono (by decide)) T.g_law_pick (pa_cons (pv 0) (pa_cons (pe_lst (pa_cons (pe_op op_sub (pe_ok O_law_take (hr.mono (by decide)) T.g_law_take (pa_cons (pv 0) (pa_cons pe_int pa_nil))) pe_int) (pa_cons (pe_op op_sub (pe_ok O_law_take (hr.mono (by decide)) T.g_law_take (pa_cons (pv 0) (pa_cons pe_int pa_nil))) pe_int) (pa_cons (pe_op op_sub (pe_op op_pow pe_int pe_int) pe_int) (pa_cons (pe_op op_sub pe_int (pe_op op_pow pe_int pe_int)) pa_nil))))) pa_nil))))
      (pss_cons (ps_setLc (i := 8) (own := [("_law_k", 9)]) (g := (gName 9)) (tt := tYes) (te := (tCall (spPick K) [] E0 (tCons (tVar 0) (tCons (tLst (tCons (tC .non) (tCons (tC .non) (tCons (tC (.int 1)) (tCons (tC (.int 5)) (tCons (tUn (rU fun i => .int (-i)) (tC (.int 3))) (tCons (tC (.int 0)) (tCons (tOp (rI0 fun i j => .int (i - j)) (tOp (rI CPow fun i j => .int (i ^ j.toNat)) (tC (.int 10)) (tC (.int 9))) (tC (.int 1))) tNil)))))))) tNil)))) rfl scLawBuilt.nd rfl rfl (sw_true rfl rfl rfl (by decide +kernel)) (pi_range1 (by rfl) T.b_range (pa_cons (pe_ok O_law_take (hr.mono (by decide)) T.g_law_take (pa_cons (pv 0) (pa_cons pe_int pa_nil))) pa_nil)) (blkOk_by (own := [("_law_k", 9)]) (N := ["_law_hand_here", "_law_hands", "_law_way", "_law_wait", "_law_rounds", "_law_jobs", "_law_own", "_law_number", "_law_items", "_law_k", "_law_ident"]) (sc := defScope sLawBuilt) (by decide +kernel)) (fun _ _ _ _ _ => (pg_name (i := 9) scLawBuilt.nd rfl (Or.inl rfl))) (fun _ _ _ _ _ => pts_nil) (fun _ _ _ _ _ => (pe_ok O_law_pick (hr.mono (by decide)) T.g_law_pick (pa_cons (pv 0) (pa_cons (pe_lst (pa_cons pe_non (pa_cons pe_non (pa_cons pe_int (pa_cons pe_int (pa_cons (pe_un un_neg pe_int) (pa_cons pe_int (pa_cons (pe_op op_sub (pe_op op_pow pe_int pe_int) pe_int) pa_nil)))))))) pa_nil)))))
      (pss_cons (ps_set (i := 10) scLawBuilt.nd rfl (Or.inl rfl) (pe_op op_sub (pe_op op_add (pe_op op_mul pe_int (pv 6)) (pe_ok O_law_take (hr.mono (by decide)) T.g_law_take (pa_cons (pv 0) (pa_cons pe_int pa_nil)))) pe_int))
      (pss_one (ps_expr (pe_bm PySem.F.plainAttrs_list PySem.F.slot_list_append PySem.F.type_list_append mt_append (pv 5) (pa_cons (pe_ix ix_list (pe_lst (pa_cons (pe_tup (pa_cons pe_str (pa_cons (pe_callTy call_tuple_of (by rfl) T.b_tuple (by decide +kernel) (pa_cons (pv 8) pa_nil)) pa_nil))) (pa_cons (pe_tup (pa_cons pe_str (pa_cons (pv 10) pa_nil))) (pa_cons (pe_tup (pa_cons pe_str (pa_cons (pv 7) (pa_cons (pv 3) pa_nil)))) (pa_cons (pe_tup (pa_cons pe_str (pa_cons (pv 7) (pa_cons (pv 4) pa_nil)))) pa_nil))))) (pv 2) (fun _ _ => rfl)) pa_nil))))))))
      (pss_one (ps_ret (pe_callTy call_tuple_of (by rfl) T.b_tuple (by decide +kernel) (pa_cons (pv 5) pa_nil)))))))), ?_⟩
  have F0 : Fd K H (L2.start ["_law_hand_here", "_law_hands", "_law_way", "_law_wait", "_law_rounds", "_law_jobs", "_law_own", "_law_number", "_law_items", "_law_k", "_law_ident"] [.ref p, .int (n : Int)]) [.v (.ref p), .d (.int (n : Int)), .un, .un, .un, .un, .un, .un, .un, .un, .un] :=
    .cons rfl (.cons ⟨_, rfl, .int _⟩ (.cons True.intro (.cons True.intro (.cons True.intro (.cons True.intro (.cons True.intro (.cons True.intro (.cons True.intro (.cons True.intro (.cons True.intro .nil))))))))))
  refine x_take (e_varV F0 rfl) e_int hH (by omega) (by omega) (by omega) fun way H1 w0 w1 u1 hH1 => ?_
  have F1 := (F0.mu (by simp [noLF, noL]) u1).set 2 (f := .d (.int way)) (v := .int way) (fvd (.int _))
  refine x_take (e_varV F1 rfl) (e_var F1 rfl) hH1 (by omega) (by omega) (by omega) fun r2 H2 a0 a1 u2 hH2 => ⟨_, _, rfl, rfl, ?_⟩
  have F2 := F1.mu (by simp [noLF, noL]) u2
  refine x_take (e_varV F2 rfl) e_int hH2 (by omega) (by omega) (by omega) fun r3 H3 b0 b1 u3 hH3 => ⟨_, _, rfl, rfl, ?_⟩
  refine ⟨_, _, rfl, ?_⟩
  obtain ⟨wt, hwt⟩ : ∃ wt : Nat, 1 + r2 = (wt : Int) := ⟨(1 + r2).toNat, by omega⟩
  obtain ⟨rd, hrd⟩ : ∃ rd : Nat, 1 + r3 = (rd : Int) := ⟨(1 + r3).toNat, by omega⟩
  have F3 := ((F2.mu (by simp [noLF, noL]) u3).set 3 (f := .d (.int (wt : Int))) (v := .int (1 + r2)) (fvd (by rw [hwt]; exact .int _))).set 4 (f := .d (.int (rd : Int))) (v := .int (1 + r3)) (fvd (by rw [hrd]; exact .int _))
  have u03 := (u1.trans u2).trans u3
  refine q_newL (i := 5) F3 e_nil (by show 0 ≤ 100000; omega) fun q σ4 H4 hq e4 L4 F4 => ?_
  have hqp : q ≠ p := fun z => hH3.there (by rw [← z]; exact hq)
  have hq0 : H q = none := by
    cases z : H q with
    | none => rfl
    | some o =>
      have := u03.keep q o z (by simp [hqp])
      rw [hq] at this
      cases this
  have hH4 := hH3.same e4
  have u4 : Mu K [p] H H4 := u03.same e4
  refine q_forR (e_cons (e_var F4 rfl) e_nil) (by omega) (fun i σ' H' => ∃ js : List Job, js.length = i ∧ (∀ j ∈ js, OneWay way wt rd j) ∧ LsD K H' q (js.map Job.enc) ∧ HandAt K H' p (c + 3 + 13 * (i : Int)) ∧ Mu K [q, p] H4 H' ∧
    Fd K H' σ' [.v (.ref p), .d (.int (n : Int)), .d (.int way), .d (.int (wt : Int)), .d (.int (rd : Int)), .v (.ref q), .un, .un, .un, .un, .un]) (fun H5 e5 => ?_) (fun i σ5 H5 hi P5 => ?_) (fun σ' H' P' => ?_)
  · exact ⟨[], rfl, by simp, L4.same e5, (hH4.same e5).le (by omega), mu_same e5, F4.same e5⟩
  · obtain ⟨js, jl, jw, L5, hH5, u5, G5⟩ := P5
    have F5 : Fd K H5 (σ5.set 6 (some (.int (i : Int)))) [.v (.ref p), .d (.int (n : Int)), .d (.int way), .d (.int (wt : Int)), .d (.int (rd : Int)), .v (.ref q), .d (.int (i : Int)), .un, .un, .un, .un] := G5.set 6 (fvd (.int _))
    have hjn := noLs_J js
    -- the number
    refine x_pickT (e_varV F5 rfl) fun H5a e5a => ?_
    have F5a := F5.same e5a
    refine x_take (e_varV F5a rfl) e_int (hH5.same e5a) (by omega) (by omega) (by omega) fun s1 H6 c0 c1 u6 hH6 => ⟨_, _, rfl, rfl, ?_⟩
    have F6 := F5a.mu (by simp [noLF, noL]) u6
    refine x_take (e_varV F6 rfl) e_int hH6 (by omega) (by omega) (by omega) fun s2 H7 d0 d1 u7 hH7 => ⟨_, _, rfl, rfl, ?_⟩
    have F7 := F6.mu (by simp [noLF, noL]) u7
    refine x_args (K := K) (e_cons (e_op (e_op e_int e_int (r_I (z := .int (1000000000 : Int)) ⟨by decide, by decide, by decide⟩ fun H => .int _)) e_int (r_I0 (z := .int (999999999 : Int)) fun H => .int _)) (e_cons (e_op e_int (e_op e_int e_int (r_I (z := .int (1000000000 : Int)) ⟨by decide, by decide, by decide⟩ fun H => .int _)) (r_I0 (z := .int (-999999999 : Int)) fun H => .int _)) e_nil)) fun vs8 H8 e8 dv8 => ?_
    have L7 : LsD K H7 q (js.map Job.enc) := ((L5.same e5a).mu hjn (u6.trans u7) (by simp [hqp]))
    refine ⟨by
      show vs8.length + 1 + 1 ≤ _
      rw [dv8.len]
      exact Nat.le_trans (show 4 ≤ 100000 by omega) (by decide), fun q8 hq8 => ?_⟩
    have e9 := e8.trans (same_new (o := .lst (.int (s1 - 20) :: .int (s2 - 20) :: vs8)) hq8)
    refine ⟨p, q8, _, [.int (s1 - 20), .int (s2 - 20), .int 999999999, .int (-999999999)], rfl, fun z => (hH7.same e8).there (by rw [← z]; exact hq8), hH7.same e9, ⟨_, upd_same, .cons (.int _) (.cons (.int _) (dpall_mono (kd_of (same_new hq8)) _ _ dv8))⟩, rfl, by show 0 < 4; omega, by show 4 < 1000; omega, by omega, fun i9 d9 v9 H9 hd9 dv9 u9 hH9 => ?_⟩
    obtain ⟨m, rfl, hm⟩ : ∃ m, d9 = .int m ∧ Bd m := by
      have lt := (List.getElem?_eq_some_iff.mp hd9).1
      have lt' : i9 < 4 := lt
      have : i9 = 0 ∨ i9 = 1 ∨ i9 = 2 ∨ i9 = 3 := by omega
      rcases this with rfl | rfl | rfl | rfl
      all_goals
        refine ⟨_, (Option.some.inj hd9).symm, ?_⟩
        unfold Bd topN
        omega
    have u59 : Mu K [p] H5 H9 := (((mu_same e5a).trans (u6.trans u7)).same e9).trans u9
    have F9 : Fd K H9 _ [.v (.ref p), .d (.int (n : Int)), .d (.int way), .d (.int (wt : Int)), .d (.int (rd : Int)), .v (.ref q), .d (.int (i : Int)), .d (.int m), .un, .un, .un] := (F5.mu (by simp [noLF, noL]) u59).set 7 (fvd dv9)
    -- the things
    refine x_take (e_varV F9 rfl) e_int hH9 (by omega) (by omega) (by omega) fun cnt H10 f0 f1 u10 hH10 => ⟨cnt, rfl, by omega, by omega, fun Dl hD => ?_⟩
    have F10 := F9.mu (by simp [noLF, noL]) u10
    have hpD : p ≠ Dl := fun z => hH10.there (by rw [z]; exact hD)
    refine lc_range (lo := 0) (fun j' H' => ∃ os : List (Option Int), os.length = j' ∧ (∀ x, some x ∈ os → Bd x) ∧ LsD K H' Dl (os.map encO) ∧ HandAt K H' p (c + 3 + 13 * (i : Int) + 4 + (j' : Int)) ∧ Mu K [Dl, p] H10 H') ?_ (fun j' H' hj' P' => ?_) (fun H' P' => ?_)
    · have e11 : Same H10 (upd H10 Dl (.lst [])) := same_new hD
      exact ⟨[], rfl, by simp, ⟨[], upd_same, .nil⟩, (hH10.same e11).le (by omega), mu_same e11⟩
    · obtain ⟨os, ol, ob, LD, hH', u'⟩ := P'
      have hj8 : j' < 9 := by omega
      have Fw0 := (F10.mu (by simp [noLF, noL]) u').wipe [9]
      have Fw : Fd K H' ((L2.wipe _ [9]).set 9 (some (.int (0 + (j' : Int))))) _ := Fw0.set 9 (f := .d (.int (0 + (j' : Int)))) (v := .int (0 + (j' : Int))) (fvd (.int _))
      refine ⟨by rw [wipe_set (by simp)]; exact wipe_wipe, ?_⟩
      refine x_pickC (e_varV Fw rfl) (e_cons e_non (e_cons e_non (e_cons e_int (e_cons e_int (e_cons (e_un e_int) (e_cons e_int (e_cons (e_op (e_op e_int e_int (r_I (z := .int (1000000000 : Int)) ⟨by decide, by decide, by decide⟩ fun H => .int _)) e_int (r_I0 (z := .int (999999999 : Int)) fun H => .int _)) e_nil))))))) hH' rfl (by show 0 < 7; omega) (by show 7 < 1000; omega) (by omega) fun i2 d2 v2 H2 hd2 dv2 u2 hH2 => ?_
      obtain ⟨o, rfl, hob⟩ : ItemD d2 := by
        have lt := (List.getElem?_eq_some_iff.mp hd2).1
        have lt' : i2 < 7 := lt
        have : i2 = 0 ∨ i2 = 1 ∨ i2 = 2 ∨ i2 = 3 ∨ i2 = 4 ∨ i2 = 5 ∨ i2 = 6 := by omega
        rcases this with rfl | rfl | rfl | rfl | rfl | rfl | rfl
        · exact ⟨none, (Option.some.inj hd2).symm, by simp⟩
        · exact ⟨none, (Option.some.inj hd2).symm, by simp⟩
        all_goals
          refine ⟨some _, (Option.some.inj hd2).symm, fun i hi => ?_⟩
          cases hi
          unfold Bd topN
          omega
      obtain ⟨ws, hw, dw⟩ := LD.mu (noLs_O os) u2 (by simp [Ne.symm hpD])
      refine ⟨ws, hw, by rw [dw.len, List.length_map]; exact Nat.lt_of_lt_of_le (show os.length < 100000 by omega) (by decide), os ++ [o], by simp [ol], ?_, ?_, ?_, ?_⟩
      · intro x hx
        rcases List.mem_append.mp hx with hx | hx
        · exact ob x hx
        · exact hob x (List.mem_singleton.mp hx).symm
      · rw [List.map_append]
        exact LsD.upd (dw.snoc dv2) (noLs_app (noLs_O os) (noLs_O [o])) hw
      · exact (hH2.mu (mu_upd (S := [Dl]) hw (by simp)) (by simp [hpD])).le (by omega)
      · exact (u'.trans (u2.mono (by simp))).trans (mu_upd hw (by simp))
    · obtain ⟨os, ol, ob, LD, hH', u'⟩ := P'
      have u11 : Mu K [p] H10 H' := u'.drop hD
      have F11 : Fd K H' _ [.v (.ref p), .d (.int (n : Int)), .d (.int way), .d (.int (wt : Int)), .d (.int (rd : Int)), .v (.ref q), .d (.int (i : Int)), .d (.int m), .v (.ref Dl), .un, .un] := (F10.mu (by simp [noLF, noL]) u11).set 8 (f := .v (.ref Dl)) rfl
      refine x_opLL (e_op e_int (e_var F11 rfl) (r_I (z := .int (8 * (i : Int))) (cmul_l (by unfold B64; omega)) fun H => .int _)) fun v12 H12 e12 d12 => ?_
      cases d12
      have F12 := F11.same e12
      refine x_take (e_varV F12 rfl) e_int (hH'.same e12) (by omega) (by omega) (by omega) fun s4 H13 g0 g1 u13 hH13 => ⟨_, _, rfl, rfl, ⟨_, _, rfl, rfl, ?_⟩⟩
      have F13 : Fd K H13 _ [.v (.ref p), .d (.int (n : Int)), .d (.int way), .d (.int (wt : Int)), .d (.int (rd : Int)), .v (.ref q), .d (.int (i : Int)), .d (.int m), .v (.ref Dl), .un, .d (.int (8 * (i : Int) + s4 - 20))] := (F12.mu (by simp [noLF, noL]) u13).set 10 (f := .d (.int (8 * (i : Int) + s4 - 20))) (v := .int (8 * (i : Int) + s4 - 20)) (fvd (.int _))
      have LD13 : LsD K H13 Dl (os.map encO) := (LD.same e12).mu (noLs_O os) u13 (by simp [Ne.symm hpD])
      have u513 : Mu K [p] H5 H13 := (((u59.trans u10).trans u11).same e12).trans u13
      have L13 : LsD K H13 q (js.map Job.enc) := L5.mu hjn u513 (by simp [hqp])
      obtain ⟨j, hj, hjw⟩ : ∃ j : Job, atI [Job.enc (.sums os), Job.enc (.name (8 * (i : Int) + s4 - 20)), Job.enc (.least m wt), Job.enc (.closer m rd)] way = some j.enc ∧ OneWay way wt rd j := by
        have : way = 0 ∨ way = 1 ∨ way = 2 ∨ way = 3 := by omega
        rcases this with rfl | rfl | rfl | rfl
        · exact ⟨.sums os, rfl, .inl ⟨rfl, os, rfl, by omega, ob⟩⟩
        · exact ⟨.name _, rfl, .inr (.inl ⟨rfl, _, rfl, by unfold Bd topN; omega⟩)⟩
        · exact ⟨.least m wt, rfl, .inr (.inr (.inl ⟨rfl, m, rfl, hm⟩))⟩
        · exact ⟨.closer m rd, rfl, .inr (.inr (.inr ⟨rfl, m, rfl, hm⟩))⟩
      refine s_app (d := j.enc) (e_varV F13 rfl) (e_op (e_lst (e_cons (e_tup (e_cons e_str (e_cons (e_cb (e_cons (e_varL F13 rfl LD13) e_nil) c_tupL) e_nil)) (by show 2 ≤ 100000; omega)) (e_cons (e_tup (e_cons e_str (e_cons (e_var F13 rfl) e_nil)) (by show 2 ≤ 100000; omega)) (e_cons (e_tup (e_cons e_str (e_cons (e_var F13 rfl) (e_cons (e_var F13 rfl) e_nil))) (by show 3 ≤ 100000; omega)) (e_cons (e_tup (e_cons e_str (e_cons (e_var F13 rfl) (e_cons (e_var F13 rfl) e_nil))) (by show 3 ≤ 100000; omega)) e_nil)))) (by show 4 ≤ 100000; omega)) (e_var F13 rfl) (r_ixL hj)) (noL_J j) L13 hjn (by rw [List.length_map]; omega) fun H14 u14 L14 => ?_
      refine ⟨js ++ [j], by simp [jl], ?_, ?_, ?_, ?_, ?_⟩
      · intro x hx
        rcases List.mem_append.mp hx with hx | hx
        · exact jw x hx
        · rw [List.mem_singleton.mp hx]
          exact hjw
      · rw [List.map_append]
        exact L14
      · exact (hH13.mu u14 (by simp [Ne.symm hqp])).le (by omega)
      · exact (u5.trans (u513.mono (by simp))).trans (u14.mono (by simp))
      · exact (((F13.mu (by simp [noLF, noL]) u14).forget 6).forget 7 |>.forget 8).forget 10
  · obtain ⟨js, jl, jw, L5, hH5, u5, G5⟩ := P'
    refine s_ret (e_cb (e_cons (e_varL G5 rfl L5) e_nil) c_tupL) fun v H6 e6 d6 => ?_
    have uall : Mu K [p] H H6 := (((u4.mono (S' := [q, p]) (by simp)).trans u5).same e6).drop hq0
    exact k js v H6 (jk_of ⟨w0, w1⟩ jw jl (by omega) (by omega) (by omega) (by omega)) jl d6 uall ((hH5.same e6).le (by omega))
end
end My
/-! the law's questions that change nothing -/
namespace My
open PySem PySem.Spec PyProof.Rows L2
section
variable {P : Program} {w : World} {K : PySem.W.Frag} {mg : Str → Option Value} {base : Heap}
section
variable {σ : L2.St} {H : Hp} {fr : List FV} {ta tb tc te : TE} {tz : TS} {D : Ends} {i : Nat}
theorem e_lenset {ns : List Int} (h : ED K te σ H (.list (ns.map PyData.int))) (hn : ns.Nodup) (hl : ns.length ≤ 4000) : ED K (RZ.tLenSetI K te) σ H (.int (ns.length : Nat)) := fun H1 e Q q => h H1 e _ fun v H2 e2 d2 => by
  obtain ⟨a, xs, rfl, hs, hd⟩ := dp_lst d2
  have := hd.ints
  subst this
  exact ⟨a, ns, rfl, hs, hn, hl, q _ H2 e2 (.int _)⟩
theorem e_chain {a b c : Int} (ha : ED K ta σ H (.int a)) (hb : ED K tb σ H (.int b)) (hc : ED K tc σ H (.int c)) : ED K (tChain (rI0 fun i j => .bl (decide (i ≤ j))) (rI0 fun i j => .bl (decide (i ≤ j))) ta tb tc) σ H (.bool (decide (a ≤ b) && decide (b ≤ c))) := fun H1 e Q q =>
  ha H1 e _ fun v H2 e2 d2 => hb H2 (e.trans e2) _ fun u H3 e3 d3 => by
    cases d2; cases d3
    refine ⟨a, b, rfl, rfl, _, rfl, ?_⟩
    cases hk : decide (a ≤ b) with
    | true =>
      refine iteT (hc H3 ((e.trans e2).trans e3) _ fun z H4 e4 d4 => ?_)
      cases d4
      refine ⟨b, c, rfl, rfl, ?_⟩
      have q' := q (.bl (decide (b ≤ c))) H4 ((e2.trans e3).trans e4)
      rw [hk] at q'
      exact q' (.bl _)
    | false =>
      have q' := q (.bl false) H3 (e2.trans e3)
      rw [hk] at q'
      exact iteF (q' (.bl _))
theorem q_sorted {ns : List Int} (F : Fd K H σ fr) (h : ED K te σ H (.list (ns.map PyData.int))) (hl : ns.length < 64) (k : ∀ (U : List Int) (σ' : L2.St) (H1 : Hp), U.Nodup → (∀ u : Int, u ∈ U ↔ u ∈ ns) → Same H H1 → Fd K H1 σ' (fr.set i (.d (.list (U.map PyData.int)))) → tz D σ' H1) :
    tSeq (tAsg (tCB (rSortedSet w) (tCons (tCB (rSetL K w) (tCons te tNil)) tNil)) (gName i)) tz D σ H := h H (Same.refl H) _ fun v H1 e1 d1 => by
  obtain ⟨a, xs, rfl, hs, hd⟩ := dp_lst d1
  have := hd.ints
  subst this
  refine ⟨a, ns, rfl, hs, by omega, fun p c hp hc => ?_⟩
  refine ⟨p, _, c, rfl, upd_same, by omega, fun U p2 hU hm _ hp2 => ?_⟩
  have e2 := (e1.trans (same_new (o := SetO w p (fun j => decide (j ∈ ns)) c) hp)).trans (same_new (o := .lst (U.map V.int)) hp2)
  refine k U _ _ (hU.imp fun z => by omega) (fun u => by rw [hm u]; simp) e2 ((F.same e2).set i (fvd (.lst (SqL.of upd_same) ?_)))
  have : ∀ (l : List Int) (H : Hp), DpAll K H (l.map V.int) (l.map PyData.int) := by
    intro l H
    induction l with
    | nil => exact .nil
    | cons x l ih => exact .cons (.int x) ih
  exact this U _
end

theorem scLawLess : FnScope ["_law_one", "_law_other"] ["_law_one", "_law_other"] (defScope sLawLess) := ⟨rfl, rfl, rfl, by decide +kernel, rfl, by decide +kernel, by decide +kernel⟩
theorem ok_law_less (T : Tx K mg) : Ok P w K mg base 1 (He.ga K "_law_less") ["_law_one", "_law_other"] (spD K RLess) := by
  obtain ⟨fd, F⟩ := T.f_law_less
  refine ⟨fd, F.ok scLawLess (fun vs H Q E h => spD_len (n := 2) (fun ds d ⟨_, _, e, _⟩ => by rw [e] <;> rfl) h) (fun cdv A outer s H vs Q E hr h => ?_), F.binds (fun _ _ _ _ _ _ us hl => match us, hl with | [_, _], _ => rfl), F.kp⟩
  obtain ⟨ds, d, hd, ⟨x, y, rfl, bx, by_, rfl⟩, k⟩ := h
  refine ⟨_, (pss_one (ps_ret (pe_cmpR op_lt (pe_op op_mul (pe_ix ix_tup (pv 0) pe_int (fun _ _ => rfl)) (pe_ix ix_tup (pv 1) pe_int (fun _ _ => rfl))) (pe_op op_mul (pe_ix ix_tup (pv 1) pe_int (fun _ _ => rfl)) (pe_ix ix_tup (pv 0) pe_int (fun _ _ => rfl))) (nomark _)))), ?_⟩
  have F0 : Fd K H (L2.start ["_law_one", "_law_other"] vs) [.d (encF x), .d (encF y)] := fd_begin hd
  refine s_ret (e_op (e_op (e_op (e_var F0 rfl) e_int (r_ixT (z := .int x.1) (by rfl))) (e_op (e_var F0 rfl) e_int (r_ixT (z := .int y.2) (by rfl))) (r_I (cmul_l bx) fun H => .int _))
    (e_op (e_op (e_var F0 rfl) e_int (r_ixT (z := .int y.1) (by rfl))) (e_op (e_var F0 rfl) e_int (r_ixT (z := .int x.2) (by rfl))) (r_I (cmul_l by_) fun H => .int _)) (r_I0 fun H => .bl _)) k

theorem some_ans : ∀ l : List (Option Ans), ((l.map encA).filter fun d => !isNone d).map (fun d => d) = (l.filterMap id).map Ans.enc
  | [] => rfl
  | none :: l => some_ans l
  | some a :: l => by
    have h : isNone a.enc = false := by cases a <;> rfl
    have ih := some_ans l
    rw [List.map_cons, List.filter_cons]
    show List.map (fun d => d) (if (!isNone a.enc) = true then a.enc :: _ else _) = a.enc :: (l.filterMap id).map Ans.enc
    rw [h, ← ih]
    rfl
def scd : PyData → PyData
  | .tuple (_ :: d :: _) => d
  | _ => .int 0
theorem mul_b {a b A : Int} (h1 : -A ≤ a) (h2 : a ≤ A) (b0 : 0 < b) (b1 : b ≤ 64) : -(64 * A) ≤ a * b ∧ a * b ≤ 64 * A := by
  have hA : 0 ≤ A := by omega
  constructor
  · have x1 : (-A) * b ≤ a * b := Int.mul_le_mul_of_nonneg_right h1 (by omega)
    have x2 : A * b ≤ A * 64 := Int.mul_le_mul_of_nonneg_left b1 hA
    rw [Int.neg_mul] at x1
    omega
  · have x1 : a * b ≤ A * b := Int.mul_le_mul_of_nonneg_right h2 (by omega)
    have x2 : A * b ≤ A * 64 := Int.mul_le_mul_of_nonneg_left b1 hA
    omega
def RFit (ds : List PyData) (d : PyData) : Prop := ∃ (jobs : List Job) (ans : List (Option Ans)) (there : Int), ds = [.tuple (jobs.map Job.enc), .list (ans.map encA), .int there] ∧ Fit jobs ans there ∧ jobs ≠ [] ∧ jobs.length ≤ 5 ∧ ans.length ≤ 5 ∧ 0 ≤ there ∧ there ≤ 100 ∧ d = .bool true
theorem scLawFit : FnScope ["_law_jobs", "_law_answers", "_law_there", "_law_some", "_law_answer", "_law_word", "_law_numbers", "_law_job", "_law_unlike", "_law_one", "_law_low", "_law_high", "_law_wide", "_law_r", "_law_other"] ["_law_jobs", "_law_answers", "_law_there"] (defScope sLawFit) := ⟨rfl, rfl, rfl, by decide +kernel, rfl, by decide +kernel, by decide +kernel⟩
theorem ok_law_fit (T : Tx K mg) : Ok P w K mg base 2 (He.ga K "_law_fit") ["_law_jobs", "_law_answers", "_law_there"] (spD K RFit) := by
  obtain ⟨fd, F⟩ := T.f_law_fit
  have O_law_less : Ok P w K mg base 1 (He.ga K "_law_less") ["_law_one", "_law_other"] (spD K RLess) := ok_law_less T
  refine ⟨fd, F.ok scLawFit (fun vs H Q E h => spD_len (n := 3) (fun ds d ⟨_, _, _, e, _⟩ => by rw [e] <;> rfl) h) (fun cdv A outer s H vs Q E hr h => ?_), F.binds (fun _ _ _ _ _ _ us hl => match us, hl with | [_, _, _], _ => rfl), F.kp⟩
  obtain ⟨ds, d, hd, ⟨jobs, ans, th, rfl, hf, hne, hjl, hal, t0, t1, rfl⟩, k⟩ := h
  refine ⟨_, (pss_cons (ps_setLc (i := 3) (own := [("_law_answer", 4)]) (g := (gName 4)) (tt := (tTest (tOp (fun x y H Q => y = .non ∧ Q (.bl (!decide (x = .non))) H) (tVar 4) (tC .non)))) (te := (tVar 4)) rfl scLawFit.nd rfl rfl (sw_true rfl rfl rfl (by decide +kernel)) (pi_list (pv 1)) (blkOk_by (own := [("_law_answer", 4)]) (N := ["_law_jobs", "_law_answers", "_law_there", "_law_some", "_law_answer", "_law_word", "_law_numbers", "_law_job", "_law_unlike", "_law_one", "_law_low", "_law_high", "_law_wide", "_law_r", "_law_other"]) (sc := defScope sLawFit) (by decide +kernel)) (fun _ _ _ _ _ => (pg_name (i := 4) scLawFit.nd rfl (Or.inl rfl))) (fun _ _ _ _ _ => (pts_one (pt_cmpR op_notN (pv 4) pe_non (nomark _)))) (fun _ _ _ _ _ => (pv 4)))
      (pss_cons (ps_set (i := 5) scLawFit.nd rfl (Or.inl rfl) (pe_ix ix_tup (pe_ix ix_tup (pv 0) pe_int (fun _ _ => rfl)) pe_int (fun _ _ => rfl)))
      (pss_cons (ps_if (pt_cmpR op_eq (pv 5) pe_str (nomark _)) (pss_one (ps_ret (pe_and (pe_cmpR op_eq (RZ.pe_lenSetI (by rfl) T.b_len (by rfl) T.b_set (pv 3)) (pe_callB call_len_seq (by rfl) T.b_len (by decide +kernel) (pa_cons (pv 3) pa_nil)) (nomark _)) (pe_one (pe_callB (cr_all rfl) (by rfl) T.b_all (by decide +kernel) (pa_cons (pe_lc (own := [("_law_one", 9)]) (g := (gName 9)) (tt := tYes) (te := (tChain (rI0 fun i j => .bl (decide (i ≤ j))) (rI0 fun i j => .bl (decide (i ≤ j))) (tC (.int 1)) (tVar 9) (tOp (rI0 fun i j => .int (i - j)) (tOp (rI CMul fun i j => .int (i * j)) (tC (.int 2)) (tVar 2)) (tC (.int 1))))) (by rfl) scLawFit.nd (pi_list (pv 3)) (blkOk_by (own := [("_law_one", 9)]) (N := ["_law_jobs", "_law_answers", "_law_there", "_law_some", "_law_answer", "_law_word", "_law_numbers", "_law_job", "_law_unlike", "_law_one", "_law_low", "_law_high", "_law_wide", "_law_r", "_law_other"]) (sc := defScope sLawFit) (by decide +kernel)) (fun _ _ _ _ _ => (pg_name (i := 9) scLawFit.nd rfl (Or.inl rfl))) (fun _ _ _ _ _ => pts_nil) (fun _ _ _ _ _ => (pe_chain op_le op_le pe_int (pv 9) (pe_op op_sub (pe_op op_mul pe_int (pv 2)) pe_int)))) pa_nil)))))) pss_nil)
      (pss_cons (ps_set (i := 6) scLawFit.nd rfl (Or.inr rfl) (pe_lc (own := [("_law_job", 7)]) (g := (gName 7)) (tt := tYes) (te := (tOp (rIxT K) (tVar 7) (tC (.int 1)))) (by rfl) scLawFit.nd (pi_tup (pv 0)) (blkOk_by (own := [("_law_job", 7)]) (N := ["_law_jobs", "_law_answers", "_law_there", "_law_some", "_law_answer", "_law_word", "_law_numbers", "_law_job", "_law_unlike", "_law_one", "_law_low", "_law_high", "_law_wide", "_law_r", "_law_other"]) (sc := defScope sLawFit) (by decide +kernel)) (fun _ _ _ _ _ => (pg_name (i := 7) scLawFit.nd rfl (Or.inl rfl))) (fun _ _ _ _ _ => pts_nil) (fun _ _ _ _ _ => (pe_ix ix_tup (pv 7) pe_int (fun _ _ => rfl)))))
      (pss_cons (ps_if (pt_cmpR op_eq (pv 5) pe_str (nomark _)) (pss_cons (ps_set (i := 8) scLawFit.nd rfl (Or.inl rfl) (pe_callB (cr_sortedSet rfl) (by rfl) T.b_sorted (by decide +kernel) (pa_cons (pe_callTy (cr_setL rfl) (by rfl) T.b_set (by decide +kernel) (pa_cons (pv 3) pa_nil)) pa_nil)))
      (pss_one (ps_ret (pe_and (pe_callB (cr_all rfl) (by rfl) T.b_all (by decide +kernel) (pa_cons (pe_lc (own := [("_law_one", 9)]) (g := (gName 9)) (tt := tYes) (te := (tOp (rIn K false) (tVar 9) (tVar 6))) (by rfl) scLawFit.nd (pi_list (pv 8)) (blkOk_by (own := [("_law_one", 9)]) (N := ["_law_jobs", "_law_answers", "_law_there", "_law_some", "_law_answer", "_law_word", "_law_numbers", "_law_job", "_law_unlike", "_law_one", "_law_low", "_law_high", "_law_wide", "_law_r", "_law_other"]) (sc := defScope sLawFit) (by decide +kernel)) (fun _ _ _ _ _ => (pg_name (i := 9) scLawFit.nd rfl (Or.inl rfl))) (fun _ _ _ _ _ => pts_nil) (fun _ _ _ _ _ => (pe_cmpR op_in_seq (pv 9) (pv 6) (by rfl)))) pa_nil)) (pe_one (pe_cmpR op_le (pe_callB call_len_seq (by rfl) T.b_len (by decide +kernel) (pa_cons (pv 8) pa_nil)) (pe_op op_add (pe_op op_sub (pe_callB call_len_seq (by rfl) T.b_len (by decide +kernel) (pa_cons (pv 0) pa_nil)) (pe_ix ix_tup (pe_ix ix_tup (pv 0) pe_int (fun _ _ => rfl)) pe_int (fun _ _ => rfl))) pe_int) (nomark _))))))) pss_nil)
      (pss_cons (ps_if (pt_cmpR op_eq (pv 5) pe_str (nomark _)) (pss_cons (ps_par (i := 10) (j := 11) (by rfl) scLawFit.nd rfl rfl (by decide) rfl rfl (pa_cons (pe_tup (pa_cons (pe_callB (cr_min rfl) (by rfl) T.b_min (by decide +kernel) (pa_cons (pv 6) pa_nil)) (pa_cons pe_int pa_nil))) (pa_cons (pe_tup (pa_cons (pe_callB (cr_max rfl) (by rfl) T.b_max (by decide +kernel) (pa_cons (pv 6) pa_nil)) (pa_cons pe_int pa_nil))) pa_nil)) (by rfl))
      (pss_cons (ps_set (i := 12) scLawFit.nd rfl (Or.inl rfl) (pe_tup (pa_cons (pe_op op_sub (pe_ix ix_tup (pv 11) pe_int (fun _ _ => rfl)) (pe_ix ix_tup (pv 10) pe_int (fun _ _ => rfl))) (pa_cons pe_int pa_nil))))
      (pss_cons (ps_for PassesOwn.never rfl (pi_range1 (by rfl) T.b_range (pa_cons (pe_ix ix_tup (pe_ix ix_tup (pv 0) pe_int (fun _ _ => rfl)) pe_int (fun _ _ => rfl)) pa_nil)) (pg_name (i := 13) scLawFit.nd rfl (Or.inl rfl)) (pss_one (ps_set (i := 12) scLawFit.nd rfl (Or.inl rfl) (pe_tup (pa_cons (pe_ix ix_tup (pv 12) pe_int (fun _ _ => rfl)) (pa_cons (pe_op op_mul pe_int (pe_ix ix_tup (pv 12) pe_int (fun _ _ => rfl))) pa_nil))))))
      (pss_one (ps_for PassesOwn.never rfl (pi_list (pv 3)) (pg_name (i := 9) scLawFit.nd rfl (Or.inl rfl)) (pss_cons (ps_if (PW.pt (pw_or (pt_val (pe_ok O_law_less (hr.mono (by decide)) T.g_law_less (pa_cons (pv 9) (pa_cons (pv 10) pa_nil)))) (pw_or1 (pt_val (pe_ok O_law_less (hr.mono (by decide)) T.g_law_less (pa_cons (pv 11) (pa_cons (pv 9) pa_nil))))))) (pss_one (ps_ret pe_bl)) pss_nil)
      (pss_one (ps_for PassesOwn.never rfl (pi_list (pv 3)) (pg_name (i := 14) scLawFit.nd rfl (Or.inl rfl)) (pss_one (ps_if (pt_val (pe_ok O_law_less (hr.mono (by decide)) T.g_law_less (pa_cons (pv 12) (pa_cons (pe_tup (pa_cons (pe_op op_sub (pe_op op_mul (pe_ix ix_tup (pv 9) pe_int (fun _ _ => rfl)) (pe_ix ix_tup (pv 14) pe_int (fun _ _ => rfl))) (pe_op op_mul (pe_ix ix_tup (pv 14) pe_int (fun _ _ => rfl)) (pe_ix ix_tup (pv 9) pe_int (fun _ _ => rfl)))) (pa_cons (pe_op op_mul (pe_ix ix_tup (pv 9) pe_int (fun _ _ => rfl)) (pe_ix ix_tup (pv 14) pe_int (fun _ _ => rfl))) pa_nil))) pa_nil)))) (pss_one (ps_ret pe_bl)) pss_nil)))))))))) pss_nil)
      (pss_one (ps_ret pe_bl)))))))), ?_⟩
  have F0 : Fd K H (L2.start ["_law_jobs", "_law_answers", "_law_there", "_law_some", "_law_answer", "_law_word", "_law_numbers", "_law_job", "_law_unlike", "_law_one", "_law_low", "_law_high", "_law_wide", "_law_r", "_law_other"] vs) [.d (.tuple (jobs.map Job.enc)), .d (.list (ans.map encA)), .d (.int th), .un, .un, .un, .un, .un, .un, .un, .un, .un, .un, .un, .un] := fd_begin hd
  obtain ⟨j0, hj0⟩ : ∃ j0, jobs[0]? = some j0 := by
    cases jobs with
    | nil => exact absurd rfl hne
    | cons j _ => exact ⟨j, rfl⟩
  have hj0m := List.mem_of_getElem? hj0
  have at0' : atI (jobs.map Job.enc) 0 = some j0.enc := atI_nat (j := 0) (by rw [List.getElem?_map, hj0] <;> rfl)
  have sl : (ans.filterMap id).length ≤ 5 := Nat.le_trans (List.length_filterMap_le _ _) hal
  refine q_asg F0 ((e_lcL (ds := ans.map encA) (fun d => !isNone d) (fun d => d) F0 (e_var F0 rfl) (by rw [List.length_map]; omega) (by simp) (fun d hd' _ => ?_) (fun d hd' σ' H' e F' => e_test (e_op (e_var F' rfl) e_non r_notN)) (fun d hd' _ σ' H' e F' => e_var F' rfl)).is (by rw [some_ans])) fun σ1 H1 e1 F1 => ?_
  · obtain ⟨a, _, rfl⟩ := List.mem_map.mp hd'
    exact noL_A a
  refine q_asg F1 (e_wd (e_op (e_var F1 rfl) e_int (r_ixT at0'))) fun σ2 H2 e2 F2 => ?_
  have tst : ∀ (w2 : Str) {H : Hp} {σ : L2.St} {fr : List FV}, Fd K H σ fr → fr[5]? = some (.d (.str j0.wd)) → ET (tTest (tOp rEq (tVar 5) (tC (.str w2)))) σ H (decide (j0.wd = w2)) := fun w2 H σ fr F h =>
    e_test (e_op (e_var F h) e_str r_eqS)
  have numsE : ∀ {H : Hp} {σ : L2.St} {fr : List FV}, (∀ j ∈ jobs, scd j.enc = .int j.nu ∧ ∃ x1 r, j.enc = .tuple (x1 :: .int j.nu :: r)) → Fd K H σ fr → fr[0]? = some (.d (.tuple (jobs.map Job.enc))) → (wipeF fr [7]).length = 15 →
      ED K (tLc (iTup K (tVar 0)) (gName 7) tYes (tOp (rIxT K) (tVar 7) (tC (.int 1))) [7]) σ H (.list ((jobs.map Job.nu).map PyData.int)) := fun {H σ fr} hj F h h15 => by
    refine (e_lcT (ds := jobs.map Job.enc) (fun _ => true) scd F (e_var F h) (by rw [List.length_map]; omega) (by simp) (fun d hd' _ => ?_) (fun d hd' σ' H' e F' => fun H1 e1 Q q => q H1 (Same.refl H1)) (fun d hd' _ σ' H' e F' => ?_)).is ?_
    · obtain ⟨j, hj', rfl⟩ := List.mem_map.mp hd'
      rw [(hj j hj').1]
      rfl
    · obtain ⟨j, hj', rfl⟩ := List.mem_map.mp hd'
      obtain ⟨h1, x1, r, h2⟩ := hj j hj'
      rw [h1]
      rw [h2] at F'
      exact e_op (e_var F' (by rw [List.getElem?_set_self (by omega)])) e_int (r_ixT (by
        show (ixN _ 1).bind _ = _
        have : ixN (x1 :: PyData.int j.nu :: r).length 1 = some 1 := ixN_ofNat (j := 1) (by simp)
        rw [this]
        rfl))
    · rw [List.filter_eq_self.mpr (fun _ _ => rfl), List.map_map, List.map_map]
      refine congrArg PyData.list (List.map_congr_left fun j hj' => ?_)
      exact (hj j hj').1
  cases hf with
  | names hj ks e nd b =>
    obtain ⟨i0, rfl⟩ := hj j0 hj0m
    have kl : ks.length ≤ 5 := by
      have := congrArg List.length e
      rw [List.length_map] at this
      omega
    have es : (ans.filterMap id).map Ans.enc = ks.map PyData.int := by rw [e, List.map_map]; rfl
    rw [es] at F2
    refine q_ifT F2 ((tst _ F2 rfl).is (by show decide (("name" : Str) = ("name" : Str)) = true; decide)) fun H3 e3 F3 => ?_
    refine s_ret ((e_andV (a := true) (b := true) ((e_op (e_lenset (e_var F3 rfl) nd (by omega)) (e_cb (e_cons (e_var F3 rfl) e_nil) c_lenL) r_eqI).is (by simp)) fun _ => ?_).is rfl) fun v H4 e4 d4 => k v H4 (((e1.trans e2).trans e3).trans e4) d4
    refine (e_cb (e_cons ((e_lcL (ds := ks.map PyData.int) (fun _ => true) (fun _ => .bool true) F3 (e_var F3 rfl) (by rw [List.length_map]; omega) (by simp) (fun _ _ _ => rfl) (fun d hd σ' H' e F' => fun H1 e1 Q q => q H1 (Same.refl H1)) (fun d hd' _ σ' H' e' F' => ?_)).is (congrArg PyData.list all_true)) e_nil) c_all).is (by simp)
    obtain ⟨x, hx, rfl⟩ := List.mem_map.mp hd'
    obtain ⟨b1, b2⟩ := b x hx
    refine (e_chain e_int (e_var F' rfl) (e_op (e_op e_int (e_var F' rfl) (r_I (z := .int (2 * th)) (cmul_l (by unfold B64; omega)) fun H => .int _)) e_int (r_I0 (z := .int (2 * th - 1)) fun H => .int _))).is ?_
    rw [decide_eq_true b1, decide_eq_true b2]
    rfl
  | leasts wt hj ks e sub few =>
    obtain ⟨m0, rfl⟩ := hj j0 hj0m
    have kl : ks.length ≤ 5 := by
      have := congrArg List.length e
      rw [List.length_map] at this
      omega
    have es : (ans.filterMap id).map Ans.enc = ks.map PyData.int := by rw [e, List.map_map]; rfl
    rw [es] at F2
    refine q_ifN F2 ((tst _ F2 rfl).is (by show decide (("least" : Str) = ("name" : Str)) = false; decide)) fun H3 e3 F3 => ?_
    refine q_asg F3 (numsE (fun j hj' => by obtain ⟨m, rfl⟩ := hj j hj'; exact ⟨rfl, _, _, rfl⟩) F3 rfl rfl) fun σ4 H4 e4 F4 => ?_
    refine q_ifT F4 ((tst _ F4 rfl).is (by show decide (("least" : Str) = ("least" : Str)) = true; decide)) fun H5 e5 F5 => ?_
    refine q_sorted (i := 8) F5 (e_var F5 rfl) (by omega) fun U σ6 H6 nd mU e6 F6 => ?_
    have fw := few U nd fun u hu => (mU u).mp hu
    have Ul : U.length ≤ 100 := by
      have := nd.length_le_of_subset (l₂ := ks) fun u hu => (mU u).mp hu
      omega
    have at2 : ED K (tOp (rIxT K) (tOp (rIxT K) (tVar 0) (tC (.int 0))) (tC (.int 2))) σ6 H6 (.int (wt : Int)) := e_op (e_op (e_var F6 rfl) e_int (r_ixT at0')) e_int (r_ixT (by rfl))
    refine s_ret ((e_andV (a := true) (b := true) ?_ fun _ => ?_).is rfl) fun v H7 e7 d7 => k v H7 ((((((e1.trans e2).trans e3).trans e4).trans e5).trans e6).trans e7) d7
    · refine (e_cb (e_cons ((e_lcL (ds := U.map PyData.int) (fun _ => true) (fun _ => .bool true) F6 (e_var F6 rfl) (by rw [List.length_map]; omega) (by simp) (fun _ _ _ => rfl) (fun d hd σ' H' e F' => fun H1 e1 Q q => q H1 (Same.refl H1)) (fun d hd' _ σ' H' e' F' => ?_)).is (congrArg PyData.list all_true)) e_nil) c_all).is (by simp)
      obtain ⟨x, hx, rfl⟩ := List.mem_map.mp hd'
      exact (e_op (e_var F' rfl) (e_var F' rfl) r_in).is (by rw [decide_eq_true (sub x ((mU x).mp hx))])
    · refine (e_op (e_cb (e_cons (e_var F6 rfl) e_nil) c_lenL) (e_op (e_op (e_cb (e_cons (e_var F6 rfl) e_nil) c_lenT) at2 (r_I0 (z := .int (((jobs.map Job.enc).length : Nat) - (wt : Int))) fun H => .int _)) e_int (r_I0 (z := .int (((jobs.map Job.enc).length : Nat) - (wt : Int) + 1)) fun H => .int _)) (r_I0 (z := .bool true) fun H => ?_))
      rw [List.length_map, List.length_map, decide_eq_true fw]
      exact .bl _
  | closers r r6 hj lo hi lm ll hm hl bl bh xs e ok rng pair =>
    obtain ⟨m0, rfl⟩ := hj j0 hj0m
    have kl : xs.length ≤ 5 := by
      have := congrArg List.length e
      rw [List.length_map] at this
      omega
    have es : (ans.filterMap id).map Ans.enc = xs.map encF := by rw [e, List.map_map]; rfl
    rw [es] at F2
    refine q_ifN F2 ((tst _ F2 rfl).is (by show decide (("closer" : Str) = ("name" : Str)) = false; decide)) fun H3 e3 F3 => ?_
    refine q_asg F3 (numsE (fun j hj' => by obtain ⟨m, rfl⟩ := hj j hj'; exact ⟨rfl, _, _, rfl⟩) F3 rfl rfl) fun σ4 H4 e4 F4 => ?_
    refine q_ifN F4 ((tst _ F4 rfl).is (by show decide (("closer" : Str) = ("least" : Str)) = false; decide)) fun H5 e5 F5 => ?_
    refine q_ifT F5 ((tst _ F5 rfl).is (by show decide (("closer" : Str) = ("closer" : Str)) = true; decide)) fun H6 e6 F6 => ?_
    have n0 : 0 < (jobs.map Job.nu).length := by rw [List.length_map]; exact List.length_pos_iff.mpr hne
    refine q_par (d := encF (lo, 1)) (e := encF (hi, 1)) F6 (e_cons (e_tup (e_cons (e_cb (e_cons (e_var F6 rfl) e_nil) (c_min (m := lo) n0 fun z z1 z2 => by have := z2 lo lm; have := ll z z1; omega)) (e_cons e_int e_nil)) (by show 2 ≤ 100000; omega))
      (e_cons (e_tup (e_cons (e_cb (e_cons (e_var F6 rfl) e_nil) (c_max (m := hi) n0 fun z z1 z2 => by have := z2 hi hm; have := hl z z1; omega)) (e_cons e_int e_nil)) (by show 2 ≤ 100000; omega)) e_nil)) fun σ7 H7 e7 F7 => ?_
    refine q_asg (d := encF (hi - lo, 1)) F7 (e_tup (e_cons (e_op (e_op (e_var F7 rfl) e_int (r_ixT (z := .int hi) (by rfl))) (e_op (e_var F7 rfl) e_int (r_ixT (z := .int lo) (by rfl))) (r_I0 fun H => .int _)) (e_cons e_int e_nil)) (by show 2 ≤ 100000; omega)) fun σ8 H8 e8 F8 => ?_
    have two : B64 (2 : Int) := by unfold B64; omega
    refine q_forR (n := r) (e_cons (e_op (e_op (e_var F8 rfl) e_int (r_ixT at0')) e_int (r_ixT (z := .int (r : Int)) (by rfl))) e_nil) (by omega) (fun i σ' H' => Same H8 H' ∧ Fd K H' σ' [.d (.tuple (jobs.map Job.enc)), .d (.list (ans.map encA)), .d (.int th), .d (.list (xs.map encF)), .un, .d (.str (Job.wd (.closer m0 r))), .d (.list ((jobs.map Job.nu).map PyData.int)), .un, .un, .un, .d (encF (lo, 1)), .d (encF (hi, 1)), .d (encF (hi - lo, 2 ^ i)), .un, .un])
      (fun H9 e9 => ⟨e9, by rw [Int.pow_zero]; exact (F8.same e9).forget 4 |>.forget 7⟩) (fun i σ' H' hi' q => ?_) fun σ9 H9 q => ?_
    · obtain ⟨q1, q2⟩ := q
      have G := q2.set 13 (f := .d (.int (i : Int))) (v := .int (i : Int)) (fvd (.int _))
      refine s_asg (d := encF (hi - lo, 2 ^ (i + 1))) G (e_tup (e_cons (e_op (e_var G rfl) e_int (r_ixT (z := .int (hi - lo)) (by rfl))) (e_cons (e_op e_int (e_op (e_var G rfl) e_int (r_ixT (z := .int (2 ^ i)) (by rfl))) (r_I (cmul_l two) fun H => ?_)) e_nil)) (by show 2 ≤ 100000; omega)) fun σ'' H'' e'' F'' => ⟨q1.trans e'', F''.forget 13⟩
      show Dp K H (.int (2 * 2 ^ i)) (.int (2 ^ (i + 1)))
      rw [Int.pow_succ, Int.mul_comm]
      exact .int _
    · obtain ⟨q1, q2⟩ := q
      have e09 := (((((((e1.trans e2).trans e3).trans e4).trans e5).trans e6).trans e7).trans e8).trans q1
      have bw : B64 (hi - lo) := by unfold Bd topN at bl bh; unfold B64; omega
      have blo : B64 lo := by unfold Bd topN at bl; unfold B64; omega
      have bhi : B64 hi := by unfold Bd topN at bh; unfold B64; omega
      refine s_forL (e_var q2 rfl) (fun Hb i σ' H' => Same Hb H' ∧ Fd K H' σ' [.d (.tuple (jobs.map Job.enc)), .d (.list (ans.map encA)), .d (.int th), .d (.list (xs.map encF)), .un, .d (.str (Job.wd (.closer m0 r))), .d (.list ((jobs.map Job.nu).map PyData.int)), .un, .un, .un, .d (encF (lo, 1)), .d (encF (hi, 1)), .d (encF (hi - lo, 2 ^ r)), .un, .un])
        (fun Hb eb => ⟨Same.refl _, q2.same eb⟩) (fun Hb i σ' H' q => kd_of q.1) (fun Hb i d x σ' H' eb he dx q => ?_) (fun Hb σ' H' eb q => ?_)
      · obtain ⟨p1, p2⟩ := q
        rw [List.getElem?_map] at he
        obtain ⟨u, hu, rfl⟩ := Option.map_eq_some_iff.mp he
        have hum := List.mem_of_getElem? hu
        have ou := ok u hum
        have ru := rng u hum
        have G : Fd K H' (σ'.set 9 (some x)) _ := p2.set 9 (f := .d (encF u)) (fvd dx)
        refine q_ifN G ((e_or (a := false) (b := false) ((e_tB (e_call (e_cons (e_var G rfl) (e_cons (e_var G rfl) e_nil)) ⟨u, (lo, 1), rfl, ou.b64, blo, rfl⟩)).is (lessF_lo ou bl ru.1)) fun _ => (e_tB (e_call (e_cons (e_var G rfl) (e_cons (e_var G rfl) e_nil)) ⟨(hi, 1), u, rfl, bhi, ou.b64, rfl⟩)).is (lessF_hi ou bh ru.2)).is rfl) fun H10 e10 F10 => ?_
        refine s_forL (e_var F10 rfl) (fun Hc i σ' H' => Same Hc H' ∧ Fd K H' σ' [.d (.tuple (jobs.map Job.enc)), .d (.list (ans.map encA)), .d (.int th), .d (.list (xs.map encF)), .un, .d (.str (Job.wd (.closer m0 r))), .d (.list ((jobs.map Job.nu).map PyData.int)), .un, .un, .d (encF u), .d (encF (lo, 1)), .d (encF (hi, 1)), .d (encF (hi - lo, 2 ^ r)), .un, .un])
          (fun Hc ec => ⟨Same.refl _, F10.same ec⟩) (fun Hc i σ' H' q => kd_of q.1) (fun Hc i d x σ'' H'' ec he2 dx2 q => ?_) (fun Hc σ'' H'' ec q => ?_)
        · obtain ⟨p3, p4⟩ := q
          rw [List.getElem?_map] at he2
          obtain ⟨y, hy, rfl⟩ := Option.map_eq_some_iff.mp he2
          have hym := List.mem_of_getElem? hy
          have oy := ok y hym
          have G2 : Fd K H'' (σ''.set 14 (some x)) _ := p4.set 14 (f := .d (encF y)) (fvd dx2)
          have u1 : ∀ {H : Hp} {σ : L2.St} {fr : List FV}, Fd K H σ fr → fr[9]? = some (.d (encF u)) → ED K (tOp (rIxT K) (tVar 9) (tC (.int 0))) σ H (.int u.1) := fun F h => e_op (e_var F h) e_int (r_ixT (by rfl))
          have u2 : ∀ {H : Hp} {σ : L2.St} {fr : List FV}, Fd K H σ fr → fr[9]? = some (.d (encF u)) → ED K (tOp (rIxT K) (tVar 9) (tC (.int 1))) σ H (.int u.2) := fun F h => e_op (e_var F h) e_int (r_ixT (by rfl))
          have y1 : ∀ {H : Hp} {σ : L2.St} {fr : List FV}, Fd K H σ fr → fr[14]? = some (.d (encF y)) → ED K (tOp (rIxT K) (tVar 14) (tC (.int 0))) σ H (.int y.1) := fun F h => e_op (e_var F h) e_int (r_ixT (by rfl))
          have y2 : ∀ {H : Hp} {σ : L2.St} {fr : List FV}, Fd K H σ fr → fr[14]? = some (.d (encF y)) → ED K (tOp (rIxT K) (tVar 14) (tC (.int 1))) σ H (.int y.2) := fun F h => e_op (e_var F h) e_int (r_ixT (by rfl))
          have m1 := mul_b ou.top.2 ou.top.1 oy.pos oy.den
          have m2 := mul_b oy.top.2 oy.top.1 ou.pos ou.den
          have bu2 : B64 u.2 := by have := ou.pos; have := ou.den; unfold B64; omega
          refine s_ifF G2 ((e_tB (e_call (z := .bool (lessF (hi - lo, 2 ^ r) (u.1 * y.2 - y.1 * u.2, u.2 * y.2))) (e_cons (e_var G2 rfl) (e_cons (e_tup (e_cons (e_op (e_op (u1 G2 rfl) (y2 G2 rfl) (r_I (cmul_l ou.b64) fun H => .int _)) (e_op (y1 G2 rfl) (u2 G2 rfl) (r_I (cmul_l oy.b64) fun H => .int _)) (r_I0 fun H => .int _)) (e_cons (e_op (u2 G2 rfl) (y2 G2 rfl) (r_I (cmul_l bu2) fun H => .int _)) e_nil)) (by show 2 ≤ 100000; omega)) e_nil)) ⟨(hi - lo, 2 ^ r), (u.1 * y.2 - y.1 * u.2, u.2 * y.2), rfl, bw, ?_, rfl⟩)).is (lessF_wide ou oy (pair u hum y hym))) fun H11 e11 F11 => ⟨p3.trans e11, F11.forget 14⟩
          show B64 (u.1 * y.2 - y.1 * u.2)
          unfold topN at m1 m2
          unfold B64
          omega
        · obtain ⟨p3, p4⟩ := q
          exact ⟨((p1.trans e10).trans ec).trans p3, p4.forget 9⟩
      · obtain ⟨p1, p2⟩ := q
        show tRet (tC (.bl true)) { nx := fun x H' => Q V.non H', rt := Q } σ' H'
        refine s_ret (K := K) (d := .bool true) e_bl fun v H10 e10 d10 => ?_
        exact k v H10 (((e09.trans eb).trans p1).trans e10) d10

/-! ### sums that are right -/
def RSumsRight (ds : List PyData) (d : PyData) : Prop := ∃ (items : List (Option Int)) (told : Tld), ds = [Job.enc (.sums items), encT told] ∧ JPre 0 (.sums items) told ∧ (nextDeed 0 (.sums items) told).isIdle = true ∧ d = .bool true
theorem shaped_IT (ns : List Int) : SeqAt.shaped (.tuple (ns.map PyData.int)) = true := by
  unfold SeqAt.shaped
  have h1 : PyData.canLay0 (.tuple (ns.map PyData.int)) = true := can_I ns
  have h2 : PyData.depth (.tuple (ns.map PyData.int)) ≤ 64 := by
    show PyData.depthAll (ns.map PyData.int) + 1 ≤ 64
    rw [dep_I]
    omega
  rw [h1, decide_eq_true h2]
  rfl
theorem eqv_ints : ∀ ns : List Int, PyData.eqv (.tuple (ns.map PyData.int)) (.tuple (ns.map PyData.int)) = true
  | [] => rfl
  | n :: ns => by
    have ih := eqv_ints ns
    show (PyData.eqv (.int n) (.int n) && PyData.eqv (.tuple (ns.map PyData.int)) (.tuple (ns.map PyData.int))) = true
    rw [ih]
    show (n == n && true) = true
    simp
theorem scLawSumsRight : FnScope ["_law_job", "_law_told", "_law_due", "_law_seen"] ["_law_job", "_law_told"] (defScope sLawSumsRight) := ⟨rfl, rfl, rfl, by decide +kernel, rfl, by decide +kernel, by decide +kernel⟩
theorem ok_law_sums_right (T : Tx K mg) : Ok P w K mg base 7 (He.ga K "_law_sums_right") ["_law_job", "_law_told"] (spD K RSumsRight) := by
  obtain ⟨fd, F⟩ := T.f_law_sums_right
  have O_answer_of : Ok P w K mg base 6 (He.ga K "answer_of") ["hand", "job", "told"] (spD K RAns) := ok_answer_of T
  refine ⟨fd, F.ok scLawSumsRight (fun vs H Q E h => spD_len (n := 2) (fun ds d ⟨_, _, e, _⟩ => by rw [e] <;> rfl) h) (fun cdv A outer s H vs Q E hr h => ?_), F.binds (fun _ _ _ _ _ _ us hl => match us, hl with | [_, _], _ => rfl), F.kp⟩
  obtain ⟨ds, d, hd, ⟨items, told, rfl, hp, hi, rfl⟩, k⟩ := h
  refine ⟨_, (pss_cons (ps_set (i := 2) scLawSumsRight.nd rfl (Or.inl rfl) (pe_callTy call_tuple_of (by rfl) T.b_tuple (by decide +kernel) (pa_cons (pe_lc (own := [("_law_seen", 3)]) (g := (gName 3)) (tt := (tTest (tOp (fun x y H Q => y = .non ∧ Q (.bl (!decide (x = .non))) H) (tVar 3) (tC .non)))) (te := (tCB (rSumT K) (tCons (tVar 3) tNil))) (by rfl) scLawSumsRight.nd (pi_tup (pv 1)) (blkOk_by (own := [("_law_seen", 3)]) (N := ["_law_job", "_law_told", "_law_due", "_law_seen"]) (sc := defScope sLawSumsRight) (by decide +kernel)) (fun _ _ _ _ _ => (pg_name (i := 3) scLawSumsRight.nd rfl (Or.inl rfl))) (fun _ _ _ _ _ => (pts_one (pt_cmpR op_notN (pv 3) pe_non (nomark _)))) (fun _ _ _ _ _ => (pe_callB (cr_sumT rfl) (by rfl) T.b_sum (by decide +kernel) (pa_cons (pv 3) pa_nil)))) pa_nil)))
      (pss_one (ps_ret (pe_cmpR (op_eqD hr.units) (pe_ok O_answer_of (hr.mono (by decide)) T.g_answer_of (pa_cons pe_int (pa_cons (pv 0) (pa_cons (pv 1) pa_nil)))) (pv 2) (nomark _))))), ?_⟩
  have F0 : Fd K H (L2.start ["_law_job", "_law_told", "_law_due", "_law_seen"] vs) [.d (Job.enc (.sums items)), .d (encT told), .un, .un] := fd_begin hd
  obtain ⟨n, q1, q2, hl, pr⟩ := id hp
  refine q_asg F0 (e_cb (e_cons ((e_lcT (ds := told.map encE) (fun d => !isNone d) sumI F0 (e_var (x := encT told) F0 rfl) (by rw [List.length_map]; omega) (by simp) (fun d hd' _ => ?_) (fun d hd' σ' H' e F' => e_test (e_op (e_var F' rfl) e_non r_notN)) (fun d hd' hf σ' H' e F' => ?_)).is (by rw [sums_of pr.2.2])) e_nil) c_tupL) fun σ1 H1 e1 F1 => ?_
  · obtain ⟨e, _, rfl⟩ := List.mem_map.mp hd'
    cases e <;> rfl
  · obtain ⟨e, he, rfl⟩ := List.mem_map.mp hd'
    cases e with
    | none => cases hf
    | some st =>
      obtain ⟨e1, e2⟩ := sum_st (pr.2.2 _ he st rfl)
      show ED K _ σ' H' (sumI (encSt st))
      rw [e2]
      refine e_cb (e_cons ?_ e_nil) c_sumT
      rw [← e1]
      exact e_var F' rfl
  · have an : answer 0 (.sums items) told = some (.tup (sumsOf told)) := by
      unfold answer
      rw [if_pos hi]
    refine s_ret ((e_op (e_call (z := .tuple ((sumsOf told).map PyData.int)) (e_cons e_int (e_cons (e_var F1 rfl) (e_cons (e_var F1 rfl) e_nil))) ⟨0, .sums items, told, rfl, hp, by rw [an] <;> rfl⟩) (e_var F1 rfl) (r_eqD (shaped_IT _) (shaped_IT _))).is (by rw [eqv_ints])) fun v H2 e2 d2 => k v H2 (e1.trans e2) d2
end
end My
/-! one deed done -/
namespace My
open PySem PySem.Spec PyProof.Rows L2
section
variable {P : Program} {w : World} {K : PySem.W.Frag} {mg : Str → Option Value} {base : Heap}
theorem vok_F {x : Fr} (h : (-trl < x.1 ∧ x.1 < trl) ∧ -trl < x.2 ∧ x.2 < trl) : VOk 1 (encF x) := by
  refine ⟨by show 2 ≤ 8; omega, fun d hd => ?_⟩
  rcases List.mem_cons.mp hd with rfl | hd
  · exact h.1
  · rcases List.mem_cons.mp hd with rfl | hd
    · exact h.2
    · cases hd
theorem vok_of : ∀ {v : Val}, VPl v → VOk 3 v.enc
  | .int i, h => h
  | .nm i k, h => ⟨by show 2 ≤ 8; omega, fun d hd => by
    rcases List.mem_cons.mp hd with rfl | hd
    · exact h.1
    · rcases List.mem_cons.mp hd with rfl | hd
      · exact h.2
      · cases hd⟩
  | .ls n, h => ⟨by show 1 ≤ 8; omega, fun d hd => by
    rcases List.mem_cons.mp hd with rfl | hd
    · exact h
    · cases hd⟩
  | .cl xs, h => ⟨by rw [List.length_map]; exact h.1, fun d hd => by
    obtain ⟨x, hx, rfl⟩ := List.mem_map.mp hd
    have hx' := h.2 x hx
    refine ⟨by show 2 ≤ 8; omega, fun d hd => ?_⟩
    rcases List.mem_cons.mp hd with rfl | hd
    · exact hx'.1
    · rcases List.mem_cons.mp hd with rfl | hd
      · exact hx'.2
      · cases hd⟩
theorem told_get {W : Wld} {p : Nat} (h : p < W.tolds.length) : W.tolds[p]? = some (W.told p) := by
  unfold Wld.told
  rw [List.getD_eq_getElem?_getD, List.getElem?_eq_getElem h]
  rfl
theorem step_idle {jobs : List Job} {own : Nat} {W : Wld} (h : nextDeed own (jAt jobs own) (W.told own) = .idle) : stepW jobs own W = W := by
  unfold stepW
  show (match nextDeed own (jAt jobs own) (W.told own) with | .idle => W | .look => _ | .put v => _) = _
  rw [h]
theorem step_look {jobs : List Job} {own : Nat} {W : Wld} (h : nextDeed own (jAt jobs own) (W.told own) = .look) : stepW jobs own W = ⟨W.state, W.tolds.set own (W.told own ++ [some W.state])⟩ := by
  unfold stepW
  show (match nextDeed own (jAt jobs own) (W.told own) with | .idle => W | .look => _ | .put v => _) = _
  rw [h]
theorem step_put {jobs : List Job} {own : Nat} {W : Wld} {v : Val} (h : nextDeed own (jAt jobs own) (W.told own) = .put v) : stepW jobs own W = ⟨W.state.set own v, W.tolds.set own (W.told own ++ [none])⟩ := by
  unfold stepW
  show (match nextDeed own (jAt jobs own) (W.told own) with | .idle => W | .look => _ | .put v => ⟨W.state.set own v, W.tolds.set own (W.told own ++ [none])⟩) = _
  rw [h]
theorem noLs_Ts : ∀ ts : List Tld, noLs (ts.map encT) = true
  | [] => rfl
  | t :: ts => by
    show (noL (encT t) && noLs (ts.map encT)) = true
    rw [noL_T, noLs_Ts] <;> rfl
def spDone (K : PySem.W.Frag) : Sp := fun vs H Q _ => ∃ (v0 v1 : V) (s t : Addr) (own : Nat) (jobs : List Job) (W : Wld), vs = [v0, v1, .ref s, .ref t] ∧ Dp K H v0 (.int (own : Int)) ∧ Dp K H v1 (jAt jobs own).enc ∧ WInv jobs W ∧ jobs.length ≤ 5 ∧ own < jobs.length ∧
  (W.told own).length ≤ 900 ∧ s ≠ t ∧ LsD K H s (W.state.map Val.enc) ∧ LsD K H t (W.tolds.map encT) ∧
  ∀ H', Mu K [s, t] H H' → LsD K H' s ((stepW jobs own W).state.map Val.enc) → LsD K H' t ((stepW jobs own W).tolds.map encT) → Q (.bl true) H'
theorem scLawDone : FnScope ["_law_own", "_law_job", "_law_state", "_law_told", "_law_deed"] ["_law_own", "_law_job", "_law_state", "_law_told"] (defScope sLawDone) := ⟨rfl, rfl, rfl, by decide +kernel, rfl, by decide +kernel, by decide +kernel⟩
theorem ok_law_done (T : Tx K mg) : Ok P w K mg base 8 (He.ga K "_law_done") ["_law_own", "_law_job", "_law_state", "_law_told"] (spDone K) := by
  obtain ⟨fd, F⟩ := T.f_law_done
  have O_next_deed : Ok P w K mg base 6 (He.ga K "next_deed") ["hand", "job", "told"] (spD K RNext) := ok_next_deed T
  have O_is_value : Ok P w K mg base 7 (He.ga K "is_value") ["thing"] (spD K RValue) := ok_is_value T
  refine ⟨fd, F.ok scLawDone (fun vs H Q E h => ?_) (fun cdv A outer s H vs Q E hr h => ?_), F.binds (fun _ _ _ _ _ _ us hl => match us, hl with | [_, _, _, _], _ => rfl), F.kp⟩
  · obtain ⟨_, _, _, _, _, _, _, rfl, _⟩ := h
    rfl
  obtain ⟨v0, v1, sa, ta, own, jobs, W, rfl, d0, d1, hW, hn, ho, hl, hst, Ls, Lt, k⟩ := h
  refine ⟨_, (pss_cons (ps_set (i := 4) scLawDone.nd rfl (Or.inl rfl) (pe_ok O_next_deed (hr.mono (by decide)) T.g_next_deed (pa_cons (pv 0) (pa_cons (pv 1) (pa_cons (pe_ix ix_list (pv 3) (pv 0) (fun _ _ => rfl)) pa_nil)))))
      (pss_cons (ps_if (pt_cmpR op_isN (pv 4) pe_non (nomark _)) (pss_one (ps_ret pe_bl)) pss_nil)
      (pss_cons (ps_if (pt_cmpR (op_eqD hr.units) (pv 4) (pe_tup (pa_cons pe_str pa_nil)) (nomark _)) (pss_cons (ps_asg (pe_op op_catA (pe_ix ix_list (pv 3) (pv 0) (fun _ _ => rfl)) (pe_tup (pa_cons (pe_callTy call_tuple_of (by rfl) T.b_tuple (by decide +kernel) (pa_cons (pv 2) pa_nil)) pa_nil))) (pg_sub (pv 3) (pv 0) set_list))
      (pss_one (ps_ret pe_bl))) pss_nil)
      (pss_cons (ps_if (PW.pt (pw_or (pt_cmpR (op_neD hr.units) (pe_slice sl_tupA (pv 4) po_none (po_some pe_int)) (pe_tup (pa_cons pe_str (pa_cons (pv 0) pa_nil))) (nomark _)) (pw_or (pt_cmpR op_ne (pe_callB call_len_seq (by rfl) T.b_len (by decide +kernel) (pa_cons (pv 4) pa_nil)) pe_int (nomark _)) (pw_or1 (pt_not (pt_val (pe_ok O_is_value (hr.mono (by decide)) T.g_is_value (pa_cons (pe_ix ix_tup (pv 4) pe_int (fun _ _ => rfl)) pa_nil)))))))) (pss_one (ps_ret pe_bl)) pss_nil)
      (pss_cons (ps_asg (pe_ix ix_tup (pv 4) pe_int (fun _ _ => rfl)) (pg_sub (pv 2) (pv 0) set_list))
      (pss_cons (ps_asg (pe_op op_catA (pe_ix ix_list (pv 3) (pv 0) (fun _ _ => rfl)) (pe_tup (pa_cons pe_non pa_nil))) (pg_sub (pv 3) (pv 0) set_list))
      (pss_one (ps_ret pe_bl)))))))), ?_⟩
  have F0 : Fd K H (L2.start ["_law_own", "_law_job", "_law_state", "_law_told", "_law_deed"] [v0, v1, .ref sa, .ref ta]) [.d (.int (own : Int)), .d (jAt jobs own).enc, .v (.ref sa), .v (.ref ta), .un] := .cons ⟨_, rfl, d0⟩ (.cons ⟨_, rfl, d1⟩ (.cons rfl (.cons rfl (.cons True.intro .nil))))
  have hls := hW.ls
  have tg : atI (W.tolds.map encT) (own : Int) = some (encT (W.told own)) := atI_nat (by rw [List.getElem?_map, told_get (by rw [hls.2]; exact ho)] <;> rfl)
  have toldE : ∀ {H1 : Hp} {σ : L2.St} {fr : List FV}, Fd K H1 σ fr → fr[3]? = some (.v (.ref ta)) → fr[0]? = some (.d (.int (own : Int))) → LsD K H1 ta (W.tolds.map encT) → ED K (tOp (rIxL K) (tVar 3) (tVar 0)) σ H1 (encT (W.told own)) := fun F h3 h0 L => e_op (e_varL F h3 L) (e_var F h0) (r_ixL tg)
  have hts : ta ∉ [sa] := by simp [Ne.symm hst]
  have hjp : JPre own (jAt jobs own) (W.told own) := ⟨jobs.length, ho, by omega, by omega, hW.pre ho⟩
  refine q_asg F0 (e_call (z := (nextDeed own (jAt jobs own) (W.told own)).enc own) (e_cons (e_var F0 rfl) (e_cons (e_var F0 rfl) (e_cons (toldE F0 rfl rfl Lt) e_nil))) ⟨own, _, _, rfl, hjp, rfl⟩) fun σ1 H1 e1 F1 => ?_
  have Ls1 := Ls.same e1
  have Lt1 := Lt.same e1
  have hput := fun v => hW.put (by omega) ho (v := v)
  cases hdd : nextDeed own (jAt jobs own) (W.told own) with
  | idle =>
    rw [hdd] at F1
    rw [step_idle hdd] at k
    exact q_ifT F1 (e_test (e_op (e_var F1 rfl) e_non r_isN)) fun H2 e2 F2 => s_ret (K := K) (d := .bool true) e_bl fun v H3 e3 d3 => by
      cases d3
      have e13 := (e1.trans e2).trans e3
      exact k H3 (mu_same e13) (Ls.same e13) (Lt.same e13)
  | look =>
    rw [hdd] at F1
    rw [step_look hdd] at k
    refine q_ifN F1 (e_test (e_op (e_var F1 rfl) e_non r_isN)) fun H2 e2 F2 => ?_
    refine q_ifT F2 ((e_test (e_op (e_var F2 rfl) (e_tup (e_cons e_str e_nil) (by show 1 ≤ 100000; omega)) (r_eqD (shaped_D own .look) (shaped_D own .look)))).is (by rfl)) fun H3 e3 F3 => ?_
    have e13 := (e1.trans e2).trans e3
    have Ls3 := Ls.same e13
    have Lt3 := Lt.same e13
    refine q_setL (d := encT (W.told own ++ [some W.state])) (j := own) (e_varV F3 rfl) (e_var F3 rfl) ((e_op (toldE F3 rfl rfl Lt3) (e_tup (e_cons (e_cb (e_cons (e_varL F3 rfl Ls3) e_nil) c_tupL) e_nil) (by show 1 ≤ 100000; omega)) (r_catT (by rw [List.length_map]; show (W.told own).length + 1 ≤ 100000; omega))).is ?_) (noL_T _) Lt3 (noLs_Ts _) (by rw [List.length_map, hls.2]; exact ho) fun H4 u4 L4 => ?_
    · show PyData.tuple _ = PyData.tuple _
      rw [List.map_append]
      rfl
    · refine s_ret (K := K) (d := .bool true) e_bl fun v H5 e5 d5 => ?_
      cases d5
      rw [← List.map_set] at L4
      exact k H5 (((mu_same e13).trans (u4.mono (by simp))).same e5) ((Ls3.mu (noLs_V _) u4 (by simp [hst])).same e5) (L4.same e5)
  | put v =>
    rw [hdd] at F1
    rw [step_put hdd] at k
    have hv := vok_of (hput v hdd)
    refine q_ifN F1 (e_test (e_op (e_var F1 rfl) e_non r_isN)) fun H2 e2 F2 => ?_
    refine q_ifN F2 ((e_test (e_op (e_var F2 rfl) (e_tup (e_cons e_str e_nil) (by show 1 ≤ 100000; omega)) (r_eqD (shaped_D own (.put v)) (shaped_D own .look)))).is (by rfl)) fun H3 e3 F3 => ?_
    have e13 := (e1.trans e2).trans e3
    have eo : PyData.eqv (.tuple [.str "put", .int (own : Int)]) (.tuple [.str "put", .int (own : Int)]) = true := by
      show ((("put" : Str) == ("put" : Str)) && (((own : Int) == (own : Int)) && true)) = true
      simp
    have sh : SeqAt.shaped (.tuple [.str "put", .int (own : Int)]) = true := by
      unfold SeqAt.shaped
      rw [show PyData.canLay0 (.tuple [.str "put", .int (own : Int)]) = true by
        show (PyData.canLay0 (.str "put") && true) = true
        decide +kernel, decide_eq_true (show PyData.depth (.tuple [.str "put", .int (own : Int)]) ≤ 64 by show 1 ≤ 64; omega)]
      rfl
    refine q_ifN F3 ((e_or (a := false) (b := false || false) ((e_test (e_op (e_slT (i := 2) (e_var F3 rfl) e_int) (e_tup (e_cons e_str (e_cons (e_var F3 rfl) e_nil)) (by show 2 ≤ 100000; omega)) (r_neD (x := .tuple [.str "put", .int (own : Int)]) sh sh))).is (by rw [eo] <;> rfl)) fun _ => e_or (a := false) (b := false) ((e_test (e_op (e_cb (e_cons (e_var F3 rfl) e_nil) c_lenT) e_int r_neI)).is (by rfl)) fun _ => (e_not (e_tB (e_call (z := .bool true) (e_cons (e_op (e_var F3 rfl) e_int (r_ixT (z := v.enc) (by rfl))) e_nil) ⟨v.enc, rfl, hv, rfl⟩))).is (by rfl)).is (by rfl)) fun H4 e4 F4 => ?_
    have e14 := e13.trans e4
    have Ls4 := Ls.same e14
    have Lt4 := Lt.same e14
    refine q_setL (d := v.enc) (j := own) (e_varV F4 rfl) (e_var F4 rfl) (e_op (e_var F4 rfl) e_int (r_ixT (z := v.enc) (by rfl))) (noL_V v) Ls4 (noLs_V _) (by rw [List.length_map, hls.1]; exact ho) fun H5 u5 L5 => ?_
    have F5 := F4.mu (by
      intro f hf
      simp only [List.set_cons_succ, List.set_cons_zero, List.mem_cons, List.not_mem_nil, or_false] at hf
      rcases hf with rfl | rfl | rfl | rfl | rfl
      · rfl
      · exact noL_J _
      · rfl
      · rfl
      · show (noL v.enc && true) = true
        rw [noL_V]
        rfl) u5
    have Lt5 := Lt4.mu (noLs_Ts _) u5 hts
    refine q_setL (d := encT (W.told own ++ [none])) (j := own) (e_varV F5 rfl) (e_var F5 rfl) ((e_op (toldE F5 rfl rfl Lt5) (e_tup (e_cons e_non e_nil) (by show 1 ≤ 100000; omega)) (r_catT (by rw [List.length_map]; show (W.told own).length + 1 ≤ 100000; omega))).is ?_) (noL_T _) Lt5 (noLs_Ts _) (by rw [List.length_map, hls.2]; exact ho) fun H6 u6 L6 => ?_
    · show PyData.tuple _ = PyData.tuple _
      rw [List.map_append]
      rfl
    · refine s_ret (K := K) (d := .bool true) e_bl fun v' H7 e7 d7 => ?_
      cases d7
      rw [← List.map_set] at L6 L5
      exact k H7 ((((mu_same e14).trans (u5.mono (by simp))).trans (u6.mono (by simp))).same e7) ((L5.mu (noLs_V _) u6 (by simp [hst])).same e7) (L6.same e7)
end
end My
/-! the law: what its turn holds -/
namespace My
open PySem PySem.Spec PyProof.Rows L2
section
variable {P : Program} {w : World} {K : PySem.W.Frag} {mg : Str → Option Value} {base : Heap}
theorem ite_by {b : Bool} {A B : Prop} (h1 : b = true → A) (h2 : b = false → B) : if b = true then A else B := by
  cases b with
  | true => exact iteT (h1 rfl)
  | false => exact iteF (h2 rfl)
theorem ints_dp {H : Hp} : ∀ l : List Int, DpAll K H (l.map V.int) (l.map PyData.int)
  | [] => .nil
  | x :: l => .cons (.int x) (ints_dp l)
section
variable {σ : L2.St} {H : Hp} {fr : List FV} {ta tb te tn : TE} {tt : TT} {tr : TA} {tu tz : TS} {g : TG} {D : Ends} {p a : Addr} {c : Int} {i n : Nat} {d : PyData}
theorem e_varS {ns : List Int} (F : Fd K H σ fr) (h : fr[i]? = some (.v (.ref a))) (S : SqL K H a (ns.map V.int)) : ED K (tVar i) σ H (.list (ns.map PyData.int)) := fun H1 e Q q => ⟨.ref a, F.v h, q _ H1 (Same.refl H1) (.lst ((kd_of e).l S) (ints_dp ns))⟩
theorem c_max2 {i j : Int} : RCd K (fun xs H Q => ∃ i j, xs = [.int i, .int j] ∧ Q (.int (if j > i then j else i)) H) [.int i, .int j] (.int (if j > i then j else i)) := fun vs H Q d q => by
  obtain ⟨v, u, rfl, dv, du⟩ := dpall2 d
  cases dv; cases du
  exact ⟨i, j, rfl, q _ H (Same.refl H) (.int _)⟩
theorem c_min2 {i j : Int} : RCd K (fun xs H Q => ∃ i j, xs = [.int i, .int j] ∧ Q (.int (if j < i then j else i)) H) [.int i, .int j] (.int (if j < i then j else i)) := fun vs H Q d q => by
  obtain ⟨v, u, rfl, dv, du⟩ := dpall2 d
  cases dv; cases du
  exact ⟨i, j, rfl, q _ H (Same.refl H) (.int _)⟩
theorem r_neS {x y : Str} : RD K rNe (.str x) (.str y) (.bool (!decide (x = y))) := fun a b H Q da db q => by
  cases da; cases db
  have e : decide (V.str x = V.str y) = decide (x = y) := by simp
  exact ⟨rfl, by rw [e]; exact q _ H (Same.refl H) (.bl _)⟩
theorem x_hand {ns : List Int} {k : Nat} (h : EA K tr σ H [.list (ns.map PyData.int), .int (k : Int)]) (hk : k ≤ 100) {Q : VK} (kk : ∀ p H', H p = none → Same H H' → HandAt K H' p 0 → Q (.ref p) H') : tCall (spHand K) [] E0 tr σ H Q :=
  h H (Same.refl H) _ fun vs H1 e1 d1 => ⟨ns, k, by rw [List.append_nil]; exact d1, hk, fun p H' hp e2 hH => kk p H' (fresh_same e1 hp) (e1.trans e2) hH⟩
theorem x_built (hh : EV ta σ H (.ref p)) (hn : ED K tn σ H (.int (n : Int))) (n1 : 1 ≤ n) (n5 : n ≤ 5) (hH : HandAt K H p c) (hc : c ≤ 50000) {Q : VK}
    (k : ∀ jobs v H', JK jobs → jobs.length = n → Dp K H' v (.tuple (jobs.map Job.enc)) → Mu K [p] H H' → HandAt K H' p (c + 100) → Q v H') : tCall (spBuilt K) [] E0 (tCons ta (tCons tn tNil)) σ H Q :=
  hh H (Same.refl H) _ fun H1 e1 => hn H1 e1 _ fun v H2 e2 d2 => by
    cases d2
    exact ⟨p, n, c, rfl, n1, n5, hH.same (e1.trans e2), hc, fun jobs v H' a1 a2 a3 a4 a5 => k jobs v H' a1 a2 a3 ((mu_same (e1.trans e2)).trans a4) a5⟩
theorem flat_one (v : V) : ∀ n : Nat, (List.replicate n [v]).flatten = List.replicate n v
  | 0 => rfl
  | n + 1 => by
    rw [List.replicate_succ, List.flatten_cons, flat_one v n, List.replicate_succ]
    rfl
theorem dp_rep {v : V} (h : Dp K H v d) : ∀ n : Nat, DpAll K H (List.replicate n v) (List.replicate n d)
  | 0 => .nil
  | n + 1 => by
    rw [List.replicate_succ, List.replicate_succ]
    exact .cons h (dp_rep h n)
theorem x_rep (he : ED K te σ H d) (hn : ED K tn σ H (.int (n : Int))) (hl : n ≤ 1000) {Q : VK} (k : ∀ q H1, H q = none → Same H H1 → LsD K H1 q (List.replicate n d) → Q (.ref q) H1) : tOp rRep (tLst (tCons te tNil)) tn σ H Q :=
  he H (Same.refl H) _ fun v H1 e1 d1 => ⟨by show 1 ≤ _; exact Nat.le_trans (show 1 ≤ 100000 by omega) (by decide), fun l hl' => by
    have e2 : Same H1 (upd H1 l (.lst [v])) := same_new hl'
    refine hn _ (e1.trans e2) _ fun u H3 e3 d3 => ?_
    cases d3
    refine ⟨l, _, [v], rfl, rfl, e3 l _ upd_same, by omega, by omega, ?_, fun q hq => ?_⟩
    · rw [Int.toNat_natCast]
      exact Nat.le_trans (show 1 * n ≤ 100000 by omega) (by decide)
    · rw [Int.toNat_natCast, flat_one]
      have e13 := (e1.trans e2).trans e3
      exact k q _ (fresh_same e13 hq) (e13.trans (same_new hq)) ⟨_, upd_same, dpall_mono (kd_of (same_new hq)) _ _ (dp_rep (dp_mono (kd_of (e2.trans e3)) _ _ d1) n)⟩⟩
theorem x_done {t0 t1 t2 t3 : TE} {s t : Addr} {own : Nat} {jobs : List Job} {W : Wld} (h0 : ED K t0 σ H (.int (own : Int))) (h1 : ED K t1 σ H (jAt jobs own).enc) (h2 : EV t2 σ H (.ref s)) (h3 : EV t3 σ H (.ref t)) (hW : WInv jobs W) (hn : jobs.length ≤ 5) (ho : own < jobs.length)
    (hl : (W.told own).length ≤ 900) (hst : s ≠ t) (Ls : LsD K H s (W.state.map Val.enc)) (Lt : LsD K H t (W.tolds.map encT)) {Q : VK}
    (k : ∀ H', Mu K [s, t] H H' → LsD K H' s ((stepW jobs own W).state.map Val.enc) → LsD K H' t ((stepW jobs own W).tolds.map encT) → Q (.bl true) H') : tCall (spDone K) [] E0 (tCons t0 (tCons t1 (tCons t2 (tCons t3 tNil)))) σ H Q :=
  h0 H (Same.refl H) _ fun v0 H1 e1 d1 => h1 H1 e1 _ fun v1 H2 e2 d2 => h2 H2 (e1.trans e2) _ fun H3 e3 => h3 H3 ((e1.trans e2).trans e3) _ fun H4 e4 => by
    have e := ((e1.trans e2).trans e3).trans e4
    exact ⟨v0, v1, s, t, own, jobs, W, rfl, dp_mono (kd_of ((e2.trans e3).trans e4)) _ _ d1, dp_mono (kd_of (e3.trans e4)) _ _ d2, hW, hn, ho, hl, hst, Ls.same e, Lt.same e, fun H' u a b => k H' ((mu_same e).trans u) a b⟩
/-- for x in range(e): the turns, whatever changes -/
theorem x_forR1 (h : EA K tr σ H [.int (n : Int)]) (hn : n ≤ 1000000) (k : ∀ H1, Same H H1 → tFor (fun σ H R => R (Itr 0 n) H) g tu D σ H1) : tFor (iRng1 tr) g tu D σ H := h H (Same.refl H) _ fun vs H1 e1 d1 => by
  obtain ⟨v, rfl, dv⟩ := dpall1 d1
  cases dv
  refine ⟨_, rfl, by omega, by omega, ?_⟩
  rw [Int.toNat_natCast]
  exact k H1 e1
theorem x_forL {ns : List Int} {q : Addr} {j : Nat} (h : σ[i]? = some (some (.ref q))) (L : LsD K H q (ns.map PyData.int)) (Pv : Nat → L2.St → Hp → Prop) (h0 : Pv 0 σ H) (hl : ∀ i σ' H', Pv i σ' H' → LsD K H' q (ns.map PyData.int))
    (hs : ∀ i x σ' H', ns[i]? = some x → Pv i σ' H' → tu { D with nx := Pv (i + 1), ct := Pv (i + 1), bk := D.nx } (σ'.set j (some (.int x))) H') (hd : ∀ σ' H', Pv ns.length σ' H' → D.nx σ' H') : tFor (iList K (tVar i)) (gName j) tu D σ H := by
  have sq : ∀ {H'}, LsD K H' q (ns.map PyData.int) → SqL K H' q (ns.map V.int) := fun {H'} L => by
    obtain ⟨ws, hw, dw⟩ := L
    have := dw.ints
    subst this
    exact SqL.of hw
  refine ⟨.ref q, h, q, rfl, ⟨_, sq L⟩, for_list (xs := ns.map V.int) Pv h0 (fun i σ' H' _ P => sq (hl i σ' H' P)) (fun i x σ' H' hx P => ?_) (fun σ' H' P => hd σ' H' (by rw [List.length_map] at P; exact P))⟩
  rw [List.getElem?_map] at hx
  obtain ⟨y, hy, rfl⟩ := Option.map_eq_some_iff.mp hx
  exact hs i y σ' H' hy P
theorem x_lcR1 {vs : List Nat} {Q : VK} (h : EA K tr σ H [.int (n : Int)]) (hn : n ≤ 1000000) (k : ∀ H1, Same H H1 → tLc (fun σ H R => R (Itr 0 n) H) g tt te vs σ H1 Q) : tLc (iRng1 tr) g tt te vs σ H Q := h H (Same.refl H) _ fun ws H1 e1 d1 => by
  obtain ⟨v, rfl, dv⟩ := dpall1 d1
  cases dv
  refine ⟨_, rfl, by omega, by omega, ?_⟩
  rw [Int.toNat_natCast]
  exact k H1 e1
theorem q_lcR1 {vs : List Nat} (h : EA K tr σ H [.int (n : Int)]) (hn : n ≤ 1000000) (k : ∀ H1, Same H H1 → tLc (fun σ H R => R (Itr 0 n) H) g tt te vs σ H1 fun v H2 => tz D (σ.set i (some v)) H2) : tSeq (tAsg (tLc (iRng1 tr) g tt te vs) (gName i)) tz D σ H := x_lcR1 h hn k
/-- [e for x in range(n)] -/
theorem e_lcR1 {vs : List Nat} {j : Nat} (gd : Nat → PyData) (F : Fd K H σ fr) (h : EA K tr σ H [.int (n : Int)]) (hz : n ≤ 40000) (hj : j ∈ vs) (hg : ∀ d, noL (gd d) = true)
    (he : ∀ d, d < n → ∀ σ' H', Same H H' → Fd K H' σ' ((wipeF fr vs).set j (.d (.int (d : Int)))) → ED K te σ' H' (gd d)) :
    ED K (tLc (iRng1 tr) (gName j) tYes te vs) σ H (.list ((List.range n).map gd)) := fun H0 e0 Q q => h H0 e0 _ fun ws H1 e1 d1 => by
  obtain ⟨v, rfl, dv⟩ := dpall1 d1
  cases dv
  refine ⟨_, rfl, by omega, by omega, fun Dl hD => ?_⟩
  rw [Int.toNat_natCast]
  refine lc_range (lo := 0) (n := n) (fun i H' => Cw K H1 Dl (((List.range n).take i).map gd) H') (cw_start hD) (fun i H' hi' p => ?_) (fun H' p => ?_)
  · have F1 : Fd K H1 ((wipe σ vs).set j (some (.int (i : Int)))) ((wipeF fr vs).set j (.d (.int (i : Int)))) := ((F.same (e0.trans e1)).wipe vs).set j ⟨_, rfl, .int _⟩
    have ha : (((List.range n).take i).map gd).length < 50000 := by rw [List.length_map, List.length_take]; omega
    have hno : noLs (((List.range n).take i).map gd) = true := by
      rw [noLs_iff]
      intro x hx
      obtain ⟨y, _, rfl⟩ := List.mem_map.mp hx
      exact hg y
    rw [Int.zero_add]
    refine ⟨by show wipe ((wipe σ vs).set j (some _)) vs = _; rw [wipe_set hj, wipe_wipe], ?_⟩
    refine cw_turn (b := true) (y := gd i) p ha hno (fun _ => hg i) (fun H1 _ Q q => q H1 (Same.refl H1)) (fun _ => he i hi' _ H1 (e0.trans e1) F1) fun H2 p2 => ?_
    have et : ((List.range n).take (i + 1)).map gd = ((List.range n).take i).map gd ++ [gd i] := by
      rw [List.take_add_one, List.getElem?_range hi', List.map_append]
      rfl
    rw [et]
    exact p2
  · have e2 : (List.range n).take n = List.range n := List.take_of_length_le (by simp)
    rw [e2] at p
    obtain ⟨p1, p2, ws, p3, p4⟩ := p
    exact q _ H' (e1.trans p2) (.lst (SqL.of p3) p4)
end
theorem SqL.mu {H H' : Hp} {a : Addr} {xs : List V} (h : SqL K H a xs) (u : Mu K [] H H') : SqL K H' a xs := by
  rcases h with (h | ⟨o, h⟩) | h
  · exact .inl (.inl (u.keep a _ h (by simp)))
  · exact .inl (.inr ⟨o, u.keep a _ h (by simp)⟩)
  · exact .inr h
theorem fd_un {H : Hp} {σ : L2.St} {f : FV} {fr : List FV} (F : Fd K H σ (f :: fr)) : Fd K H σ (f :: fr.map fun _ => .un) := by
  have key : ∀ {σ : L2.St} {fr : List FV}, Paired (fun (o : Option V) (f : FV) => FvOk K H f o) σ fr → Paired (fun (o : Option V) (f : FV) => FvOk K H f o) σ (fr.map fun _ => .un) := by
    intro σ fr F
    induction F with
    | nil => exact .nil
    | cons r t ih => exact .cons True.intro ih
  cases F with
  | cons r t => exact .cons r (key t)

theorem mu_fresh {S : List Addr} {H H' : Hp} {q : Addr} (u : Mu K S H H') (hq : q ∉ S) (h : H' q = none) : H q = none := by
  cases z : H q with
  | none => rfl
  | some o => rw [u.keep q o z hq] at h; cases h
/-! ### a turn -/
def lawF (a : Addr) (k : Nat) (p : Addr) (jobs : List Job) (s t : Addr) (x7 : FV) (g : Addr) : List FV := [.v (.ref a), .d (.int (k : Int)), .v (.ref p), .d (.int ((jobs.length : Nat) : Int)), .d (.tuple (jobs.map Job.enc)), .v (.ref s), .v (.ref t), x7, .v (.ref g), .un, .un, .un, .un, .un]
theorem lawF_no {a : Addr} {k : Nat} {p : Addr} {jobs : List Job} {s t : Addr} {x7 x9 x10 : FV} {g : Addr} (h : noLF x7 = true) (h9 : noLF x9 = true) (h10 : noLF x10 = true) : ∀ f ∈ ((lawF a k p jobs s t x7 g).set 9 x9).set 10 x10, noLF f = true := by
  intro f hf
  unfold lawF at hf
  simp only [List.set_cons_succ, List.set_cons_zero, List.mem_cons, List.not_mem_nil, or_false] at hf
  rcases hf with rfl | rfl | rfl | rfl | rfl | rfl | rfl | rfl | rfl | rfl | rfl | rfl | rfl | rfl
  all_goals first | rfl | assumption | exact noLs_J _
structure Tn (K : PySem.W.Frag) (B : Hp) (a p s t g : Addr) (jobs : List Job) (k : Nat) (x7 : FV) (GI : List Int) (W : Wld) (c : Int) (L : Nat) (σ : L2.St) (H : Hp) : Prop where
  fd : Fd K H σ (lawF a k p jobs s t x7 g)
  mu : Mu K [p, s, t, g] B H
  hand : HandAt K H p c
  st : LsD K H s (W.state.map Val.enc)
  td : LsD K H t (W.tolds.map encT)
  go : LsD K H g (GI.map PyData.int)
  gm : ∀ x ∈ GI, 0 ≤ x ∧ x < (jobs.length : Int)
  gl : GI.length ≤ 5
  inv : WInv jobs W
  len : ∀ q, (W.told q).length ≤ L
/-- four places, all unlike -/
structure Pl (p s t g : Addr) : Prop where
  ps : p ≠ s
  pt : p ≠ t
  pg : p ≠ g
  st : s ≠ t
  sg : s ≠ g
  tg : t ≠ g
section
variable {B : Hp} {a p s t g : Addr} {jobs : List Job} {k : Nat} {x7 : FV} {GI : List Int} {W : Wld} {c c' : Int} {L L' : Nat} {σ σ' : L2.St} {H H' : Hp}
theorem Tn.same (T : Tn K B a p s t g jobs k x7 GI W c L σ H) (e : Same H H') : Tn K B a p s t g jobs k x7 GI W c L σ H' := ⟨T.fd.same e, T.mu.same e, T.hand.same e, T.st.same e, T.td.same e, T.go.same e, T.gm, T.gl, T.inv, T.len⟩
theorem Tn.le (T : Tn K B a p s t g jobs k x7 GI W c L σ H) (hc : c ≤ c') (hL : L ≤ L') : Tn K B a p s t g jobs k x7 GI W c' L' σ H := ⟨T.fd, T.mu, T.hand.le hc, T.st, T.td, T.go, T.gm, T.gl, T.inv, fun q => Nat.le_trans (T.len q) hL⟩
theorem Tn.frame {y7 : FV} (T : Tn K B a p s t g jobs k x7 GI W c L σ H) (F : Fd K H σ' (lawF a k p jobs s t y7 g)) : Tn K B a p s t g jobs k y7 GI W c L σ' H := ⟨F, T.mu, T.hand, T.st, T.td, T.go, T.gm, T.gl, T.inv, T.len⟩
/-- the hand is drawn from -/
theorem Tn.drawn (T : Tn K B a p s t g jobs k x7 GI W c L σ H) (pl : Pl p s t g) (h7 : noLF x7 = true) (u : Mu K [p] H H') (hH : HandAt K H' p c') : Tn K B a p s t g jobs k x7 GI W c' L σ H' :=
  ⟨T.fd.mu (fun f hf => lawF_no (x9 := .un) (x10 := .un) h7 rfl rfl f hf) u, T.mu.trans (u.mono (by simp)), hH, T.st.mu (noLs_V _) u (by simp [Ne.symm pl.ps]), T.td.mu (noLs_Ts _) u (by simp [Ne.symm pl.pt]), T.go.mu (noLs_I _) u (by simp [Ne.symm pl.pg]), T.gm, T.gl, T.inv, T.len⟩
abbrev doneS (K : PySem.W.Frag) : TS := tIfS (tNot (tB (tCall (spDone K) [] E0 (tCons (tVar 7) (tCons (tOp (rIxT K) (tVar 4) (tVar 7)) (tCons (tVar 5) (tCons (tVar 6) tNil))))))) (tRet (tC (.bl false))) tNext
theorem job_at {own : Nat} (ho : own < jobs.length) : atI (jobs.map Job.enc) (own : Int) = some (jAt jobs own).enc := atI_nat (by
  rw [List.getElem?_map, List.getElem?_eq_getElem ho]
  unfold jAt
  rw [List.getD_eq_getElem?_getD, List.getElem?_eq_getElem ho]
  rfl)
theorem deeds_loop {r own : Nat} {D : Ends} (pl : Pl p s t g) (T : Tn K B a p s t g jobs k (.d (.int (own : Int))) GI W c L σ H) (ho : own < jobs.length) (h5 : jobs.length ≤ 5) (hL : L + r ≤ 900)
    (kk : ∀ σ' H', Tn K B a p s t g jobs k (.d (.int (own : Int))) GI (runW jobs own r W) c (L + r) σ' H' → D.nx σ' H') : tFor (fun σ H R => R (Itr 0 r) H) (gName 10) (doneS K) D σ H := by
  refine for_range (lo := 0) (fun j σ' H' => Tn K B a p s t g jobs k (.d (.int (own : Int))) GI (runW jobs own j W) c (L + j) σ' H') T (fun j σ' H' hj T' => ?_) kk
  have F : Fd K H' (σ'.set 10 (some (.int (0 + (j : Int))))) _ := T'.fd.set 10 (f := .d (.int (0 + (j : Int)))) (v := .int (0 + (j : Int))) (fvd (.int _))
  refine x_done (e_var F rfl) (e_op (e_var F rfl) (e_var F rfl) (r_ixT (job_at ho))) (e_varV F rfl) (e_varV F rfl) T'.inv h5 ho (by have := T'.len own; omega) pl.st T'.st T'.td fun H2 u2 L1 L2' => ⟨true, rfl, ite_by (fun z => by cases z) fun _ => ?_⟩
  have hT : own < (runW jobs own j W).tolds.length := by rw [T'.inv.ls.2]; exact ho
  refine ⟨(F.mu (fun f hf => lawF_no (x9 := .un) rfl rfl rfl f hf) u2).forget 10, T'.mu.trans (u2.mono (by simp)), T'.hand.mu u2 (by simp [pl.ps, pl.pt]), L1, L2', T'.go.mu (noLs_I _) u2 (by simp [Ne.symm pl.sg, Ne.symm pl.tg]), T'.gm, T'.gl, T'.inv.step (by omega) ho, fun q => step_len_le hT (T'.len q)⟩
end
end
end My
/-! the law -/
namespace My
open PySem PySem.Spec PyProof.Rows L2
section
variable {P : Program} {w : World} {K : PySem.W.Frag} {mg : Str → Option Value} {base : Heap}
theorem first_at {x : Int} : ∀ {l : List Int}, x ∈ l → ∃ j, l[j]? = some x ∧ ∀ m : Nat, m < j → l[m]? ≠ some x
  | [], h => by simp at h
  | y :: l, h => by
    by_cases e : y = x
    · exact ⟨0, by rw [e] <;> rfl, fun m hm => by omega⟩
    · rcases List.mem_cons.mp h with h | h
      · exact absurd h.symm e
      · obtain ⟨j, h1, h2⟩ := first_at h
        refine ⟨j + 1, by simpa using h1, fun m hm => ?_⟩
        cases m with
        | zero => simpa using e
        | succ m => simpa using h2 m (by omega)
theorem idle_zero {own : Nat} {items : List (Option Int)} {told : Tld} : nextDeed own (.sums items) told = nextDeed 0 (.sums items) told := rfl
theorem nz_len (st : List Val) : (((st.map Val.enc).filter fun d => !PyData.eqv d (.int 0)).map fun d => d).length = nz st := by
  rw [List.length_map, List.filter_map, List.length_map]
  unfold nz
  congr 1
  apply List.filter_congr
  intro v _
  show (!PyData.eqv v.enc (.int 0)) = _
  rw [ne_zero]
def spLaw (K : PySem.W.Frag) : Sp := fun vs H Q _ => ∃ (a : Addr) (ns : List Int), vs = [.ref a] ∧ SqL K H a (ns.map V.int) ∧ ns.length ≤ 63 ∧ ∀ H', Q (.bl true) H'
theorem scLaw : FnScope ["_law_script", "_law_k", "_law_hand_here", "_law_hands", "_law_jobs", "_law_state", "_law_told", "_law_own", "_law_going", "_law_turn", "_law_deed", "_law_answers", "_law_there", "_law_value"] ["_law_script"] (defScope sLaw) := ⟨rfl, rfl, rfl, by decide +kernel, rfl, by decide +kernel, by decide +kernel⟩
theorem ok_law (T : Tx K mg) {f : Addr} {fd : FuncData} (F : Fun K "law" "law" sLaw f fd) : FnOk P w K mg base CX0 30 f fd ["_law_script"] (spLaw K) := by
  have O_law_hand : Ok P w K mg base 1 (He.ga K "_law_hand") ["_law_script", "_law_k"] (spHand K) := ok_law_hand T
  have O_law_take : Ok P w K mg base 1 (He.ga K "_law_take") ["_law_hand_here", "_law_many"] (spTake K) := ok_law_take T
  have O_law_pick : Ok P w K mg base 2 (He.ga K "_law_pick") ["_law_hand_here", "_law_some"] (spPick K) := ok_law_pick T
  have O_law_built : Ok P w K mg base 3 (He.ga K "_law_built") ["_law_hand_here", "_law_hands"] (spBuilt K) := ok_law_built T
  have O_law_done : Ok P w K mg base 8 (He.ga K "_law_done") ["_law_own", "_law_job", "_law_state", "_law_told"] (spDone K) := ok_law_done T
  have O_next_deed : Ok P w K mg base 6 (He.ga K "next_deed") ["hand", "job", "told"] (spD K RNext) := ok_next_deed T
  have O_answer_of : Ok P w K mg base 6 (He.ga K "answer_of") ["hand", "job", "told"] (spD K RAns) := ok_answer_of T
  have O_law_sums_right : Ok P w K mg base 7 (He.ga K "_law_sums_right") ["_law_job", "_law_told"] (spD K RSumsRight) := ok_law_sums_right T
  have O_law_fit : Ok P w K mg base 2 (He.ga K "_law_fit") ["_law_jobs", "_law_answers", "_law_there"] (spD K RFit) := ok_law_fit T
  refine F.ok scLaw (fun vs H Q E h => ?_) (fun cdv A outer s H vs Q E hr h => ?_)
  · obtain ⟨_, _, rfl, _⟩ := h
    rfl
  obtain ⟨a, ns, rfl, hS, h63, k⟩ := h
  refine ⟨_, (pss_cons (ps_for PassesOwn.never rfl (pi_range1 (by rfl) T.b_range (pa_cons (pe_callB (call_max2 rfl) (by rfl) T.b_max (by decide +kernel) (pa_cons pe_int (pa_cons (pe_callB (call_min2 rfl) (by rfl) T.b_min (by decide +kernel) (pa_cons pe_int (pa_cons (pe_callB call_len_seq (by rfl) T.b_len (by decide +kernel) (pa_cons (pv 0) pa_nil)) pa_nil))) pa_nil))) pa_nil)) (pg_name (i := 1) scLaw.nd rfl (Or.inl rfl)) (pss_cons (ps_set (i := 2) scLaw.nd rfl (Or.inr rfl) (pe_ok O_law_hand (hr.mono (by decide)) T.g_law_hand (pa_cons (pv 0) (pa_cons (pv 1) pa_nil))))
      (pss_cons (ps_set (i := 3) scLaw.nd rfl (Or.inl rfl) (pe_op op_add pe_int (pe_ok O_law_take (hr.mono (by decide)) T.g_law_take (pa_cons (pv 2) (pa_cons pe_int pa_nil)))))
      (pss_cons (ps_set (i := 4) scLaw.nd rfl (Or.inr rfl) (pe_ok O_law_built (hr.mono (by decide)) T.g_law_built (pa_cons (pv 2) (pa_cons (pv 3) pa_nil))))
      (pss_cons (ps_asg (pe_tup (pa_cons (pe_op op_rep (pe_lst (pa_cons pe_int pa_nil)) (pv 3)) (pa_cons (pe_op op_rep (pe_lst (pa_cons (pe_tup pa_nil) pa_nil)) (pv 3)) pa_nil))) (pg_tup (by rfl) (pgs_cons (pg_name (i := 5) scLaw.nd rfl (Or.inl rfl)) (pgs_cons (pg_name (i := 6) scLaw.nd rfl (Or.inr rfl)) pgs_nil))))
      (pss_cons (ps_setLc (i := 8) (own := [("_law_own", 7)]) (g := (gName 7)) (tt := (tTest (tOp (rI0 fun i j => .bl (decide (j < i))) (tCall (spTake K) [] E0 (tCons (tVar 2) (tCons (tC (.int 6)) tNil))) (tC (.int 0))))) (te := (tVar 7)) rfl scLaw.nd rfl rfl (sw_true rfl rfl rfl (by decide +kernel)) (pi_range1 (by rfl) T.b_range (pa_cons (pv 3) pa_nil)) (blkOk_by (own := [("_law_own", 7)]) (N := ["_law_script", "_law_k", "_law_hand_here", "_law_hands", "_law_jobs", "_law_state", "_law_told", "_law_own", "_law_going", "_law_turn", "_law_deed", "_law_answers", "_law_there", "_law_value"]) (sc := defScope sLaw) (by decide +kernel)) (fun _ _ _ _ _ => (pg_name (i := 7) scLaw.nd rfl (Or.inl rfl))) (fun _ _ _ _ _ => (pts_one (pt_cmpR op_gt (pe_ok O_law_take (hr.mono (by decide)) T.g_law_take (pa_cons (pv 2) (pa_cons pe_int pa_nil))) pe_int (nomark _)))) (fun _ _ _ _ _ => (pv 7)))
      (pss_cons (ps_for PassesOwn.never rfl (pi_range1 (by rfl) T.b_range (pa_cons pe_int pa_nil)) (pg_name (i := 9) scLaw.nd rfl (Or.inl rfl)) (pss_one (ps_if (pt_cmpR (op_neD hr.units) (pv 8) (pe_lst pa_nil) (nomark _)) (pss_cons (ps_set (i := 7) scLaw.nd rfl (Or.inl rfl) (pe_ok O_law_pick (hr.mono (by decide)) T.g_law_pick (pa_cons (pv 2) (pa_cons (pv 8) pa_nil))))
      (pss_cons (ps_for PassesOwn.never rfl (pi_range1 (by rfl) T.b_range (pa_cons (pe_ok O_law_pick (hr.mono (by decide)) T.g_law_pick (pa_cons (pv 2) (pa_cons (pe_lst (pa_cons pe_int (pa_cons pe_int (pa_cons pe_int (pa_cons pe_int (pa_cons pe_int pa_nil)))))) pa_nil))) pa_nil)) (pg_name (i := 10) scLaw.nd rfl (Or.inl rfl)) (pss_one (ps_if (pt_not (pt_val (pe_ok O_law_done (hr.mono (by decide)) T.g_law_done (pa_cons (pv 7) (pa_cons (pe_ix ix_tup (pv 4) (pv 7) (fun _ _ => rfl)) (pa_cons (pv 5) (pa_cons (pv 6) pa_nil))))))) (pss_one (ps_ret pe_bl)) pss_nil)))
      (pss_one (ps_if (pt_cmpR op_eq (pe_ok O_law_take (hr.mono (by decide)) T.g_law_take (pa_cons (pv 2) (pa_cons pe_int pa_nil))) pe_int (nomark _)) (pss_one (ps_expr (pe_bm PySem.F.plainAttrs_list PySem.F.slot_list_remove PySem.F.type_list_remove mt_remove (pv 8) (pa_cons (pv 7) pa_nil)))) pss_nil)))) pss_nil)))
      (pss_cons (ps_for PassesOwn.never rfl (pi_list (pv 8)) (pg_name (i := 7) scLaw.nd rfl (Or.inl rfl)) (pss_cons (ps_for PassesOwn.never rfl (pi_range1 (by rfl) T.b_range (pa_cons pe_int pa_nil)) (pg_name (i := 10) scLaw.nd rfl (Or.inl rfl)) (pss_one (ps_if (pt_not (pt_val (pe_ok O_law_done (hr.mono (by decide)) T.g_law_done (pa_cons (pv 7) (pa_cons (pe_ix ix_tup (pv 4) (pv 7) (fun _ _ => rfl)) (pa_cons (pv 5) (pa_cons (pv 6) pa_nil))))))) (pss_one (ps_ret pe_bl)) pss_nil)))
      (pss_one (ps_if (PW.pt (pw_and (pt_cmpR op_notN (pe_ok O_next_deed (hr.mono (by decide)) T.g_next_deed (pa_cons (pv 7) (pa_cons (pe_ix ix_tup (pv 4) (pv 7) (fun _ _ => rfl)) (pa_cons (pe_ix ix_list (pv 6) (pv 7) (fun _ _ => rfl)) pa_nil)))) pe_non (nomark _)) (pw_and1 (pt_cmpR op_ne (pe_ix ix_tup (pe_ix ix_tup (pv 4) (pv 7) (fun _ _ => rfl)) pe_int (fun _ _ => rfl)) pe_str (nomark _))))) (pss_one (ps_ret pe_bl)) pss_nil))))
      (pss_cons (ps_setLc (i := 11) (own := [("_law_own", 7)]) (g := (gName 7)) (tt := tYes) (te := (tCall (spD K RAns) [] E0 (tCons (tVar 7) (tCons (tOp (rIxT K) (tVar 4) (tVar 7)) (tCons (tOp (rIxL K) (tVar 6) (tVar 7)) tNil))))) rfl scLaw.nd rfl rfl (sw_true rfl rfl rfl (by decide +kernel)) (pi_range1 (by rfl) T.b_range (pa_cons (pv 3) pa_nil)) (blkOk_by (own := [("_law_own", 7)]) (N := ["_law_script", "_law_k", "_law_hand_here", "_law_hands", "_law_jobs", "_law_state", "_law_told", "_law_own", "_law_going", "_law_turn", "_law_deed", "_law_answers", "_law_there", "_law_value"]) (sc := defScope sLaw) (by decide +kernel)) (fun _ _ _ _ _ => (pg_name (i := 7) scLaw.nd rfl (Or.inl rfl))) (fun _ _ _ _ _ => pts_nil) (fun _ _ _ _ _ => (pe_ok O_answer_of (hr.mono (by decide)) T.g_answer_of (pa_cons (pv 7) (pa_cons (pe_ix ix_tup (pv 4) (pv 7) (fun _ _ => rfl)) (pa_cons (pe_ix ix_list (pv 6) (pv 7) (fun _ _ => rfl)) pa_nil))))))
      (pss_cons (ps_set (i := 12) scLaw.nd rfl (Or.inl rfl) (pe_callB call_len_seq (by rfl) T.b_len (by decide +kernel) (pa_cons (pe_lc (own := [("_law_value", 13)]) (g := (gName 13)) (tt := (tTest (tOp (rNeD K) (tVar 13) (tC (.int 0))))) (te := (tVar 13)) (by rfl) scLaw.nd (pi_list (pv 5)) (blkOk_by (own := [("_law_value", 13)]) (N := ["_law_script", "_law_k", "_law_hand_here", "_law_hands", "_law_jobs", "_law_state", "_law_told", "_law_own", "_law_going", "_law_turn", "_law_deed", "_law_answers", "_law_there", "_law_value"]) (sc := defScope sLaw) (by decide +kernel)) (fun _ _ _ _ _ => (pg_name (i := 13) scLaw.nd rfl (Or.inl rfl))) (fun _ _ _ _ _ => (pts_one (pt_cmpR (op_neD hr.units) (pv 13) pe_int (nomark _)))) (fun _ _ _ _ _ => (pv 13))) pa_nil)))
      (pss_one (ps_if (pt_cmpR op_eq (pe_ix ix_tup (pe_ix ix_tup (pv 4) pe_int (fun _ _ => rfl)) pe_int (fun _ _ => rfl)) pe_str (nomark _)) (pss_one (ps_for PassesOwn.never rfl (pi_list (pv 8)) (pg_name (i := 7) scLaw.nd rfl (Or.inl rfl)) (pss_one (ps_if (pt_not (pt_val (pe_ok O_law_sums_right (hr.mono (by decide)) T.g_law_sums_right (pa_cons (pe_ix ix_tup (pv 4) (pv 7) (fun _ _ => rfl)) (pa_cons (pe_ix ix_list (pv 6) (pv 7) (fun _ _ => rfl)) pa_nil))))) (pss_one (ps_ret pe_bl)) pss_nil)))) (pss_one (ps_if (pt_not (pt_val (pe_ok O_law_fit (hr.mono (by decide)) T.g_law_fit (pa_cons (pv 4) (pa_cons (pv 11) (pa_cons (pv 12) pa_nil)))))) (pss_one (ps_ret pe_bl)) pss_nil))))))))))))))
      (pss_one (ps_ret pe_bl))), ?_⟩
  have F0 : Fd K H (L2.start ["_law_script", "_law_k", "_law_hand_here", "_law_hands", "_law_jobs", "_law_state", "_law_told", "_law_own", "_law_going", "_law_turn", "_law_deed", "_law_answers", "_law_there", "_law_value"] [.ref a]) [.v (.ref a), .un, .un, .un, .un, .un, .un, .un, .un, .un, .un, .un, .un, .un] :=
    .cons rfl (.cons True.intro (.cons True.intro (.cons True.intro (.cons True.intro (.cons True.intro (.cons True.intro (.cons True.intro (.cons True.intro (.cons True.intro (.cons True.intro (.cons True.intro (.cons True.intro (.cons True.intro .nil)))))))))))))
  obtain ⟨nk, hnk, nk3⟩ : ∃ nk : Nat, (if (if ((ns.map PyData.int).length : Int) < 3 then ((ns.map PyData.int).length : Int) else 3) > 2 then (if ((ns.map PyData.int).length : Int) < 3 then ((ns.map PyData.int).length : Int) else 3) else 2) = (nk : Int) ∧ nk ≤ 3 := by
    by_cases z : ((ns.map PyData.int).length : Int) < 3
    · rw [if_pos z]
      exact ⟨2, by rw [if_neg (by omega)] <;> rfl, by omega⟩
    · rw [if_neg z]
      exact ⟨3, by rw [if_pos (by omega)] <;> rfl, by omega⟩
  refine q_forR (n := nk) (e_cons ((e_cb (e_cons e_int (e_cons (e_cb (e_cons e_int (e_cons (e_cb (e_cons (e_varS F0 rfl hS) e_nil) c_lenL) e_nil)) c_min2) e_nil)) c_max2).is (by rw [hnk])) e_nil) (by omega) (fun i σ' H' => Mu K [] H H' ∧ Fd K H' σ' [.v (.ref a), .un, .un, .un, .un, .un, .un, .un, .un, .un, .un, .un, .un, .un]) (fun H1 e1 => ⟨mu_same e1, F0.same e1⟩) (fun kk σ0 H0 hkk P0 => ?_) (fun σ' H' P' => ?_)
  · obtain ⟨u0, G0⟩ := P0
    have hS0 := My.SqL.mu hS u0
    have F1 : Fd K H0 (σ0.set 1 (some (.int (kk : Int)))) [.v (.ref a), .d (.int (kk : Int)), .un, .un, .un, .un, .un, .un, .un, .un, .un, .un, .un, .un] := G0.set 1 (f := .d (.int (kk : Int))) (v := .int (kk : Int)) (fvd (.int _))
    -- the hand
    refine x_hand (e_cons (e_varS F1 rfl hS0) (e_cons (e_var F1 rfl) e_nil)) (by omega) fun p H1 hp0 e1 hH1 => ?_
    have F2 : Fd K H1 _ [.v (.ref a), .d (.int (kk : Int)), .v (.ref p), .un, .un, .un, .un, .un, .un, .un, .un, .un, .un, .un] := (F1.same e1).set 2 (f := .v (.ref p)) rfl
    refine x_take (e_varV F2 rfl) e_int hH1 (by omega) (by omega) (by omega) fun r1 H2 a0 a1 u2 hH2 => ⟨_, _, rfl, rfl, ?_⟩
    obtain ⟨n, hn⟩ : ∃ n : Nat, 1 + r1 = (n : Int) := ⟨(1 + r1).toNat, by omega⟩
    have F3 : Fd K H2 _ [.v (.ref a), .d (.int (kk : Int)), .v (.ref p), .d (.int (n : Int)), .un, .un, .un, .un, .un, .un, .un, .un, .un, .un] := (F2.mu (by simp [noLF, noL]) u2).set 3 (f := .d (.int (n : Int))) (v := .int (1 + r1)) (fvd (by rw [hn]; exact .int _))
    refine x_built (e_varV F3 rfl) (e_var F3 rfl) (by omega) (by omega) hH2 (by omega) fun jobs vj H3 hJK hjl djobs u3 hH3 => ?_
    subst hjl
    have F4 : Fd K H3 _ [.v (.ref a), .d (.int (kk : Int)), .v (.ref p), .d (.int ((jobs.length : Nat) : Int)), .d (.tuple (jobs.map Job.enc)), .un, .un, .un, .un, .un, .un, .un, .un, .un] := (F3.mu (by simp [noLF, noL]) u3).set 4 (fvd djobs)
    have hjn : noLs (jobs.map Job.enc) = true := noLs_J jobs
    have n1 : 1 ≤ jobs.length := by omega
    have n5 : jobs.length ≤ 5 := by omega
    have u03 : Mu K [p] H0 H3 := ((mu_same e1).trans u2).trans u3
    -- the places, what is told
    refine x_rep e_int (e_var F4 rfl) (by omega) fun s H4 hs0 e4 Ls4 => ?_
    have F5 := F4.same e4
    refine x_rep (d := .tuple []) (e_tup e_nil (by show 0 ≤ 100000; omega)) (e_var F5 rfl) (by omega) fun t H5 ht0 e5 Lt5 => ?_
    refine ⟨by show 2 ≤ _; exact Nat.le_trans (show 2 ≤ 100000 by omega) (by decide), fun tp htp => ⟨tp, _, rfl, SqT.of upd_same, rfl, _, _, rfl, _, _, rfl, rfl, ?_⟩⟩
    have e6 : Same H5 (upd H5 tp (.tup [.ref s, .ref t])) := same_new htp
    have F6 : Fd K (upd H5 tp (.tup [.ref s, .ref t])) _ [.v (.ref a), .d (.int (kk : Int)), .v (.ref p), .d (.int ((jobs.length : Nat) : Int)), .d (.tuple (jobs.map Job.enc)), .v (.ref s), .v (.ref t), .un, .un, .un, .un, .un, .un, .un] := (((F5.same e5).same e6).set 5 (f := .v (.ref s)) rfl).set 6 (f := .v (.ref t)) rfl
    have hH6 := (hH3.same (e4.trans e5)).same e6
    have Ls6 := (Ls4.same e5).same e6
    have Lt6 := Lt5.same e6
    have eps : p ≠ s := fun z => hH3.there (by rw [z]; exact hs0)
    have ept : p ≠ t := fun z => (hH3.same e4).there (by rw [z]; exact ht0)
    have est : s ≠ t := fun z => Ls4.there (by rw [z]; exact ht0)
    have u36 := (e4.trans e5).trans e6
    have hs00 : H0 s = none := mu_fresh u03 (by simp [Ne.symm eps]) hs0
    have ht00 : H0 t = none := mu_fresh (u03.same e4) (by simp [Ne.symm ept]) ht0
    generalize upd H5 tp (.tup [.ref s, .ref t]) = H6 at *
    -- who goes on
    refine q_lcR1 (n := jobs.length) (e_cons (e_var F6 rfl) e_nil) (by omega) fun H7 e7 => ?_
    intro g hg0
    have F7 := F6.same e7
    have hH7 := hH6.same e7
    have Ls7 := Ls6.same e7
    have Lt7 := Lt6.same e7
    have epg : p ≠ g := fun z => hH7.there (by rw [z]; exact hg0)
    have esg : s ≠ g := fun z => Ls7.there (by rw [z]; exact hg0)
    have etg : t ≠ g := fun z => Lt7.there (by rw [z]; exact hg0)
    have pl : Pl p s t g := ⟨eps, ept, epg, est, esg, etg⟩
    have hg00 : H0 g = none := mu_fresh (u03.same (u36.trans e7)) (by simp [Ne.symm epg]) hg0
    have no7 : ∀ f ∈ [FV.v (.ref a), .d (.int (kk : Int)), .v (.ref p), .d (.int ((jobs.length : Nat) : Int)), .d (.tuple (jobs.map Job.enc)), .v (.ref s), .v (.ref t), .un, .un, .un, .un, .un, .un, .un], noLF f = true := by
      intro f hf
      simp only [List.mem_cons, List.not_mem_nil, or_false] at hf
      rcases hf with rfl | rfl | rfl | rfl | rfl | rfl | rfl | rfl | rfl | rfl | rfl | rfl | rfl | rfl
      all_goals first | rfl | exact hjn
    refine lc_range (lo := 0) (n := jobs.length) (fun j' H' => ∃ GI : List Int, (∀ x ∈ GI, 0 ≤ x ∧ x < (jobs.length : Int)) ∧ GI.length ≤ j' ∧ LsD K H' g (GI.map PyData.int) ∧ HandAt K H' p (101 + (j' : Int)) ∧ Mu K [g, p] H7 H') ?_ (fun j' H' hj' P' => ?_) (fun H8 P8 => ?_)
    · have e8 : Same H7 (upd H7 g (.lst [])) := same_new hg0
      exact ⟨[], by simp, by simp, ⟨[], upd_same, .nil⟩, (hH7.same e8).le (by omega), mu_same e8⟩
    · obtain ⟨GI, gm, gl, LG, hH', u'⟩ := P'
      have Fw0 := (F7.mu no7 u').wipe [7]
      have Fw : Fd K H' ((L2.wipe _ [7]).set 7 (some (.int (0 + (j' : Int))))) _ := Fw0.set 7 (f := .d (.int (0 + (j' : Int)))) (v := .int (0 + (j' : Int))) (fvd (.int _))
      refine ⟨by rw [wipe_set (by simp)]; exact wipe_wipe, ?_⟩
      refine x_take (e_varV Fw rfl) e_int hH' (by omega) (by omega) (by omega) fun r9 H9 b0 b1 u9 hH9 => ⟨_, _, rfl, rfl, _, rfl, ite_by (fun hb => ?_) fun hb => ?_⟩
      · obtain ⟨v9, hv9, dv9⟩ := Fw.d (i := 7) rfl
        cases dv9
        obtain ⟨ws, hw, dw⟩ := LG.mu (noLs_I _) u9 (by simp [Ne.symm epg])
        refine ⟨_, hv9, ws, hw, ?_, GI ++ [0 + (j' : Int)], ?_, ?_, ?_, ?_, ?_⟩
        · rw [dw.len, List.length_map]
          exact Nat.lt_of_lt_of_le (show GI.length < 100000 by omega) (by decide)
        · intro x hx
          rcases List.mem_append.mp hx with hx | hx
          · exact gm x hx
          · rw [List.mem_singleton.mp hx]
            omega
        · simp
          omega
        · rw [List.map_append]
          exact LsD.upd (dw.snoc (.int _)) (noLs_app (noLs_I _) rfl) hw
        · exact (hH9.mu (mu_upd (S := [g]) hw (by simp)) (by simp [epg])).le (by omega)
        · exact (u'.trans (u9.mono (by simp))).trans (mu_upd hw (by simp))
      · exact ⟨GI, gm, by omega, LG.mu (noLs_I _) u9 (by simp [Ne.symm epg]), hH9.le (by omega), u'.trans (u9.mono (by simp))⟩
    · obtain ⟨GI, gm, gl, LG, hH8, u8⟩ := P8
      have u78 : Mu K [p] H7 H8 := u8.drop hg0
      have F8 : Fd K H8 _ (lawF a kk p jobs s t .un g) := (F7.mu no7 u8).set 8 (f := .v (.ref g)) rfl
      have T8 : Tn K H0 a p s t g jobs kk .un GI (W0 jobs.length) 110 0 _ H8 := ⟨F8, ((u03.mono (S' := [p, s, t, g]) (by simp)).same (u36.trans e7)).trans (u78.mono (by simp)), hH8.le (by omega), by
        have z := Ls7.mu (by rw [noLs_iff]; intro x hx; rw [(List.mem_replicate.mp hx).2]; rfl) u78 (by simp [Ne.symm eps])
        unfold W0
        rw [List.map_replicate]
        exact z, by
        have z := Lt7.mu (by rw [noLs_iff]; intro x hx; rw [(List.mem_replicate.mp hx).2]; rfl) u78 (by simp [Ne.symm ept])
        unfold W0
        rw [List.map_replicate]
        exact z, LG, gm, by omega, WInv.start hJK (by omega), fun q => by unfold W0; rw [told0]; exact Nat.le_refl _⟩
      -- forty turns
      refine q_forR (K := K) (n := 40) (e_cons e_int e_nil) (by omega) (fun i σ' H' => ∃ GI W, Tn K H0 a p s t g jobs kk .un GI W (110 + 3 * (i : Int)) (5 * i) σ' H') (fun H9 e9 => ⟨GI, _, (T8.same e9).le (by omega) (by omega)⟩) (fun i σ9 H9 hi P9 => ?_) (fun σ9 H9 P9 => ?_)
      · obtain ⟨GI, W, T⟩ := P9
        have F9 : Fd K H9 (σ9.set 9 (some (.int (i : Int)))) ((lawF a kk p jobs s t .un g).set 9 (.d (.int (i : Int)))) := T.fd.set 9 (fvd (.int _))
        have E1 : ED K (tOp (rNeD K) (tVar 8) (tLst tNil)) (σ9.set 9 (some (.int (i : Int)))) H9 (.bool (!GI.isEmpty)) := (e_op (e_varL F9 rfl T.go) (e_lst e_nil (by show 0 ≤ 100000; omega)) (r_neD (shaped_IL GI) rfl)).is (by rw [eqv_nil])
        by_cases hG : GI = []
        · refine s_ifF F9 ((e_test E1).is (by rw [hG] <;> rfl)) fun H10 e10 F10 => ⟨GI, W, ((T.same e10).le (by omega) (by omega)).frame (F10.forget 9)⟩
        · refine s_ifT F9 ((e_test E1).is (by cases GI with | nil => exact absurd rfl hG | cons _ _ => rfl)) fun H10 e10 F10 => ?_
          have T10 := T.same e10
          refine x_pick (e_varV F10 rfl) (e_varV F10 rfl) (Ne.symm pl.pg) T10.hand T10.go (noLs_I _) (by rw [List.length_map]; exact List.length_pos_iff.mpr hG) (by rw [List.length_map]; have := T.gl; omega) (by omega) fun j d v H11 hd dv u11 hH11 => ?_
          rw [List.getElem?_map] at hd
          obtain ⟨x, hx, rfl⟩ := Option.map_eq_some_iff.mp hd
          have hxm := List.mem_of_getElem? hx
          have hxb := T.gm x hxm
          obtain ⟨own, rfl⟩ : ∃ own : Nat, x = (own : Int) := ⟨x.toNat, by omega⟩
          have ho : own < jobs.length := by omega
          cases dv
          have F11 : Fd K H11 _ (lawF a kk p jobs s t (.d (.int (own : Int))) g) := ((F10.mu (fun f hf => lawF_no (x9 := .d (.int (i : Int))) (x10 := .un) rfl rfl rfl f hf) u11).forget 9).set 7 (f := .d (.int (own : Int))) (v := .int (own : Int)) (fvd (.int _))
          have T11 := (T10.drawn pl rfl u11 hH11).frame F11
          refine x_pickC (e_varV F11 rfl) (e_cons e_int (e_cons e_int (e_cons e_int (e_cons e_int (e_cons e_int e_nil))))) T11.hand rfl (by show 0 < 5; omega) (by show 5 < 1000; omega) (by omega) fun j2 d2 v2 H12 hd2 dv2 u12 hH12 => ?_
          obtain ⟨r, rfl, hr⟩ : ∃ r : Nat, d2 = .int (r : Int) ∧ r ≤ 5 := by
            have lt := (List.getElem?_eq_some_iff.mp hd2).1
            have lt' : j2 < 5 := lt
            have : j2 = 0 ∨ j2 = 1 ∨ j2 = 2 ∨ j2 = 3 ∨ j2 = 4 := by omega
            rcases this with rfl | rfl | rfl | rfl | rfl
            · exact ⟨1, (Option.some.inj hd2).symm, by omega⟩
            · exact ⟨1, (Option.some.inj hd2).symm, by omega⟩
            · exact ⟨2, (Option.some.inj hd2).symm, by omega⟩
            · exact ⟨3, (Option.some.inj hd2).symm, by omega⟩
            · exact ⟨5, (Option.some.inj hd2).symm, by omega⟩
          cases dv2
          refine ⟨_, rfl, by omega, by omega, ?_⟩
          rw [Int.toNat_natCast]
          refine deeds_loop pl (T11.drawn pl rfl u12 hH12) ho n5 (by omega) fun σ13 H13 T13 => ?_
          refine x_take (e_varV T13.fd rfl) e_int T13.hand (by omega) (by omega) (by omega) fun r14 H14 b0 b1 u14 hH14 => ⟨rfl, _, rfl, ite_by (fun hb => ?_) (fun hb => ?_)⟩
          · have T14 := T13.drawn pl rfl u14 hH14
            obtain ⟨v7, hv7, dv7⟩ := T14.fd.d (i := 7) rfl
            cases dv7
            obtain ⟨ws, hw, dw⟩ := T14.go
            have := dw.ints
            subst this
            obtain ⟨j3, hj3, hno⟩ := first_at hxm
            have u15 : Mu K [g] H14 (upd H14 g (.lst ((GI.eraseIdx j3).map V.int))) := mu_upd hw (by simp)
            refine ⟨.ref g, T14.fd.v (i := 8) rfl, .inl ⟨rfl, _, SqL.of hw⟩, _, hv7, g, GI, _, j3, rfl, rfl, hw, hj3, hno, GI.eraseIdx j3, runW jobs own r W, ?_⟩
            refine ⟨(T14.fd.mu (fun f hf => lawF_no (x9 := .un) (x10 := .un) rfl rfl rfl f hf) u15).forget 7, T14.mu.trans (u15.mono (by simp)), (T14.hand.mu u15 (by simp [epg])).le (by omega), T14.st.mu (noLs_V _) u15 (by simp [esg]), T14.td.mu (noLs_Ts _) u15 (by simp [etg]), LsD.upd (ints_dp _) (noLs_I _) hw, fun x hx => T14.gm x (List.mem_of_mem_eraseIdx hx), ?_, T14.inv, fun q => ?_⟩
            · have := List.length_eraseIdx_le GI j3
              have := T14.gl
              omega
            · have := T14.len q
              omega
          · have T14 := T13.drawn pl rfl u14 hH14
            exact ⟨GI, _, (T14.le (by omega) (by omega)).frame (T14.fd.forget 7)⟩
      · obtain ⟨GI, W, T⟩ := P9
        -- those that go on, alone
        refine x_forL (ns := GI) (q := g) (T.fd.v (i := 8) rfl) T.go (fun i σ' H' => ∃ W, Tn K H0 a p s t g jobs kk .un GI W 230 (200 + 60 * i) σ' H' ∧ ∀ x ∈ GI.take i, (jAt jobs x.toNat).isLeast = false → idleAt jobs x.toNat W) ⟨W, T.le (by omega) (by omega), by simp⟩ (fun i σ' H' P => P.choose_spec.1.go) (fun i x σ10 H10 hx P10 => ?_) (fun σ10 H10 P10 => ?_)
        · obtain ⟨W, T, hid⟩ := P10
          have hxm := List.mem_of_getElem? hx
          have hxb := T.gm x hxm
          have hil := (List.getElem?_eq_some_iff.mp hx).1
          have hgl := T.gl
          obtain ⟨own, rfl⟩ : ∃ own : Nat, x = (own : Int) := ⟨x.toNat, by omega⟩
          have ho : own < jobs.length := by omega
          have T10 : Tn K H0 a p s t g jobs kk (.d (.int (own : Int))) GI W 230 (200 + 60 * i) (σ10.set 7 (some (.int (own : Int)))) H10 := T.frame (T.fd.set 7 (f := .d (.int (own : Int))) (fvd (.int _)))
          refine x_forR1 (K := K) (n := 60) (e_cons e_int e_nil) (by omega) fun H11 e11 => ?_
          refine deeds_loop pl (T10.same e11) ho n5 (by omega) fun σ12 H12 T12 => ?_
          have F12 := T12.fd
          have hT12 : own < (runW jobs own 60 W).tolds.length := by rw [T12.inv.ls.2]; exact ho
          have tg : atI ((runW jobs own 60 W).tolds.map encT) (own : Int) = some (encT ((runW jobs own 60 W).told own)) := atI_nat (by rw [List.getElem?_map, told_get hT12] <;> rfl)
          have hjp : JPre own (jAt jobs own) ((runW jobs own 60 W).told own) := ⟨jobs.length, ho, by omega, by have := T12.len own; omega, T12.inv.pre ho⟩
          refine s_ifF F12 ((e_and (a := !isNone ((nextDeed own (jAt jobs own) ((runW jobs own 60 W).told own)).enc own)) (b := !decide ((jAt jobs own).wd = ("least" : Str))) (e_test (e_op (e_call (z := (nextDeed own (jAt jobs own) ((runW jobs own 60 W).told own)).enc own) (e_cons (e_var F12 rfl) (e_cons (e_op (e_var F12 rfl) (e_var F12 rfl) (r_ixT (job_at ho))) (e_cons (e_op (e_varL F12 rfl T12.td) (e_var F12 rfl) (r_ixL tg)) e_nil))) ⟨own, _, _, rfl, hjp, rfl⟩) e_non r_notN)) fun _ => e_test (e_op (e_wd (e_op (e_var F12 rfl) (e_var F12 rfl) (r_ixT (job_at ho)))) e_str r_neS)).is ?_) fun H13 e13 F13 => ⟨_, ((T12.same e13).le (by omega) (by omega)).frame (F13.forget 7), fun y hy hyl => ?_⟩
          · cases hl : (jAt jobs own).isLeast with
            | true =>
              have : (jAt jobs own).wd = ("least" : Str) := by
                cases hja : jAt jobs own with
                | least m wt => rfl
                | sums _ => rw [hja] at hl; cases hl
                | name _ => rw [hja] at hl; cases hl
                | closer _ _ => rw [hja] at hl; cases hl
              rw [this]
              simp
            | false =>
              have al := T.inv.alone (by omega) ho hl
              unfold idleAt at al
              rw [isNone_deed, al]
              rfl
          · rw [List.take_add_one, hx] at hy
            by_cases e : y.toNat = own
            · rw [e] at hyl ⊢
              exact T.inv.alone (by omega) ho hyl
            · rcases List.mem_append.mp hy with hy | hy
              · have := hid y hy hyl
                unfold idleAt at this ⊢
                rw [run_told T.inv (by omega) ho e]
                exact this
              · have : y = (own : Int) := by simpa using hy
                omega
        · obtain ⟨W, T, hid⟩ := P10
          rw [List.take_of_length_le (Nat.le_refl _)] at hid
          have F10 := T.fd
          have hls := T.inv.ls
          have tgq : ∀ q, q < jobs.length → atI (W.tolds.map encT) (q : Int) = some (encT (W.told q)) := fun q hq => atI_nat (by rw [List.getElem?_map, told_get (by rw [hls.2]; exact hq)] <;> rfl)
          have hgl := T.gl
          have hjp : ∀ q, q < jobs.length → JPre q (jAt jobs q) (W.told q) := fun q hq => ⟨jobs.length, hq, by omega, by have := T.len q; omega, T.inv.pre hq⟩
          refine q_asg F10 ((e_lcR1 (n := jobs.length) (fun q => encA (answer q (jAt jobs q) (W.told q))) F10 (e_cons (e_var F10 rfl) e_nil) (by omega) (by simp) (fun d => noL_A _) (fun q hq σ' H' e F' => e_call (e_cons (e_var F' rfl) (e_cons (e_op (e_var F' rfl) (e_var F' rfl) (r_ixT (job_at hq))) (e_cons (e_op (e_varL F' rfl (T.td.same e)) (e_var F' rfl) (r_ixL (tgq q hq))) e_nil))) ⟨q, _, _, rfl, hjp q hq, rfl⟩)).is (x := .list ((answers jobs W).map encA)) (by unfold answers; rw [List.map_map] <;> rfl)) fun σ11 H11 e11 F11 => ?_
          refine q_asg F11 ((e_cb (e_cons (e_lcL (ds := W.state.map Val.enc) (fun d => !PyData.eqv d (.int 0)) (fun d => d) F11 (e_varL F11 rfl (T.st.same e11)) (by rw [List.length_map]; omega) (by simp) (fun d hd' _ => ?_) (fun d hd' σ' H' e F' => ?_) (fun d hd' _ σ' H' e F' => e_var F' rfl)) e_nil) c_lenL).is (x := .int ((nz W.state : Nat) : Int)) (by rw [nz_len])) fun σ12 H12 e12 F12 => ?_
          · obtain ⟨v, _, rfl⟩ := List.mem_map.mp hd'
            exact noL_V v
          · obtain ⟨v, _, rfl⟩ := List.mem_map.mp hd'
            exact e_test (e_op (e_var F' rfl) e_int (r_neD (shaped_V v) rfl))
          · have T12 := T.same (e11.trans e12)
            have fin : ∀ {σ' : L2.St} {H' : Hp} {x1 x2 x3 x4 x5 x6 x7 x8 x9 x10 x11 x12 x13 : FV}, Same H12 H' → Fd K H' σ' [.v (.ref a), x1, x2, x3, x4, x5, x6, x7, x8, x9, x10, x11, x12, x13] → Mu K [] H H' ∧ Fd K H' σ' [.v (.ref a), .un, .un, .un, .un, .un, .un, .un, .un, .un, .un, .un, .un, .un] := fun {σ' H' x1 x2 x3 x4 x5 x6 x7 x8 x9 x10 x11 x12 x13} e F =>
              ⟨u0.trans (((((T12.mu.same e).drop hp0).drop hs00).drop ht00).drop hg00), fd_un F⟩
            have E0 : ED K (tOp (rIxT K) (tOp (rIxT K) (tVar 4) (tC (.int 0))) (tC (.int 0))) σ12 H12 (.str (jAt jobs 0).wd) := e_wd (e_op (e_var F12 rfl) e_int (r_ixT (job_at (own := 0) (by omega))))
            by_cases hw : (jAt jobs 0).wd = ("sums" : Str)
            · have hsum : ∀ q, q < jobs.length → ∃ items, jAt jobs q = .sums items := by
                cases T.inv with
                | sums h w => exact fun q hq => by obtain ⟨x, e, _⟩ := h q hq; exact ⟨x, e⟩
                | names h w => obtain ⟨x, e, _⟩ := h 0 (by omega); rw [e] at hw; exact absurd hw (by show ¬ (("name" : Str) = ("sums" : Str)); decide)
                | leasts wt h1 h2 h A w => obtain ⟨x, e, _⟩ := h 0 (by omega); rw [e] at hw; exact absurd hw (by show ¬ (("least" : Str) = ("sums" : Str)); decide)
                | closers r h1 h2 h lo hi h3 h4 h5 w => obtain ⟨x, e, _⟩ := h 0 (by omega); rw [e] at hw; exact absurd hw (by show ¬ (("closer" : Str) = ("sums" : Str)); decide)
              refine s_ifT F12 ((e_test (e_op E0 e_str r_eqS)).is (decide_eq_true hw)) fun H13 e13 F13 => ?_
              refine x_forL (ns := GI) (q := g) (F13.v (i := 8) rfl) (T12.go.same e13) (fun i σ' H' => Same H13 H' ∧ Fd K H' σ' [.v (.ref a), .d (.int (kk : Int)), .v (.ref p), .d (.int ((jobs.length : Nat) : Int)), .d (.tuple (jobs.map Job.enc)), .v (.ref s), .v (.ref t), .un, .v (.ref g), .un, .un, .un, .un, .un]) ⟨Same.refl _, (F13.forget 11).forget 12⟩ (fun i σ' H' P => (T12.go.same e13).same P.1) (fun i x σ14 H14 hx P14 => ?_) (fun σ14 H14 P14 => fin (e13.trans P14.1) P14.2)
              obtain ⟨q1, q2⟩ := P14
              have hxm := List.mem_of_getElem? hx
              have hxb := T.gm x hxm
              obtain ⟨own, rfl⟩ : ∃ own : Nat, x = (own : Int) := ⟨x.toNat, by omega⟩
              have ho : own < jobs.length := by omega
              obtain ⟨items, hja⟩ := hsum own ho
              have hidle := hid _ hxm (by rw [Int.toNat_natCast, hja] <;> rfl)
              rw [Int.toNat_natCast] at hidle
              unfold idleAt at hidle
              rw [hja] at hidle
              have hpre := T.inv.pre ho
              rw [hja] at hpre
              have F14 : Fd K H14 (σ14.set 7 (some (.int (own : Int)))) _ := q2.set 7 (f := .d (.int (own : Int))) (fvd (.int _))
              have hjo : atI (jobs.map Job.enc) (own : Int) = some (Job.sums items).enc := by rw [← hja]; exact job_at ho
              exact s_ifF F14 ((e_not (e_tB (e_call (z := .bool true) (e_cons (e_op (e_var F14 rfl) (e_var F14 rfl) (r_ixT hjo)) (e_cons (e_op (e_varL F14 rfl ((T12.td.same e13).same q1)) (e_var F14 rfl) (r_ixL (tgq own ho))) e_nil)) ⟨items, W.told own, rfl, ⟨jobs.length, by omega, by omega, by have := T.len own; omega, hpre⟩, hidle, rfl⟩))).is rfl) fun H15 e15 F15 => ⟨q1.trans e15, F15.forget 7⟩
            · have hns : ∀ q, q < jobs.length → ∀ items, jAt jobs q ≠ .sums items := by
                cases T.inv with
                | sums h w => obtain ⟨x, e, _⟩ := h 0 (by omega); rw [e] at hw; exact absurd rfl hw
                | names h w => exact fun q hq items z => by obtain ⟨x, e, _⟩ := h q hq; rw [e] at z; cases z
                | leasts wt h1 h2 h A w => exact fun q hq items z => by obtain ⟨x, e, _⟩ := h q hq; rw [e] at z; cases z
                | closers r h1 h2 h lo hi h3 h4 h5 w => exact fun q hq items z => by obtain ⟨x, e, _⟩ := h q hq; rw [e] at z; cases z
              have hfit := T.inv.fit hns (by omega)
              have hnz := nz_le W.state
              refine s_ifF F12 ((e_test (e_op E0 e_str r_eqS)).is (decide_eq_false hw)) fun H13 e13 F13 => ?_
              refine s_ifF F13 ((e_not (e_tB (e_call (z := .bool true) (e_cons (e_var F13 rfl) (e_cons (e_var F13 rfl) (e_cons (e_var F13 rfl) e_nil))) ⟨jobs, answers jobs W, (nz W.state : Int), rfl, hfit, ?_, n5, by unfold answers; rw [List.length_map, List.length_range]; exact n5, by omega, by omega, rfl⟩))).is rfl) fun H14 e14 F14 => fin (e13.trans e14) F14
              intro z
              rw [z] at n1
              simp at n1
  · obtain ⟨u', G'⟩ := P'
    refine s_ret (K := K) (d := .bool true) e_bl fun v H2 e2 d2 => ?_
    cases d2
    exact k H2
end
end My
namespace My
open PySem PySem.Spec PyProof.Rows L2
theorem facts {P : Program} {w : World} {K : PySem.W.Frag} {h : Heap} {mg : Str → Option Value} {f : Addr} (X : K.In h) (G : h.Ns mainGlobals mg) (hfa : mg ("law" : Str) = some (.ref f)) (c : SaysM K) :
    ∃ fd : FuncData, (∀ (s : Shared) (v : Value), BindsTo s fd ⟨[v], []⟩ [("_law_script", v)]) ∧ ∀ base : Heap, K.In base → base.Ns mainGlobals mg → FnOk P w K mg base CX0 30 f fd ["_law_script"] (spLaw K) := by
  have T := tx_mk X G c
  obtain ⟨fd, F⟩ := c.1.def_ 17 (d := d_law) rfl
  have e := hfa.symm.trans T.g_law
  cases e
  have b := FunD.bindsA (ps := ["_law_script"]) F fun _ _ _ _ _ _ us hl => match us, hl with | [_], _ => rfl
  exact ⟨fd, fun s v => b s [v] rfl, fun base _ _ => ok_law T (fun_of F)⟩
end My
open PySem PySem.W PySem.Calls PyProof.Rows
theorem PySem.Challenge.cw_wholeglance_k14_whole_jobs_done_at_once_holds : PySem.Challenge.rw_wholeglance_k14_whole_jobs_done_at_once.Holds := by
  w_on; o_law
  refine HandSHeadRun.head_any (r := My.RowM) (q := view My.RowM.prog [30]) (H := My.hookM) (ob := My.obM) (M := 6000) (loose := My.looseM) (d := HandSHeadRun.topDef My.RowM.prog 30) (kwd := []) My.obM_eq
    (by kernel_rfl) (fun s => by kernel_rfl) My.runM (by kernel_rfl) (by kernel_rfl) (by kernel_rfl) (by rfl) (by first | assumption | decide +kernel) (by decide +kernel) ⟨rfl, rfl, rfl, rfl, rfl, by decide +kernel⟩ ?hw ?hc
  case hw => w_witness2
  case hc =>
    refine L2.walk_ofE (l := PySem.Challenge.rw_wholeglance_k14_whole_jobs_done_at_once) (n := 63) (k := 30) (x := "_law_script") (CX := L2.CX0) rfl (by decide) (by kernel_rfl) ⟨rfl, by decide, by decide⟩ ?F (fun _ _ _ _ z => z)
    intro w mg fa h Y G hmg0
    obtain ⟨K, KX, c⟩ := Y
    have hmg : mg ("law" : PySem.Str) = some (.ref fa) := by
      have e : (HandSHeadRun.topDef My.RowM.prog 30).name = ("law" : PySem.Str) := by kernel_rfl
      rw [← e]
      exact hmg0
    obtain ⟨fd, hb, hF⟩ := My.facts (P := (PySem.Challenge.rw_wholeglance_k14_whole_jobs_done_at_once).prog) (w := w) KX G hmg c
    exact ⟨K, fd, My.spLaw K, KX, hb, fun H a ns hl _ hS => ⟨a, ns, rfl, hS, hl, fun _ => rfl⟩, hF⟩
