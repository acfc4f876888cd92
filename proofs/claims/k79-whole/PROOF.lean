import PyProof.Rows.All
import Wide.All
import OpenK.AllK
import Wide.FinOn
import HandS.ForMost
import HandS.ForExc
import HandS.IsInst
import HandS.Conv
import HandS.TupAny
import HandS.TupMul
import HandS.Style
import HandS.Zip
import HandS.Wide
import HandS.Walk
import HandS.Strs
import HandS.ExcIs
import HandS.Defaults
import HandS.SortInts
import HandS.SetFor
import KE.GoesEnum
import PyProof.ReprRoads
import PyProof.Rows.SortShell
import HandS.Iter
import HandS.HeadHook1
import HandS.WordsExc
import HandS.Head0
import HandS.Head1
import HandS.Head2
import HandS.HeadEnd
import HandS.HeadHook2
import HandS.HeadHook3
import HandS.HeadHook4
import PySem.Challenge.RW_straightleast_k79_whole_joined_by_least
set_option Elab.async false
set_option linter.all false
set_option maxRecDepth 100000
namespace Ma
/-! ### counts of a row of strands -/
/-- how many of p from place i on are below j -/
def cn (p : List Nat) (i j : Nat) : Int := (((p.drop i).countP fun x => decide (x < j) : Nat) : Int)
def b2 (b : Bool) : Int := if b then 1 else 0
theorem cn_end {p : List Nat} {i j : Nat} (h : p.length ≤ i) : cn p i j = 0 := by
  unfold cn
  rw [List.drop_eq_nil_of_le h]
  rfl
theorem cn_step {p : List Nat} {i j : Nat} (h : i < p.length) : cn p i j = b2 (decide (p[i] < j)) + cn p (i + 1) j := by
  unfold cn
  rw [List.drop_eq_getElem_cons h, List.countP_cons]
  unfold b2
  by_cases c : p[i] < j
  · simp [c]; omega
  · simp [c]
theorem b2_mono {x j j' : Nat} (h : j ≤ j') : b2 (decide (x < j)) ≤ b2 (decide (x < j')) := by
  unfold b2
  by_cases c : x < j
  · have c' : x < j' := by omega
    simp [c, c']
  · by_cases c' : x < j' <;> simp [c, c']
/-! ### unit tables -/
structure Un (n : Nat) (R : Nat → Nat → Int) : Prop where
  bot : ∀ j, j ≤ n → R n j = 0
  left : ∀ i, i ≤ n → R i 0 = 0
  right : ∀ i, i ≤ n → R i n = (n : Int) - i
  top : ∀ j, j ≤ n → R 0 j = j
  mon : ∀ i i' j j', i ≤ i' → i' ≤ n → j ≤ j' → j' ≤ n → R i j + R i' j' ≤ R i j' + R i' j
theorem mon_of {n : Nat} {R : Nat → Nat → Int} (h : ∀ i j j', i < n → j ≤ j' → j' ≤ n → R i j - R (i + 1) j ≤ R i j' - R (i + 1) j') :
    ∀ i i' j j', i ≤ i' → i' ≤ n → j ≤ j' → j' ≤ n → R i j + R i' j' ≤ R i j' + R i' j := by
  intro i i' j j' hi
  induction hi with
  | refl => intros; omega
  | step hm ih =>
    rename_i m
    intro hn hj hj'
    have a := ih (by omega) hj hj'
    have b := h m j j' (by omega) hj hj'
    show R i j + R (m + 1) j' ≤ R i j' + R (m + 1) j
    omega
theorem perm_lt {n : Nat} {p : List Nat} (hp : p.Perm (List.range n)) : ∀ x ∈ p, x < n := fun x hx => List.mem_range.mp (hp.mem_iff.mp hx)
theorem perm_len {n : Nat} {p : List Nat} (hp : p.Perm (List.range n)) : p.length = n := by
  rw [hp.length_eq, List.length_range]
theorem countP_range_lt : ∀ (n j : Nat), j ≤ n → (List.range n).countP (fun x => decide (x < j)) = j
  | 0, j, h => by
    have e : j = 0 := by omega
    subst e; rfl
  | n + 1, j, h => by
    rw [List.range_succ, List.countP_append]
    by_cases e : j = n + 1
    · subst e
      have : (List.range n).countP (fun x => decide (x < n + 1)) = n := by
        rw [List.countP_eq_length.mpr, List.length_range]
        intro x hx
        have := List.mem_range.mp hx
        exact decide_eq_true (by omega)
      rw [this]
      simp
    · rw [countP_range_lt n j (by omega)]
      simp [List.countP_cons]
      omega
theorem unit_of_perm {n : Nat} {p : List Nat} (hp : p.Perm (List.range n)) : Un n (cn p) where
  bot := fun j _ => cn_end (by rw [perm_len hp]; omega)
  left := fun i _ => by
    unfold cn
    rw [List.countP_eq_zero.mpr]
    · rfl
    · intro x _; simp
  right := fun i hi => by
    unfold cn
    rw [List.countP_eq_length.mpr, List.length_drop, perm_len hp]
    · omega
    · intro x hx
      exact decide_eq_true (perm_lt hp x (List.mem_of_mem_drop hx))
  top := fun j hj => by
    unfold cn
    rw [List.drop_zero, hp.countP_eq, countP_range_lt n j hj]
  mon := mon_of fun i j j' hi hj hj' => by
    have hl : i < p.length := by rw [perm_len hp]; exact hi
    have a := cn_step (p := p) (j := j) hl
    have b := cn_step (p := p) (j := j') hl
    have c := b2_mono (x := p[i]) hj
    omega
/-! ### the least of some integers -/
def lo (a b : Int) : Int := if b < a then b else a
theorem lo_le (a b : Int) : lo a b ≤ a ∧ lo a b ≤ b ∧ (lo a b = a ∨ lo a b = b) := by
  unfold lo
  split <;> omega
def mn : List Int → Int
  | [] => 0
  | x :: r => r.foldl lo x
theorem fold_le : ∀ (r : List Int) (x : Int), r.foldl lo x ≤ x ∧ (∀ z ∈ r, r.foldl lo x ≤ z) ∧ (r.foldl lo x = x ∨ r.foldl lo x ∈ r)
  | [], x => ⟨Int.le_refl _, (fun z h => by cases h), Or.inl rfl⟩
  | y :: r, x => by
    rw [List.foldl_cons]
    obtain ⟨h1, h2, h3⟩ := fold_le r (lo x y)
    obtain ⟨a1, a2, a3⟩ := lo_le x y
    refine ⟨by omega, ?_, ?_⟩
    · intro z hz
      rcases List.mem_cons.mp hz with rfl | hz
      · omega
      · exact h2 z hz
    · rcases h3 with h3 | h3
      · rcases a3 with a3 | a3
        · exact .inl (h3.trans a3)
        · exact .inr (by rw [h3, a3]; exact List.mem_cons_self)
      · exact .inr (List.mem_cons_of_mem _ h3)
theorem mn_le {l : List Int} {z : Int} (h : z ∈ l) : mn l ≤ z := by
  cases l with
  | nil => cases h
  | cons x r =>
    obtain ⟨h1, h2, _⟩ := fold_le r x
    rcases List.mem_cons.mp h with rfl | h
    · exact h1
    · exact h2 z h
theorem mn_mem {l : List Int} (h : l ≠ []) : mn l ∈ l := by
  cases l with
  | nil => exact absurd rfl h
  | cons x r =>
    obtain ⟨_, _, h3⟩ := fold_le r x
    rcases h3 with h3 | h3
    · show r.foldl _ x ∈ _
      rw [h3]; exact List.mem_cons_self
    · exact List.mem_cons_of_mem _ h3
theorem mn_eq {l : List Int} {m : Int} (h : m ∈ l) (hl : ∀ z ∈ l, m ≤ z) : m = mn l := by
  have h1 := mn_le h
  have h2 := hl _ (mn_mem (fun e => by rw [e] at h; cases h))
  omega
/-! ### least sums over a middle -/
def mp (f g : Nat → Nat → Int) (n i j : Nat) : Int := mn ((List.range (n + 1)).map fun k => f i k + g k j)
theorem mp_le {f g : Nat → Nat → Int} {n i j k : Nat} (h : k ≤ n) : mp f g n i j ≤ f i k + g k j :=
  mn_le (List.mem_map.mpr ⟨k, List.mem_range.mpr (by omega), rfl⟩)
theorem mp_at (f g : Nat → Nat → Int) (n i j : Nat) : ∃ k, k ≤ n ∧ mp f g n i j = f i k + g k j := by
  have h := mn_mem (l := (List.range (n + 1)).map fun k => f i k + g k j) (by
    intro e
    have := congrArg List.length e
    simp at this)
  obtain ⟨k, hk, e⟩ := List.mem_map.mp h
  exact ⟨k, by have := List.mem_range.mp hk; omega, e.symm⟩
theorem mp_is {f g : Nat → Nat → Int} {n i j k : Nat} {m : Int} (hk : k ≤ n) (h : f i k + g k j = m) (hl : ∀ k, k ≤ n → m ≤ f i k + g k j) : mp f g n i j = m := by
  obtain ⟨k', hk', e⟩ := mp_at f g n i j
  have h1 := mp_le (f := f) (g := g) (i := i) (j := j) hk
  have h2 := hl k' hk'
  omega
/-- an entry is not below what columns and rows leave -/
theorem un_low {n : Nat} {R : Nat → Nat → Int} (u : Un n R) {i k : Nat} (hi : i ≤ n) (hk : k ≤ n) : (k : Int) - i ≤ R i k ∧ 0 ≤ R i k := by
  have a := u.mon 0 i k n (by omega) hi hk (Nat.le_refl _)
  have e1 := u.top k hk
  have e2 := u.top n (Nat.le_refl _)
  have e3 := u.right i hi
  have b := u.mon i n 0 k hi (Nat.le_refl _) (by omega) hk
  have e4 := u.left i hi
  have e5 := u.bot k hk
  have e6 := u.bot 0 (by omega)
  omega
theorem unit_mp {n : Nat} {f g : Nat → Nat → Int} (uf : Un n f) (ug : Un n g) : Un n (mp f g n) where
  bot := fun j hj => mp_is (k := n) (Nat.le_refl _) (by rw [uf.bot n (Nat.le_refl _), ug.bot j hj]; rfl) fun k hk => by
    have a := (un_low uf (Nat.le_refl n) hk).2
    have b := (un_low ug hk hj).2
    omega
  left := fun i hi => mp_is (k := 0) (by omega) (by rw [uf.left i hi, ug.left 0 (by omega)]; rfl) fun k hk => by
    have a := (un_low uf hi hk).2
    have b := (un_low ug hk (Nat.zero_le n)).2
    omega
  right := fun i hi => mp_is (k := n) (Nat.le_refl _) (by rw [uf.right i hi, ug.bot n (Nat.le_refl _)]; omega) fun k hk => by
    have a := (un_low uf hi hk).1
    have b := ug.right k hk
    omega
  top := fun j hj => mp_is (k := 0) (by omega) (by rw [uf.left 0 (by omega), ug.top j hj]; omega) fun k hk => by
    have a := (un_low ug hk hj).1
    have b := uf.top k hk
    omega
  mon := fun i i' j j' hi hi' hj hj' => by
    obtain ⟨k, hk, ek⟩ := mp_at f g n i j'
    obtain ⟨l, hl, el⟩ := mp_at f g n i' j
    rw [ek, el]
    by_cases c : k ≤ l
    · have a := mp_le (f := f) (g := g) (i := i) (j := j) hk
      have b := mp_le (f := f) (g := g) (i := i') (j := j') hl
      have m := ug.mon k l j j' c hl hj hj'
      omega
    · have a := mp_le (f := f) (g := g) (i := i) (j := j) hl
      have b := mp_le (f := f) (g := g) (i := i') (j := j') hk
      have m := uf.mon i i' l k hi hi' (by omega) hk
      omega
/-! ### a unit table is the counts of strands -/
theorem step_at : ∀ (n : Nat) (f : Nat → Int), (∀ j j', j ≤ j' → j' ≤ n → f j ≤ f j') → f 0 = 0 → f n = 1 → ∃ r, r < n ∧ ∀ j, j ≤ n → f j = b2 (decide (r < j))
  | 0, f, _, h0, h1 => by omega
  | n + 1, f, hm, h0, h1 => by
    by_cases c : f n = 1
    · obtain ⟨r, hr, h⟩ := step_at n f (fun j j' a b => hm j j' a (by omega)) h0 c
      refine ⟨r, by omega, fun j hj => ?_⟩
      by_cases e : j = n + 1
      · subst e
        rw [h1]
        unfold b2
        rw [decide_eq_true (by omega)]; rfl
      · exact h j (by omega)
    · refine ⟨n, by omega, fun j hj => ?_⟩
      by_cases e : j = n + 1
      · subst e
        rw [h1]
        unfold b2
        rw [decide_eq_true (by omega)]; rfl
      · have a := hm 0 j (by omega) (by omega)
        have b := hm j n (by omega) (by omega)
        have d := hm n (n + 1) (by omega) (by omega)
        unfold b2
        rw [decide_eq_false (by omega)]
        simp
        omega
theorem row_at {n : Nat} {R : Nat → Nat → Int} (u : Un n R) {i : Nat} (hi : i < n) : ∃ r, r < n ∧ ∀ j, j ≤ n → R i j - R (i + 1) j = b2 (decide (r < j)) := by
  refine step_at n (fun j => R i j - R (i + 1) j) (fun j j' a b => ?_) ?_ ?_
  · have := u.mon i (i + 1) j j' (by omega) (by omega) a b
    show R i j - R (i + 1) j ≤ R i j' - R (i + 1) j'
    omega
  · show R i 0 - R (i + 1) 0 = 0
    rw [u.left i (by omega), u.left (i + 1) (by omega)]; rfl
  · show R i n - R (i + 1) n = 1
    rw [u.right i (by omega), u.right (i + 1) (by omega)]; omega
theorem list_of {n : Nat} {P : Nat → Nat → Prop} : (∀ i, i < n → ∃ r, P i r) → ∃ l : List Nat, l.length = n ∧ ∀ (i : Nat) (h : i < l.length), P i l[i] := by
  intro h
  induction n with
  | zero => exact ⟨[], rfl, fun i h => absurd h (Nat.not_lt_zero _)⟩
  | succ n ih =>
    obtain ⟨l, hl, hp⟩ := ih fun i hi => h i (by omega)
    obtain ⟨r, hr⟩ := h n (by omega)
    refine ⟨l ++ [r], by simp [hl], fun i hi => ?_⟩
    by_cases c : i < l.length
    · rw [List.getElem_append_left c]; exact hp i c
    · have e : i = l.length := by simp at hi; omega
      subst e
      simp
      rw [hl]; exact hr
theorem countP_lt_succ (l : List Nat) (v : Nat) : l.countP (fun x => decide (x < v + 1)) = l.countP (fun x => decide (x < v)) + l.count v := by
  induction l with
  | nil => rfl
  | cons x r ih =>
    rw [List.countP_cons, List.countP_cons, List.count_cons, ih]
    by_cases c : x < v
    · have c' : x < v + 1 := by omega
      have d : (x == v) = false := by simp; omega
      simp [c, c', d]; omega
    · by_cases e : x = v
      · subst e; simp; omega
      · have c' : ¬ x < v + 1 := by omega
        have d : (x == v) = false := by simp; omega
        simp [c, c', d]
theorem perm_of_unit {n : Nat} {R : Nat → Nat → Int} (u : Un n R) : ∃ r : List Nat, r.Perm (List.range n) ∧ (∀ i j, i ≤ n → j ≤ n → cn r i j = R i j) ∧ ∀ (i : Nat) (h : i < r.length), ∀ j, j ≤ n → R i j - R (i + 1) j = b2 (decide (r[i] < j)) := by
  obtain ⟨r, hl, hr⟩ := list_of (P := fun i r => r < n ∧ ∀ j, j ≤ n → R i j - R (i + 1) j = b2 (decide (r < j))) fun i hi => row_at u hi
  have hc : ∀ d i j, i + d = n → j ≤ n → cn r i j = R i j := by
    intro d
    induction d with
    | zero =>
      intro i j hi hj
      have e : i = n := by omega
      subst e
      rw [u.bot j hj, cn_end (by omega)]
    | succ d ih =>
      intro i j hi hj
      have hlt : i < r.length := by omega
      rw [cn_step hlt, ih (i + 1) j (by omega) hj, ← (hr i hlt).2 j hj]
      omega
  have hcn : ∀ i j, i ≤ n → j ≤ n → cn r i j = R i j := fun i j hi hj => hc (n - i) i j (by omega) hj
  refine ⟨r, List.perm_iff_count.mpr fun v => ?_, hcn, fun i h j hj => (hr i h).2 j hj⟩
  by_cases hv : v < n
  · have a := hcn 0 v (by omega) (by omega)
    have b := hcn 0 (v + 1) (by omega) (by omega)
    rw [u.top v (by omega)] at a
    rw [u.top (v + 1) (by omega)] at b
    unfold cn at a b
    rw [List.drop_zero] at a b
    have c := countP_lt_succ r v
    have e : (List.range n).count v = 1 := by
      have c1 := countP_lt_succ (List.range n) v
      rw [countP_range_lt n v (by omega), countP_range_lt n (v + 1) (by omega)] at c1
      omega
    rw [e]
    omega
  · rw [List.count_eq_zero.mpr, List.count_eq_zero.mpr]
    · simp; omega
    · intro hm
      obtain ⟨i, hi, e⟩ := List.mem_iff_getElem.mp hm
      have := (hr i hi).1
      omega
theorem join_ok {n : Nat} {p q : List Nat} (hp : p.Perm (List.range n)) (hq : q.Perm (List.range n)) :
    ∃ r : List Nat, r.Perm (List.range n) ∧ (∀ i j, i ≤ n → j ≤ n → cn r i j = mp (cn p) (cn q) n i j) :=
  let ⟨r, h1, h2, _⟩ := perm_of_unit (unit_mp (unit_of_perm hp) (unit_of_perm hq))
  ⟨r, h1, h2⟩
end Ma
set_option maxHeartbeats 4000000
namespace Jn
open PySem
open PySem.Spec PyProof.Rows
open L2
/-! ### data: what a value is, with the objects that it leans on -/
mutual
inductive Dq (K : PySem.W.Frag) (H : Hp) : V → PyData → Prop
  | non : Dq K H .non .none
  | bl (b : Bool) : Dq K H (.bl b) (.bool b)
  | int (i : Int) : Dq K H (.int i) (.int i)
  | str (x : Str) : Dq K H (.str x) (.str x)
  | lst {a : Addr} {xs : List V} {ds : List PyData} : SqL K H a xs → DqAll K H xs ds → Dq K H (.ref a) (.list ds)
  | tup {a : Addr} {xs : List V} {ds : List PyData} : SqT K H a xs → DqAll K H xs ds → Dq K H (.ref a) (.tuple ds)
  | dic {a : Addr} : H a = some (.dK []) → Dq K H (.ref a) (.dict [])
inductive DqAll (K : PySem.W.Frag) (H : Hp) : List V → List PyData → Prop
  | nil : DqAll K H [] []
  | cons {v : V} {vs : List V} {d : PyData} {ds : List PyData} : Dq K H v d → DqAll K H vs ds → DqAll K H (v :: vs) (d :: ds)
end
abbrev Ex := Same
section
variable {K : PySem.W.Frag} {G H H' : Hp}
theorem ex_rd {a : Addr} {u : HO} (e : Ex H H') (h : Rd H a u) : Rd H' a u := by
  rcases h with h | ⟨o, h⟩
  · exact .inl (e a _ h)
  · exact .inr ⟨o, e a _ h⟩
theorem ex_l {a : Addr} {xs : List V} (e : Ex H H') (h : SqL K H a xs) : SqL K H' a xs := by
  rcases h with h | h
  · exact .inl (ex_rd e h)
  · exact .inr h
theorem ex_t {a : Addr} {xs : List V} (e : Ex H H') (h : SqT K H a xs) : SqT K H' a xs := by
  rcases h with h | h
  · exact .inl (ex_rd e h)
  · exact .inr h
theorem ex_new {p : Addr} {o : HO} (h : H p = none) : Ex H (upd H p o) := fun a u e => by
  rw [upd_ne (ne_of_none e h)]
  exact e
theorem ex_mut {p : Addr} {o : HO} (e : Ex G H) (h : G p = none) : Ex G (upd H p o) := fun a u ha => by
  rw [upd_ne (ne_of_none ha h)]
  exact e a u ha
theorem ex_upd {p : Addr} {o : HO} (e : Ex G H) : Ex (upd G p o) (upd H p o) := fun a u ha => by
  by_cases c : a = p
  · subst c
    rw [upd_same] at ha ⊢
    exact ha
  · rw [upd_ne c] at ha ⊢
    exact e a u ha
mutual
theorem Dq.mono (e : Ex H H') : ∀ {d : PyData} {v : V}, Dq K H v d → Dq K H' v d
  | _, _, .non => .non
  | _, _, .bl b => .bl b
  | _, _, .int i => .int i
  | _, _, .str x => .str x
  | _, _, .lst h r => .lst (ex_l e h) (DqAll.mono e r)
  | _, _, .tup h r => .tup (ex_t e h) (DqAll.mono e r)
  | _, _, .dic h => .dic (e _ _ h)
theorem DqAll.mono (e : Ex H H') : ∀ {ds : List PyData} {vs : List V}, DqAll K H vs ds → DqAll K H' vs ds
  | _, _, .nil => .nil
  | _, _, .cons h r => .cons (Dq.mono e h) (DqAll.mono e r)
end
theorem DqAll.length : ∀ {vs : List V} {ds : List PyData}, DqAll K H vs ds → vs.length = ds.length
  | _, _, .nil => rfl
  | _, _, .cons _ r => congrArg (· + 1) (DqAll.length r)
theorem DqAll.append : ∀ {vs ws : List V} {ds es : List PyData}, DqAll K H vs ds → DqAll K H ws es → DqAll K H (vs ++ ws) (ds ++ es)
  | _, _, _, _, .nil, s => s
  | _, _, _, _, .cons h r, s => .cons h (DqAll.append r s)
theorem DqAll.get : ∀ {vs : List V} {ds : List PyData} {i : Nat} {d : PyData}, DqAll K H vs ds → ds[i]? = some d → ∃ v, vs[i]? = some v ∧ Dq K H v d
  | _, _, _, _, .nil, e => by simp at e
  | _, _, 0, _, .cons h _, e => by
    simp at e
    subst e
    exact ⟨_, rfl, h⟩
  | _, _, i + 1, d, .cons _ r, e => by
    obtain ⟨v, h1, h2⟩ := DqAll.get (i := i) (d := d) r (by simpa using e)
    exact ⟨v, by simpa using h1, h2⟩
theorem DqAll.getV : ∀ {vs : List V} {ds : List PyData} {i : Nat} {v : V}, DqAll K H vs ds → vs[i]? = some v → ∃ d, ds[i]? = some d ∧ Dq K H v d
  | _, _, _, _, .nil, e => by simp at e
  | _, _, 0, _, .cons h _, e => by
    simp at e
    subst e
    exact ⟨_, rfl, h⟩
  | _, _, i + 1, v, .cons _ r, e => by
    obtain ⟨d, h1, h2⟩ := DqAll.getV (i := i) (v := v) r (by simpa using e)
    exact ⟨d, by simpa using h1, h2⟩
theorem DqAll.take : ∀ {vs : List V} {ds : List PyData} (n : Nat), DqAll K H vs ds → DqAll K H (vs.take n) (ds.take n)
  | _, _, 0, _ => .nil
  | _, _, _ + 1, .nil => .nil
  | _, _, n + 1, .cons h r => .cons h (DqAll.take n r)
theorem DqAll.drop : ∀ {vs : List V} {ds : List PyData} (n : Nat), DqAll K H vs ds → DqAll K H (vs.drop n) (ds.drop n)
  | _, _, 0, r => r
  | _, _, _ + 1, .nil => .nil
  | _, _, n + 1, .cons _ r => DqAll.drop n r
theorem DqAll.set {v : V} {d : PyData} (h : Dq K H v d) : ∀ {vs : List V} {ds : List PyData} (i : Nat), DqAll K H vs ds → DqAll K H (vs.set i v) (ds.set i d)
  | _, _, _, .nil => .nil
  | _, _, 0, .cons _ r => .cons h r
  | _, _, i + 1, .cons q r => .cons q (DqAll.set h i r)
theorem DqAll.eraseIdx : ∀ {vs : List V} {ds : List PyData} (i : Nat), DqAll K H vs ds → DqAll K H (vs.eraseIdx i) (ds.eraseIdx i)
  | _, _, _, .nil => .nil
  | _, _, 0, .cons _ r => r
  | _, _, i + 1, .cons q r => .cons q (DqAll.eraseIdx i r)
theorem DqAll.reverse {vs : List V} {ds : List PyData} (h : DqAll K H vs ds) : DqAll K H vs.reverse ds.reverse := by
  induction vs generalizing ds with
  | nil => cases h; exact .nil
  | cons v vs ih =>
    cases h with
    | cons h r =>
      rw [List.reverse_cons, List.reverse_cons]
      exact (ih r).append (.cons h .nil)
/-- lists of plain values -/
theorem DqAll.ints : ∀ {ns : List Int} {vs : List V}, DqAll K H vs (ns.map .int) → vs = ns.map V.int
  | [], _, h => by cases h; rfl
  | n :: r, _, h => by
    rw [List.map_cons] at h
    cases h with
    | cons h1 h2 =>
      cases h1
      rw [DqAll.ints h2]
      rfl
theorem DqAll.bools : ∀ {ns : List Bool} {vs : List V}, DqAll K H vs (ns.map .bool) → vs = ns.map V.bl
  | [], _, h => by cases h; rfl
  | n :: r, _, h => by
    rw [List.map_cons] at h
    cases h with
    | cons h1 h2 =>
      cases h1
      rw [DqAll.bools h2]
      rfl
theorem dq_ints (K : PySem.W.Frag) (H : Hp) : ∀ ns : List Int, DqAll K H (ns.map V.int) (ns.map .int)
  | [] => .nil
  | n :: r => .cons (.int n) (dq_ints K H r)
mutual
theorem Dq.toDp : ∀ {d : PyData} {v : V}, Dq K H v d → d.hasDict = false → Dp K H v d
  | _, _, .non, _ => .non
  | _, _, .bl b, _ => .bl b
  | _, _, .int i, _ => .int i
  | _, _, .str x, _ => .str x
  | _, _, .lst h r, c => .lst h (DqAll.toDp r (by simpa only [PyData.hasDict] using c))
  | _, _, .tup h r, c => .tup h (DqAll.toDp r (by simpa only [PyData.hasDict] using c))
  | _, _, .dic _, c => by simp [PyData.hasDict] at c
theorem DqAll.toDp : ∀ {ds : List PyData} {vs : List V}, DqAll K H vs ds → PyData.hasDictAll ds = false → DpAll K H vs ds
  | _, _, .nil, _ => .nil
  | _, _, .cons h r, c => by
    simp only [PyData.hasDictAll, Bool.or_eq_false_iff] at c
    exact .cons (Dq.toDp h c.1) (DqAll.toDp r c.2)
end
/-! ### kinds -/
def tyN : PyData → String
  | .none => "NoneType"
  | .bool _ => "bool"
  | .int _ => "int"
  | .str _ => "str"
  | .list _ => "list"
  | .tuple _ => "tuple"
  | .dict _ => "dict"
theorem tyx_l {a : Addr} {xs : List V} (h : SqL K H a xs) : TyX K H (.ref a) (.type "list") := by
  rcases h with (h | ⟨o, h⟩) | ⟨o, its, n, h, c, _⟩
  · exact .base (.lst h)
  · exact .base (.frz h)
  · exact .kList h c
theorem tyx_t {a : Addr} {xs : List V} (h : SqT K H a xs) : TyX K H (.ref a) (.type "tuple") := by
  rcases h with (h | ⟨o, h⟩) | ⟨o, its, n, h, c, _⟩
  · exact .base (.tup h)
  · exact .fTuple h
  · exact .kTuple h c
theorem Dq.tyx {d : PyData} {v : V} (h : Dq K H v d) : TyX K H v (.type (tyN d)) := by
  cases h with
  | non => exact .base .non
  | bl b => exact .base (.bl b)
  | int i => exact .base (.int i)
  | str x => exact .base (.str x)
  | lst h _ => exact tyx_l h
  | tup h _ => exact tyx_t h
  | dic h => exact .base (.dK h)
end
/-! ### from a state to a later one: what stands stands, G the part that the data lean on -/
structure Gx (G H G' H' : Hp) : Prop where
  g : Ex G G'
  i : Ex G' H'
  h : Ex H H'
  n : ∀ a, G a = none → H a ≠ none → G' a = none
section
variable {G H G1 H1 G2 H2 : Hp}
theorem Gx.refl (e : Ex G H) : Gx G H G H := ⟨Same.refl _, e, Same.refl _, fun _ h _ => h⟩
theorem ex_some {a : Addr} (e : Ex H H1) (h : H a ≠ none) : H1 a ≠ none := by
  cases q : H a with
  | none => exact absurd q h
  | some o =>
    rw [e a o q]
    simp
theorem Gx.trans (a : Gx G H G1 H1) (b : Gx G1 H1 G2 H2) : Gx G H G2 H2 :=
  ⟨a.g.trans b.g, b.i, a.h.trans b.h, fun x h1 h2 => b.n x (a.n x h1 h2) (ex_some a.h h2)⟩
/-- a new object, of the part that data lean on -/
theorem Gx.new {p : Addr} {o : HO} (e : Ex G H) (h : H p = none) : Gx G H (upd G p o) (upd H p o) := by
  have hG : G p = none := e.free h
  refine ⟨ex_new hG, ex_upd e, ex_new h, fun a h1 h2 => ?_⟩
  have ne : a ≠ p := fun z => h2 (by rw [z]; exact h)
  rw [upd_ne ne]
  exact h1
/-- the heap alone has more -/
theorem Gx.more {p : Addr} {o : HO} (e : Ex G H) (h : H p = none) : Gx G H G (upd H p o) :=
  ⟨Same.refl _, ex_mut e (e.free h), ex_new h, fun _ h1 _ => h1⟩
end
/-! ### the slots: what is known of them -/
inductive En where
  | no
  | im (d : PyData)
  /-- a list that may change (made here, or the caller's), by its address -/
  | ml (own : Bool) (p : Addr) (ds : List PyData)
def En.isNo : En → Bool
  | .no => true
  | _ => false
abbrev Rho := List En
def At (K : PySem.W.Frag) (G H : Hp) (σ : L2.St) (i : Nat) : En → Prop
  | .no => True
  | .im d => ∃ v, σ[i]? = some (some v) ∧ Dq K G v d
  | .ml _ p ds => σ[i]? = some (some (.ref p)) ∧ G p = none ∧ ∃ vs, H p = some (.lst vs) ∧ DqAll K G vs ds
structure Sd (K : PySem.W.Frag) (G H : Hp) (σ : L2.St) (ρ : Rho) : Prop where
  len : σ.length = ρ.length
  at_ : ∀ i e, ρ[i]? = some e → At K G H σ i e
section
variable {K : PySem.W.Frag} {G H G' H' : Hp} {σ : L2.St} {ρ : Rho}
theorem At.go (g : Gx G H G' H') {i : Nat} {e : En} (h : At K G H σ i e) : At K G' H' σ i e := by
  cases e with
  | no => trivial
  | im d =>
    obtain ⟨v, h1, h2⟩ := h
    exact ⟨v, h1, h2.mono g.g⟩
  | ml o p ds =>
    obtain ⟨h1, h2, vs, h3, h4⟩ := h
    exact ⟨h1, g.n p h2 (by rw [h3]; simp), vs, g.h _ _ h3, h4.mono g.g⟩
theorem Sd.go (g : Gx G H G' H') (s : Sd K G H σ ρ) : Sd K G' H' σ ρ := ⟨s.len, fun i e h => (s.at_ i e h).go g⟩
theorem set_at {α : Type} {l : List α} {i j : Nat} {a : α} {e : α} (h : (l.set i a)[j]? = some e) : (j = i ∧ e = a) ∨ (j ≠ i ∧ l[j]? = some e) := by
  by_cases c : j = i
  · subst c
    by_cases hl : j < l.length
    · rw [List.getElem?_set_self hl] at h
      exact .inl ⟨rfl, (Option.some.inj h).symm⟩
    · rw [List.getElem?_eq_none (by rw [List.length_set]; omega)] at h
      cases h
  · rw [List.getElem?_set_ne (Ne.symm c)] at h
    exact .inr ⟨c, h⟩
theorem is_lt {α : Type} {l : List α} {i : Nat} (h : (l[i]?).isSome = true) : i < l.length := by
  by_cases c : i < l.length
  · exact c
  · rw [List.getElem?_eq_none (by omega)] at h
    cases h
/-- a slot gets a value -/
theorem Sd.put (s : Sd K G H σ ρ) {i : Nat} {v : V} {d : PyData} (q : Dq K G v d) (hi : (ρ[i]?).isSome = true) : Sd K G H (σ.set i (some v)) (ρ.set i (.im d)) := by
  refine ⟨by rw [List.length_set, List.length_set]; exact s.len, fun j e h => ?_⟩
  have hl : i < σ.length := by rw [s.len]; exact is_lt hi
  rcases set_at h with ⟨rfl, rfl⟩ | ⟨ne, h⟩
  · exact ⟨v, by rw [List.getElem?_set_self hl], q⟩
  · have a := s.at_ j e h
    cases e with
    | no => trivial
    | im d' =>
      obtain ⟨w, h1, h2⟩ := a
      exact ⟨w, by rw [List.getElem?_set_ne (Ne.symm ne)]; exact h1, h2⟩
    | ml o p ds =>
      obtain ⟨h1, h2⟩ := a
      exact ⟨by rw [List.getElem?_set_ne (Ne.symm ne)]; exact h1, h2⟩
theorem wipe_out' {i : Nat} : ∀ {vs : List Nat}, i ∉ vs → (wipe σ vs)[i]? = σ[i]? := fun {vs} h => wipe_out h
/-- a comprehension's own names are wiped -/
theorem Sd.wipe {vs : List Nat} (s : Sd K G H σ ρ) (hw : (vs.all fun i => (ρ.getD i .no).isNo) = true) : Sd K G H (wipe σ vs) ρ := by
  refine ⟨by rw [wipe_length]; exact s.len, fun j e h => ?_⟩
  have a := s.at_ j e h
  by_cases c : j ∈ vs
  · have z := List.all_eq_true.mp hw j c
    rw [List.getD_eq_getElem?_getD, h] at z
    cases e with
    | no => trivial
    | im d => cases z
    | ml o p ds => cases z
  · cases e with
    | no => trivial
    | im d' =>
      obtain ⟨w, h1, h2⟩ := a
      exact ⟨w, by rw [wipe_out' c]; exact h1, h2⟩
    | ml o p ds =>
      obtain ⟨h1, h2⟩ := a
      exact ⟨by rw [wipe_out' c]; exact h1, h2⟩
end
end Jn
set_option maxHeartbeats 4000000
namespace Jn
open PySem
open PySem.Spec PyProof.Rows
open L2
/-! ### what an expression is worth; nothing that stood is changed -/
section
variable (K : PySem.W.Frag)
def Ev (te : TE) (ρ : Rho) (d : PyData) : Prop := ∀ (σ : L2.St) (G H : Hp) (Q : VK), Ex G H → Sd K G H σ ρ → (∀ v G' H', Gx G H G' H' → Dq K G' v d → Q v H') → te σ H Q
def EvT (tt : TT) (ρ : Rho) (b : Bool) : Prop := ∀ (σ : L2.St) (G H : Hp) (Q : Bool → Hp → Prop), Ex G H → Sd K G H σ ρ → (∀ G' H', Gx G H G' H' → Q b H') → tt σ H Q
def EvA (ta : TA) (ρ : Rho) (ds : List PyData) : Prop := ∀ (σ : L2.St) (G H : Hp) (Q : List V → Hp → Prop), Ex G H → Sd K G H σ ρ → (∀ vs G' H', Gx G H G' H' → DqAll K G' vs ds → Q vs H') → ta σ H Q
def EvO (to : TO) (ρ : Rho) (o : Option Int) : Prop := ∀ (σ : L2.St) (G H : Hp) (Q : Option Int → Hp → Prop), Ex G H → Sd K G H σ ρ → (∀ G' H', Gx G H G' H' → Q o H') → to σ H Q
/-- an operation on values | a call on values -/
def RvD (r : R2) (a b c : PyData) : Prop := ∀ (x y : V) (G H : Hp) (Q : VK), Ex G H → Dq K G x a → Dq K G y b → (∀ v G' H', Gx G H G' H' → Dq K G' v c → Q v H') → r x y H Q
def RuD (r : V → Hp → VK → Prop) (a c : PyData) : Prop := ∀ (x : V) (G H : Hp) (Q : VK), Ex G H → Dq K G x a → (∀ v G' H', Gx G H G' H' → Dq K G' v c → Q v H') → r x H Q
def RcD (r : List V → Hp → VK → Prop) (ds : List PyData) (c : PyData) : Prop := ∀ (vs : List V) (G H : Hp) (Q : VK), Ex G H → DqAll K G vs ds → (∀ v G' H', Gx G H G' H' → Dq K G' v c → Q v H') → r vs H Q
end
section
variable {K : PySem.W.Frag} {ρ : Rho} {ta tb te tc : TE} {a b c d : PyData} {tt tu : TT}
theorem Ev.is (h : Ev K te ρ a) (e : a = b) : Ev K te ρ b := e ▸ h
theorem EvT.is {x y : Bool} (h : EvT K tt ρ x) (e : x = y) : EvT K tt ρ y := e ▸ h
theorem ev_var {i : Nat} (h : ρ[i]? = some (.im d) := by rfl) : Ev K (tVar i) ρ d := fun σ G H Q e s q => by
  obtain ⟨v, h1, h2⟩ := s.at_ i _ h
  exact ⟨v, h1, q v G H (.refl e) h2⟩
theorem ev_c {v : V} (h : ∀ G, Dq K G v d) : Ev K (tC v) ρ d := fun σ G H Q e s q => q v G H (.refl e) (h G)
theorem ev_int {i : Int} : Ev K (tC (.int i)) ρ (.int i) := ev_c fun _ => .int i
theorem ev_bl {i : Bool} : Ev K (tC (.bl i)) ρ (.bool i) := ev_c fun _ => .bl i
theorem ev_str {i : Str} : Ev K (tC (.str i)) ρ (.str i) := ev_c fun _ => .str i
theorem ev_non : Ev K (tC .non) ρ .none := ev_c fun _ => .non
theorem ev_op {r : R2} (ha : Ev K ta ρ a) (hb : Ev K tb ρ b) (hr : RvD K r a b c) : Ev K (tOp r ta tb) ρ c := fun σ G H Q e s q =>
  ha σ G H _ e s fun x G1 H1 g1 d1 => hb σ G1 H1 _ g1.i (s.go g1) fun y G2 H2 g2 d2 => hr x y G2 H2 Q g2.i (d1.mono g2.g) d2 fun z G3 H3 g3 d3 => q z G3 H3 ((g1.trans g2).trans g3) d3
theorem ev_un {r : V → Hp → VK → Prop} (ha : Ev K ta ρ a) (hr : RuD K r a c) : Ev K (tUn r ta) ρ c := fun σ G H Q e s q =>
  ha σ G H _ e s fun x G1 H1 g1 d1 => hr x G1 H1 Q g1.i d1 fun z G3 H3 g3 d3 => q z G3 H3 (g1.trans g3) d3
/-! ### operations -/
theorem rv_i0 {g : Int → Int → V} {i j : Int} (h : ∀ G, Dq K G (g i j) c) : RvD K (rI0 g) (.int i) (.int j) c := fun x y G H Q e h1 h2 q => by
  cases h1
  cases h2
  exact ⟨i, j, rfl, rfl, q _ G H (.refl e) (h G)⟩
theorem rv_i {C : Int → Int → Prop} {g : Int → Int → V} {i j : Int} (hc : C i j) (h : ∀ G, Dq K G (g i j) c) : RvD K (rI C g) (.int i) (.int j) c := fun x y G H Q e h1 h2 q => by
  cases h1
  cases h2
  exact ⟨i, j, rfl, rfl, hc, q _ G H (.refl e) (h G)⟩
section
variable {i j : Int}
theorem ev_add (ha : Ev K ta ρ (.int i)) (hb : Ev K tb ρ (.int j)) : Ev K (tOp (rI0 fun i j => .int (i + j)) ta tb) ρ (.int (i + j)) := ev_op ha hb (rv_i0 fun _ => .int _)
theorem ev_sub (ha : Ev K ta ρ (.int i)) (hb : Ev K tb ρ (.int j)) : Ev K (tOp (rI0 fun i j => .int (i - j)) ta tb) ρ (.int (i - j)) := ev_op ha hb (rv_i0 fun _ => .int _)
theorem ev_cmpI {p : Int → Int → Bool} (ha : Ev K ta ρ (.int i)) (hb : Ev K tb ρ (.int j)) : Ev K (tOp (rI0 fun i j => .bl (p i j)) ta tb) ρ (.bool (p i j)) := ev_op ha hb (rv_i0 fun _ => .bl _)
theorem ev_opC {C : Int → Int → Prop} {f : Int → Int → Int} (ha : Ev K ta ρ (.int i)) (hb : Ev K tb ρ (.int j)) (hc : C i j) : Ev K (tOp (rI C fun i j => .int (f i j)) ta tb) ρ (.int (f i j)) := ev_op ha hb (rv_i hc fun _ => .int _)
theorem ev_eqI (ha : Ev K ta ρ (.int i)) (hb : Ev K tb ρ (.int j)) : Ev K (tOp rEq ta tb) ρ (.bool (decide (i = j))) := ev_op ha hb fun x y G H Q e h1 h2 q => by
  cases h1
  cases h2
  refine ⟨rfl, ?_⟩
  have e1 : decide (V.int i = V.int j) = decide (i = j) := by rw [dec_int, Bool.beq_eq_decide_eq]
  rw [e1]
  exact q _ G H (.refl e) (.bl _)
theorem ev_neI (ha : Ev K ta ρ (.int i)) (hb : Ev K tb ρ (.int j)) : Ev K (tOp rNe ta tb) ρ (.bool (!decide (i = j))) := ev_op ha hb fun x y G H Q e h1 h2 q => by
  cases h1
  cases h2
  refine ⟨rfl, ?_⟩
  have e1 : decide (V.int i = V.int j) = decide (i = j) := by rw [dec_int, Bool.beq_eq_decide_eq]
  rw [e1]
  exact q _ G H (.refl e) (.bl _)
end
theorem rv_eqD (h1 : SeqAt.shaped a = true) (h2 : SeqAt.shaped b = true) (n1 : a.hasDict = false) (n2 : b.hasDict = false) : RvD K (rEqD K) a b (.bool (PyData.eqv a b)) := fun x y G H Q e d1 d2 q =>
  ⟨a, b, (d1.mono e).toDp n1, (d2.mono e).toDp n2, h1, h2, q _ G H (.refl e) (.bl _)⟩
theorem rv_neD (h1 : SeqAt.shaped a = true) (h2 : SeqAt.shaped b = true) (n1 : a.hasDict = false) (n2 : b.hasDict = false) : RvD K (rNeD K) a b (.bool (!PyData.eqv a b)) := fun x y G H Q e d1 d2 q =>
  ⟨a, b, (d1.mono e).toDp n1, (d2.mono e).toDp n2, h1, h2, q _ G H (.refl e) (.bl _)⟩
theorem ev_isN {r : R2} (hr : r = fun x y H Q => y = .non ∧ Q (.bl (decide (x = .non))) H) (ha : Ev K ta ρ a) {k : Bool} (hk : ∀ G v, Dq K G v a → decide (v = V.non) = k) : Ev K (tOp r ta (tC .non)) ρ (.bool k) := fun σ G H Q e s q => by
  subst hr
  refine ha σ G H _ e s fun x G1 H1 g1 d1 => ⟨rfl, ?_⟩
  rw [hk _ _ d1]
  exact q _ G1 H1 g1 (.bl _)
/-- an item -/
theorem rv_ixT {ds : List PyData} {n : Nat} (h : ds[n]? = some d) : RvD K (rIxT K) (.tuple ds) (.int n) d := fun x y G H Q e h1 h2 q => by
  cases h2
  cases h1 with
  | tup hs ha =>
    obtain ⟨v, hv, dv⟩ := ha.get h
    exact ⟨_, _, _, v, rfl, rfl, ex_t e hs, atI_nat hv, q v G H (.refl e) dv⟩
theorem rv_ixL {ds : List PyData} {n : Nat} (h : ds[n]? = some d) : RvD K (rIxL K) (.list ds) (.int n) d := fun x y G H Q e h1 h2 q => by
  cases h2
  cases h1 with
  | lst hs ha =>
    obtain ⟨v, hv, dv⟩ := ha.get h
    exact ⟨_, _, _, v, rfl, rfl, ex_l e hs, atI_nat hv, q v G H (.refl e) dv⟩
theorem line100000 {n : Nat} (h : n ≤ 100000) : n ≤ sizeLine := by rw [sizeLine_eq]; omega
/-- t + u -/
theorem rv_cat {xs ys : List PyData} (hz : xs.length + ys.length ≤ 100000) : RvD K (rCatA K) (.tuple xs) (.tuple ys) (.tuple (xs ++ ys)) := fun x y G H Q e h1 h2 q => by
  cases h1 with
  | @tup p vs _ hs ha =>
    cases h2 with
    | @tup p2 ws _ hs2 ha2 =>
      have l1 := ha.length
      have l2 := ha2.length
      refine ⟨p, p2, vs, ws, rfl, rfl, ex_t e hs, ex_t e hs2, line100000 (by omega), fun z => ?_, fun z z2 => ?_, fun z z2 t ht => ?_⟩
      · subst z
        cases ha
        exact q _ G H (.refl e) (.tup hs2 ha2)
      · subst z2
        cases ha2
        rw [List.append_nil] at q
        exact q _ G H (.refl e) (.tup hs ha)
      · have hG : G t = none := Same.free e ht
        exact q _ _ _ (Gx.new e ht) (.tup (SqT.of upd_same) ((ha.append ha2).mono (ex_new hG)))
/-- t * k -/
theorem rep_all {G : Hp} {vs : List V} {ds : List PyData} (h : DqAll K G vs ds) : ∀ k : Nat, DqAll K G (List.replicate k vs).flatten (List.replicate k ds).flatten
  | 0 => .nil
  | k + 1 => by
    rw [List.replicate_succ, List.replicate_succ, List.flatten_cons, List.flatten_cons]
    exact h.append (rep_all h k)
theorem rv_rep {xs : List PyData} {k : Int} (h1 : xs ≠ []) (h2 : 2 ≤ k) (h3 : k ≤ 1000) (h4 : xs.length ≤ 1000) : RvD K (rRepT K) (.tuple xs) (.int k) (.tuple (List.replicate k.toNat xs).flatten) := fun x y G H Q e d1 d2 q => by
  cases d2
  cases d1 with
  | @tup p vs _ hs ha =>
    have l1 := ha.length
    refine ⟨p, k, vs, rfl, rfl, ex_t e hs, fun z => ?_, h2, h3, by omega, fun t ht => ?_⟩
    · subst z
      cases ha
      exact h1 rfl
    · have hG : G t = none := Same.free e ht
      exact q _ _ _ (Gx.new e ht) (.tup (SqT.of upd_same) ((rep_all ha k.toNat).mono (ex_new hG)))
/-! ### arguments, displays, calls -/
theorem ea_nil : EvA K tNil ρ [] := fun σ G H Q e s q => q [] G H (.refl e) .nil
theorem ea_cons {tr : TA} {ds : List PyData} (h : Ev K te ρ d) (hr : EvA K tr ρ ds) : EvA K (tCons te tr) ρ (d :: ds) := fun σ G H Q e s q =>
  h σ G H _ e s fun x G1 H1 g1 d1 => hr σ G1 H1 _ g1.i (s.go g1) fun xs G2 H2 g2 d2 => q _ G2 H2 (g1.trans g2) (.cons (d1.mono g2.g) d2)
theorem ev_tup {t : TA} {ds : List PyData} (h : EvA K t ρ ds) (hl : ds.length ≤ 100000) : Ev K (tTup t) ρ (.tuple ds) := fun σ G H Q e s q =>
  h σ G H _ e s fun xs G1 H1 g1 d1 => ⟨line100000 (by rw [d1.length]; exact hl), fun p hp =>
    q _ _ _ (g1.trans (Gx.new g1.i hp)) (.tup (SqT.of upd_same) (d1.mono (ex_new (Same.free g1.i hp))))⟩
theorem ev_lst {t : TA} {ds : List PyData} (h : EvA K t ρ ds) (hl : ds.length ≤ 100000) : Ev K (tLst t) ρ (.list ds) := fun σ G H Q e s q =>
  h σ G H _ e s fun xs G1 H1 g1 d1 => ⟨line100000 (by rw [d1.length]; exact hl), fun p hp =>
    q _ _ _ (g1.trans (Gx.new g1.i hp)) (.lst (SqL.of upd_same) (d1.mono (ex_new (Same.free g1.i hp))))⟩
theorem ev_cb {r : List V → Hp → VK → Prop} {t : TA} {ds : List PyData} (h : EvA K t ρ ds) (hr : RcD K r ds c) : Ev K (tCB r t) ρ c := fun σ G H Q e s q =>
  h σ G H _ e s fun xs G1 H1 g1 d1 => hr xs G1 H1 Q g1.i d1 fun v G2 H2 g2 d2 => q v G2 H2 (g1.trans g2) d2
/-- what a def is worth that changes nothing: R its arguments and what it gives -/
def spP (R : List PyData → PyData → Prop) : Sp := fun vs H Q _ => ∃ (G : Hp) (ds : List PyData) (d : PyData), Ex G H ∧ DqAll K G vs ds ∧ R ds d ∧ ∀ v G' H', Gx G H G' H' → Dq K G' v d → Q v H'
theorem ev_call {R : List PyData → PyData → Prop} {E : XK} {t : TA} {ds : List PyData} (h : EvA K t ρ ds) (hR : R ds d) : Ev K (tCall (spP (K := K) R) [] E t) ρ d := fun σ G H Q e s q =>
  h σ G H _ e s fun xs G1 H1 g1 d1 => ⟨G1, ds, d, g1.i, by rw [List.append_nil]; exact d1, hR, fun v G2 H2 g2 d2 => q v G2 H2 (g1.trans g2) d2⟩
/-- calls of built-ins -/
abbrev rLenS (K : PySem.W.Frag) : List V → Hp → VK → Prop := fun xs H Q => ∃ p ys, xs = [.ref p] ∧ (SqL K H p ys ∨ SqT K H p ys) ∧ Q (.int ys.length) H
theorem rc_lenT {ds : List PyData} : RcD K (rLenS K) [.tuple ds] (.int ds.length) := fun vs G H Q e h q => by
  cases h with
  | cons h r =>
    cases r
    cases h with
    | @tup p ws _ hs ha =>
      refine ⟨p, ws, rfl, .inr (ex_t e hs), ?_⟩
      rw [ha.length]
      exact q _ G H (.refl e) (.int _)
theorem rc_lenL {ds : List PyData} : RcD K (rLenS K) [.list ds] (.int ds.length) := fun vs G H Q e h q => by
  cases h with
  | cons h r =>
    cases r
    cases h with
    | @lst p ws _ hs ha =>
      refine ⟨p, ws, rfl, .inl (ex_l e hs), ?_⟩
      rw [ha.length]
      exact q _ G H (.refl e) (.int _)
theorem ev_lenT {ds : List PyData} (h : Ev K te ρ (.tuple ds)) : Ev K (tCB (rLenS K) (tCons te tNil)) ρ (.int ds.length) := ev_cb (ea_cons h ea_nil) rc_lenT
theorem ev_lenL {ds : List PyData} (h : Ev K te ρ (.list ds)) : Ev K (tCB (rLenS K) (tCons te tNil)) ρ (.int ds.length) := ev_cb (ea_cons h ea_nil) rc_lenL
/-- len of a list that may change -/
theorem ev_lenM {i : Nat} {o : Bool} {p : Addr} {ds : List PyData} (h : ρ[i]? = some (.ml o p ds) := by rfl) : Ev K (tCB (rLenS K) (tCons (tVar i) tNil)) ρ (.int ds.length) := fun σ G H Q e s q => by
  obtain ⟨h1, h2, vs, h3, h4⟩ := s.at_ i _ h
  refine ⟨_, h1, p, vs, rfl, .inl (SqL.of h3), ?_⟩
  rw [h4.length]
  exact q _ G H (.refl e) (.int _)
theorem ev_ixM {i n : Nat} {o : Bool} {p : Addr} {ds : List PyData} (h : ρ[i]? = some (.ml o p ds)) (hb : Ev K tb ρ (.int n)) (hn : ds[n]? = some d) : Ev K (tOp (rIxL K) (tVar i) tb) ρ d := fun σ G H Q e s q => by
  obtain ⟨h1, h2, vs, h3, h4⟩ := s.at_ i _ h
  refine ⟨_, h1, hb σ G H _ e s fun y G1 H1 g1 d1 => ?_⟩
  cases d1
  obtain ⟨v, hv, dv⟩ := h4.get hn
  exact ⟨p, vs, _, v, rfl, rfl, SqL.of (g1.h _ _ h3), atI_nat hv, q v G1 H1 g1 (dv.mono g1.g)⟩
abbrev rIntS : List V → Hp → VK → Prop := fun xs H Q => (∃ i, xs = [.int i] ∧ Q (.int i) H) ∨ ∃ k, xs = [.bl k] ∧ Q (.int (if k then 1 else 0)) H
theorem ev_intB {k : Bool} (h : Ev K te ρ (.bool k)) : Ev K (tCB rIntS (tCons te tNil)) ρ (.int (if k then 1 else 0)) := ev_cb (ea_cons h ea_nil) fun vs G H Q e h q => by
  cases h with
  | cons h r =>
    cases r
    cases h
    exact .inr ⟨k, rfl, q _ G H (.refl e) (.int _)⟩
theorem ev_intI {i : Int} (h : Ev K te ρ (.int i)) : Ev K (tCB rIntS (tCons te tNil)) ρ (.int i) := ev_cb (ea_cons h ea_nil) fun vs G H Q e h q => by
  cases h with
  | cons h r =>
    cases r
    cases h
    exact .inl ⟨i, rfl, q _ G H (.refl e) (.int _)⟩
abbrev rTupS (K : PySem.W.Frag) : List V → Hp → VK → Prop := fun xs H Q => ∃ p ys, xs = [.ref p] ∧ ((SqL K H p ys ∧ ∀ l, H l = none → Q (.ref l) (upd H l (.tup ys))) ∨ (SqT K H p ys ∧ Q (.ref p) H))
theorem ev_tupL {ds : List PyData} (h : Ev K te ρ (.list ds)) : Ev K (tCB (rTupS K) (tCons te tNil)) ρ (.tuple ds) := ev_cb (ea_cons h ea_nil) fun vs G H Q e h q => by
  cases h with
  | cons h r =>
    cases r
    cases h with
    | @lst p ws _ hs ha => exact ⟨p, ws, rfl, .inl ⟨ex_l e hs, fun t ht => q _ _ _ (Gx.new e ht) (.tup (SqT.of upd_same) (ha.mono (ex_new (Same.free e ht))))⟩⟩
/-- tuple of a list that may change -/
theorem ev_tupM {i : Nat} {o : Bool} {p : Addr} {ds : List PyData} (h : ρ[i]? = some (.ml o p ds) := by rfl) : Ev K (tCB (rTupS K) (tCons (tVar i) tNil)) ρ (.tuple ds) := fun σ G H Q e s q => by
  obtain ⟨h1, h2, vs, h3, h4⟩ := s.at_ i _ h
  exact ⟨_, h1, p, vs, rfl, .inl ⟨SqL.of h3, fun t ht => q _ _ _ (Gx.new e ht) (.tup (SqT.of upd_same) (h4.mono (ex_new (Same.free e ht))))⟩⟩
abbrev rLstS (K : PySem.W.Frag) : List V → Hp → VK → Prop := fun xs H Q => ∃ p ys, xs = [.ref p] ∧ (SqL K H p ys ∨ SqT K H p ys) ∧ ∀ l, H l = none → Q (.ref l) (upd H l (.lst ys))
theorem ev_lstT {ds : List PyData} (h : Ev K te ρ (.tuple ds)) : Ev K (tCB (rLstS K) (tCons te tNil)) ρ (.list ds) := ev_cb (ea_cons h ea_nil) fun vs G H Q e h q => by
  cases h with
  | cons h r =>
    cases r
    cases h with
    | @tup p ws _ hs ha => exact ⟨p, ws, rfl, .inr (ex_t e hs), fun t ht => q _ _ _ (Gx.new e ht) (.lst (SqL.of upd_same) (ha.mono (ex_new (Same.free e ht))))⟩
theorem ev_lstL {ds : List PyData} (h : Ev K te ρ (.list ds)) : Ev K (tCB (rLstS K) (tCons te tNil)) ρ (.list ds) := ev_cb (ea_cons h ea_nil) fun vs G H Q e h q => by
  cases h with
  | cons h r =>
    cases r
    cases h with
    | @lst p ws _ hs ha => exact ⟨p, ws, rfl, .inl (ex_l e hs), fun t ht => q _ _ _ (Gx.new e ht) (.lst (SqL.of upd_same) (ha.mono (ex_new (Same.free e ht))))⟩
theorem ev_all {bs : List Bool} (h : Ev K te ρ (.list (bs.map .bool))) : Ev K (tCB (rAll K) (tCons te tNil)) ρ (.bool (bs.all id)) := ev_cb (ea_cons h ea_nil) fun vs G H Q e h q => by
  cases h with
  | cons h r =>
    cases r
    cases h with
    | @lst p ws _ hs ha =>
      have z := ha.bools
      subst z
      exact ⟨p, bs, rfl, ex_l e hs, q _ G H (.refl e) (.bl _)⟩
theorem ev_any {bs : List Bool} (h : Ev K te ρ (.list (bs.map .bool))) : Ev K (tCB (rAny K) (tCons te tNil)) ρ (.bool (bs.any id)) := ev_cb (ea_cons h ea_nil) fun vs G H Q e h q => by
  cases h with
  | cons h r =>
    cases r
    cases h with
    | @lst p ws _ hs ha =>
      have z := ha.bools
      subst z
      exact ⟨p, bs, rfl, ex_l e hs, q _ G H (.refl e) (.bl _)⟩
theorem ev_min {ns : List Int} {m : Int} (h : Ev K te ρ (.list (ns.map .int))) (h0 : 0 < ns.length) (hm : ∀ k, k ∈ ns → (∀ y, y ∈ ns → k ≤ y) → k = m) : Ev K (tCB (rMin K) (tCons te tNil)) ρ (.int m) := ev_cb (ea_cons h ea_nil) fun vs G H Q e h q => by
  cases h with
  | cons h r =>
    cases r
    cases h with
    | @lst p ws _ hs ha =>
      have z := ha.ints
      subst z
      refine ⟨p, ns, rfl, ex_l e hs, h0, fun k h1 h2 => ?_⟩
      rw [hm k h1 h2]
      exact q _ G H (.refl e) (.int _)
theorem ev_sum {ns : List Int} (h : Ev K te ρ (.list (ns.map .int))) : Ev K (tCB (rSum K) (tCons te tNil)) ρ (.int ns.sum) := ev_cb (ea_cons h ea_nil) fun vs G H Q e h q => by
  cases h with
  | cons h r =>
    cases r
    cases h with
    | @lst p ws _ hs ha =>
      have z := ha.ints
      subst z
      exact ⟨p, ns, rfl, ex_l e hs, q _ G H (.refl e) (.int _)⟩
/-- isinstance(x, T), a built-in class -/
theorem ev_isi {n : String} {k : Bool} (h : Ev K te ρ d) (hk : kitB (tyN d) n = some k) : Ev K (tCB (rIsi K) (tCons te (tCons (tC (.ty n)) tNil))) ρ (.bool k) := fun σ G H Q e s q =>
  h σ G H _ e s fun x G1 H1 g1 d1 => ⟨x, .ty n, _, _, k, rfl, .ty n, (d1.mono g1.i).tyx, kit_ty hk, q _ G1 H1 g1 (.bl _)⟩
/-! ### tests -/
theorem et_test {k : Bool} (h : Ev K te ρ (.bool k)) : EvT K (tTest te) ρ k := fun σ G H Q e s q => h σ G H _ e s fun v G1 H1 g1 d1 => by
  cases d1
  exact ⟨k, rfl, q G1 H1 g1⟩
theorem et_B {k : Bool} (h : Ev K te ρ (.bool k)) : EvT K (tB te) ρ k := fun σ G H Q e s q => h σ G H _ e s fun v G1 H1 g1 d1 => by
  cases d1
  exact ⟨k, rfl, q G1 H1 g1⟩
theorem et_and {x y : Bool} (h1 : EvT K tt ρ x) (h2 : x = true → EvT K tu ρ y) : EvT K (tAnd tt tu) ρ (x && y) := fun σ G H Q e s q => h1 σ G H _ e s fun G1 H1 g1 => by
  cases x with
  | true => exact iteT (h2 rfl σ G1 H1 _ g1.i (s.go g1) fun G2 H2 g2 => q G2 H2 (g1.trans g2))
  | false => exact iteF (q G1 H1 g1)
theorem et_or {x y : Bool} (h1 : EvT K tt ρ x) (h2 : x = false → EvT K tu ρ y) : EvT K (tOr tt tu) ρ (x || y) := fun σ G H Q e s q => h1 σ G H _ e s fun G1 H1 g1 => by
  cases x with
  | true => exact iteT (q G1 H1 g1)
  | false => exact iteF (h2 rfl σ G1 H1 _ g1.i (s.go g1) fun G2 H2 g2 => q G2 H2 (g1.trans g2))
theorem et_not {x : Bool} (h1 : EvT K tt ρ x) : EvT K (tNot tt) ρ (!x) := fun σ G H Q e s q => h1 σ G H _ e s fun G1 H1 g1 => q G1 H1 g1
theorem ev_andV {x y : Bool} (h1 : Ev K ta ρ (.bool x)) (h2 : x = true → Ev K tb ρ (.bool y)) : Ev K (tAndV ta tb) ρ (.bool (x && y)) := fun σ G H Q e s q => h1 σ G H _ e s fun v G1 H1 g1 d1 => by
  cases d1
  refine ⟨x, rfl, ?_⟩
  cases x with
  | true => exact iteT (h2 rfl σ G1 H1 _ g1.i (s.go g1) fun v G2 H2 g2 => q v G2 H2 (g1.trans g2))
  | false => exact iteF (q _ G1 H1 g1 (.bl _))
theorem ev_notV {x : Bool} (h1 : Ev K ta ρ (.bool x)) : Ev K (tNotV ta) ρ (.bool (!x)) := fun σ G H Q e s q => h1 σ G H _ e s fun v G1 H1 g1 d1 => by
  cases d1
  exact ⟨x, rfl, q _ G1 H1 g1 (.bl _)⟩
theorem ev_if {x : Bool} (h : EvT K tt ρ x) (h1 : x = true → Ev K ta ρ d) (h2 : x = false → Ev K tb ρ d) : Ev K (tIf tt ta tb) ρ d := fun σ G H Q e s q => h σ G H _ e s fun G1 H1 g1 => by
  cases x with
  | true => exact iteT (h1 rfl σ G1 H1 _ g1.i (s.go g1) fun v G2 H2 g2 => q v G2 H2 (g1.trans g2))
  | false => exact iteF (h2 rfl σ G1 H1 _ g1.i (s.go g1) fun v G2 H2 g2 => q v G2 H2 (g1.trans g2))
theorem ev_chain {r r' : R2} {x y : Bool} (ha : Ev K ta ρ a) (hb : Ev K tb ρ b) (hr : RvD K r a b (.bool x)) (hc : Ev K tc ρ c) (hr' : RvD K r' b c (.bool y)) : Ev K (tChain r r' ta tb tc) ρ (.bool (x && y)) := fun σ G H Q e s q =>
  ha σ G H _ e s fun v G1 H1 g1 d1 => hb σ G1 H1 _ g1.i (s.go g1) fun w G2 H2 g2 d2 => hr v w G2 H2 _ g2.i (d1.mono g2.g) d2 fun z G3 H3 g3 d3 => by
    cases d3
    refine ⟨x, rfl, ?_⟩
    have g := (g1.trans g2).trans g3
    cases x with
    | true => exact iteT (hc σ G3 H3 _ g3.i (s.go g) fun u G4 H4 g4 d4 => hr' w u G4 H4 Q g4.i ((d2.mono g3.g).mono g4.g) d4 fun z5 G5 H5 g5 d5 => q z5 G5 H5 ((g.trans g4).trans g5) d5)
    | false => exact iteF (q _ G3 H3 g (.bl _))
/-! ### slices -/
theorem eo_none : EvO K tNoPart ρ none := fun σ G H Q e s q => q G H (.refl e)
theorem eo_some {i : Int} (h : Ev K te ρ (.int i)) : EvO K (tPart te) ρ (some i) := fun σ G H Q e s q => h σ G H _ e s fun v G1 H1 g1 d1 => by
  cases d1
  exact ⟨i, rfl, q G1 H1 g1⟩
def cutD (ds : List PyData) (lo hi : Option Int) : List PyData := (ds.drop (HT.sIx ds.length 0 lo)).take (HT.sIx ds.length ds.length hi - HT.sIx ds.length 0 lo)
theorem cut_all {G : Hp} {vs : List V} {ds : List PyData} (h : DqAll K G vs ds) (lo hi : Option Int) : DqAll K G (cutV vs lo hi) (cutD ds lo hi) := by
  unfold cutV cutD
  rw [h.length]
  exact (h.drop _).take _
theorem cut_whole {ds : List PyData} {lo hi : Option Int} (h : HT.sIx ds.length 0 lo = 0 ∧ HT.sIx ds.length ds.length hi = ds.length) : cutD ds lo hi = ds := by
  unfold cutD
  rw [h.1, h.2]
  simp
theorem ev_slT {tl th : TO} {lo hi : Option Int} {ds : List PyData} (h : Ev K te ρ (.tuple ds)) (h1 : EvO K tl ρ lo) (h2 : EvO K th ρ hi) : Ev K (tSl (rSlA K) te tl th) ρ (.tuple (cutD ds lo hi)) := fun σ G H Q e s q =>
  h σ G H _ e s fun v G1 H1 g1 d1 => h1 σ G1 H1 _ g1.i (s.go g1) fun G2 H2 g2 => h2 σ G2 H2 _ g2.i (s.go (g1.trans g2)) fun G3 H3 g3 => by
    have g := (g1.trans g2).trans g3
    have d3 := (d1.mono g2.g).mono g3.g
    cases d3 with
    | @tup p vs _ hs ha =>
      refine ⟨p, vs, rfl, ex_t g3.i hs, fun w => ?_, fun w t ht => ?_⟩
      · rw [ha.length] at w
        rw [cut_whole w] at q
        exact q _ G3 H3 g (.tup hs ha)
      · exact q _ _ _ (g.trans (Gx.new g3.i ht)) (.tup (SqT.of upd_same) ((cut_all ha lo hi).mono (ex_new (Same.free g3.i ht))))
theorem ev_slL {tl th : TO} {lo hi : Option Int} {ds : List PyData} (h : Ev K te ρ (.list ds)) (h1 : EvO K tl ρ lo) (h2 : EvO K th ρ hi) : Ev K (tSl (rSlL K) te tl th) ρ (.list (cutD ds lo hi)) := fun σ G H Q e s q =>
  h σ G H _ e s fun v G1 H1 g1 d1 => h1 σ G1 H1 _ g1.i (s.go g1) fun G2 H2 g2 => h2 σ G2 H2 _ g2.i (s.go (g1.trans g2)) fun G3 H3 g3 => by
    have g := (g1.trans g2).trans g3
    have d3 := (d1.mono g2.g).mono g3.g
    cases d3 with
    | @lst p vs _ hs ha =>
      exact ⟨p, vs, rfl, ex_l g3.i hs, fun t ht => q _ _ _ (g.trans (Gx.new g3.i ht)) (.lst (SqL.of upd_same) ((cut_all ha lo hi).mono (ex_new (Same.free g3.i ht))))⟩
theorem cut_to {ds : List PyData} {n : Nat} (h : n ≤ ds.length) : cutD ds none (some (n : Int)) = ds.take n := by
  unfold cutD
  rw [HT.sIx_none, HT.sIx_nat]
  rw [show min n ds.length = n by omega]
  simp
theorem cut_from {ds : List PyData} {n : Nat} : cutD ds (some (n : Int)) none = ds.drop n := by
  unfold cutD
  rw [HT.sIx_none, HT.sIx_nat]
  by_cases h : n ≤ ds.length
  · rw [show min n ds.length = n by omega]
    rw [List.take_of_length_le]
    rw [List.length_drop]
    omega
  · rw [show min n ds.length = ds.length by omega, List.drop_eq_nil_of_le (Nat.le_refl _), List.drop_eq_nil_of_le (by omega), List.take_nil]
end
end Jn
set_option maxHeartbeats 4000000
namespace Jn
open PySem
open PySem.Spec PyProof.Rows
open L2
/-! ### what is walked -/
structure WalkD (K : PySem.W.Frag) (J : It) (G : Hp) (xs : List PyData) : Prop where
  goes : ∀ i H, i < xs.length → Ex G H → J.go i H
  stops : ∀ H, Ex G H → J.stop xs.length H
  yields : ∀ (i : Nat) (H G1 : Hp) (x : V) (H' : Hp) (h : i < xs.length), Ex G G1 → Ex G1 H → J.yld i H x H' → ∃ G2, Gx G1 H G2 H' ∧ Dq K G2 x xs[i]
def EvW (K : PySem.W.Frag) (wi : TI) (ρ : Rho) (xs : List PyData) : Prop := ∀ (σ : L2.St) (G H : Hp) (R : It → Hp → Prop), Ex G H → Sd K G H σ ρ → (∀ J G' H', Gx G H G' H' → WalkD K J G' xs → R J H') → wi σ H R
section
variable {K : PySem.W.Frag} {ρ : Rho} {te tl tm : TE} {ta : TA} {ds es : List PyData} {G : Hp} {a b : Addr} {vs ws : List V}
theorem at_of {α : Type} {xs : List α} {i : Nat} (h : i < xs.length) : xs[i]? = some xs[i] := by simp [h]
theorem DqAll.ix (r : DqAll K G vs ds) {i : Nat} (h : i < ds.length) : ∃ v, vs[i]? = some v ∧ Dq K G v ds[i] := r.get (at_of h)
theorem wd_list (hs : SqL K G a vs) (r : DqAll K G vs ds) : WalkD K (Itl K a) G ds := by
  have hl := r.length
  refine ⟨fun i H hi e => ?_, fun H e => ⟨vs, ex_l e hs, by omega⟩, fun i H G1 x H' hi e1 e2 y => ?_⟩
  · obtain ⟨v, hv, _⟩ := r.ix hi
    exact ⟨vs, v, ex_l e hs, hv⟩
  · obtain ⟨rfl, y⟩ := y
    obtain ⟨v, hv, d⟩ := r.ix hi
    have z := y vs (ex_l (e1.trans e2) hs)
    rw [hv] at z
    cases z
    exact ⟨G1, .refl e2, d.mono e1⟩
theorem wd_tup (hs : SqT K G a vs) (r : DqAll K G vs ds) : WalkD K (Itt K a) G ds := by
  have hl := r.length
  refine ⟨fun i H hi e => ?_, fun H e => ⟨vs, ex_t e hs, by omega⟩, fun i H G1 x H' hi e1 e2 y => ?_⟩
  · obtain ⟨v, hv, _⟩ := r.ix hi
    exact ⟨vs, v, ex_t e hs, hv⟩
  · obtain ⟨rfl, y⟩ := y
    obtain ⟨v, hv, d⟩ := r.ix hi
    have z := y vs (ex_t (e1.trans e2) hs)
    rw [hv] at z
    cases z
    exact ⟨G1, .refl e2, d.mono e1⟩
theorem wd_range {lo : Int} {n : Nat} : WalkD K (Itr lo n) G ((List.range n).map fun i : Nat => .int (lo + i)) := by
  refine ⟨fun i H hi e => (show i < n by simpa using hi), fun H e => by simp [Itr], fun i H G1 x H' hi e1 e2 y => ?_⟩
  obtain ⟨rfl, rfl⟩ := y
  refine ⟨G1, .refl e2, ?_⟩
  simp only [List.getElem_map, List.getElem_range]
  exact .int _
theorem wd_rangeC {lo c : Int} {n : Nat} : WalkD K (Itc lo c n) G ((List.range n).map fun i : Nat => .int (lo + i * c)) := by
  refine ⟨fun i H hi e => (show i < n by simpa using hi), fun H e => by simp [Itc], fun i H G1 x H' hi e1 e2 y => ?_⟩
  obtain ⟨rfl, rfl⟩ := y
  refine ⟨G1, .refl e2, ?_⟩
  simp only [List.getElem_map, List.getElem_range]
  exact .int _
theorem ew_tup (h : Ev K te ρ (.tuple ds)) : EvW K (iTup K te) ρ ds := fun σ G H R e s q => h σ G H _ e s fun v G1 H1 g1 d1 => by
  cases d1 with
  | @tup p vs _ hs ha => exact ⟨p, rfl, ⟨vs, ex_t g1.i hs⟩, q _ G1 H1 g1 (wd_tup hs ha)⟩
theorem ew_list (h : Ev K te ρ (.list ds)) : EvW K (iList K te) ρ ds := fun σ G H R e s q => h σ G H _ e s fun v G1 H1 g1 d1 => by
  cases d1 with
  | @lst p vs _ hs ha => exact ⟨p, rfl, ⟨vs, ex_l g1.i hs⟩, q _ G1 H1 g1 (wd_list hs ha)⟩
theorem ew_rng1 {n : Int} (h : EvA K ta ρ [.int n]) (h1 : -(2 ^ 62) ≤ n) (h2 : n < 2 ^ 62) : EvW K (iRng1 ta) ρ ((List.range n.toNat).map fun i : Nat => .int i) := fun σ G H R e s q => h σ G H _ e s fun vs G1 H1 g1 d1 => by
  cases d1 with
  | cons d1 r =>
    cases d1
    cases r
    have w := wd_range (K := K) (G := G1) (lo := 0) (n := n.toNat)
    simp only [Int.zero_add] at w
    exact ⟨n, rfl, h1, h2, q _ G1 H1 g1 w⟩
theorem ew_rng2 {m n : Int} (h : EvA K ta ρ [.int m, .int n]) (h1 : -(2 ^ 62) ≤ m ∧ m < 2 ^ 62 ∧ -(2 ^ 62) ≤ n ∧ n < 2 ^ 62) : EvW K (iRng2 ta) ρ ((List.range (n - m).toNat).map fun i : Nat => .int (m + i)) := fun σ G H R e s q => h σ G H _ e s fun vs G1 H1 g1 d1 => by
  cases d1 with
  | cons d1 r =>
    cases d1
    cases r with
    | cons d2 r =>
      cases d2
      cases r
      exact ⟨m, n, rfl, h1, q _ G1 H1 g1 wd_range⟩
/-- pairs of what two tuples hold -/
def pairs (xs ys : List PyData) : List PyData := (xs.zip ys).map fun p => .tuple [p.1, p.2]
theorem pairs_len : (pairs ds es).length = min ds.length es.length := by simp [pairs]
theorem gx_pair {G1 H : Hp} {T : Addr} {x y : V} {d1 d2 : PyData} (e : Ex G1 H) (hT : H T = none) (h1 : Dq K G1 x d1) (h2 : Dq K G1 y d2) :
    ∃ G2, Gx G1 H G2 (upd H T (.tup [x, y])) ∧ Dq K G2 (.ref T) (.tuple [d1, d2]) := by
  have hG : G1 T = none := Same.free e hT
  exact ⟨_, Gx.new e hT, .tup (SqT.of upd_same) (.cons (h1.mono (ex_new hG)) (.cons (h2.mono (ex_new hG)) .nil))⟩
theorem wd_zipT (hs : SqT K G a vs) (r : DqAll K G vs ds) (hs2 : SqT K G b ws) (r2 : DqAll K G ws es) : WalkD K (RZ.ItzT K a b) G (pairs ds es) := by
  have hl := r.length
  have hl2 := r2.length
  have pl := pairs_len (ds := ds) (es := es)
  refine ⟨fun i H hi e => ?_, fun H e => ⟨vs, ws, ex_t e hs, ex_t e hs2, by omega⟩, fun i H G1 x H' hi e1 e2 y => ?_⟩
  · obtain ⟨v, hv, _⟩ := r.ix (i := i) (by omega)
    obtain ⟨w, hw, _⟩ := r2.ix (i := i) (by omega)
    exact ⟨vs, ws, v, w, ex_t e hs, ex_t e hs2, hv, hw⟩
  · obtain ⟨T, x1, y1, rfl, hT, rfl, f1, f2⟩ := y
    obtain ⟨v, hv, dv⟩ := r.ix (i := i) (by omega)
    obtain ⟨w, hw, dw⟩ := r2.ix (i := i) (by omega)
    have z1 := f1 vs (ex_t (e1.trans e2) hs)
    have z2 := f2 ws (ex_t (e1.trans e2) hs2)
    rw [hv] at z1
    rw [hw] at z2
    cases z1
    cases z2
    have e : (pairs ds es)[i] = .tuple [ds[i]'(by omega), es[i]'(by omega)] := by simp [pairs]
    rw [e]
    exact gx_pair e2 hT (dv.mono e1) (dw.mono e1)
theorem ew_zipT (h1 : Ev K tl ρ (.tuple ds)) (h2 : Ev K tm ρ (.tuple es)) : EvW K (RZ.iZipA K (tCons tl (tCons tm tNil))) ρ (pairs ds es) := fun σ G H R e s q =>
  h1 σ G H _ e s fun v G1 H1 g1 d1 => h2 σ G1 H1 _ g1.i (s.go g1) fun w G2 H2 g2 d2 => by
    have d1' := d1.mono g2.g
    cases d1' with
    | @tup p vs _ hs ha =>
      cases d2 with
      | @tup p2 ws _ hs2 ha2 => exact ⟨p, p2, vs, ws, rfl, .inr ⟨ex_t g2.i hs, ex_t g2.i hs2, q _ G2 H2 (g1.trans g2) (wd_zipT hs ha hs2 ha2)⟩⟩
/-! ### comprehensions -/
/-- what gives a new list, of one's own -/
def EvN (K : PySem.W.Frag) (te : TE) (ρ : Rho) (ds : List PyData) : Prop := ∀ (σ : L2.St) (G H : Hp) (Q : VK), Ex G H → Sd K G H σ ρ →
  (∀ p vs G' H', H p = none → G' p = none → Gx G H G' H' → H' p = some (.lst vs) → DqAll K G' vs ds → Q (.ref p) H') → te σ H Q
theorem EvN.ev {ds : List PyData} (h : EvN K te ρ ds) : Ev K te ρ (.list ds) := fun σ G H Q e s q => h σ G H Q e s fun p vs G1 H1 h0 h1 g h2 r => by
  refine q (.ref p) (upd G1 p (.lst vs)) H1 ⟨g.g.trans (ex_new h1), fun a u ha => ?_, g.h, fun a k1 k2 => ?_⟩ (.lst (SqL.of upd_same) (r.mono (ex_new h1)))
  · by_cases c : a = p
    · rw [c, upd_same] at ha
      rw [c, h2]
      exact ha
    · rw [upd_ne c] at ha
      exact g.i a u ha
  · rw [upd_ne (fun z => k2 (by rw [z]; exact h0))]
    exact g.n a k1 k2
theorem wipe1 {σ : L2.St} {j : Nat} {x : Option V} : wipe ((wipe σ [j]).set j x) [j] = wipe σ [j] := by
  simp [wipe]
theorem wipe2 {σ : L2.St} {i j : Nat} {x y : Option V} (h : i ≠ j) : wipe (((wipe σ [i, j]).set i x).set j y) [i, j] = wipe σ [i, j] := by
  simp only [wipe]
  rw [List.set_set, List.set_comm _ _ (Ne.symm h), List.set_set]
  rw [List.set_set, List.set_comm _ _ h, List.set_set, List.set_comm _ _ (Ne.symm h)]
/-- what a target makes of an item -/
def EvG (K : PySem.W.Frag) (g : TG) (vs : List Nat) (ρ : Rho) (d : PyData) (ρ' : Rho) : Prop := ∀ (v : V) (σ : L2.St) (G H : Hp) (Q : L2.St → Hp → Prop), Ex G H → Sd K G H (wipe σ vs) ρ → Dq K G v d →
  (∀ σ', wipe σ' vs = wipe σ vs → Sd K G H σ' ρ' → Q σ' H) → g v (wipe σ vs) H Q
theorem eg_name {j : Nat} {d : PyData} (hj : (ρ[j]?).isSome = true := by rfl) : EvG K (gName j) [j] ρ d (ρ.set j (.im d)) := fun v σ G H Q e s h q =>
  q _ wipe1 (s.put h hj)
theorem eg_pair {i j : Nat} {d1 d2 : PyData} (hij : i ≠ j := by decide) (hi : (ρ[i]?).isSome = true := by rfl) (hj : (ρ[j]?).isSome = true := by rfl) :
    EvG K (gTup K 2 (gCons (gName i) (gCons (gName j) gNil))) [i, j] ρ (.tuple [d1, d2]) ((ρ.set i (.im d1)).set j (.im d2)) := fun v σ G H Q e s h q => by
  cases h with
  | @tup p vs _ hs ha =>
    cases ha with
    | @cons x _ _ _ h1 ha =>
      cases ha with
      | @cons y _ _ _ h2 ha =>
        cases ha
        have s1 := s.put h1 hi
        have s2 := s1.put (i := j) h2 (by
          have := is_lt hj
          rw [List.getElem?_set_ne hij]
          exact hj)
        exact ⟨p, [x, y], rfl, ex_t e hs, rfl, x, [y], rfl, y, [], rfl, rfl, q _ (wipe2 hij) s2⟩
theorem filter_take {α : Type} {xs : List α} {p : α → Bool} {i : Nat} (h : i < xs.length) : (xs.take (i + 1)).filter p = (xs.take i).filter p ++ if p xs[i] = true then [xs[i]] else [] := by
  rw [List.take_add_one, at_of h, List.filter_append]
  by_cases c : p xs[i] = true
  · simp [c]
  · simp [c]
/-- a list's making, item by item, some kept: up: the slots at an item -/
theorem en_lcF {wi : TI} {g : TG} {tt : TT} {vs : List Nat} {α : Type} {xs : List α} {emb f : α → PyData} {p : α → Bool} (up : α → Rho) (hw : EvW K wi ρ (xs.map emb)) (hv : (vs.all fun i => (ρ.getD i .no).isNo) = true) (hl : xs.length ≤ 100000)
    (hg : ∀ x ∈ xs, EvG K g vs ρ (emb x) (up x)) (ht : ∀ x ∈ xs, EvT K tt (up x) (p x)) (he : ∀ x ∈ xs, p x = true → Ev K te (up x) (f x)) : EvN K (tLc wi g tt te vs) ρ ((xs.filter p).map f) := fun σ G H Q e s q =>
  hw σ G H _ e s fun J G1 H1 g1 w D hD => by
    refine ⟨fun i m H2 => m = xs.length - i ∧ i ≤ xs.length ∧ ∃ G2 ws, Ex G1 G2 ∧ Ex G2 H2 ∧ G2 D = none ∧ H2 D = some (.lst ws) ∧ DqAll K G2 ws (((xs.take i).filter p).map f) ∧ Ex H1 H2 ∧ ∀ a, G1 a = none → H1 a ≠ none → G2 a = none,
      ⟨xs.length, rfl, Nat.zero_le _, G1, [], Same.refl _, ex_mut g1.i (Same.free g1.i hD), Same.free g1.i hD, upd_same, .nil, ex_new hD, fun _ h _ => h⟩, ?_⟩
    rintro i m H2 ⟨rfl, hi, G2, ws, a1, a2, a3, a4, a5, a6, a7⟩
    have wl : (xs.map emb).length = xs.length := List.length_map ..
    by_cases hlt : i < xs.length
    · refine .inr ⟨w.goes i H2 (by omega) (a1.trans a2), fun H3 => i + 1 ≤ xs.length ∧ ∃ G3 ws', Ex G1 G3 ∧ Ex G3 H3 ∧ G3 D = none ∧ H3 D = some (.lst ws') ∧ DqAll K G3 ws' (((xs.take (i + 1)).filter p).map f) ∧ Ex H1 H3 ∧ ∀ a, G1 a = none → H1 a ≠ none → G3 a = none,
        fun H3 h3 => ⟨xs.length - (i + 1), by omega, rfl, h3.1, h3.2⟩, fun x H3 y => ?_⟩
      obtain ⟨G3, g3, d3⟩ := w.yields i H2 G2 x H3 (by omega) a1 a2 y
      rw [List.getElem_map] at d3
      have hm : xs[i] ∈ xs := List.getElem_mem hlt
      -- all the way from the start
      have g13 : Gx G1 H1 G3 H3 := ⟨a1.trans g3.g, g3.i, a6.trans g3.h, fun a b1 b2 => g3.n a (a7 a b1 b2) (ex_some a6 b2)⟩
      have gs : Gx G H G3 H3 := g1.trans g13
      refine hg _ hm x σ G3 H3 _ g3.i ((s.go gs).wipe hv) d3 fun σ' hwi s' => ⟨hwi, ?_⟩
      refine ht _ hm σ' G3 H3 _ g3.i s' fun G4 H4 g4 => ?_
      have g14 := g13.trans g4
      have D3 : G3 D = none := g3.n D a3 (by rw [a4]; simp)
      have hD3 : H3 D = some (.lst ws) := g3.h _ _ a4
      have D4 : G4 D = none := g4.n D D3 (by rw [hD3]; simp)
      have hD4 : H4 D = some (.lst ws) := g4.h _ _ hD3
      have r4 := (a5.mono g3.g).mono g4.g
      have ft := filter_take (p := p) hlt
      cases c : p xs[i] with
      | true =>
        refine iteT (he _ hm c σ' G4 H4 _ g4.i (s'.go g4) fun v G5 H5 g5 d5 => ?_)
        have hD5 : H5 D = some (.lst ws) := g5.h _ _ hD4
        have D5 : G5 D = none := g5.n D D4 (by rw [hD4]; simp)
        have g15 := g14.trans g5
        have ll : ws.length ≤ xs.length := by
          rw [a5.length, List.length_map]
          exact Nat.le_trans (List.length_filter_le _ _) (List.length_take_le' _ _)
        refine ⟨ws, hD5, by rw [sizeLine_eq]; omega, hlt, G5, ws ++ [v], g15.g, ex_mut g15.i D5, D5, upd_same, ?_, ?_, g15.n⟩
        · rw [ft, if_pos c, List.map_append]
          exact (r4.mono g5.g).append (.cons d5 .nil)
        · exact ex_mut g15.h hD
      | false =>
        refine iteF ⟨hlt, G4, ws, g14.g, g4.i, D4, hD4, ?_, g14.h, g14.n⟩
        rw [ft, if_neg (by rw [c]; exact Bool.false_ne_true), List.append_nil]
        exact r4
    · have ei : i = xs.length := by omega
      subst ei
      refine .inl ⟨by
        have z := w.stops H2 (a1.trans a2)
        rw [wl] at z
        exact z, ?_⟩
      rw [List.take_length] at a5
      exact q D ws G2 H2 (Same.free g1.h hD) a3 (g1.trans ⟨a1, a2, a6, a7⟩) a4 a5
theorem et_yes : EvT K tYes ρ true := fun σ G H Q e s q => q G H (.refl e)
theorem en_lcG {wi : TI} {g : TG} {vs : List Nat} {α : Type} {xs : List α} {emb f : α → PyData} (up : α → Rho) (hw : EvW K wi ρ (xs.map emb)) (hv : (vs.all fun i => (ρ.getD i .no).isNo) = true) (hl : xs.length ≤ 100000)
    (hg : ∀ x ∈ xs, EvG K g vs ρ (emb x) (up x)) (he : ∀ x ∈ xs, Ev K te (up x) (f x)) : EvN K (tLc wi g tYes te vs) ρ (xs.map f) := by
  have h := en_lcF (K := K) (te := te) (tt := tYes) (p := fun _ => true) (f := f) up hw hv hl hg (fun _ _ => et_yes) fun x hx _ => he x hx
  rw [List.filter_eq_self.mpr (fun _ _ => rfl)] at h
  exact h
/-- [e for x in ..] -/
theorem en_lc {wi : TI} {j : Nat} {α : Type} {xs : List α} {emb : α → PyData} (f : α → PyData) (hw : EvW K wi ρ (xs.map emb)) (he : ∀ x ∈ xs, Ev K te (ρ.set j (.im (emb x))) (f x)) (hl : xs.length ≤ 100000) (hv : ([j].all fun i => (ρ.getD i .no).isNo) = true := by rfl) (hj : (ρ[j]?).isSome = true := by rfl) :
    EvN K (tLc wi (gName j) tYes te [j]) ρ (xs.map f) := en_lcG (fun x => ρ.set j (.im (emb x))) hw hv hl (fun _ _ => eg_name hj) he
/-- [e for x in .. if t] -/
theorem en_lcI {wi : TI} {j : Nat} {tt : TT} {α : Type} {xs : List α} {emb : α → PyData} (p : α → Bool) (f : α → PyData) (hw : EvW K wi ρ (xs.map emb)) (ht : ∀ x ∈ xs, EvT K tt (ρ.set j (.im (emb x))) (p x)) (he : ∀ x ∈ xs, p x = true → Ev K te (ρ.set j (.im (emb x))) (f x)) (hl : xs.length ≤ 100000) (hv : ([j].all fun i => (ρ.getD i .no).isNo) = true := by rfl) (hj : (ρ[j]?).isSome = true := by rfl) :
    EvN K (tLc wi (gName j) tt te [j]) ρ ((xs.filter p).map f) := en_lcF (fun x => ρ.set j (.im (emb x))) hw hv hl (fun _ _ => eg_name hj) ht he
/-- [e for x, y in ..] -/
theorem en_lc2 {wi : TI} {i j : Nat} {α : Type} {xs : List α} {e1 e2 : α → PyData} (f : α → PyData) (hw : EvW K wi ρ (xs.map fun x => .tuple [e1 x, e2 x])) (he : ∀ x ∈ xs, Ev K te ((ρ.set i (.im (e1 x))).set j (.im (e2 x))) (f x)) (hl : xs.length ≤ 100000) (hv : ([i, j].all fun i => (ρ.getD i .no).isNo) = true := by rfl) (hij : i ≠ j := by decide) (hi : (ρ[i]?).isSome = true := by rfl) (hj : (ρ[j]?).isSome = true := by rfl) :
    EvN K (tLc wi (gTup K 2 (gCons (gName i) (gCons (gName j) gNil))) tYes te [i, j]) ρ (xs.map f) := en_lcG (fun x => (ρ.set i (.im (e1 x))).set j (.im (e2 x))) hw hv hl (fun _ _ => eg_pair hij hi hj) he
/-- [e for x in ..] -/
theorem ev_lc {wi : TI} {j : Nat} {α : Type} {xs : List α} {emb : α → PyData} (f : α → PyData) (hw : EvW K wi ρ (xs.map emb)) (he : ∀ x ∈ xs, Ev K te (ρ.set j (.im (emb x))) (f x)) (hl : xs.length ≤ 100000) (hv : ([j].all fun i => (ρ.getD i .no).isNo) = true := by rfl) (hj : (ρ[j]?).isSome = true := by rfl) :
    Ev K (tLc wi (gName j) tYes te [j]) ρ (.list (xs.map f)) := (en_lc f hw he hl hv hj).ev
/-- [e for x in .. if t] -/
theorem ev_lcI {wi : TI} {j : Nat} {tt : TT} {α : Type} {xs : List α} {emb : α → PyData} (p : α → Bool) (f : α → PyData) (hw : EvW K wi ρ (xs.map emb)) (ht : ∀ x ∈ xs, EvT K tt (ρ.set j (.im (emb x))) (p x)) (he : ∀ x ∈ xs, p x = true → Ev K te (ρ.set j (.im (emb x))) (f x)) (hl : xs.length ≤ 100000) (hv : ([j].all fun i => (ρ.getD i .no).isNo) = true := by rfl) (hj : (ρ[j]?).isSome = true := by rfl) :
    Ev K (tLc wi (gName j) tt te [j]) ρ (.list ((xs.filter p).map f)) := (en_lcI p f hw ht he hl hv hj).ev
/-- [e for x, y in ..] -/
theorem ev_lc2 {wi : TI} {i j : Nat} {α : Type} {xs : List α} {e1 e2 : α → PyData} (f : α → PyData) (hw : EvW K wi ρ (xs.map fun x => .tuple [e1 x, e2 x])) (he : ∀ x ∈ xs, Ev K te ((ρ.set i (.im (e1 x))).set j (.im (e2 x))) (f x)) (hl : xs.length ≤ 100000) (hv : ([i, j].all fun i => (ρ.getD i .no).isNo) = true := by rfl) (hij : i ≠ j := by decide) (hi : (ρ[i]?).isSome = true := by rfl) (hj : (ρ[j]?).isSome = true := by rfl) :
    Ev K (tLc wi (gTup K 2 (gCons (gName i) (gCons (gName j) gNil))) tYes te [i, j]) ρ (.list (xs.map f)) := (en_lc2 f hw he hl hv hij hi hj).ev
end
end Jn
set_option maxHeartbeats 4000000
/-! further things that are walked: enumerate of a tuple; zip of a tuple and a list -/
namespace PySem
theorem jn_enumT (l : Addr) (items : Array Value) (n : Nat) (dct : Option Addr) (sl : Array (Option Value)) :
    Meets (Builtin.«enumerate.__new__» ⟨[.type "enumerate", .ref l], []⟩) (fun _ R s =>
      s.heap.get? l = some { cls := .type "tuple", dict := dct, data := .seq items n, slots := sl } ∧
      R (.ok (.ret (.ref (s.heap.push { cls := .type "tuple_iterator", data := .fields #[.ref l, .int 0 0] }).objs.size)))
        { s with heap := (s.heap.push { cls := .type "tuple_iterator", data := .fields #[.ref l, .int 0 0] }).push { cls := .type "enumerate", data := .fields #[.none, .bool false, .ref s.heap.objs.size, rawInt 0, .none, .none] } }) :=
  .of_wp fun prog w A R s h => by
    obtain ⟨hp, g, d, tk, os⟩ := s
    obtain ⟨hl, h⟩ := h
    have hsub := sub_enumerate
    have hL : Heap.IsTuple (Shared.heap ⟨hp, g, d, tk, os⟩) l items := ⟨_, hl, rfl, n, rfl⟩
    wp_walk using AutoSeq1.wpAny_loadPart' hl
    refine wpAny_stack_any fun st => wpAny_pure ?_
    split
    · rename_i c _ _ _ _ _
      cases (c == Value.type "enumerate")
      · wp_walk using AutoSeq1.wpAny_loadPart' hl, wpAny_pyIter_tuple hL
        exact ⟨_, rfl, h⟩
      · wp_walk using AutoSeq1.wpAny_loadPart' hl, wpAny_pyIter_tuple hL
        exact ⟨_, rfl, h⟩
    · wp_walk using AutoSeq1.wpAny_loadPart' hl, wpAny_pyIter_tuple hL
      exact ⟨_, rfl, h⟩
theorem jn_call_enumT {prog : Program} {w : World} {A : Around} {E : Value → Shared → Prop} {s : Shared} {l : Addr} {items : Array Value} {Q : Value → Shared → Prop} (hL : s.heap.IsTuple l items)
    (h : ∀ h', IsEnum h' (s.heap.objs.size + 1) s.heap.objs.size 0 .none → h'.IsTupleIter s.heap.objs.size l 0 → h'.objs.size = s.heap.objs.size + 2 →
      (∀ b o, s.heap.get? b = some o → h'.get? b = some o) → Q (.ref (s.heap.objs.size + 1)) { s with heap := h' }) : wpAny (model prog w) A (call (.type "enumerate") [.ref l]) Q E s := by
  obtain ⟨⟨c, dct, dt, sl⟩, hl, hc, n, hd⟩ := hL
  have hc' : c = .type "tuple" := hc
  have hd' : dt = .seq items n := hd
  subst hc' hd'
  refine callType_new F.called_enumerate (by decide) (F.typeCall_enumerate_1 _) (F.newCall_enumerate_1 _)
    (fun obj => F.args_object_init_2 obj _) F.entry_enumerate_new (jn_enumT l items n dct sl) ⟨hl, ?_⟩
  have hz : (s.heap.push { cls := .type "tuple_iterator", data := .fields #[.ref l, .int 0 0] }).objs.size = s.heap.objs.size + 1 := Heap.size_push ..
  show _ ∧ _
  rw [hz]
  have he : IsEnum ((s.heap.push { cls := .type "tuple_iterator", data := .fields #[.ref l, .int 0 0] }).push
      { cls := .type "enumerate", data := .fields #[.none, .bool false, .ref s.heap.objs.size, rawInt 0, .none, .none] }) (s.heap.objs.size + 1) s.heap.objs.size 0 .none := by
    have z := Heap.get?_push_size (s.heap.push { cls := .type "tuple_iterator", data := .fields #[.ref l, .int 0 0] })
      (o := { cls := .type "enumerate", data := .fields #[.none, .bool false, .ref s.heap.objs.size, rawInt 0, .none, .none] }) rfl
    rw [hz] at z
    exact z
  refine ⟨⟨_, he, rfl⟩, h _ he ⟨_, Heap.get?_push_of_some _ (Heap.get?_push_size _ rfl), rfl, rfl⟩ (by rw [Heap.size_push, hz]) ?_⟩
  exact fun b o x => Heap.get?_push_of_some _ (Heap.get?_push_of_some _ x)
end PySem
namespace Jn
open PySem
open PySem.Spec PyProof.Rows
open L2
/-- enumerate of the tuple at a -/
def IteT (K : PySem.W.Frag) (a : Addr) : It where
  go := fun i H => ∃ (xs : List V) (x : V), SqT K H a xs ∧ xs[i]? = some x
  yld := fun i H v H' => ∃ T x, v = .ref T ∧ H T = none ∧ H' = upd H T (.tup [.int (i : Nat), x]) ∧ ∀ xs, SqT K H a xs → xs[i]? = some x
  stop := fun i H => ∃ xs : List V, SqT K H a xs ∧ i = xs.length
theorem turn_enumT {P : Program} {w : World} {K : PySem.W.Frag} {elts : List Expr} {kk : Nat} {tpos : Pos} (a e it : Addr) (hat : a ≠ it) (hae : e ≠ a) :
    Turn P w K (.Tuple elts kk tpos) (IteT K a) [e, it] e (fun i h => (∃ old, IsEnum h e it ((i : Nat) : Int) old) ∧ h.IsTupleIter it a i ∧ e ≠ it) where
  mem := by simp
  obj := fun i h st b hb => by
    obtain ⟨⟨old, he⟩, ⟨o, ho, hc, hd⟩, _⟩ := st
    rcases (show b = e ∨ b = it by simpa using hb) with z | z
    · rw [z]
      exact ⟨_, he, fun v q => nomatch q⟩
    · rw [z]
      exact ⟨o, ho, fun v q => by rw [hd] at q; cases q⟩
  keep := fun i h h' st k => by
    obtain ⟨⟨old, he⟩, hi, hne⟩ := st
    exact ⟨⟨old, k e (by simp) _ he⟩, hi.at fun o q => k it (by simp) o q, hne⟩
  item := by
    intro X hP hw hK hc i pins s σ H E I hf st hg
    subst hP hw hK
    obtain ⟨⟨old, he⟩, hit, hne⟩ := st
    obtain ⟨xs, x, hq, hx⟩ := hg
    obtain ⟨its, rv, p, hz⟩ := I.tuple hq
    obtain ⟨u, hu, ru⟩ := rv.get hx
    have hel : e < s.heap.objs.size := Heap.lt_size he
    have hil : it < s.heap.objs.size := by
      obtain ⟨_, q, _⟩ := hit
      exact Heap.lt_size q
    have hlt : i < its.toArray.size := by
      have := (List.getElem?_eq_some_iff.mp hu).1
      simpa using this
    have hnf : e ∉ [it, a] := by simp [hne, hae]
    refine wpAny_pyNext_enum_itemD (Draws.tuple (A := X.A.in1) (I.ok.hd hc) it a hat its.toArray) he ⟨hit, p⟩ hlt hne hnf fun v h' tk hv ho hst' hT hsz hk => ?_
    have ev : v = u := by
      have z : its.toArray[i]? = some u := by simpa using hu
      rw [z] at hv
      exact (Option.some.inj hv).symm
    subst ev
    refine ⟨_, rfl, wpAny_letOwnedTupleGo_enum (s := { s with heap := h', toks := tk + 1 }) ho fun h'' he' sb => ?_⟩
    have hT2 := (sb.2 _ (Nat.ne_of_gt hel)).trans hT
    have new : ObjOk X.prog X.w (upd H s.heap.objs.size (.tup [.int (i : Nat), x])) h'' s.heap.objs.size (.tup [.int (i : Nat), x]) :=
      ⟨by show 2 ≤ sizeLine; decide, [.int i tk, v], .cons ⟨_, rfl⟩ (.cons ru .nil), ⟨_, hT2, rfl, _, rfl⟩⟩
    have I1 : Inv X pins σ (upd H s.heap.objs.size (.tup [.int (i : Nat), x])) { s with heap := h'', toks := tk + 1 } :=
      I.turnedNew (ch := [e, it]) (fun b ob hb q => (sb.2 b (fun z => hb (by simp [z]))).trans (hk b ob (fun z => hb (by simp [z])) (fun z => hb (by simp [z])) q)) hf (Nat.le_refl _) new
    refine ⟨.ref s.heap.objs.size, _, I1, rfl, ⟨_, x, rfl, I.hok.fresh (Nat.le_refl _), rfl, fun ys hy => ?_⟩, ⟨⟨v, ?_⟩, ?_, hne⟩, fun b hb => ?_⟩
    · rw [I.tuple_inj hy hq]
      exact hx
    · rw [show ((i + 1 : Nat) : Int) = (i : Int) + 1 by omega]
      exact he'
    · exact hst'.1.at fun o q => (sb.2 it (Ne.symm hne)).trans q
    · have hb' : b < s.heap.objs.size := by
        rcases (show b = e ∨ b = it by simpa using hb) with z | z
        · rw [z]; exact hel
        · rw [z]; exact hil
      rw [upd_ne (Nat.ne_of_lt hb')]
      exact (hf b hb).1
  done := by
    intro X hP hw hK hc i pins s σ H E I hf st hg
    subst hP hw hK
    obtain ⟨⟨old, he⟩, hit, hne⟩ := st
    obtain ⟨xs, hq, hx⟩ := hg
    obtain ⟨its, rv, p, hz⟩ := I.tuple hq
    obtain ⟨f0, f1, f2, f3, f4, f5⟩ := hf it (by simp)
    have hl := rv.length
    have ei : i = its.toArray.size := by rw [List.size_toArray]; omega
    have st' : s.heap.IsTupleIter it a its.toArray.size ∧ s.heap.IsTuple a its.toArray := ⟨ei ▸ hit, p⟩
    exact wpAny_pyNext_enum_endD (Draws.tuple (A := X.A.in1) (I.ok.hd hc) it a hat its.toArray) he st' fun h' eb => ⟨rfl, I.turned (t' := s.toks) (fun b o hb q => eb b o hb q) f0 f1 f3 f4 f5⟩
  self := fun A i s Q E st h => by
    obtain ⟨⟨_, he⟩, _⟩ := st
    exact wpAny_pyIter_enum he h
def iEnumT (K : PySem.W.Frag) (ta : TA) : TI := fun σ H R => ta σ H fun vs H1 => ∃ a xs, vs = [.ref a] ∧ SqT K H1 a xs ∧ R (IteT K a) H1
theorem pi_enumT {X : Cx} {e : Expr} {ta : TA} {p pos tpos : Pos} {elts : List Expr} {kk : Nat} (hg : Gl X "enumerate") (hm : X.mg "enumerate" = none) (ha : PA X [e] ta)
    (hs : starEach [e] X.env = [(false, eval e X.env)] := by rfl) : PI X (.Tuple elts kk tpos) (.Call (.Name "enumerate" p) [e] [] pos) (iEnumT X.K ta) := by
  refine ⟨fun pins s σ H R I h => ?_⟩
  refine Call_ (ld_blt I hg hm boot_enumerate (callWith_type1 (thn (ha.run pos pins s σ H _ I h) fun us s1 ⟨vs, H1, I1, r1, q1⟩ => ?_) hs rfl))
  obtain ⟨a, xs, ex, hq, q⟩ := q1
  subst ex
  cases r1 with
  | cons r rr =>
    cases rr
    cases r
    obtain ⟨its, rv, p', hz⟩ := I1.tuple hq
    have hal : a < s1.heap.objs.size := p'.lt
    refine jn_call_enumT p' fun h' he hit hsz hk => wpAny_pyIter_enum he ?_
    have I2 : Inv X pins σ H1 { s1 with heap := h' } := I1.kept (t' := s1.toks) hk
    refine ⟨s1.heap.objs.size + 1, [s1.heap.objs.size + 1, s1.heap.objs.size], _, _, H1, rfl, I2, turn_enumT a (s1.heap.objs.size + 1) s1.heap.objs.size (Nat.ne_of_lt hal) (Nat.ne_of_gt (Nat.lt_succ_of_lt hal)), ⟨⟨.none, he⟩, hit, Nat.succ_ne_self _⟩, fun b hb => ?_, q⟩
    have hle : s1.heap.objs.size ≤ b := by
      rcases (show b = s1.heap.objs.size + 1 ∨ b = s1.heap.objs.size by simpa using hb) with z | z
      · rw [z]; exact Nat.le_add_right _ _
      · rw [z]; exact Nat.le_refl _
    exact I1.fpOk hle (I1.hok.fresh hle)
/-- zip of the tuple at a and the list at b -/
def ItzM (K : PySem.W.Frag) (a b : Addr) : It where
  go := fun i H => ∃ (xs ys : List V) (x y : V), SqT K H a xs ∧ SqL K H b ys ∧ xs[i]? = some x ∧ ys[i]? = some y
  yld := fun i H v H' => ∃ T x y, v = .ref T ∧ H T = none ∧ H' = upd H T (.tup [x, y]) ∧ (∀ xs, SqT K H a xs → xs[i]? = some x) ∧ ∀ ys, SqL K H b ys → ys[i]? = some y
  stop := fun i H => ∃ xs ys : List V, SqT K H a xs ∧ SqL K H b ys ∧ i = min xs.length ys.length
theorem turn_zipM {P : Program} {w : World} {K : PySem.W.Frag} {elts : List Expr} {kk : Nat} {tpos : Pos} {a b z TI TO i1 i2 : Addr} (S : ZipSep2 z TI TO i1 i2 [i1, a] [i2, b]) (ha : a ≠ i1) (hb : b ≠ i2) :
    Turn P w K (.Tuple elts kk tpos) (ItzM K a b) [z, TI, TO, i1, i2] z
      (fun i h => IsZip h z TI TO .none ∧ IsTupOf2 h TI (.ref i1) (.ref i2) ∧ (∃ x y, IsTupOf2 h TO x y) ∧ h.IsTupleIter i1 a i ∧ h.IsListIter i2 b i) where
  mem := by simp
  obj := fun i h st c hc => by
    obtain ⟨hz, hTI, ⟨x, y, hTO⟩, ⟨o1, e1, _, d1⟩, ⟨o2, e2, _, d2⟩⟩ := st
    rcases (show c = z ∨ c = TI ∨ c = TO ∨ c = i1 ∨ c = i2 by simpa using hc) with q | q | q | q | q
    · rw [q]; exact ⟨_, hz, fun v q => nomatch q⟩
    · rw [q]; exact ⟨_, hTI, fun v q => nomatch q⟩
    · rw [q]; exact ⟨_, hTO, fun v q => nomatch q⟩
    · rw [q]; exact ⟨o1, e1, fun v q => by rw [d1] at q; cases q⟩
    · rw [q]; exact ⟨o2, e2, fun v q => by rw [d2] at q; cases q⟩
  keep := fun i h h' st k => by
    obtain ⟨hz, hTI, ⟨x, y, hTO⟩, h1, h2⟩ := st
    refine ⟨k z (by simp) _ hz, k TI (by simp) _ hTI, ⟨x, y, k TO (by simp) _ hTO⟩, ?_, ?_⟩
    · exact h1.at fun o q => k i1 (by simp) o q
    · exact h2.at fun o q => k i2 (by simp) o q
  item := by
    intro X hP hw hK hc i pins s σ H E I hf st hg
    subst hP hw hK
    obtain ⟨hz, hTI, ⟨x0, y0, hTO⟩, h1, h2⟩ := st
    obtain ⟨xs, ys, x, y, hqx, hqy, hx, hy⟩ := hg
    obtain ⟨its, rv, p, _⟩ := I.tuple hqx
    obtain ⟨its2, rv2, p2, _⟩ := I.list hqy
    obtain ⟨u, hu, ru⟩ := rv.get hx
    obtain ⟨u2, hu2, ru2⟩ := rv2.get hy
    have hzl : z < s.heap.objs.size := Heap.lt_size hz
    have hlt1 : i < its.toArray.size := by simpa using (List.getElem?_eq_some_iff.mp hu).1
    have hlt2 : i < its2.toArray.size := by simpa using (List.getElem?_eq_some_iff.mp hu2).1
    have hh : X.A.in1.handled = none := I.ok.hd hc
    refine wpAny_pyNext_zipD2_item S (Draws.tuple hh i1 a ha its.toArray) (Draws.list hh i2 b hb its2.toArray) hz hTI hTO ⟨h1, p⟩ ⟨h2, p2.isList⟩ hlt1 hlt2 fun v v2 h' tk e1 e2 z' TO' s1' s2' hT hsz hk => ?_
    have ev : v = u := by
      have q : its.toArray[i]? = some u := by simpa using hu
      rw [q] at e1
      exact (Option.some.inj e1).symm
    have ev2 : v2 = u2 := by
      have q : its2.toArray[i]? = some u2 := by simpa using hu2
      rw [q] at e2
      exact (Option.some.inj e2).symm
    subst ev ev2
    refine ⟨_, rfl, wpAny_letOwnedTupleGo_zip (s := { s with heap := h', toks := tk }) z' fun h'' z'' sb => ?_⟩
    have hT2 : h''.get? s.heap.objs.size = some { cls := .type "tuple", data := .seq #[v, v2] } := (sb.2 _ (Nat.ne_of_gt hzl)).trans hT
    have new : ObjOk X.prog X.w (upd H s.heap.objs.size (.tup [x, y])) h'' s.heap.objs.size (.tup [x, y]) :=
      ⟨by show 2 ≤ sizeLine; decide, [v, v2], .cons ru (.cons ru2 .nil), ⟨_, hT2, rfl, _, rfl⟩⟩
    have I1 : Inv X pins σ (upd H s.heap.objs.size (.tup [x, y])) { s with heap := h'', toks := tk } :=
      I.turnedNew (ch := [z, TI, TO, i1, i2]) (fun c o hb q => (sb.2 c (fun q' => hb (by simp [q']))).trans
        (hk c o (fun q' => hb (by simp [q'])) (fun q' => hb (by simp [q'])) (fun q' => hb (by simp [q'])) (fun q' => hb (by simp [q'])) q)) hf (Nat.le_refl _) new
    have TIz := S.TIz
    refine ⟨.ref s.heap.objs.size, _, I1, rfl, ⟨_, x, y, rfl, I.hok.fresh (Nat.le_refl _), rfl, fun l hl => ?_, fun l hl => ?_⟩, ⟨z'', ?_, ⟨v, v2, ?_⟩, ?_, ?_⟩, fun c hcm => ?_⟩
    · rw [I.tuple_inj hl hqx]; exact hx
    · rw [I.list_inj hl hqy]; exact hy
    · exact (sb.2 _ S.TIz).trans (hk _ _ S.TIz S.TITO S.TIi1 S.TIi2 hTI)
    · exact (sb.2 _ S.TOz).trans TO'
    · exact s1'.1.at fun o q => (sb.2 _ (fun q' => S.zf1 (by simp [q']))).trans q
    · exact s2'.1.at fun o q => (sb.2 _ (fun q' => S.zf2 (by simp [q']))).trans q
    · have hlt : c < s.heap.objs.size := by
        rcases (show c = z ∨ c = TI ∨ c = TO ∨ c = i1 ∨ c = i2 by simpa using hcm) with q | q | q | q | q
        · rw [q]; exact hzl
        · rw [q]; exact Heap.lt_size hTI
        · rw [q]; exact Heap.lt_size hTO
        · rw [q]; obtain ⟨_, e1, _⟩ := h1; exact Heap.lt_size e1
        · rw [q]; obtain ⟨_, e2, _⟩ := h2; exact Heap.lt_size e2
      rw [upd_ne (Nat.ne_of_lt hlt)]
      exact (hf c hcm).1
  done := by
    intro X hP hw hK hc i pins s σ H E I hf st hg
    subst hP hw hK
    obtain ⟨hz, hTI, ⟨x0, y0, hTO⟩, h1, h2⟩ := st
    obtain ⟨xs, ys, hqx, hqy, hend⟩ := hg
    obtain ⟨its, rv, p, _⟩ := I.tuple hqx
    obtain ⟨its2, rv2, p2, _⟩ := I.list hqy
    have l1 := rv.length
    have l2 := rv2.length
    have hh : X.A.in1.handled = none := I.ok.hd hc
    refine wpAny_pyNext_zipD2_end (i := i) S (Draws.tuple hh i1 a ha its.toArray) (Draws.list hh i2 b hb its2.toArray) hz hTI hTO ⟨h1, p⟩ ⟨h2, p2.isList⟩ ?_ ?_ ?_ fun h' tk hk => ?_
    · rw [List.size_toArray]; omega
    · rw [List.size_toArray]; omega
    · rw [List.size_toArray, List.size_toArray]; omega
    · exact ⟨rfl, I.turnedL (t' := tk) (ch := [z, TI, TO, i1, i2]) (fun c o hb q =>
        hk c o (fun q' => hb (by simp [q'])) (fun q' => hb (by simp [q'])) (fun q' => hb (by simp [q'])) (fun q' => hb (by simp [q'])) q) hf⟩
  self := fun A i s Q E st h => wpAny_pyIter_zip st.1 h
theorem nmem2 {x y z : Nat} (h1 : x ≠ y) (h2 : x ≠ z) : x ∉ [y, z] := by simp [h1, h2]
theorem sep_of {n a b : Nat} (ha : a < n) (hb : b < n) : ZipSep2 (n + 4) (n + 2) (n + 3) n (n + 1) [n, a] [n + 1, b] where
  TIz := (show (n + 2 : Nat) ≠ n + 4 by omega)
  TOz := (show (n + 3 : Nat) ≠ n + 4 by omega)
  TITO := (show (n + 2 : Nat) ≠ n + 3 by omega)
  TIi1 := (show (n + 2 : Nat) ≠ n by omega)
  mem1 := by simp
  zf1 := nmem2 (by omega) (by omega)
  Tf1 := nmem2 (by omega) (by omega)
  TIi2 := (show (n + 2 : Nat) ≠ n + 1 by omega)
  mem2 := by simp
  zf2 := nmem2 (by omega) (by omega)
  Tf2 := nmem2 (by omega) (by omega)
  sep1_2 := nmem2 (by omega) (by omega)
  sep2_1 := nmem2 (by omega) (by omega)
def iZipM (K : PySem.W.Frag) (ta : TA) : TI := fun σ H R => ta σ H fun vs H1 => ∃ a b xs ys, vs = [.ref a, .ref b] ∧ SqT K H1 a xs ∧ SqL K H1 b ys ∧ R (ItzM K a b) H1
theorem pi_zipM {X : Cx} {e e2 : Expr} {ta : TA} {p pos tpos : Pos} {elts : List Expr} {kk : Nat} (hg : Gl X "zip") (hm : X.mg "zip" = none) (ha : PA X [e, e2] ta)
    (hs : starEach [e, e2] X.env = (false, eval e X.env) :: starEach [e2] X.env := by rfl) (hpl : (backTo pos (starEach [e2] X.env)).any (·.1) = false := by rfl) :
    PI X (.Tuple elts kk tpos) (.Call (.Name "zip" p) [e, e2] [] pos) (iZipM X.K ta) := by
  refine ⟨fun pins s σ H R I h => ?_⟩
  refine Call_ (ld_blt I hg hm boot_zip (callWith_type1 (thn (ha.run pos pins s σ H _ I h) fun us s1 ⟨vs, H1, I1, r1, q1⟩ => ?_) hs hpl))
  obtain ⟨a, b, xs, ys, ex, hqx, hqy, q⟩ := q1
  subst ex
  cases r1 with
  | cons r rr =>
    cases rr with
    | cons r' rr =>
      cases rr
      cases r
      cases r'
      obtain ⟨its, rv, p1, _⟩ := I1.tuple hqx
      obtain ⟨its2, rv2, p2, _⟩ := I1.list hqy
      have la : a < s1.heap.objs.size := p1.lt
      have lb : b < s1.heap.objs.size := p2.lt
      refine zip_begins2 (begins_tuple a its.toArray) (begins_list b its2.toArray) p1 p2.isList fun h' hz hTI hTO g1 g2 hsz hk => wpAny_pyIter_zip hz ?_
      have I2 : Inv X pins σ H1 { s1 with heap := h' } := I1.kept (t' := s1.toks) hk
      have S : ZipSep2 (s1.heap.objs.size + 4) (s1.heap.objs.size + 2) (s1.heap.objs.size + 3) s1.heap.objs.size (s1.heap.objs.size + 1) [s1.heap.objs.size, a] [s1.heap.objs.size + 1, b] := sep_of la lb
      refine ⟨s1.heap.objs.size + 4, [s1.heap.objs.size + 4, s1.heap.objs.size + 2, s1.heap.objs.size + 3, s1.heap.objs.size, s1.heap.objs.size + 1], _, _, H1, rfl, I2,
        turn_zipM S (Nat.ne_of_lt la) (Nat.ne_of_lt (Nat.lt_succ_of_lt lb)), ⟨hz, hTI, ⟨_, _, hTO⟩, ⟨_, g1, rfl, rfl⟩, ⟨_, g2, rfl, rfl⟩⟩, fun c hcm => ?_, q⟩
      have hle : s1.heap.objs.size ≤ c := by
        rcases (show c = s1.heap.objs.size + 4 ∨ c = s1.heap.objs.size + 2 ∨ c = s1.heap.objs.size + 3 ∨ c = s1.heap.objs.size ∨ c = s1.heap.objs.size + 1 by simpa using hcm) with z | z | z | z | z
        · rw [z]; exact Nat.le_add_right _ _
        · rw [z]; exact Nat.le_add_right _ _
        · rw [z]; exact Nat.le_add_right _ _
        · rw [z]; exact Nat.le_refl _
        · rw [z]; exact Nat.le_add_right _ _
      exact I1.fpOk hle (I1.hok.fresh hle)
section
variable {K : PySem.W.Frag} {ρ : Rho} {te tl tm : TE} {ds es : List PyData} {G : Hp} {a b : Addr} {vs ws : List V}
def numbered (xs : List PyData) : List PyData := (xs.zipIdx).map fun p => .tuple [.int (p.2 : Nat), p.1]
theorem wd_enumT (hs : SqT K G a vs) (r : DqAll K G vs ds) : WalkD K (IteT K a) G (numbered ds) := by
  have hl := r.length
  have pl : (numbered ds).length = ds.length := by simp [numbered]
  refine ⟨fun i H hi e => ?_, fun H e => ⟨vs, ex_t e hs, by omega⟩, fun i H G1 x H' hi e1 e2 y => ?_⟩
  · obtain ⟨v, hv, _⟩ := r.ix (i := i) (by omega)
    exact ⟨vs, v, ex_t e hs, hv⟩
  · obtain ⟨T, x1, rfl, hT, rfl, f1⟩ := y
    obtain ⟨v, hv, dv⟩ := r.ix (i := i) (by omega)
    have z1 := f1 vs (ex_t (e1.trans e2) hs)
    rw [hv] at z1
    cases z1
    have e : (numbered ds)[i] = .tuple [.int (i : Nat), ds[i]'(by omega)] := by simp [numbered]
    rw [e]
    exact gx_pair e2 hT (.int _) (dv.mono e1)
theorem ew_enumT (h : Ev K te ρ (.tuple ds)) : EvW K (iEnumT K (tCons te tNil)) ρ (numbered ds) := fun σ G H R e s q => h σ G H _ e s fun v G1 H1 g1 d1 => by
  cases d1 with
  | @tup p vs _ hs ha => exact ⟨p, vs, rfl, ex_t g1.i hs, q _ G1 H1 g1 (wd_enumT hs ha)⟩
theorem wd_zipM (hs : SqT K G a vs) (r : DqAll K G vs ds) (hs2 : SqL K G b ws) (r2 : DqAll K G ws es) : WalkD K (ItzM K a b) G (pairs ds es) := by
  have hl := r.length
  have hl2 := r2.length
  have pl := pairs_len (ds := ds) (es := es)
  refine ⟨fun i H hi e => ?_, fun H e => ⟨vs, ws, ex_t e hs, ex_l e hs2, by omega⟩, fun i H G1 x H' hi e1 e2 y => ?_⟩
  · obtain ⟨v, hv, _⟩ := r.ix (i := i) (by omega)
    obtain ⟨w, hw, _⟩ := r2.ix (i := i) (by omega)
    exact ⟨vs, ws, v, w, ex_t e hs, ex_l e hs2, hv, hw⟩
  · obtain ⟨T, x1, y1, rfl, hT, rfl, f1, f2⟩ := y
    obtain ⟨v, hv, dv⟩ := r.ix (i := i) (by omega)
    obtain ⟨w, hw, dw⟩ := r2.ix (i := i) (by omega)
    have z1 := f1 vs (ex_t (e1.trans e2) hs)
    have z2 := f2 ws (ex_l (e1.trans e2) hs2)
    rw [hv] at z1
    rw [hw] at z2
    cases z1
    cases z2
    have e : (pairs ds es)[i] = .tuple [ds[i]'(by omega), es[i]'(by omega)] := by simp [pairs]
    rw [e]
    exact gx_pair e2 hT (dv.mono e1) (dw.mono e1)
theorem ew_zipM (h1 : Ev K tl ρ (.tuple ds)) (h2 : Ev K tm ρ (.list es)) : EvW K (iZipM K (tCons tl (tCons tm tNil))) ρ (pairs ds es) := fun σ G H R e s q =>
  h1 σ G H _ e s fun v G1 H1 g1 d1 => h2 σ G1 H1 _ g1.i (s.go g1) fun w G2 H2 g2 d2 => by
    have d1' := d1.mono g2.g
    cases d1' with
    | @tup p vs _ hs ha =>
      cases d2 with
      | @lst p2 ws _ hs2 ha2 => exact ⟨p, p2, vs, ws, rfl, ex_t g2.i hs, ex_l g2.i hs2, q _ G2 H2 (g1.trans g2) (wd_zipM hs ha hs2 ha2)⟩
end
end Jn
set_option maxHeartbeats 4000000
/-! sorted of a tuple of ints, a tuple turned about, repr of data, a set of a list of ints -/
namespace PyProof.Rows
open PySem
section
variable {prog : Program} {w : World} {A : Around} {E : Value → Shared → Prop} {s : Shared}
/-- the heap with the list of these items behind it -/
abbrev jnH (h : Heap) (vs : List Value) : Heap := (h.push (seqObj "list" #[] 0)).update h.objs.size (Obj.mapSeq (· ++ vs.toArray))
theorem jn_collectT {l : Addr} {vs : List Value} {Q : List Value → Shared → Prop} (hl : s.heap.IsTuple l vs.toArray) (h : Q vs { s with heap := jnH s.heap vs }) (hsz : vs.length ≤ sizeLine) :
    wpAny (model prog w) A (collect (.ref l)) Q E s := by
  obtain ⟨o, ho, hc, n, hd⟩ := id hl
  unfold collect
  refine wpAny_bind (wpAny_runValue (codeAny_builtin entry_proto_collect' ?_))
  show wpAny _ _ (do again (.builtin "list.__iadd__" ⟨[← newList [], .ref l], []⟩)) _ _ s
  refine wpAny_bind (wpAny_newList ?_)
  refine wpAny_pure ⟨Code.quiet_builtin _ (by decide +kernel), codeAny_builtin entry_list_iadd' ?_⟩
  show wpAny _ _ (Builtin.List.listExtendWith (.ref s.heap.objs.size) (.ref l) (.ref s.heap.objs.size)) _ _ { s with heap := s.heap.push (seqObj "list" #[] 0) }
  unfold Builtin.List.listExtendWith
  have g : (s.heap.push (seqObj "list" #[] 0)).get? l = some o := Heap.get?_push_of_some _ ho
  have g0 : (s.heap.push (seqObj "list" #[] 0)).get? s.heap.objs.size = some (seqObj "list" #[] 0) := Heap.get?_push_size _ rfl
  refine wpAny_bind (wpAny_typeOf (T := "tuple") ⟨o, g, hc⟩ ?_)
  have ht : (Value.type "tuple" == Value.type "tuple") = true := by rfl
  rw [if_pos (by rw [ht, Bool.or_true])]
  refine wpAny_bind (listItems_at g hd ?_)
  refine wpAny_bind (listItems_at (xs := #[]) (n := 0) g0 rfl ?_)
  rw [if_neg (by simp)]
  have sz : ((#[] : Array Value) ++ vs.toArray).size ≤ sizeLine + 1 := by
    simp only [Array.size_append, List.size_toArray, List.length_nil]
    omega
  refine wpAny_bind (listUpdate_at (xs := #[]) (n := 0) g0 rfl ?_ (Nat.zero_le _) sz)
  refine wpAny_pure ?_
  show wpAny (model prog w) A (load s.heap.objs.size >>= _) Q E { s with heap := jnH s.heap vs }
  refine wpAny_bind (wpAny_load (get?_update_seq g0 _) ?_)
  show wpAny _ _ (pure ((#[] : Array Value) ++ vs.toArray).toList) Q E _
  rw [show ((#[] : Array Value) ++ vs.toArray).toList = vs by simp]
  exact wpAny_pure h
theorem jn_sortedT {l : Addr} {vs : List Value} {ns : List Int} {Q : Value → Shared → Prop} (hl : s.heap.IsTuple l vs.toArray) (hI : IntsAre vs ns) (h64 : vs.length < 64)
    (h : ∀ (out : Array Value) (ns' : List Int), IntsAre out.toList ns' → ns'.Perm ns → ns'.Pairwise (· ≤ ·) → Q (.ref (s.heap.objs.size + 1)) { s with heap := sortedAll s.heap vs out }) :
    wpAny (model prog w) A (call (.builtin "sorted") [.ref l]) Q E s := by
  refine Calls.call_function_entry kind_sorted plain_sorted entry_sorted (args_sorted1 _) ?_
  unfold Builtin.«sorted»
  refine wpAny_bind (m := checkCount "sorted" 1 1 _) (wpAny_pure ?_)
  refine wpAny_bind (jn_collectT hl ?_ (by rw [sizeLine_eq]; omega))
  refine wpAny_bind (wpAny_newList ?_)
  have hsz : (jnH s.heap vs).objs.size = s.heap.objs.size + 1 := by rw [Heap.size_update, size_push']
  have hoL : ((jnH s.heap vs).push (seqObj "list" vs.toArray 0)).get? (s.heap.objs.size + 1) = some (seqObj "list" vs.toArray 0) := by
    rw [← hsz]
    exact Heap.get?_push_size _ rfl
  show wpAny _ _ _ _ _ { s with heap := (jnH s.heap vs).push (seqObj "list" vs.toArray 0) }
  rw [hsz]
  refine wpAny_bind (wpAny_holding (wpAny_call_entry slot_list_sort ⟨_, hoL, rfl⟩ entry_list_sort
    (list_sort_tree hoL hI h64 fun out ns' a1 a2 a3 => ⟨_, rfl, wpAny_pure ⟨_, rfl, h out ns' a1 a2 a3⟩⟩) (args_list_sort _)))
end
end PyProof.Rows
namespace Jn
open PySem
open PySem.Spec PyProof.Rows
open L2
section
variable {X : Cx}
def rSortT (K : PySem.W.Frag) : List V → Hp → VK → Prop := fun vs H Q => ∃ (a : Addr) (ns : List Int), vs = [V.ref a] ∧ SqT K H a (ns.map V.int) ∧ ns.length < 64 ∧
  ∀ (ns' : List Int) (p : Addr), ns'.Perm ns → ns'.Pairwise (· ≤ ·) → H p = none → Q (.ref p) (upd H p (.lst (ns'.map V.int)))
theorem cr_sortT : CallR X (.builtin "sorted") (rSortT X.K) := by
  intro pins s σ H vs us Q I r h
  obtain ⟨a, ns, rfl, hs, h64, q⟩ := h
  obtain ⟨its, rv, hl, _⟩ := I.tuple hs
  rw [Vals.ref1 r]
  have hi := rv.ints
  refine jn_sortedT hl hi (by rw [hi.length]; exact h64) fun out ns' h1 h2 h3 => ?_
  obtain ⟨ep, he'⟩ := sortedAll_at s.heap its out
  have hlen : (ns'.map V.int).length ≤ sizeLine := by
    rw [List.length_map, h2.length_eq]
    exact small64 h64
  exact ⟨.ref _, upd H (s.heap.objs.size + 1) (.lst (ns'.map V.int)), I.laid (t' := s.toks) (fun _ _ => sortedAll_old) (Nat.le_succ _) ⟨hlen, out.toList, ep, vals_of_ints h1, he'⟩, rfl, q ns' _ h2 h3 (I.hok.fresh (Nat.le_succ _))⟩
/-! ### t[::-1] -/
section
variable {prog : Program} {w : World} {A : Around} {E : Value → Shared → Prop} {s : Shared}
theorem rev_applied {sl : Addr} {vs : Value} {n : Nat} {Q : Int × Int × Nat → Shared → Prop} (hs : s.heap.IsSliceOf sl .none .none vs) (ps : IsPart vs (some (-1)))
    (h : Q ((n : Int) - 1, -1, n) s) : wpAny (model prog w) A (Builtin.Slice.sliceApplied (.ref sl) (pure (n : Int))) Q E s := by
  obtain ⟨os, hos, hcs, hds⟩ := id hs
  unfold Builtin.Slice.sliceApplied Builtin.Slice.sliceFields
  refine wpAny_bind (wpAny_bind (wpAny_field hos hds (x := .none) rfl ?_))
  refine wpAny_bind (wpAny_field hos hds (x := .none) rfl ?_)
  refine wpAny_bind (wpAny_field hos hds (x := vs) rfl (wpAny_pure ?_))
  refine wpAny_bind (HT.slicePart_ ps ?_)
  show wpAny _ _ (if ((-1 : Int) == 0) = true then _ else _) _ _ s
  rw [if_neg (by decide)]
  refine wpAny_bind (HT.slicePart_ .none (wpAny_bind (HT.slicePart_ .none ?_)))
  refine wpAny_bind (wpAny_pure ?_)
  have e : Builtin.Slice.slicePlaces ((n : Int) - 1) (-1) (-1) = n := by
    unfold Builtin.Slice.slicePlaces
    rw [if_neg (by decide)]
    by_cases c : (n : Int) - 1 > -1
    · rw [if_pos c]
      have z : ((n : Int) - 1 - -1 - 1) / (- -1) = (n : Int) - 1 := by
        rw [show (- -1 : Int) = 1 by decide, Int.ediv_one]
        omega
      rw [z]
      omega
    · rw [if_neg c]
      have : n = 0 := by omega
      subst this
      rfl
  have e2 : Builtin.Slice.sliceAdjust none none (-1) (n : Int) = ((n : Int) - 1, -1) := by
    unfold Builtin.Slice.sliceAdjust
    simp
  show wpAny _ _ (match Builtin.Slice.sliceAdjust none none (-1) (n : Int) with | (lo, hi) => pure (lo, (-1 : Int), Builtin.Slice.slicePlaces lo hi (-1))) _ _ s
  rw [e2]
  show wpAny _ _ (pure ((n : Int) - 1, (-1 : Int), Builtin.Slice.slicePlaces ((n : Int) - 1) (-1) (-1))) _ _ s
  rw [e]
  exact wpAny_pure h
theorem fm_congr {α β : Type} {f g : α → Option β} : ∀ {l : List α}, (∀ x ∈ l, f x = g x) → l.filterMap f = l.filterMap g
  | [], _ => rfl
  | x :: l, h => by
    rw [List.filterMap_cons, List.filterMap_cons, h x List.mem_cons_self, fm_congr fun y hy => h y (List.mem_cons_of_mem _ hy)]
theorem rev_pick (xs : Array Value) : ((List.range xs.size).filterMap fun (k : Nat) => xs[(((xs.size : Int) - 1) + (k : Int) * (-1)).toNat]?).toArray = xs.toList.reverse.toArray := by
  congr 1
  refine List.ext_getElem? fun i => ?_
  have e : (List.range xs.size).filterMap (fun (k : Nat) => xs[(((xs.size : Int) - 1) + (k : Int) * (-1)).toNat]?) = (List.range xs.size).map fun k => xs.getD (xs.size - 1 - k) default := by
    rw [← List.filterMap_eq_map]
    refine fm_congr fun k hk => ?_
    have hk' := List.mem_range.mp hk
    have z : (((xs.size : Int) - 1) + (k : Int) * (-1)).toNat = xs.size - 1 - k := by omega
    rw [z]
    have hl : xs.size - 1 - k < xs.size := by omega
    simp [hl]
  rw [e]
  by_cases c : i < xs.size
  · have hl : xs.size - 1 - i < xs.size := by omega
    rw [List.getElem?_map, List.getElem?_range c, List.getElem?_reverse (by simpa using c)]
    simp [hl]
  · rw [List.getElem?_eq_none (by simp; omega), List.getElem?_eq_none (by simp; omega)]
theorem item_rev {t sl : Addr} {items : Array Value} {vs : Value} {Q : Value → Shared → Prop} (ht : IsTup s.heap t items) (hs : s.heap.IsSliceOf sl .none .none vs) (ps : IsPart vs (some (-1)))
    (h : Q (.ref s.heap.objs.size) { s with heap := s.heap.push { cls := .type "tuple", data := .seq items.toList.reverse.toArray } }) (hsz : items.size ≤ sizeLine) : wpAny (model prog w) A (getItem (.ref t) (.ref sl)) Q E s := by
  have htake : sizeOk (.seq items.toList.reverse.toArray) := by
    show items.toList.reverse.toArray.size ≤ sizeLine
    rw [List.size_toArray, List.length_reverse, Array.length_toList]
    exact hsz
  obtain ⟨os, hos, hcs, hds⟩ := id hs
  have hTs : s.TypeIs (.ref sl) "slice" := ⟨os, hos, hcs⟩
  unfold getItem
  try with_reducible refine wpAny_holding ?_
  first | refine wpAny_bind (wpAny_pure ?_) | skip
  refine wpAny_bind (wpAny_sequenceKey ht.typeIs (by decide) ?_)
  refine wpAny_bind (wpAny_callSpecial?_slot (name := Str.ofString "__getitem__") ht.typeIs slot_tuple_getitem
    (wpAny_call_entry slot_tuple_getitem ht.typeIs entry_tuple_getitem ?_ (args_tuple_getitem _ _)))
  show wpAny _ _ (Builtin.Tuple.tupleItemsOf (.ref t) >>= _) _ _ s
  refine wpAny_bind (tupleItemsOf_ ht ?_)
  refine wpAny_bind (wpAny_typeOf hTs ?_)
  rw [if_pos (by decide)]
  refine wpAny_bind (rev_applied hs ps ?_)
  have hno : ¬ ((((items.size : Int) - 1) == 0 && (-1 : Int) == 1 && items.size == items.size) = true) := by
    rw [show ((-1 : Int) == 1) = false by decide, Bool.and_false, Bool.false_and]
    exact Bool.false_ne_true
  show wpAny _ _ (if (((items.size : Int) - 1) == 0 && (-1 : Int) == 1 && items.size == items.size) = true then _ else _) _ _ s
  rw [if_neg hno, rev_pick]
  first
    | exact wpAny_bind (m := Builtin.Tuple.tupleExact _) (wpAny_newObj_type (wpAny_pure ⟨_, rfl, wpAny_pure h⟩) htake)
    | exact wpAny_bind (wpAny_bind (m := Builtin.Tuple.tupleExact _) (wpAny_newObj_type (wpAny_pure (wpAny_pure ⟨_, rfl, wpAny_pure h⟩)) htake))
end
def tRevT (K : PySem.W.Frag) (te : TE) : TE := fun σ H Q => te σ H fun x H1 => ∃ a xs, x = .ref a ∧ SqT K H1 a xs ∧ ∀ p, H1 p = none → Q (.ref p) (upd H1 p (.tup xs.reverse))
theorem pe_revT {e : Expr} {te : TE} {k : Nat} {p1 p2 p3 pos : Pos} (he : PE X e te) : PE X (.Subscript e (.Slice none none (some (.UnaryOp .USub (.Constant (.int 1) k p1) p2)) p3) pos) (tRevT X.K te) := by
  refine ⟨fun pins s σ H Q I h => ?_⟩
  refine Subscript_ (thn (he.run pins s σ H _ I h) fun v s1 ⟨x, H1, I1, r1, q1⟩ => ?_)
  obtain ⟨a, xs, ex, hx, q⟩ := q1
  subst ex
  cases r1
  have hst : PO X (some (.UnaryOp .USub (.Constant (.int 1) k p1) p2)) (tPart (tUn (rU fun i => .int (-i)) (tC (.int 1)))) := po_some (pe_un un_neg pe_int)
  refine wpAny_Slice ?_
  rw [evalPart_none]
  refine wpAny_pure (wpAny_pure ?_)
  refine thn (hst.run pins s1 σ H1 (fun o H4 => o = some (-1) ∧ H4 = H1) I1 ⟨1, rfl, -1, rfl, rfl, rfl⟩) fun vs s4 ⟨o, H4, I4, ps, eo, e4⟩ => ?_
  subst eo e4
  have I5 : Inv X pins σ H4 { s4 with heap := s4.heap.push { cls := .type "slice", data := .fields #[.none, .none, vs] } } := I4.kept (t' := s4.toks) fun b ob q => Heap.get?_push_of_some _ q
  obtain ⟨its, r, ht, hz⟩ := I5.tuple hx
  have hlen := r.length
  show wpAny (model X.prog X.w) X.A (subscriptTail e (.Slice none none (some (.UnaryOp .USub (.Constant (.int 1) k p1) p2)) p3) (.ref a) (.ref s4.heap.objs.size)) (EP X pins σ Q) X.xe _
  refine tail_any (ops := [.ref a, .ref s4.heap.objs.size]) ht.typeIs (slot_tuple_getitem.lookup) ?_ (by with_unfolding_all rfl)
  refine item_rev ht (Heap.IsSliceOf.new _ _ _ _) ps ?_ (by rw [List.size_toArray]; omega)
  refine ⟨.ref _, _, I5.laid (t' := s4.toks) (o := .tup xs.reverse) (fun b ob q => Heap.get?_push_of_some _ q) (Nat.le_refl _) ?_, rfl, q _ (I5.hok.fresh (Nat.le_refl _))⟩
  exact ⟨by rw [List.length_reverse]; exact hz, _, r.reverse, IsTup.new _ _⟩
/-! ### repr of data that stand in objects -/
def rRepr (K : PySem.W.Frag) : List V → Hp → VK → Prop := fun xs H Q => ∃ (a : Addr) (d : PyData), xs = [.ref a] ∧ Dp K H (.ref a) d ∧ d.showable = true ∧ d.hasDict = false ∧ d.depth ≤ 60 ∧ d.shown.length ≤ sizeLine ∧ Q (.str d.shown) H
theorem cr_repr (hg : X.A.guards = some []) (hu : X.A.units + 64 < cLine) : CallR X (.builtin "repr") (rRepr X.K) := by
  intro pins s σ H xs us Q I r h
  obtain ⟨a, d, rfl, hd, h1, h2, h3, h4, q⟩ := h
  obtain ⟨u, rfl, ru⟩ := vals1 r
  obtain ⟨as, hr⟩ := Dp.reads I d _ _ hd ru
  cases ru
  exact repr_of_reads' hr h1 (PyData.noDict_hsm h2) hg (by omega) (fun _ _ e => e) (fun h' u tk hk => ⟨.str d.shown, H, I.kept hk, ⟨_, rfl⟩, q⟩) h4
end
end Jn
set_option maxHeartbeats 4000000
/-! a set made of a list of ints, with what sorted asks of it -/
namespace Jn
open PySem
open PySem.Spec PyProof.Rows
open L2
section
variable {P : Program} {w : World} {A : Around} {E : Value → Shared → Prop} {s : Shared}
/-- an empty set, as the model lays it; the heap with it behind -/
abbrev emptySet (w : World) : Obj := { cls := .type "set", dict := none, data := .set #[] 0 (.fresh 0 0 (!w.params.followText "set-order")) }
abbrev withSet (w : World) (h : Heap) : Heap := h.push (emptySet w)
/-- behind the filling -/
def SetMade (w : World) (s : Shared) (ns : List Int) (r : Value) (s₂ : Shared) : Prop :=
  r = .none ∧ ∃ h' tk c, s₂ = { s with heap := h', toks := tk } ∧ SetR w h' s.heap.objs.size (fun j => decide (j ∈ ns)) c ∧ c ≤ ns.length ∧ ∀ b o, s.heap.get? b = some o → h'.get? b = some o
set_option maxHeartbeats 16000000 in
theorem set_of_list {l : Addr} {items : Array Value} (ns : List Int) {Q : Value → Shared → Prop} (hh : A.handled = none) (hl : s.heap.IsList l items) (hit : IntsAre items.toList ns) (hb : ns.length + 1 < scanBound)
    (h : ∀ (h' : Heap) (tk c : Nat), SetR w h' s.heap.objs.size (fun j => decide (j ∈ ns)) c → c ≤ ns.length → (∀ b o, s.heap.get? b = some o → h'.get? b = some o) →
      Q (.ref s.heap.objs.size) { s with heap := h', toks := tk }) : wpAny (model P w) A (call (.type "set") [.ref l]) Q E s := by
  have hisz : items.size = ns.length := by
    rw [← IntsAre.length hit, Array.length_toList]
  obtain ⟨c, tl, hmro⟩ := F.called_set.mro
  have hmade := F.called_set.made
  have hsub := F.called_set.sub
  refine wpAny_call (codeAny_of_tree ?_)
  show wpAny _ _ (callAny (.type "set") _) _ _ _
  refine wpAny_pure ⟨Code.quiet_builtin _ (by decide +kernel), ?_⟩
  refine codeAny_builtin F.entry_type_call ?_
  rw [Around.under_plain (weight_type_call_type "set" [.ref l] []) rfl]
  have h1 := F.called_set.notType
  have h2 := F.called_set.canCreate
  have hct := F.typeCall_set_1 (.ref l)
  repeat (any_goals (first | assumption | wp_step))
  refine codeAny_mono (code_set_led1 (.ref l) (E := E) (Q₁ := fun obj s₁ => obj = .ref s.heap.objs.size ∧ s₁ = { s with heap := withSet w s.heap }) ⟨rfl, rfl⟩) fun r s₁ hr => ?_
  cases r with
  | error e => exact hr
  | ok fl =>
    cases fl with
    | ret obj =>
      obtain ⟨rfl, rfl⟩ := hr
      have hS : (withSet w s.heap).get? s.heap.objs.size = some (emptySet w) := Heap.get?_push_size _ rfl
      have hT : Shared.TypeIs { s with heap := withSet w s.heap } (.ref s.heap.objs.size) "set" := ⟨_, hS, rfl⟩
      have hli := F.called_set.init.lookup
      have hbi := F.called_set.init.bind (.ref s.heap.objs.size)
      repeat (any_goals (first | assumption | wp_step))
      refine codeAny_mono (codeAny_call_builtin (R := wants (SetMade w s ns) E) F.called_set.init.plain F.entry_set_init (check_set_init_1 hT ?_)) fun r₂ s₂ hr₂ => ?_
      · obtain ⟨ol, hol, hcl, nl, hdl⟩ := hl
        obtain ⟨ocls, odict, odata, oslots⟩ := ol
        simp only at hcl hdl
        subst hcl hdl
        have hol' : (withSet w s.heap).get? l = some { cls := .type "list", dict := odict, data := .seq items nl, slots := oslots } := Heap.get?_push_of_some _ hol
        have hsls := F.sub_list_set
        have hslf := F.sub_list_frozenset
        have hne : (Value.type "list" == Value.type "dict") = false := by decide
        have hl1 : (withSet w s.heap).IsList l items := ⟨_, hol', rfl, nl, rfl⟩
        unfold Builtin.«set.__init__» noKeywords Builtin.Frozenset.updateFrom
        generalize hPI : pyIter = PI
        wp_walk
        subst hPI
        refine wpAny_pyIter_list hl1 (wpAny_bind (wpAny_runValue ?_))
        have hlS : l < s.heap.objs.size := Heap.lt_size hol
        have hh3 : A.in1.in1.in1.handled = none := by simp [hh]
        have z1 : (withSet w s.heap).objs.size = s.heap.objs.size + 1 := Heap.size_push ..
        have hneI : l ≠ (withSet w s.heap).objs.size := by
          rw [z1]
          exact Nat.ne_of_lt (Nat.lt_succ_of_lt hlS)
        have hSf : s.heap.objs.size ∉ [(withSet w s.heap).objs.size, l] := by
          rw [z1]
          exact nmem2 (Nat.ne_of_lt (Nat.lt_succ_self _)) (Nat.ne_of_gt hlS)
        have hval : ∀ (i : Nat) (v : Value), items[i]? = some v → ∃ k t, ns[i]? = some k ∧ v = .int k t := fun i v hv => by
          have hi : i < ns.length := by
            rw [← hisz]
            exact (Array.getElem?_eq_some_iff.mp hv).1
          obtain ⟨t, e⟩ := IntsAre.int_at hit i v (by rw [Array.getElem?_toList]; exact hv)
          refine ⟨ns[i], t, at_of hi, ?_⟩
          rw [e, List.getD_eq_getElem?_getD, at_of hi] <;> rfl
        refine set_update_ints ((Walks.list hh3 _ l hneI items).toS) s.heap.objs.size hSf ns hisz hb hval (items.size - 0) 0 _ (by omega) (Nat.zero_le _)
          ⟨⟨_, Heap.get?_push_size _ rfl, rfl, rfl⟩, (hl1.push _)⟩ ?hS0 ?hR
        case hS0 => exact ⟨0, Nat.le_refl 0, setR_new_at (Heap.get?_push_of_some _ hS)⟩
        case hR =>
          intro s' c' hm hc' hS'
          obtain ⟨h', g2, d', tk', os'⟩ := s'
          have eg : g2 = s.gens := hm.gens
          have ed : d' = s.drawn := hm.drawn
          have eo : os' = s.os := hm.os
          subst eg ed eo
          show wpAny _ _ _ _ _ _
          refine wpAny_pure ?_
          show wpAny _ _ (ret Value.none) _ _ _
          rw [hisz] at hc'
          refine wpAny_pure ⟨rfl, h', tk', c', rfl, hS', hc', fun b o e => ?_⟩
          have hb0 : b < s.heap.objs.size := Heap.lt_size e
          have hb1 : b ≠ s.heap.objs.size := Nat.ne_of_lt hb0
          have hb2 : b ≠ (withSet w s.heap).objs.size := by
            rw [z1]
            exact Nat.ne_of_lt (Nat.lt_succ_of_lt hb0)
          exact hm.heap b o (nmem2 hb1 hb2) (Heap.get?_push_of_some _ (Heap.get?_push_of_some _ e))
      · cases r₂ with
        | error e => exact hr₂
        | ok fl₂ =>
          cases fl₂ with
          | ret r =>
            obtain ⟨rfl, h', tk, c', rfl, hS', hc', hk'⟩ := hr₂
            repeat (any_goals (first | assumption | wp_step))
            exact h _ _ _ hS' hc' hk'
          | _ => exact hr₂.elim
    | _ => exact hr.elim
end
section
variable {X : Cx}
/-- set(list of ints) -/
def rSetL' (w : World) (K : PySem.W.Frag) : List V → Hp → VK → Prop := fun xs H Q => ∃ (a : Addr) (ns : List Int), xs = [.ref a] ∧ SqL K H a (ns.map V.int) ∧ ns.length ≤ 100 ∧
  ∀ p n, H p = none → n ≤ ns.length → Q (.ref p) (upd H p (SetO w p (fun j => decide (j ∈ ns)) n))
theorem cr_setL (hc : X.calm = true) : CallR X (.type "set") (rSetL' X.w X.K) := by
  intro pins s σ H xs us Q I r h
  obtain ⟨a, ns, rfl, hs, hz, q⟩ := h
  obtain ⟨its, rv, hl, _⟩ := I.list hs
  rw [Vals.ref1 r]
  have hi := rv.ints
  refine set_of_list ns (I.ok.hd hc) hl.isList hi (Nat.lt_of_lt_of_le (show ns.length + 1 < 102 by omega) (by decide)) fun h' tk c R hcn hk => ?_
  exact ⟨.ref _, upd H s.heap.objs.size (SetO X.w s.heap.objs.size (fun j => decide (j ∈ ns)) c), I.laid (t' := tk) hk (Nat.le_refl _) (setO_new R), rfl, q _ c (I.hok.fresh (Nat.le_refl _)) hcn⟩
end
end Jn
set_option maxHeartbeats 4000000
/-! statements: what they leave of the slots, by what stood at the def's entry -/
namespace Jn
open PySem
open PySem.Spec PyProof.Rows
open L2
/-- from the entry (G0, H0): all that stood stands, but what S names may have changed -/
structure Fx (S : Addr → Prop) (G0 H0 G H : Hp) : Prop where
  g : Ex G0 G
  i : Ex G H
  h : ∀ a o, ¬ S a → H0 a = some o → H a = some o
  t : ∀ a, H0 a ≠ none → H a ≠ none
  n : ∀ a, G0 a = none → H0 a ≠ none → G a = none
structure Ok (K : PySem.W.Frag) (S : Addr → Prop) (G0 H0 G H : Hp) (σ : L2.St) (ρ : Rho) : Prop where
  f : Fx S G0 H0 G H
  s : Sd K G H σ ρ
  own : ∀ (i : Nat) (o : Bool) (p : Addr) (ds : List PyData), ρ[i]? = some (En.ml o p ds) → (o = true ∧ H0 p = none) ∨ (o = false ∧ S p)
  dis : ∀ (i j : Nat) (o : Bool) (p : Addr) (ds : List PyData) (o' : Bool) (ds' : List PyData), ρ[i]? = some (En.ml o p ds) → ρ[j]? = some (En.ml o' p ds') → i = j
section
variable {K : PySem.W.Frag} {S : Addr → Prop} {G0 H0 G H G' H' G1 H1 : Hp} {σ : L2.St} {ρ : Rho}
theorem Gx.fx (g : Gx G H G' H') : Fx S G H G' H' := ⟨g.g, g.i, fun a o _ e => g.h a o e, fun a h => ex_some g.h h, g.n⟩
theorem Fx.go (f : Fx S G0 H0 G H) (g : Gx G H G' H') : Fx S G0 H0 G' H' :=
  ⟨f.g.trans g.g, g.i, fun a o n e => g.h a o (f.h a o n e), fun a h => ex_some g.h (f.t a h), fun a h1 h2 => g.n a (f.n a h1 h2) (f.t a h2)⟩
theorem Fx.trans {S' : Addr → Prop} (f : Fx S G0 H0 G H) (g : Fx S' G H G' H') (hs : ∀ a, S' a → S a ∨ H0 a = none) : Fx S G0 H0 G' H' :=
  ⟨f.g.trans g.g, g.i, fun a o n e => g.h a o (fun z => (hs a z).elim n fun z2 => by rw [z2] at e; cases e) (f.h a o n e), fun a h => g.t a (f.t a h), fun a h1 h2 => g.n a (f.n a h1 h2) (f.t a h2)⟩
theorem Ok.go (k : Ok K S G0 H0 G H σ ρ) (g : Gx G H G' H') : Ok K S G0 H0 G' H' σ ρ := ⟨k.f.go g, k.s.go g, k.own, k.dis⟩
/-- the entry's part that data lean on may be taken later -/
theorem Ok.later (k : Ok K S G0 H0 G H σ ρ) (e0 : Fx S G0 H0 G1 H1) (e1 : Ex G1 G) : Ok K S G1 H0 G H σ ρ :=
  ⟨⟨e1, k.f.i, k.f.h, k.f.t, fun a h1 h2 => k.f.n a (Same.free e0.g h1) h2⟩, k.s, k.own, k.dis⟩
theorem Ok.back (e0 : Fx S G0 H0 G1 H1) (k : Ok K S G1 H0 G H σ ρ) : Ok K S G0 H0 G H σ ρ :=
  ⟨⟨e0.g.trans k.f.g, k.f.i, k.f.h, k.f.t, fun a h1 h2 => k.f.n a (e0.n a h1 h2) h2⟩, k.s, k.own, k.dis⟩
theorem Ok.put (k : Ok K S G0 H0 G H σ ρ) {i : Nat} {v : V} {d : PyData} (q : Dq K G v d) (hi : (ρ[i]?).isSome = true) : Ok K S G0 H0 G H (σ.set i (some v)) (ρ.set i (.im d)) := by
  refine ⟨k.f, k.s.put q hi, fun j o p ds h => ?_, fun j l o p ds o' ds' h h' => ?_⟩
  · rcases set_at h with ⟨_, z⟩ | ⟨_, h⟩
    · cases z
    · exact k.own j o p ds h
  · rcases set_at h with ⟨_, z⟩ | ⟨_, h⟩
    · cases z
    · rcases set_at h' with ⟨_, z⟩ | ⟨_, h'⟩
      · cases z
      · exact k.dis j l o p ds o' ds' h h'
/-- a list of one's own gets a slot -/
theorem Ok.putM (k : Ok K S G0 H0 G H σ ρ) (g : Gx G H G' H') {i : Nat} {p : Addr} {vs : List V} {ds : List PyData} (h0 : H p = none) (h1 : G' p = none) (h2 : H' p = some (.lst vs)) (q : DqAll K G' vs ds) (hi : (ρ[i]?).isSome = true) :
    Ok K S G0 H0 G' H' (σ.set i (some (.ref p))) (ρ.set i (.ml true p ds)) := by
  have k' := k.go g
  have hn : H0 p = none := by
    cases e : H0 p with
    | none => rfl
    | some o => exact absurd h0 (k.f.t p (by rw [e]; simp))
  have other : ∀ (j : Nat) (o : Bool) (p' : Addr) (ds' : List PyData), ρ[j]? = some (En.ml o p' ds') → p' ≠ p := fun j o p' ds' h z => by
    obtain ⟨_, _, ws, h3, _⟩ := k.s.at_ j _ h
    rw [z, h0] at h3
    cases h3
  have hl : i < σ.length := by rw [k.s.len]; exact is_lt hi
  refine ⟨k'.f, ⟨by rw [List.length_set, List.length_set]; exact k.s.len, fun j e h => ?_⟩, fun j o p' ds' h => ?_, fun j l o p' ds o' ds' h h' => ?_⟩
  · rcases set_at h with ⟨rfl, rfl⟩ | ⟨ne, h⟩
    · exact ⟨by rw [List.getElem?_set_self hl], h1, vs, h2, q⟩
    · have a := k'.s.at_ j e h
      cases e with
      | no => trivial
      | im d' =>
        obtain ⟨w, h1, h2⟩ := a
        exact ⟨w, by rw [List.getElem?_set_ne (Ne.symm ne)]; exact h1, h2⟩
      | ml o p ds =>
        obtain ⟨h1, h2⟩ := a
        exact ⟨by rw [List.getElem?_set_ne (Ne.symm ne)]; exact h1, h2⟩
  · rcases set_at h with ⟨_, z⟩ | ⟨_, h⟩
    · cases z
      exact .inl ⟨rfl, hn⟩
    · exact k.own j o p' ds' h
  · rcases set_at h with ⟨e1, z⟩ | ⟨_, h⟩
    · cases z
      rcases set_at h' with ⟨e2, z⟩ | ⟨_, h'⟩
      · rw [e1, e2]
      · exact absurd rfl (other _ _ _ _ h')
    · rcases set_at h' with ⟨_, z⟩ | ⟨_, h'⟩
      · cases z
        exact absurd rfl (other _ _ _ _ h)
      · exact k.dis j l o p' ds o' ds' h h'
/-- forget a slot -/
theorem Ok.drop (k : Ok K S G0 H0 G H σ ρ) (i : Nat) : Ok K S G0 H0 G H σ (ρ.set i .no) := by
  refine ⟨k.f, ⟨by rw [List.length_set]; exact k.s.len, fun j e h => ?_⟩, fun j o p ds h => ?_, fun j l o p ds o' ds' h h' => ?_⟩
  · rcases set_at h with ⟨rfl, rfl⟩ | ⟨ne, h⟩
    · trivial
    · exact k.s.at_ j e h
  · rcases set_at h with ⟨_, z⟩ | ⟨_, h⟩
    · cases z
    · exact k.own j o p ds h
  · rcases set_at h with ⟨_, z⟩ | ⟨_, h⟩
    · cases z
    · rcases set_at h' with ⟨_, z⟩ | ⟨_, h'⟩
      · cases z
      · exact k.dis j l o p ds o' ds' h h'
/-- the list in slot i has changed -/
theorem Ok.change (k : Ok K S G0 H0 G H σ ρ) {i : Nat} {o : Bool} {p : Addr} {ds ds' : List PyData} (hi : ρ[i]? = some (.ml o p ds)) (f : Fx (fun a => a = p) G H G' H') (hG : G' p = none) {vs : List V} (hv : H' p = some (.lst vs)) (q : DqAll K G' vs ds') :
    Ok K S G0 H0 G' H' σ (ρ.set i (.ml o p ds')) := by
  have hl : (ρ[i]?).isSome = true := by rw [hi] <;> rfl
  obtain ⟨s1, s2, vs0, s3, s4⟩ := k.s.at_ i _ hi
  refine ⟨k.f.trans f fun a z => ?_, ⟨by rw [List.length_set]; exact k.s.len, fun j e h => ?_⟩, fun j o' p' es h => ?_, fun j l o1 p1 es o2 es2 h h' => ?_⟩
  · rw [z]
    rcases k.own i o p ds hi with ⟨_, z⟩ | ⟨_, z⟩
    · exact .inr z
    · exact .inl z
  · rcases set_at h with ⟨rfl, rfl⟩ | ⟨ne, h⟩
    · exact ⟨s1, hG, vs, hv, q⟩
    · have a := k.s.at_ j e h
      cases e with
      | no => trivial
      | im d' =>
        obtain ⟨w, h1, h2⟩ := a
        exact ⟨w, h1, h2.mono f.g⟩
      | ml o' p' es =>
        obtain ⟨h1, h2, ws, h3, h4⟩ := a
        have np : p' ≠ p := fun z => ne (k.dis j i o' p' es o ds h (z ▸ hi))
        exact ⟨h1, f.n p' h2 (by rw [h3]; simp), ws, f.h _ _ np h3, h4.mono f.g⟩
  · rcases set_at h with ⟨_, z⟩ | ⟨_, h⟩
    · cases z
      exact k.own i o p ds hi
    · exact k.own j o' p' es h
  · rcases set_at h with ⟨e1, z⟩ | ⟨_, h⟩
    · cases z
      rcases set_at h' with ⟨e2, z⟩ | ⟨_, h'⟩
      · rw [e1, e2]
      · rw [e1]
        exact k.dis i l _ _ _ _ _ hi h'
    · rcases set_at h' with ⟨e2, z⟩ | ⟨_, h'⟩
      · cases z
        rw [e2]
        exact k.dis j i _ _ _ _ _ h hi
      · exact k.dis j l _ _ _ _ _ h h'
/-- the list in slot i is written -/
theorem Ok.write (k : Ok K S G0 H0 G H σ ρ) {i : Nat} {o : Bool} {p : Addr} {ds ds' : List PyData} (hi : ρ[i]? = some (.ml o p ds)) {vs : List V} (q : DqAll K G vs ds') : Ok K S G0 H0 G (upd H p (.lst vs)) σ (ρ.set i (.ml o p ds')) := by
  obtain ⟨s1, s2, vs0, s3, s4⟩ := k.s.at_ i _ hi
  refine k.change hi ⟨Same.refl _, ex_mut k.f.i s2, fun a u ne e => ?_, fun a h => ?_, fun _ h _ => h⟩ s2 upd_same q
  · rw [upd_ne ne]
    exact e
  · by_cases c : a = p
    · rw [c, upd_same]
      simp
    · rw [upd_ne c]
      exact h
/-- a list of one's own is handed back: it will not change any more -/
theorem Ok.freeze (k : Ok K S G0 H0 G H σ ρ) {i : Nat} {p : Addr} {ds : List PyData} (hi : ρ[i]? = some (.ml true p ds)) :
    σ[i]? = some (some (.ref p)) ∧ ∃ G', Ok K S G0 H0 G' H σ (ρ.set i .no) ∧ Dq K G' (.ref p) (.list ds) := by
  obtain ⟨s1, s2, vs, s3, s4⟩ := k.s.at_ i _ hi
  refine ⟨s1, upd G p (.lst vs), ?_, .lst (SqL.of upd_same) (s4.mono (ex_new s2))⟩
  have hn : H0 p = none := by
    rcases k.own i true p ds hi with ⟨_, z⟩ | ⟨z, _⟩
    · exact z
    · cases z
  have kd := k.drop i
  refine ⟨⟨k.f.g.trans (ex_new s2), fun a u ha => ?_, k.f.h, k.f.t, fun a h1 h2 => ?_⟩, ⟨kd.s.len, fun j e h => ?_⟩, kd.own, kd.dis⟩
  · by_cases c : a = p
    · rw [c, upd_same] at ha
      rw [c, s3]
      exact ha
    · rw [upd_ne c] at ha
      exact k.f.i a u ha
  · rw [upd_ne (fun z => h2 (by rw [z]; exact hn))]
    exact k.f.n a h1 h2
  · have a := kd.s.at_ j e h
    cases e with
    | no => trivial
    | im d =>
      obtain ⟨w, h1, h2⟩ := a
      exact ⟨w, h1, h2.mono (ex_new s2)⟩
    | ml o' p' es =>
      obtain ⟨h1, h2, ws, h3, h4⟩ := a
      rcases set_at h with ⟨_, z⟩ | ⟨ne, h⟩
      · cases z
      · have np : p' ≠ p := fun z => ne (k.dis j i o' p' es true ds h (z ▸ hi))
        exact ⟨h1, by rw [upd_ne np]; exact h2, ws, h3, h4.mono (ex_new s2)⟩
end
/-! ### expressions that may change lists; statements -/
def Em (K : PySem.W.Frag) (te : TE) (ρ : Rho) (R : PyData → Rho → Prop) : Prop := ∀ (S : Addr → Prop) (G0 H0 : Hp) (σ : L2.St) (G H : Hp) (Q : VK), Ok K S G0 H0 G H σ ρ →
  (∀ v d ρ' G' H', R d ρ' → Ok K S G0 H0 G' H' σ ρ' → Dq K G' v d → Q v H') → te σ H Q
def EmT (K : PySem.W.Frag) (tt : TT) (ρ : Rho) (R : Bool → Rho → Prop) : Prop := ∀ (S : Addr → Prop) (G0 H0 : Hp) (σ : L2.St) (G H : Hp) (Q : Bool → Hp → Prop), Ok K S G0 H0 G H σ ρ →
  (∀ b ρ' G' H', R b ρ' → Ok K S G0 H0 G' H' σ ρ' → Q b H') → tt σ H Q
def EmA (K : PySem.W.Frag) (ta : TA) (ρ : Rho) (R : List PyData → Rho → Prop) : Prop := ∀ (S : Addr → Prop) (G0 H0 : Hp) (σ : L2.St) (G H : Hp) (Q : List V → Hp → Prop), Ok K S G0 H0 G H σ ρ →
  (∀ vs ds ρ' G' H', R ds ρ' → Ok K S G0 H0 G' H' σ ρ' → DqAll K G' vs ds → Q vs H') → ta σ H Q
/-- what follows a statement: from N on, or handed back by R -/
def Ss (K : PySem.W.Frag) (ts : TS) (ρ : Rho) (N : Rho → Prop) (R : PyData → Rho → Prop) : Prop := ∀ (S : Addr → Prop) (G0 H0 : Hp) (σ : L2.St) (G H : Hp) (D : Ends), Ok K S G0 H0 G H σ ρ →
  (∀ σ' G' H' ρ', N ρ' → Ok K S G0 H0 G' H' σ' ρ' → D.nx σ' H') → (∀ v d ρ' σ' G' H', R d ρ' → Ok K S G0 H0 G' H' σ' ρ' → Dq K G' v d → D.rt v H') → ts D σ H
section
variable {K : PySem.W.Frag} {ρ : Rho} {te ta tb : TE} {tt tu : TT} {t u : TS} {N N1 : Rho → Prop} {R : PyData → Rho → Prop} {d : PyData}
theorem Ev.em (h : Ev K te ρ d) : Em K te ρ fun a r => a = d ∧ r = ρ := fun S G0 H0 σ G H Q k q => h σ G H Q k.f.i k.s fun v G' H' g dq => q v d ρ G' H' ⟨rfl, rfl⟩ (k.go g) dq
theorem EvT.em {b : Bool} (h : EvT K tt ρ b) : EmT K tt ρ fun a r => a = b ∧ r = ρ := fun S G0 H0 σ G H Q k q => h σ G H Q k.f.i k.s fun G' H' g => q b ρ G' H' ⟨rfl, rfl⟩ (k.go g)
theorem Em.imp {R' : PyData → Rho → Prop} (h : Em K te ρ R') (i : ∀ a r, R' a r → R a r) : Em K te ρ R := fun S G0 H0 σ G H Q k q => h S G0 H0 σ G H Q k fun v d ρ' G' H' r => q v d ρ' G' H' (i d ρ' r)
theorem Ss.imp {N' : Rho → Prop} {R' : PyData → Rho → Prop} (h : Ss K t ρ N' R') (i : ∀ r, N' r → N r) (j : ∀ a r, R' a r → R a r) : Ss K t ρ N R := fun S G0 H0 σ G H D k n r =>
  h S G0 H0 σ G H D k (fun σ' G' H' ρ' x => n σ' G' H' ρ' (i _ x)) fun v d ρ' σ' G' H' x => r v d ρ' σ' G' H' (j _ _ x)
theorem ss_next (h : N ρ) : Ss K tNext ρ N R := fun S G0 H0 σ G H D k n r => n σ G H ρ h k
theorem ss_seq (h : Ss K t ρ N1 R) (h2 : ∀ r, N1 r → Ss K u r N R) : Ss K (tSeq t u) ρ N R := fun S G0 H0 σ G H D k n r =>
  h S G0 H0 σ G H { D with nx := u D } k (fun σ' G' H' ρ' x k' => h2 ρ' x S G0 H0 σ' G' H' D k' n r) r
/-- x = e -/
theorem ss_asgE {i : Nat} {R1 : PyData → Rho → Prop} (h : Em K te ρ R1) (hi : ∀ a r, R1 a r → (r[i]?).isSome = true ∧ N (r.set i (.im a))) : Ss K (tAsg te (gName i)) ρ N R := fun S G0 H0 σ G H D k n r =>
  h S G0 H0 σ G H _ k fun v a ρ' G' H' x k' dq => n _ G' H' _ (hi a ρ' x).2 (k'.put dq (hi a ρ' x).1)
theorem ss_asg {i : Nat} (h : Ev K te ρ d) (hn : N (ρ.set i (.im d))) (hi : (ρ[i]?).isSome = true := by rfl) : Ss K (tAsg te (gName i)) ρ N R := ss_asgE h.em fun a r ⟨e1, e2⟩ => by
  subst e1 e2
  exact ⟨hi, hn⟩
theorem en_lst {t : TA} {ds : List PyData} (h : EvA K t ρ ds) (hl : ds.length ≤ 100000) : EvN K (tLst t) ρ ds := fun σ G H Q e s q =>
  h σ G H _ e s fun xs G1 H1 g1 d1 => ⟨line100000 (by rw [d1.length]; exact hl), fun p hp =>
    q p xs G1 _ (Same.free g1.h hp) (Same.free g1.i hp) (g1.trans (Gx.more g1.i hp)) upd_same d1⟩
theorem en_lstT {ds : List PyData} (h : Ev K te ρ (.tuple ds)) : EvN K (tCB (rLstS K) (tCons te tNil)) ρ ds := fun σ G H Q e s q =>
  h σ G H _ e s fun v G1 H1 g1 d1 => by
    cases d1 with
    | @tup p ws _ hs ha => exact ⟨p, ws, rfl, .inr (ex_t g1.i hs), fun l hp => q l ws G1 _ (Same.free g1.h hp) (Same.free g1.i hp) (g1.trans (Gx.more g1.i hp)) upd_same ha⟩
theorem en_lstL {ds : List PyData} (h : Ev K te ρ (.list ds)) : EvN K (tCB (rLstS K) (tCons te tNil)) ρ ds := fun σ G H Q e s q =>
  h σ G H _ e s fun v G1 H1 g1 d1 => by
    cases d1 with
    | @lst p ws _ hs ha => exact ⟨p, ws, rfl, .inl (ex_l g1.i hs), fun l hp => q l ws G1 _ (Same.free g1.h hp) (Same.free g1.i hp) (g1.trans (Gx.more g1.i hp)) upd_same ha⟩
theorem ss_asgN {i : Nat} {ds : List PyData} (h : EvN K te ρ ds) (hn : ∀ p, N (ρ.set i (.ml true p ds))) (hi : (ρ[i]?).isSome = true := by rfl) : Ss K (tAsg te (gName i)) ρ N R := fun S G0 H0 σ G H D k n r =>
  h σ G H _ k.f.i k.s fun p vs G' H' h0 h1 g h2 q => n _ G' H' _ (hn p) (k.putM g h0 h1 h2 q hi)
/-- return e -/
theorem ss_retE {R1 : PyData → Rho → Prop} (h : Em K te ρ R1) (hr : ∀ a r, R1 a r → R a r) : Ss K (tRet te) ρ N R := fun S G0 H0 σ G H D k n r =>
  h S G0 H0 σ G H _ k fun v a ρ' G' H' x k' dq => r v a ρ' σ G' H' (hr a ρ' x) k' dq
theorem ss_ret (h : Ev K te ρ d) (hr : R d ρ) : Ss K (tRet te) ρ N R := ss_retE h.em fun a r ⟨e1, e2⟩ => by
  subst e1 e2
  exact hr
/-- return of a list of one's own -/
theorem ss_retM {i : Nat} {p : Addr} {ds : List PyData} (hi : ρ[i]? = some (.ml true p ds)) (hr : R (.list ds) (ρ.set i .no)) : Ss K (tRet (tVar i)) ρ N R := fun S G0 H0 σ G H D k n r => by
  obtain ⟨h1, G', k', dq⟩ := k.freeze hi
  exact ⟨_, h1, r _ _ _ σ G' H hr k' dq⟩
/-- an if -/
theorem ss_ifE {R1 : Bool → Rho → Prop} (h : EmT K tt ρ R1) (h1 : ∀ r, R1 true r → Ss K t r N R) (h2 : ∀ r, R1 false r → Ss K u r N R) : Ss K (tIfS tt t u) ρ N R := fun S G0 H0 σ G H D k n r =>
  h S G0 H0 σ G H _ k fun b ρ' G' H' x k' => by
    cases b with
    | true => exact iteT (h1 ρ' x S G0 H0 σ G' H' D k' n r)
    | false => exact iteF (h2 ρ' x S G0 H0 σ G' H' D k' n r)
theorem ss_if {b : Bool} (h : EvT K tt ρ b) (h1 : b = true → Ss K t ρ N R) (h2 : b = false → Ss K u ρ N R) : Ss K (tIfS tt t u) ρ N R :=
  ss_ifE h.em (fun r ⟨e1, e2⟩ => by subst e2; exact h1 e1.symm) (fun r ⟨e1, e2⟩ => by subst e2; exact h2 e1.symm)
/-- xs.append(e) -/
theorem tyv_l {G H : Hp} {p : Addr} {vs : List V} (h : H p = some (.lst vs)) : tyV K "list" (.ref p) H := .inl ⟨rfl, vs, SqL.of h⟩
theorem ss_app {i : Nat} {o : Bool} {p : Addr} {ds : List PyData} (hi : ρ[i]? = some (.ml o p ds)) (h : Ev K te ρ d) (hz : ds.length < 100000) (hn : N (ρ.set i (.ml o p (ds ++ [d])))) :
    Ss K (tDrop (tBM K "list" rAppend (tVar i) (tCons te tNil))) ρ N R := fun S G0 H0 σ G H D k n r => by
  obtain ⟨s1, s2, vs, s3, s4⟩ := k.s.at_ i _ hi
  refine ⟨_, s1, tyv_l (G := G) s3, h σ G H _ k.f.i k.s fun v G1 H1 g1 d1 => ?_⟩
  have k1 := k.go g1
  obtain ⟨_, _, vs', s3', s4'⟩ := k1.s.at_ i _ hi
  refine ⟨p, vs', v, rfl, rfl, s3', by rw [sizeLine_eq, s4'.length]; omega, ?_⟩
  exact n _ _ _ _ hn (k1.write hi (s4'.append (.cons d1 .nil)))
/-- a for, its target a name: I from turn to turn, the target's slot forgotten between -/
theorem ss_for {wi : TI} {j : Nat} {xs : List PyData} (I : Nat → Rho → Prop) (hw : EvW K wi ρ xs) (h0 : I 0 ρ) (hj : ∀ i r, I i r → (r[j]?).isSome = true)
    (hb : ∀ (i : Nat) (h : i < xs.length) r, I i r → Ss K t (r.set j (.im xs[i])) (fun r2 => I (i + 1) (r2.set j .no)) R) (hd : ∀ r, I xs.length r → N r) : Ss K (tFor wi (gName j) t) ρ N R := fun S G0 H0 σ G H D k n r =>
  hw σ G H _ k.f.i k.s fun J G1 H1 g1 w => by
    have k1 := k.go g1
    refine ⟨fun i m σ' H' => m = xs.length - i ∧ i ≤ xs.length ∧ ∃ G' ρ', I i ρ' ∧ Ex G1 G' ∧ Ok K S G0 H0 G' H' σ' ρ', ⟨xs.length, by simp, Nat.zero_le _, G1, ρ, h0, Same.refl _, k1⟩, ?_⟩
    rintro i m σ' H' ⟨rfl, hi, G', ρ', x, e, k'⟩
    by_cases hlt : i < xs.length
    · refine .inr ⟨w.goes i H' hlt (e.trans k'.f.i), fun σ2 H2 => i + 1 ≤ xs.length ∧ ∃ G2 ρ2, I (i + 1) ρ2 ∧ Ex G1 G2 ∧ Ok K S G0 H0 G2 H2 σ2 ρ2, fun σ2 H2 h2 => ⟨xs.length - (i + 1), by omega, rfl, h2.1, h2.2⟩, fun v H2 y => ?_⟩
      obtain ⟨G2, g2, dv⟩ := w.yields i H' G' v H2 hlt e k'.f.i y
      have kb := ((k'.go g2).later k1.f (e.trans g2.g)).put dv (hj i ρ' x)
      refine hb i hlt ρ' x S G1 H0 _ G2 H2 _ kb (fun σ3 G3 H3 ρ3 x3 k3 => ?_) fun v3 d3 ρ3 σ3 G3 H3 x3 k3 dq => r v3 d3 ρ3 σ3 G3 H3 x3 (k3.back k1.f) dq
      exact ⟨hlt, G3, _, x3, k3.f.g, (k3.back k1.f).drop j⟩
    · have ei : i = xs.length := by omega
      subst ei
      exact .inl ⟨w.stops H' (e.trans k'.f.i), n σ' G' H' ρ' (hd ρ' x) k'⟩
/-- a for over pairs -/
theorem ss_for2 {wi : TI} {j l : Nat} {α : Type} {xs : List α} {e1 e2 : α → PyData} (I : Nat → Rho → Prop) (hw : EvW K wi ρ (xs.map fun x => .tuple [e1 x, e2 x])) (h0 : I 0 ρ) (hjl : j ≠ l) (hj : ∀ i r, I i r → (r[j]?).isSome = true ∧ (r[l]?).isSome = true)
    (hb : ∀ (i : Nat) (h : i < xs.length) r, I i r → Ss K t ((r.set j (.im (e1 xs[i]))).set l (.im (e2 xs[i]))) (fun r2 => I (i + 1) ((r2.set j .no).set l .no)) R) (hd : ∀ r, I xs.length r → N r) :
    Ss K (tFor wi (gTup K 2 (gCons (gName j) (gCons (gName l) gNil))) t) ρ N R := fun S G0 H0 σ G H D k n r =>
  hw σ G H _ k.f.i k.s fun J G1 H1 g1 w => by
    have k1 := k.go g1
    have wl : (xs.map fun x => PyData.tuple [e1 x, e2 x]).length = xs.length := List.length_map ..
    refine ⟨fun i m σ' H' => m = xs.length - i ∧ i ≤ xs.length ∧ ∃ G' ρ', I i ρ' ∧ Ex G1 G' ∧ Ok K S G0 H0 G' H' σ' ρ', ⟨xs.length, by simp, Nat.zero_le _, G1, ρ, h0, Same.refl _, k1⟩, ?_⟩
    rintro i m σ' H' ⟨rfl, hi, G', ρ', x, e, k'⟩
    by_cases hlt : i < xs.length
    · refine .inr ⟨w.goes i H' (by omega) (e.trans k'.f.i), fun σ2 H2 => i + 1 ≤ xs.length ∧ ∃ G2 ρ2, I (i + 1) ρ2 ∧ Ex G1 G2 ∧ Ok K S G0 H0 G2 H2 σ2 ρ2, fun σ2 H2 h2 => ⟨xs.length - (i + 1), by omega, rfl, h2.1, h2.2⟩, fun v H2 y => ?_⟩
      obtain ⟨G2, g2, dv⟩ := w.yields i H' G' v H2 (by omega) e k'.f.i y
      rw [List.getElem_map] at dv
      obtain ⟨hj1, hj2⟩ := hj i ρ' x
      have k2 := (k'.go g2).later k1.f (e.trans g2.g)
      cases dv with
      | @tup p vs _ hs ha =>
        cases ha with
        | @cons x1 _ _ _ q1 ha =>
          cases ha with
          | @cons x2 _ _ _ q2 ha =>
            cases ha
            refine ⟨p, [x1, x2], rfl, ex_t g2.i hs, rfl, x1, [x2], rfl, x2, [], rfl, rfl, ?_⟩
            have kb := (k2.put q1 hj1).put (i := l) q2 (by rw [List.getElem?_set_ne hjl]; exact hj2)
            refine hb i hlt ρ' x S G1 H0 _ G2 H2 _ kb (fun σ3 G3 H3 ρ3 x3 k3 => ?_) fun v3 d3 ρ3 σ3 G3 H3 x3 k3 dq => r v3 d3 ρ3 σ3 G3 H3 x3 (k3.back k1.f) dq
            exact ⟨hlt, G3, _, x3, k3.f.g, ((k3.back k1.f).drop j).drop l⟩
    · have ei : i = xs.length := by omega
      subst ei
      have z := w.stops H' (e.trans k'.f.i)
      rw [wl] at z
      exact .inl ⟨z, n σ' G' H' ρ' (hd ρ' x) k'⟩
end
/-! ### a def's promise from its body's reading -/
section
variable {K : PySem.W.Frag}
theorem sd_start {G H : Hp} {vs : List V} {ds : List PyData} {N : List Str} (h : DqAll K G vs ds) (hl : ds.length ≤ N.length) : Sd K G H (start N vs) (ds.map .im ++ List.replicate (N.length - ds.length) .no) := by
  have l := h.length
  refine ⟨by unfold L2.start; simp; omega, fun i e hi => ?_⟩
  by_cases c : i < ds.length
  · rw [List.getElem?_append_left (by simpa using c), List.getElem?_map, at_of c] at hi
    cases hi
    obtain ⟨v, hv, dv⟩ := h.ix c
    refine ⟨v, ?_, dv⟩
    unfold L2.start
    rw [List.getElem?_append_left (by simp; omega), List.getElem?_map, hv]
    rfl
  · rw [List.getElem?_append_right (by simp; omega), List.getElem?_replicate] at hi
    split at hi
    · cases hi
      trivial
    · cases hi
theorem no_ml {ds : List PyData} {n i : Nat} {o : Bool} {p : Addr} {es : List PyData} : (ds.map En.im ++ List.replicate n En.no)[i]? ≠ some (.ml o p es) := fun h => by
  by_cases c : i < ds.length
  · rw [List.getElem?_append_left (by simpa using c), List.getElem?_map, at_of c] at h
    cases h
  · rw [List.getElem?_append_right (by simp; omega), List.getElem?_replicate] at h
    split at h
    · cases h
    · cases h
theorem Fx.refl {S : Addr → Prop} {G H : Hp} (e : Ex G H) : Fx S G H G H := ⟨Same.refl _, e, fun _ _ _ h => h, fun _ h => h, fun _ h _ => h⟩
theorem Fx.gx {G H G' H' : Hp} (f : Fx (fun _ => False) G H G' H') : Gx G H G' H' := ⟨f.g, f.i, fun a o e => f.h a o (fun z => z) e, f.n⟩
/-- a def that changes nothing, always hands back: its body's reading, from the arguments' data -/
theorem ret_pure {R : List PyData → PyData → Prop} {t : TS} {N : List Str} {vs : List V} {H : Hp} {Q : VK} {E : XK} (h : spP (K := K) R vs H Q E) (hl : ∀ ds d, R ds d → ds.length ≤ N.length)
    (body : ∀ ds d, R ds d → Ss K t (ds.map .im ++ List.replicate (N.length - ds.length) .no) (fun _ => d = .none) (fun a _ => a = d)) : t { nx := fun _ H' => Q .non H', rt := Q } (start N vs) H := by
  obtain ⟨G, ds, d, e, hd, hR, q⟩ := h
  have ok : Ok K (fun _ => False) G H G H (start N vs) (ds.map .im ++ List.replicate (N.length - ds.length) .no) := ⟨Fx.refl e, sd_start hd (hl ds d hR), fun i o p es h => absurd h no_ml, fun i j o p es o' es' h => absurd h no_ml⟩
  refine body ds d hR (fun _ => False) G H _ G H _ ok (fun σ' G' H' ρ' z k => ?_) fun v a ρ' σ' G' H' z k dq => ?_
  · subst z
    exact q _ G' H' k.f.gx .non
  · subst z
    exact q v G' H' k.f.gx dq
end
end Jn
set_option maxHeartbeats 4000000
/-! the text by places; what the top leaves; a def as its callers use it -/
namespace Jn
open PySem
open PySem.Spec PyProof.Rows
open L2
def topS (i : Nat) : Stmt := PySem.Challenge.pw_straightleast_k79_whole_joined_by_least.main.body.getD i (.Pass ⟨0, 0, 0, 0⟩)
abbrev FnP (K : PySem.W.Frag) (x : Str) (st : Stmt) (f : Addr) (fd : FuncData) : Prop := FunD K x x (defArgs st) (defBody st) (defScope st) [] [] f fd
/-- names that the top leaves to the built-ins; its two numbers -/
structure Tx (mg : Str → Option Value) : Prop where
  isinstance : mg "isinstance" = none
  int : mg "int" = none
  bool : mg "bool" = none
  tuple : mg "tuple" = none
  list : mg "list" = none
  set : mg "set" = none
  str : mg "str" = none
  len : mg "len" = none
  all : mg "all" = none
  any : mg "any" = none
  sorted : mg "sorted" = none
  range : mg "range" = none
  enumerate : mg "enumerate" = none
  zip : mg "zip" = none
  min : mg "min" = none
  max : mg "max" = none
  sum : mg "sum" = none
  repr : mg "repr" = none
  ms : ∃ t, mg "MOST_STRANDS" = some (.int 12 t)
  mr : ∃ t, mg "MOST_ROWS" = some (.int 8 t)
/-- a def of the top, by its name -/
structure Cal (P : Program) (w : World) (K : PySem.W.Frag) (mg : Str → Option Value) (base : Heap) (CX : CXT) (k : Nat) (x : Str) (ps : List Str) (sp : Sp) : Prop where
  ex : ∃ f fd, FnOk P w K mg base CX k f fd ps sp ∧ mg x = some (.ref f) ∧ PySem.W.keepIn K (.ref f) = true ∧ Binds K fd ps [] ∧ ∃ st, FnP K x st f fd
section
variable {X : Cx} {CX : CXT} {k j : Nat} {ps : List Str} {sp : Sp} {x : Str} {p pos : Pos} {e : Expr} {es : List Expr} {t : TA}
theorem pe_cal (C : Cal X.prog X.w X.K X.mg X.base CX k x ps sp) (hr : Room j X.A) (hx : Passes CX X E0) (ha : PA X (e :: es) t) (hg : Gl X x := by rfl) (hkj : k ≤ j := by decide) (hdb : (x == ("__debug__" : Str)) = false := by decide)
    (he : starEach (e :: es) X.env = (false, eval e X.env) :: starEach es X.env := by rfl) (hpl : (backTo pos (starEach es X.env)).any (·.1) = false := by rfl) :
    PE X (.Call (.Name x p) (e :: es) [] pos) (tCall sp [] E0 t) := by
  obtain ⟨f, fd, F, gm, kp, b, _⟩ := C.ex
  exact pe_call F (hr.mono hkj) hg gm kp b .nil hx ha hdb he hpl
end
section
variable {X : Cx}
theorem pe_ty {x : Str} {n : String} {pos : Pos} (hm : X.mg x = none) (hv : bootBuiltins x = some (.type n)) (hg : Gl X x := by rfl) (hn : x ≠ "__name__" := by decide) (hd : (x == ("__debug__" : Str)) = false := by decide) :
    PE X (.Name x pos) (tC (.ty n)) := pe_bltn hg hm hv rfl hn hd
theorem pe_num {x : Str} {i : Int} {pos : Pos} (hm : ∃ t, X.mg x = some (.int i t)) (hg : Gl X x := by rfl) (hd : (x == ("__debug__" : Str)) = false := by decide) : PE X (.Name x pos) (tC (.int i)) := by
  obtain ⟨t, h⟩ := hm
  exact pe_glob hg h ⟨t, rfl⟩ hd
end
/-- a def of the text, by its name -/
structure Dfn (K : PySem.W.Frag) (mg : Str → Option Value) (x : Str) (st : Stmt) : Prop where
  ex : ∃ f fd, FnP K x st f fd ∧ mg x = some (.ref f)
section
variable {P : Program} {w : World} {K : PySem.W.Frag} {mg : Str → Option Value} {base : Heap}
theorem cal_pure {x : Str} {st : Stmt} {N ps : List Str} {k : Nat} {R : List PyData → PyData → Prop} (F : Dfn K mg x st) (S : FnScope N ps (defScope st)) (lens : ∀ ds d, R ds d → ds.length = ps.length)
    (b : ∀ f fd, FnP K x st f fd → Binds K fd ps [])
    (der : ∀ (f : Addr) (cdv : Value) (A : Around) (outer : List Env) (s : Shared) (H : Hp) (E : XK), Room k (A.deeper (envOfC x (defScope st) s.heap.objs.size f cdv)) →
      ∃ t, PSs (cxOf CX0 P w K mg base N x (defScope st) f cdv A outer s H E).nox (defBody st) t ∧ ∀ ds d, R ds d → Ss K t (ds.map .im ++ List.replicate (N.length - ds.length) .no) (fun _ => d = .none) (fun a _ => a = d)) :
    Cal P w K mg base CX0 (k + 1) x ps (spP (K := K) R) := by
  obtain ⟨f, fd, F, gf⟩ := F
  have hN : ps.length ≤ N.length := by
    have z := congrArg List.length S.pre
    rw [List.length_take] at z
    omega
  refine ⟨f, fd, F.ok S (fun vs H Q E h => ?_) (fun cdv A outer s H vs Q E hr h => ?_), gf, F.kp, b f fd F, st, F⟩
  · obtain ⟨G, ds, d, _, hd, r, _⟩ := h
    rw [hd.length]
    exact lens ds d r
  · obtain ⟨t, h1, body⟩ := der f cdv A outer s H E hr
    exact ⟨t, PSs.nox h1, ret_pure h (fun ds d r => by rw [lens ds d r]; exact hN) body⟩
/-! kinds of data, asked by isinstance -/
def isInt : PyData → Bool
  | .int _ => true
  | _ => false
def isBoo : PyData → Bool
  | .bool _ => true
  | _ => false
def isTup : PyData → Bool
  | .tuple _ => true
  | _ => false
theorem k_int (d : PyData) : kitB (tyN d) "int" = some (isInt d || isBoo d) := by
  cases d with
  | none => show kitB "NoneType" "int" = some false; decide +kernel
  | bool _ => show kitB "bool" "int" = some true; decide +kernel
  | int _ => show kitB "int" "int" = some true; decide +kernel
  | str _ => show kitB "str" "int" = some false; decide +kernel
  | list _ => show kitB "list" "int" = some false; decide +kernel
  | tuple _ => show kitB "tuple" "int" = some false; decide +kernel
  | dict _ => show kitB "dict" "int" = some false; decide +kernel
theorem k_bool (d : PyData) : kitB (tyN d) "bool" = some (isBoo d) := by
  cases d with
  | none => show kitB "NoneType" "bool" = some false; decide +kernel
  | bool _ => show kitB "bool" "bool" = some true; decide +kernel
  | int _ => show kitB "int" "bool" = some false; decide +kernel
  | str _ => show kitB "str" "bool" = some false; decide +kernel
  | list _ => show kitB "list" "bool" = some false; decide +kernel
  | tuple _ => show kitB "tuple" "bool" = some false; decide +kernel
  | dict _ => show kitB "dict" "bool" = some false; decide +kernel
theorem k_tuple (d : PyData) : kitB (tyN d) "tuple" = some (isTup d) := by
  cases d with
  | none => show kitB "NoneType" "tuple" = some false; decide +kernel
  | bool _ => show kitB "bool" "tuple" = some false; decide +kernel
  | int _ => show kitB "int" "tuple" = some false; decide +kernel
  | str _ => show kitB "str" "tuple" = some false; decide +kernel
  | list _ => show kitB "list" "tuple" = some false; decide +kernel
  | tuple _ => show kitB "tuple" "tuple" = some true; decide +kernel
  | dict _ => show kitB "dict" "tuple" = some false; decide +kernel
end
end Jn
set_option maxHeartbeats 4000000
namespace Jn
open PySem
open PySem.Spec PyProof.Rows
open L2
section
variable {P : Program} {w : World} {K : PySem.W.Frag} {mg : Str → Option Value} {base : Heap}
/-! ### is_integer -/
def R_is_integer (ds : List PyData) (d : PyData) : Prop := ∃ a, ds = [a] ∧ d = .bool (isInt a)
abbrev s_is_integer : Stmt := topS 7
theorem sc_is_integer : FnScope ["thing"] ["thing"] (defScope s_is_integer) := ⟨rfl, rfl, rfl, by decide +kernel, rfl, by decide +kernel, by decide +kernel⟩
theorem ok_is_integer (T : Tx mg) (F : Dfn K mg "is_integer" s_is_integer) : Cal P w K mg base CX0 1 "is_integer" ["thing"] (spP (K := K) R_is_integer) := by
  have nd := sc_is_integer.nd
  refine cal_pure F sc_is_integer (by rintro _ _ ⟨a, rfl, rfl⟩; rfl) (fun f fd F => F.bindsN fun _ _ _ _ _ _ us hl => match us, hl with | [_], _ => rfl) (fun f cdv A outer s H E hr => ⟨_,
      (pss_one (ps_ret (pe_and (pe_callB (id := "isinstance") (r := rIsi K) call_isi rfl T.isinstance (by decide +kernel) (pa_cons (pv 0) (pa_cons (pe_ty (n := "int") T.int (by decide +kernel)) pa_nil))) (pe_one (pe_not (pe_callB (id := "isinstance") (r := rIsi K) call_isi rfl T.isinstance (by decide +kernel) (pa_cons (pv 0) (pa_cons (pe_ty (n := "bool") T.bool (by decide +kernel)) pa_nil)))))))), ?_⟩)
  rintro _ _ ⟨a, rfl, rfl⟩
  refine ss_ret (ev_andV (ev_isi ev_var (k_int a)) fun _ => ev_notV (ev_isi ev_var (k_bool a))) ?_
  cases a <;> rfl
/-! ### is_row_of: told of a tuple -/
def lenIn (least most : Int) : PyData → Bool
  | .tuple ds => decide (least ≤ ds.length) && decide ((ds.length : Int) ≤ most)
  | _ => false
def R_is_row_of (ds : List PyData) (d : PyData) : Prop := ∃ a l m, ds = [a, .int l, .int m] ∧ d = .bool (lenIn l m a)
abbrev s_is_row_of : Stmt := topS 8
theorem sc_is_row_of : FnScope ["thing", "least", "most"] ["thing", "least", "most"] (defScope s_is_row_of) := ⟨rfl, rfl, rfl, by decide +kernel, rfl, by decide +kernel, by decide +kernel⟩
theorem ok_is_row_of (T : Tx mg) (F : Dfn K mg "is_row_of" s_is_row_of) : Cal P w K mg base CX0 1 "is_row_of" ["thing", "least", "most"] (spP (K := K) R_is_row_of) := by
  have nd := sc_is_row_of.nd
  refine cal_pure F sc_is_row_of (by rintro _ _ ⟨a, l, m, rfl, rfl⟩; rfl) (fun f fd F => F.bindsN fun _ _ _ _ _ _ us hl => match us, hl with | [_, _, _], _ => rfl) (fun f cdv A outer s H E hr => ⟨_,
      (pss_one (ps_ret (pe_and (pe_callB (id := "isinstance") (r := rIsi K) call_isi rfl T.isinstance (by decide +kernel) (pa_cons (pv 0) (pa_cons (pe_ty (n := "tuple") T.tuple (by decide +kernel)) pa_nil))) (pe_one (pe_chain op_le op_le (pv 1) (pe_callB (id := "len") (r := rLenS K) call_len_seq rfl T.len (by decide +kernel) (pa_cons (pv 0) pa_nil)) (pv 2)))))), ?_⟩)
  rintro _ _ ⟨a, l, m, rfl, rfl⟩
  refine ss_ret (d := .bool (isTup a && lenIn l m a)) (ev_andV (ev_isi ev_var (k_tuple a)) fun h => ?_) ?_
  · cases a with
    | tuple es => exact ev_chain ev_var (ev_lenT ev_var) (rv_i0 fun _ => .bl _) ev_var (rv_i0 fun _ => .bl _)
    | _ => cases h
  · cases a <;> first | rfl | (simp [isTup, lenIn])
end
end Jn
set_option maxHeartbeats 4000000
/-! rows of ints, tables, strands as data -/
namespace Jn
open PySem
open PySem.Spec PyProof.Rows
open L2
def dR (ns : List Int) : PyData := .tuple (ns.map .int)
def dT (t : List (List Int)) : PyData := .tuple (t.map dR)
def nats (p : List Nat) : List Int := p.map fun x : Nat => (x : Int)
def dS (p : List Nat) : PyData := dR (nats p)
/-- f's values at 0 .. n; a table's rows -/
def rowOf (n : Nat) (f : Nat → Int) : List Int := (List.range (n + 1)).map f
def tab (n : Nat) (f : Nat → Nat → Int) : List (List Int) := (List.range (n + 1)).map fun i => rowOf n (f i)
theorem rowOf_len {n : Nat} {f : Nat → Int} : (rowOf n f).length = n + 1 := by simp [rowOf]
theorem tab_len {n : Nat} {f : Nat → Nat → Int} : (tab n f).length = n + 1 := by simp [tab]
theorem rowOf_at {n j : Nat} {f : Nat → Int} (h : j ≤ n) : (rowOf n f)[j]? = some (f j) := by
  unfold rowOf
  rw [List.getElem?_map, List.getElem?_range (by omega)]
  rfl
theorem tab_at {n i : Nat} {f : Nat → Nat → Int} (h : i ≤ n) : (tab n f)[i]? = some (rowOf n (f i)) := by
  unfold tab
  rw [List.getElem?_map, List.getElem?_range (by omega)]
  rfl
theorem rowOf_congr {n : Nat} {f g : Nat → Int} (h : ∀ j, j ≤ n → f j = g j) : rowOf n f = rowOf n g :=
  List.map_congr_left fun j hj => h j (by have := List.mem_range.mp hj; omega)
theorem tab_congr {n : Nat} {f g : Nat → Nat → Int} (h : ∀ i j, i ≤ n → j ≤ n → f i j = g i j) : tab n f = tab n g :=
  List.map_congr_left fun i hi => rowOf_congr fun j hj => h i j (by have := List.mem_range.mp hi; omega) hj
/-! flatness -/
theorem lay_ints : ∀ ns : List Int, PyData.canLayAll0 (ns.map .int) = true
  | [] => by simp [PyData.canLayAll0]
  | n :: r => by simp [PyData.canLayAll0, PyData.canLay0, lay_ints r]
theorem deep_ints : ∀ ns : List Int, PyData.depthAll (ns.map .int) = 0
  | [] => by simp [PyData.depthAll]
  | n :: r => by simp [PyData.depthAll, PyData.depth, deep_ints r]
theorem dict_ints : ∀ ns : List Int, PyData.hasDictAll (ns.map .int) = false
  | [] => by simp [PyData.hasDictAll]
  | n :: r => by simp [PyData.hasDictAll, PyData.hasDict, dict_ints r]
theorem lay_rows : ∀ t : List (List Int), PyData.canLayAll0 (t.map dR) = true
  | [] => by simp [PyData.canLayAll0]
  | n :: r => by
    rw [List.map_cons]
    simp [PyData.canLayAll0, lay_rows r, dR, PyData.canLay0, lay_ints]
theorem deep_rows : ∀ t : List (List Int), PyData.depthAll (t.map dR) ≤ 1
  | [] => by simp [PyData.depthAll]
  | n :: r => by
    have := deep_rows r
    rw [List.map_cons]
    simp only [PyData.depthAll, dR, PyData.depth, deep_ints]
    omega
theorem dict_rows : ∀ t : List (List Int), PyData.hasDictAll (t.map dR) = false
  | [] => by simp [PyData.hasDictAll]
  | n :: r => by
    rw [List.map_cons]
    simp [PyData.hasDictAll, dict_rows r, dR, PyData.hasDict, dict_ints]
theorem shaped_ints (ns : List Int) : SeqAt.shaped (.list (ns.map .int)) = true := by
  simp [SeqAt.shaped, PyData.canLay0, lay_ints, PyData.depth, deep_ints]
theorem shaped_row (ns : List Int) : SeqAt.shaped (dR ns) = true := by
  simp [SeqAt.shaped, dR, PyData.canLay0, lay_ints, PyData.depth, deep_ints]
theorem shaped_tab (t : List (List Int)) : SeqAt.shaped (dT t) = true := by
  have := deep_rows t
  simp only [SeqAt.shaped, dT, PyData.canLay0, lay_rows, PyData.depth, Bool.true_and, decide_eq_true_eq]
  omega
theorem dict_row (ns : List Int) : (dR ns).hasDict = false := by simp [dR, PyData.hasDict, dict_ints]
theorem dict_lst (ns : List Int) : (PyData.list (ns.map .int)).hasDict = false := by simp [PyData.hasDict, dict_ints]
theorem dict_tab (t : List (List Int)) : (dT t).hasDict = false := by simp [dT, PyData.hasDict, dict_rows]
theorem eqv_ints : ∀ a b : List Int, PyData.eqvAll (a.map .int) (b.map .int) = decide (a = b)
  | [], [] => by simp [PyData.eqvAll]
  | [], _ :: _ => by simp [PyData.eqvAll]
  | _ :: _, [] => by simp [PyData.eqvAll]
  | x :: a, y :: b => by
    simp only [List.map_cons, PyData.eqvAll, PyData.eqv, eqv_ints a b]
    by_cases c : x = y
    · subst c; simp
    · simp [c]
theorem eqv_self : ∀ a : List Int, PyData.eqvAll (a.map .int) (a.map .int) = true := fun a => by rw [eqv_ints]; simp
theorem eqv_rows : ∀ t : List (List Int), PyData.eqvAll (t.map dR) (t.map dR) = true
  | [] => by simp [PyData.eqvAll]
  | x :: a => by simp [PyData.eqvAll, dR, PyData.eqv, eqv_self, eqv_rows a]
theorem eqv_tab (t : List (List Int)) : PyData.eqv (dT t) (dT t) = true := by simp [dT, PyData.eqv, eqv_rows]
/-! sorted -/
def srt (ns : List Int) : List Int := ns.mergeSort (fun a b => decide (a ≤ b))
theorem srt_is {ns ns' : List Int} (h : ns'.Perm ns) (s : ns'.Pairwise (· ≤ ·)) : ns' = srt ns := by
  have p := List.mergeSort_perm ns (fun a b => decide (a ≤ b))
  have q := List.pairwise_mergeSort (le := fun a b : Int => decide (a ≤ b)) (fun a b c h1 h2 => by simp at *; omega) (fun a b => by simp; omega) ns
  refine List.Perm.eq_of_pairwise (le := (· ≤ ·)) (fun a b _ _ h1 h2 => by omega) s (q.imp fun h => by simpa using h) (h.trans p.symm)
def rangeI (n : Nat) : List Int := (List.range n).map fun i : Nat => (i : Int)
theorem rangeI_sorted (n : Nat) : (rangeI n).Pairwise (· ≤ ·) := by
  unfold rangeI
  rw [List.pairwise_map]
  exact (List.pairwise_lt_range (n := n)).imp fun h => by omega
theorem srt_range {ns : List Int} {n : Nat} : decide (srt ns = rangeI n) = ns.isPerm (rangeI n) := by
  by_cases c : ns.Perm (rangeI n)
  · rw [List.isPerm_iff.mpr c, decide_eq_true]
    exact (srt_is c.symm (rangeI_sorted n)).symm
  · have h : ns.isPerm (rangeI n) = false := by
      cases e : ns.isPerm (rangeI n) with
      | false => rfl
      | true => exact absurd (List.isPerm_iff.mp e) c
    rw [h, decide_eq_false]
    intro e
    have p := List.mergeSort_perm ns (fun a b => decide (a ≤ b))
    rw [show ns.mergeSort (fun a b => decide (a ≤ b)) = rangeI n from e] at p
    exact c p.symm
section
variable {K : PySem.W.Frag} {ρ : Rho} {te tb : TE}
theorem ev_sortT {ns : List Int} (h : Ev K te ρ (dR ns)) (h64 : ns.length < 64) : Ev K (tCB (rSortT K) (tCons te tNil)) ρ (.list ((srt ns).map .int)) := ev_cb (ea_cons h ea_nil) fun vs G H Q e h q => by
  cases h with
  | cons h r =>
    cases r
    cases h with
    | @tup p ws _ hs ha =>
      have z := ha.ints
      subst z
      refine ⟨p, ns, rfl, ex_t e hs, h64, fun ns' t h1 h2 ht => ?_⟩
      rw [srt_is h1 h2]
      exact q _ _ _ (Gx.new e ht) (.lst (SqL.of upd_same) (dq_ints K _ _))
/-- list(range(n)) -/
theorem en_lstRg {n : Nat} (h : Ev K te ρ (.int n)) (hn : n ≤ 1000) : EvN K (tLstRg (tRg1 te)) ρ ((rangeI n).map .int) := fun σ G H Q e s q => h σ G H _ e s fun v G1 H1 g1 d1 => by
  cases d1
  refine ⟨n, rfl, RgOk.of_le (by omega) (by omega) (by omega) (by omega), fun p hp => q p _ G1 _ (Same.free g1.h hp) (Same.free g1.i hp) (g1.trans (Gx.more g1.i hp)) upd_same ?_⟩
  have e1 : rgV 0 (n : Int) = (rangeI n).map V.int := by
    unfold rgV rangeI
    rw [List.map_map]
    simp
  rw [e1]
  exact dq_ints K _ _
theorem ev_lstRg {n : Nat} (h : Ev K te ρ (.int n)) (hn : n ≤ 1000) : Ev K (tLstRg (tRg1 te)) ρ (.list ((rangeI n).map .int)) := (en_lstRg h hn).ev
end
end Jn
set_option maxHeartbeats 4000000
/-! further readings: calls of built-ins, lists that change -/
namespace Jn
open PySem
open PySem.Spec PyProof.Rows
open L2
section
variable {K : PySem.W.Frag} {ρ : Rho} {te ta tb tc : TE} {d : PyData}
theorem ev_max2 {i j : Int} (ha : Ev K ta ρ (.int i)) (hb : Ev K tb ρ (.int j)) : Ev K (tCB (fun xs H Q => ∃ i j, xs = [.int i, .int j] ∧ Q (.int (if j > i then j else i)) H) (tCons ta (tCons tb tNil))) ρ (.int (if j > i then j else i)) := ev_cb (ea_cons ha (ea_cons hb ea_nil)) fun vs G H Q e h q => by
  cases h with
  | cons h r =>
    cases h
    cases r with
    | cons h r =>
      cases h
      cases r
      exact ⟨i, j, rfl, q _ G H (.refl e) (.int _)⟩
theorem ev_min2 {i j : Int} (ha : Ev K ta ρ (.int i)) (hb : Ev K tb ρ (.int j)) : Ev K (tCB (fun xs H Q => ∃ i j, xs = [.int i, .int j] ∧ Q (.int (if j < i then j else i)) H) (tCons ta (tCons tb tNil))) ρ (.int (if j < i then j else i)) := ev_cb (ea_cons ha (ea_cons hb ea_nil)) fun vs G H Q e h q => by
  cases h with
  | cons h r =>
    cases h
    cases r with
    | cons h r =>
      cases h
      cases r
      exact ⟨i, j, rfl, q _ G H (.refl e) (.int _)⟩
theorem ev_strI {i : Int} (ha : Ev K ta ρ (.int i)) (hi : i.natAbs.log2 < 1920) : Ev K (tCB (fun xs H Q => ∃ i : Int, xs = [.int i] ∧ i.natAbs.log2 < 1920 ∧ Q (.str (toString i)) H) (tCons ta tNil)) ρ (.str (toString i)) := ev_cb (ea_cons ha ea_nil) fun vs G H Q e h q => by
  cases h with
  | cons h r =>
    cases h
    cases r
    exact ⟨i, rfl, hi, q _ G H (.refl e) (.str _)⟩
theorem ev_repr {ds : List PyData} (h : Ev K te ρ (.tuple ds)) (h1 : (PyData.tuple ds).showable = true) (h2 : (PyData.tuple ds).hasDict = false) (h3 : (PyData.tuple ds).depth ≤ 60) (h4 : (PyData.tuple ds).shown.length ≤ sizeLine) :
    Ev K (tCB (rRepr K) (tCons te tNil)) ρ (.str (PyData.tuple ds).shown) := ev_cb (ea_cons h ea_nil) fun vs G H Q e h q => by
  cases h with
  | cons h r =>
    cases r
    have hd := (h.mono e).toDp h2
    cases h with
    | @tup p ws _ hs ha => exact ⟨p, _, rfl, hd, h1, h2, h3, h4, q _ G H (.refl e) (.str _)⟩
theorem ev_revT {ds : List PyData} (h : Ev K te ρ (.tuple ds)) : Ev K (tRevT K te) ρ (.tuple ds.reverse) := fun σ G H Q e s q => h σ G H _ e s fun v G1 H1 g1 d1 => by
  cases d1 with
  | @tup p vs _ hs ha => exact ⟨p, vs, rfl, ex_t g1.i hs, fun t ht => q _ _ _ (g1.trans (Gx.new g1.i ht)) (.tup (SqT.of upd_same) (ha.reverse.mono (ex_new (Same.free g1.i ht))))⟩
theorem ev_revM {i : Nat} {o : Bool} {p : Addr} {ds : List PyData} (h : ρ[i]? = some (.ml o p ds)) : Ev K (tRevL K (tVar i)) ρ (.list ds.reverse) := fun σ G H Q e s q => by
  obtain ⟨h1, h2, vs, h3, h4⟩ := s.at_ i _ h
  exact ⟨_, h1, p, vs, rfl, SqL.of h3, fun t ht => q _ _ _ (Gx.new e ht) (.lst (SqL.of upd_same) (h4.reverse.mono (ex_new (Same.free e ht))))⟩
/-- sorted(set(ns)) -/
def uq (ns : List Int) : List Int := (rangeI 12).filter fun k => decide (k ∈ ns)
theorem uq_is {ns ms : List Int} (hr : ∀ k ∈ ns, 0 ≤ k ∧ k < 12) (h1 : ms.Pairwise (· < ·)) (h2 : ∀ k : Int, k ∈ ms ↔ k ∈ ns) : ms = uq ns := by
  have s : (uq ns).Pairwise (· < ·) := by
    unfold uq rangeI
    refine List.Pairwise.filter _ ?_
    rw [List.pairwise_map]
    exact (List.pairwise_lt_range (n := 12)).imp fun h => by omega
  have nd : ∀ {l : List Int}, l.Pairwise (· < ·) → l.Nodup := fun h => h.imp fun h => by omega
  have p : ms.Perm (uq ns) := (List.perm_ext_iff_of_nodup (nd h1) (nd s)).mpr fun k => by
    rw [h2 k]
    unfold uq rangeI
    rw [List.mem_filter, List.mem_map]
    constructor
    · intro h
      have := hr k h
      exact ⟨⟨k.toNat, List.mem_range.mpr (by omega), by omega⟩, by simpa using h⟩
    · rintro ⟨_, h⟩
      simpa using h
  exact List.Perm.eq_of_pairwise (le := (· ≤ ·)) (fun a b _ _ h1 h2 => by omega) (h1.imp fun h => by omega) (s.imp fun h => by omega) p
theorem ev_sortSet {w : World} {ns : List Int} (h : Ev K te ρ (.list (ns.map .int))) (hr : ∀ k ∈ ns, 0 ≤ k ∧ k < 12) (hl : ns.length ≤ 60) :
    Ev K (tCB (rSortedSet w) (tCons (tCB (rSetL' w K) (tCons te tNil)) tNil)) ρ (.list ((uq ns).map .int)) := fun σ G H Q e s q => h σ G H _ e s fun v G1 H1 g1 d1 => by
  cases d1 with
  | @lst p ws _ hs ha =>
    have z := ha.ints
    subst z
    refine ⟨p, ns, rfl, ex_l g1.i hs, by omega, fun t n ht hn => ⟨t, _, n, rfl, upd_same, by omega, fun ms t2 h1 h2 _ ht2 => ?_⟩⟩
    have em := uq_is hr h1 fun k => by rw [h2 k]; simp
    subst em
    have g2 := g1.trans (Gx.more (o := SetO w t (fun j => decide (j ∈ ns)) n) g1.i ht)
    exact q _ _ _ (g2.trans (Gx.new g2.i ht2)) (.lst (SqL.of upd_same) (dq_ints K _ _))
/-! ### lists that change -/
theorem ixNat {n j : Nat} (h : j < n) : ixN n (j : Int) = some j := by
  unfold ixN
  simp
  omega
theorem ev_index {i n : Nat} {o : Bool} {p : Addr} {ns : List Int} {k : Int} (h : ρ[i]? = some (.ml o p (ns.map .int))) (hb : Ev K tb ρ (.int k)) (hn : ns[n]? = some k) (hno : ∀ m, m < n → ns[m]? ≠ some k) :
    Ev K (tBM K "list" (rIndex K) (tVar i) (tCons tb tNil)) ρ (.int n) := fun σ G H Q e s q => by
  obtain ⟨h1, h2, vs, h3, h4⟩ := s.at_ i _ h
  have z := h4.ints
  subst z
  refine ⟨_, h1, tyv_l (G := G) h3, hb σ G H _ e s fun v G1 H1 g1 d1 => ?_⟩
  cases d1
  refine ⟨p, ns.map V.int, .int k, n, .int k, rfl, rfl, SqL.of (g1.h _ _ h3), rfl, by simp [flatV], by rw [List.getElem?_map, hn]; rfl, by simp [eqV], fun m z hm hz => ?_, q _ G1 H1 g1 (.int _)⟩
  rw [List.getElem?_map] at hz
  cases e2 : ns[m]? with
  | none => rw [e2] at hz; cases hz
  | some y =>
    rw [e2] at hz
    cases hz
    have ne : y ≠ k := fun z => hno m hm (by rw [e2, z])
    simp [eqV, ne]
end
section
variable {K : PySem.W.Frag} {ρ : Rho} {te ta tb : TE} {tt tu : TT} {t u : TS} {N N1 : Rho → Prop} {R : PyData → Rho → Prop} {d : PyData}
/-- xs[n] = e -/
theorem ss_setI {i n : Nat} {o : Bool} {p : Addr} {ds : List PyData} (hi : ρ[i]? = some (.ml o p ds)) (h : Ev K te ρ d) (hn : n < ds.length) (hN : N (ρ.set i (.ml o p (ds.set n d)))) :
    Ss K (tAsg te (gSub (tVar i) (tC (.int n)) rSetL)) ρ N R := fun S G0 H0 σ G H D k nx r =>
  h σ G H _ k.f.i k.s fun v G1 H1 g1 d1 => by
    have k1 := k.go g1
    obtain ⟨s1, s2, vs, s3, s4⟩ := k1.s.at_ i _ hi
    exact ⟨_, s1, p, vs, n, n, rfl, rfl, s3, ixNat (by rw [s4.length]; exact hn), nx _ _ _ _ hN (k1.write hi (s4.set d1 n))⟩
/-- a, b = a pair -/
theorem ss_asg2 {i j : Nat} {d1 d2 : PyData} (h : Ev K te ρ (.tuple [d1, d2])) (hn : N ((ρ.set i (.im d1)).set j (.im d2))) (hi : (ρ[i]?).isSome = true := by rfl) (hj : (ρ[j]?).isSome = true := by rfl) (hij : i ≠ j := by decide) :
    Ss K (tAsg te (gTup K 2 (gCons (gName i) (gCons (gName j) gNil)))) ρ N R := fun S G0 H0 σ G H D k n r =>
  h σ G H _ k.f.i k.s fun v G1 H1 g1 dq => by
    have k1 := k.go g1
    cases dq with
    | @tup q vs _ hs hd =>
      cases hd with
      | @cons x _ _ _ q1 hd =>
        cases hd with
        | @cons y _ _ _ q2 hd =>
          cases hd
          exact ⟨q, [x, y], rfl, ex_t g1.i hs, rfl, x, [y], rfl, y, [], rfl, rfl, n _ _ _ _ hn ((k1.put q1 hi).put (i := j) q2 (by rw [List.getElem?_set_ne hij]; exact hj))⟩
/-- xs.extend(a new list) -/
theorem ss_ext {i : Nat} {o : Bool} {p : Addr} {ds es : List PyData} (hi : ρ[i]? = some (.ml o p ds)) (h : EvN K te ρ es) (hz : ds.length + es.length ≤ 100000) (hN : N (ρ.set i (.ml o p (ds ++ es)))) :
    Ss K (tDrop (tBM K "list" rExtend (tVar i) (tCons te tNil))) ρ N R := fun S G0 H0 σ G H D k n r => by
  obtain ⟨s1, s2, vs, s3, s4⟩ := k.s.at_ i _ hi
  refine ⟨_, s1, tyv_l (G := G) s3, h σ G H _ k.f.i k.s fun b ws G1 H1 h0 h1 g1 h2 d1 => ?_⟩
  have k1 := k.go g1
  obtain ⟨_, _, vs', s3', s4'⟩ := k1.s.at_ i _ hi
  refine ⟨p, b, vs', ws, rfl, rfl, s3', h2, by rw [sizeLine_eq, s4'.length, d1.length]; omega, ?_⟩
  exact n _ _ _ _ hN (k1.write hi (s4'.append d1))
/-- xs[a], xs[b] = e, f -/
theorem ss_swap {i a b : Nat} {o : Bool} {p : Addr} {ds : List PyData} {d1 d2 : PyData} {tx ty : TE} (hi : ρ[i]? = some (.ml o p ds)) (h1 : Ev K ta ρ d1) (h2 : Ev K tb ρ d2)
    (hx : ∀ ds', Ev K tx (ρ.set i (.ml o p ds')) (.int a)) (hy : ∀ ds', Ev K ty (ρ.set i (.ml o p ds')) (.int b)) (ha : a < ds.length) (hb : b < ds.length) (hN : N (ρ.set i (.ml o p ((ds.set a d1).set b d2)))) :
    Ss K (tAsg (tTup (tCons ta (tCons tb tNil))) (gTup K 2 (gCons (gSub (tVar i) tx rSetL) (gCons (gSub (tVar i) ty rSetL) gNil)))) ρ N R := fun S G0 H0 σ G H D k n r => by
  have ht : Ev K (tTup (tCons ta (tCons tb tNil))) ρ (.tuple [d1, d2]) := ev_tup (ea_cons h1 (ea_cons h2 ea_nil)) (by simp)
  refine ht σ G H _ k.f.i k.s fun v G1 H1 g1 dq => ?_
  have k1 := k.go g1
  cases dq with
  | @tup q vs _ hs hd =>
    cases hd with
    | @cons x _ _ _ q1 hd =>
      cases hd with
      | @cons y _ _ _ q2 hd =>
        cases hd
        have same : ρ.set i (.ml o p ds) = ρ := by
          refine List.ext_getElem? fun j => ?_
          by_cases c : i = j
          · subst c
            rw [List.getElem?_set_self (is_lt (by rw [hi]; rfl)), hi]
          · rw [List.getElem?_set_ne c]
        refine ⟨q, [x, y], rfl, ex_t g1.i hs, rfl, x, [y], rfl, ?_⟩
        obtain ⟨s1, s2, ws, s3, s4⟩ := k1.s.at_ i _ hi
        refine ⟨_, s1, ?_⟩
        have hx0 := hx ds
        rw [same] at hx0
        refine hx0 σ G1 H1 _ k1.f.i k1.s fun vx G2 H2 g2 dx => ?_
        cases dx
        have k2 := k1.go g2
        obtain ⟨_, _, ws2, s32, s42⟩ := k2.s.at_ i _ hi
        refine ⟨p, ws2, a, a, rfl, rfl, s32, ixNat (by rw [s42.length]; exact ha), ?_⟩
        have k3 := k2.write hi (s42.set (q1.mono g2.g) a)
        have hi3 : (ρ.set i (.ml o p (ds.set a d1)))[i]? = some (.ml o p (ds.set a d1)) := List.getElem?_set_self (is_lt (by rw [hi]; rfl))
        obtain ⟨s13, _, ws3, s33, s43⟩ := k3.s.at_ i _ hi3
        refine ⟨y, [], rfl, _, s13, ?_⟩
        refine hy _ σ _ _ _ k3.f.i k3.s fun vy G4 H4 g4 dy => ?_
        cases dy
        have k4 := k3.go g4
        obtain ⟨_, _, ws4, s34, s44⟩ := k4.s.at_ i _ hi3
        refine ⟨p, ws4, b, b, rfl, rfl, s34, ixNat (by rw [s44.length, List.length_set]; exact hb), rfl, ?_⟩
        have k5 := k4.write hi3 (s44.set ((q2.mono g2.g).mono g4.g) b)
        rw [List.set_set] at k5
        exact n _ _ _ _ hN k5
end
end Jn
namespace Jn
open PySem
open PySem.Spec PyProof.Rows
open L2
/-! rules with the fragment named -/
section
variable {X : Cx} {K : PySem.W.Frag} {tg l e e2 : Expr} {tl : TE} {ta : TA} {p pos tpos : Pos} {elts : List Expr} {kk : Nat}
theorem pi_tupK (h : PE X l tl) (hK : X.K = K := by rfl) : PI X tg l (iTup K tl) := hK ▸ pi_tup h
theorem pi_listK (h : PE X l tl) (hK : X.K = K := by rfl) : PI X tg l (iList K tl) := hK ▸ pi_list h
theorem pi_zipAK (hg : Gl X "zip") (hm : X.mg "zip" = none) (ha : PA X [e, e2] ta) (hK : X.K = K := by rfl)
    (hs : starEach [e, e2] X.env = (false, eval e X.env) :: starEach [e2] X.env := by rfl) (hpl : (backTo pos (starEach [e2] X.env)).any (·.1) = false := by rfl) :
    PI X (.Tuple elts kk tpos) (.Call (.Name "zip" p) [e, e2] [] pos) (RZ.iZipA K ta) := hK ▸ RZ.pi_zipA hg hm ha hs hpl
theorem pi_enumTK (hg : Gl X "enumerate") (hm : X.mg "enumerate" = none) (ha : PA X [e] ta) (hK : X.K = K := by rfl)
    (hs : starEach [e] X.env = [(false, eval e X.env)] := by rfl) : PI X (.Tuple elts kk tpos) (.Call (.Name "enumerate" p) [e] [] pos) (iEnumT K ta) := hK ▸ pi_enumT hg hm ha hs
theorem pg_pairK {e1 e2 : Expr} {t1 t2 : TG} (h1 : PG X e1 t1) (h2 : PG X e2 t2) (hc : X.calm = true := by rfl) (hK : X.K = K := by rfl) (hm : (assignEach [e1, e2] X.env).map (·.2) = assign e1 X.env :: (assignEach [e2] X.env).map (·.2) := by rfl)
    (hm2 : (assignEach [e2] X.env).map (·.2) = assign e2 X.env :: (assignEach [] X.env).map (·.2) := by rfl) (hl : (assignEach [e1, e2] X.env).length = 2 := by rfl) (hst : (assignEach [e1, e2] X.env).findIdx? (·.1) = none := by rfl) :
    PG X (.Tuple [e1, e2] kk pos) (gTup K 2 (gCons t1 (gCons t2 gNil))) := hK ▸ pg_tup hc (pgs_cons h1 (pgs_cons h2 pgs_nil hm2) hm) hl hst
end
end Jn
set_option maxHeartbeats 4000000
namespace Jn
open PySem
open PySem.Spec PyProof.Rows
open L2
open Ma
section
variable {K : PySem.W.Frag} {ρ : Rho} {te ta tb : TE} {wi : TI}
theorem ev_allC {α : Type} {xs : List α} {p : α → Bool} (h : Ev K te ρ (.list (xs.map fun x => .bool (p x)))) : Ev K (tCB (rAll K) (tCons te tNil)) ρ (.bool (xs.all p)) := by
  have e : (xs.map fun x => PyData.bool (p x)) = (xs.map p).map .bool := by rw [List.map_map]; rfl
  rw [e] at h
  have z := ev_all h
  rw [List.all_map] at z
  exact z
theorem ev_anyC {α : Type} {xs : List α} {p : α → Bool} (h : Ev K te ρ (.list (xs.map fun x => .bool (p x)))) : Ev K (tCB (rAny K) (tCons te tNil)) ρ (.bool (xs.any p)) := by
  have e : (xs.map fun x => PyData.bool (p x)) = (xs.map p).map .bool := by rw [List.map_map]; rfl
  rw [e] at h
  have z := ev_any h
  rw [List.any_map] at z
  exact z
theorem ew_id {xs : List PyData} (h : EvW K wi ρ xs) : EvW K wi ρ (xs.map id) := by rw [List.map_id]; exact h
theorem EvW.is {xs ys : List PyData} (h : EvW K wi ρ xs) (e : xs = ys) : EvW K wi ρ ys := e ▸ h
end
def unI : PyData → Int
  | .int i => i
  | _ => 0
theorem all_ints : ∀ {ds : List PyData}, ds.all isInt = true → ds = (ds.map unI).map .int
  | [], _ => rfl
  | d :: r, h => by
    rw [List.all_cons, Bool.and_eq_true] at h
    rw [List.map_cons, List.map_cons, ← all_ints h.2]
    cases d with
    | int i => rfl
    | _ => cases h.1
def isStr : PyData → Bool
  | .tuple ds => decide (1 ≤ ds.length) && decide (ds.length ≤ 12) && ds.all isInt && (ds.map unI).isPerm (rangeI ds.length)
  | _ => false
theorem unI_ints (ns : List Int) : (ns.map PyData.int).map unI = ns := by
  rw [List.map_map]
  exact List.map_id _
theorem isInt_ints (ns : List Int) : (ns.map PyData.int).all isInt = true := by
  rw [List.all_map]
  exact List.all_eq_true.mpr fun _ _ => rfl
theorem nats_len (p : List Nat) : (nats p).length = p.length := by simp [nats]
theorem isStr_perm {n : Nat} {p : List Nat} (h : p.Perm (List.range n)) (h1 : 1 ≤ n) (h2 : n ≤ 12) : isStr (dS p) = true := by
  have hl := perm_len h
  have hp : (nats p).Perm (rangeI n) := h.map _
  simp only [isStr, dS, dR, List.length_map, nats_len, hl, isInt_ints, unI_ints]
  simp [h1, h2, List.isPerm_iff.mpr hp]
/-! rows, numbered or paired -/
theorem rowI {n : Nat} {f : Nat → Int} : (rowOf n f).map PyData.int = (List.range (n + 1)).map fun j => .int (f j) := by
  unfold rowOf; rw [List.map_map]; rfl
theorem tabI {n : Nat} {f : Nat → Nat → Int} : (tab n f).map dR = (List.range (n + 1)).map fun i => dR (rowOf n (f i)) := by
  unfold tab; rw [List.map_map]; rfl
theorem dR_row {n : Nat} {f : Nat → Int} : dR (rowOf n f) = .tuple ((List.range (n + 1)).map fun j => .int (f j)) := by unfold dR; rw [rowI]
theorem dT_tab {n : Nat} {f : Nat → Nat → Int} : dT (tab n f) = .tuple ((List.range (n + 1)).map fun i => dR (rowOf n (f i))) := by unfold dT; rw [tabI]
theorem numbered_map {n : Nat} (g : Nat → PyData) : numbered ((List.range n).map g) = (List.range n).map fun j : Nat => .tuple [.int (j : Int), g j] := by
  unfold numbered
  refine List.ext_getElem? fun i => ?_
  by_cases c : i < n
  · simp [c]
  · simp [c]
theorem pairs_map {n : Nat} (g h : Nat → PyData) : pairs ((List.range n).map g) ((List.range n).map h) = (List.range n).map fun j : Nat => .tuple [g j, h j] := by
  unfold pairs
  refine List.ext_getElem? fun i => ?_
  by_cases c : i < n
  · simp [c]
  · simp [c]
theorem map_at {p : List Nat} {n : Nat} (h : p.length = n) {β : Type} (g : Nat → β) : (List.range n).map (fun i => g (p.getD i 0)) = p.map g := by
  refine List.ext_getElem? fun i => ?_
  by_cases c : i < n
  · have c2 : i < p.length := by omega
    simp [c, c2]
  · simp [c, h]
section
variable {P : Program} {w : World} {K : PySem.W.Frag} {mg : Str → Option Value} {base : Heap}
/-! ### are_integers -/
def R_are_integers (ds : List PyData) (d : PyData) : Prop := ∃ ns : List Int, ns.length ≤ 100 ∧ ds = [dR ns, .int ns.length] ∧ d = .bool true
abbrev s_are_integers : Stmt := topS 9
theorem sc_are_integers : FnScope ["thing", "many", "one"] ["thing", "many"] (defScope s_are_integers) := ⟨rfl, rfl, rfl, by decide +kernel, rfl, by decide +kernel, by decide +kernel⟩
theorem ok_are_integers (T : Tx mg) (F : Dfn K mg "are_integers" s_are_integers) (C_is_integer : Cal P w K mg base CX0 1 "is_integer" ["thing"] (spP (K := K) R_is_integer)) (C_is_row_of : Cal P w K mg base CX0 1 "is_row_of" ["thing", "least", "most"] (spP (K := K) R_is_row_of)) :
    Cal P w K mg base CX0 2 "are_integers" ["thing", "many"] (spP (K := K) R_are_integers) := by
  have nd := sc_are_integers.nd
  refine cal_pure F sc_are_integers (by rintro _ _ ⟨a, _, rfl, rfl⟩; rfl) (fun f fd F => F.bindsN fun _ _ _ _ _ _ us hl => match us, hl with | [_, _], _ => rfl) (fun f cdv A outer s H E hr => ⟨_,
      (pss_one (ps_ret (pe_and (pe_cal C_is_row_of hr pass0 (pa_cons (pv 0) (pa_cons (pv 1) (pa_cons (pv 1) pa_nil)))) (pe_one (pe_callB (id := "all") (r := rAll K) (cr_all rfl) rfl T.all (by decide +kernel) (pa_cons (pe_lc (own := [("one", 2)]) rfl nd (pi_tupK (K := K) (pv 0)) (blkOk_by (by kernel_rfl)) (fun _ _ _ _ _ => (pg_name (i := 2) nd rfl (.inl rfl) (.inr rfl))) (fun _ _ _ _ _ => pts_nil) (fun _ _ _ _ _ => (pe_cal C_is_integer hr pass0 (pa_cons (pv 2) pa_nil)))) pa_nil)))))), ?_⟩)
  rintro _ _ ⟨ns, hl, rfl, rfl⟩
  refine ss_ret (d := .bool (true && ns.all fun _ => true)) (ev_andV (ev_call (R := R_is_row_of) (d := .bool true) (ea_cons ev_var (ea_cons ev_var (ea_cons ev_var ea_nil))) ⟨_, _, _, rfl, by simp [lenIn, dR]⟩) fun _ => ev_allC (ev_lc (emb := .int) _ (ew_tup ev_var) (fun x hx => ev_call (R := R_is_integer) (ea_cons ev_var ea_nil) ⟨_, rfl, rfl⟩) (by omega))) ?_
  simp
/-! ### are_strands -/
def R_are_strands (ds : List PyData) (d : PyData) : Prop := ∃ a, ds = [a] ∧ d = .bool (isStr a)
abbrev s_are_strands : Stmt := topS 12
theorem sc_are_strands : FnScope ["thing", "end"] ["thing"] (defScope s_are_strands) := ⟨rfl, rfl, rfl, by decide +kernel, rfl, by decide +kernel, by decide +kernel⟩
theorem ok_are_strands (T : Tx mg) (F : Dfn K mg "are_strands" s_are_strands) (C_is_integer : Cal P w K mg base CX0 1 "is_integer" ["thing"] (spP (K := K) R_is_integer)) :
    Cal P w K mg base CX0 2 "are_strands" ["thing"] (spP (K := K) R_are_strands) := by
  have nd := sc_are_strands.nd
  refine cal_pure F sc_are_strands (by rintro _ _ ⟨a, rfl, rfl⟩; rfl) (fun f fd F => F.bindsN fun _ _ _ _ _ _ us hl => match us, hl with | [_], _ => rfl) (fun f cdv A outer s H E hr => ⟨_,
      (pss_cons (ps_if (PW.pt (pw_or (pt_not (pt_val (pe_callB (id := "isinstance") (r := rIsi K) call_isi rfl T.isinstance (by decide +kernel) (pa_cons (pv 0) (pa_cons (pe_ty (n := "tuple") T.tuple (by decide +kernel)) pa_nil))))) (pw_or1 (pt_not (pt_chain op_le op_le pe_int (pe_callB (id := "len") (r := rLenS K) call_len_seq rfl T.len (by decide +kernel) (pa_cons (pv 0) pa_nil)) (pe_num T.ms)))))) (pss_one (ps_ret pe_bl)) pss_nil)
      (pss_cons (ps_if (pt_not (pt_val (pe_callB (id := "all") (r := rAll K) (cr_all rfl) rfl T.all (by decide +kernel) (pa_cons (pe_lc (own := [("end", 1)]) rfl nd (pi_tupK (K := K) (pv 0)) (blkOk_by (by kernel_rfl)) (fun _ _ _ _ _ => (pg_name (i := 1) nd rfl (.inl rfl) (.inr rfl))) (fun _ _ _ _ _ => pts_nil) (fun _ _ _ _ _ => (pe_cal C_is_integer hr pass0 (pa_cons (pv 1) pa_nil)))) pa_nil)))) (pss_one (ps_ret pe_bl)) pss_nil)
      (pss_one (ps_ret (pe_cmpR (r := rEqD K) (op_eqD hr.units) (pe_callB (id := "sorted") (r := rSortT K) cr_sortT rfl T.sorted (by decide +kernel) (pa_cons (pv 0) pa_nil)) (pe_listRg rfl rfl T.list (prg_1 rfl T.range (pe_callB (id := "len") (r := rLenS K) call_len_seq rfl T.len (by decide +kernel) (pa_cons (pv 0) pa_nil)))) (nomark _)))))), ?_⟩)
  rintro _ _ ⟨a, rfl, rfl⟩
  refine ss_seq (N1 := fun r => r = [.im a, .no] ∧ ∃ ds, a = .tuple ds ∧ 1 ≤ ds.length ∧ ds.length ≤ 12) (ss_if (b := !isTup a || !lenIn 1 12 a) (et_or (et_not (et_B (ev_isi ev_var (k_tuple a)))) fun h => et_not (et_test ?_)) (fun h => ss_ret ev_bl ?_) fun h => ss_next ?_) ?_
  · cases a with
    | tuple es => exact ev_chain ev_int (ev_lenT ev_var) (rv_i0 fun _ => .bl _) ev_int (rv_i0 fun _ => .bl _)
    | _ => cases h
  · cases a with
    | tuple es =>
      have h' : lenIn 1 12 (.tuple es) = false := by simpa [isTup] using h
      have : (decide (1 ≤ es.length) && decide (es.length ≤ 12)) = false := by
        rw [← h']
        simp only [lenIn]
        congr 1 <;> (apply decide_eq_decide.mpr; omega)
      simp only [isStr, this, Bool.false_and]
    | _ => rfl
  · refine ⟨rfl, ?_⟩
    cases a with
    | tuple es =>
      have h' : lenIn 1 12 (.tuple es) = true := by simpa [isTup] using h
      simp only [lenIn, Bool.and_eq_true, decide_eq_true_eq] at h'
      exact ⟨es, rfl, by omega, by omega⟩
    | _ => cases h
  rintro _ ⟨rfl, ds, rfl, h1, h2⟩
  refine ss_seq (N1 := fun r => r = [.im (.tuple ds), .no] ∧ ds.all isInt = true) (ss_if (et_not (et_B (ev_allC (ev_lc (emb := id) _ (ew_id (ew_tup ev_var)) (fun x hx => ev_call (R := R_is_integer) (ea_cons ev_var ea_nil) ⟨_, rfl, rfl⟩) (by omega))))) (fun h => ss_ret ev_bl ?_) fun h => ss_next ?_) ?_
  · have h' : ds.all isInt = false := by simpa using h
    simp [isStr, h']
  · exact ⟨rfl, by simpa using h⟩
  rintro _ ⟨rfl, h3⟩
  have e := all_ints h3
  generalize hns : ds.map unI = ns at e
  subst e
  rw [List.length_map] at h1 h2
  refine ss_ret (ev_op (ev_sortT ev_var (by omega)) (ev_lstRg (n := ns.length) ((ev_lenT ev_var).is (by rw [List.length_map])) (by omega)) (rv_eqD (shaped_ints _) (shaped_ints _) (dict_lst _) (dict_lst _))) ?_
  simp only [PyData.eqv, eqv_ints, srt_range, isStr, isInt_ints, unI_ints, List.length_map]
  simp [h1, h2]
/-! ### counts_of -/
def R_counts_of (ds : List PyData) (d : PyData) : Prop := ∃ p : List Nat, 1 ≤ p.length ∧ p.length ≤ 12 ∧ ds = [dS p] ∧ d = dT (tab p.length (cn p))
abbrev s_counts_of : Stmt := topS 13
theorem sc_counts_of : FnScope ["strands", "row", "rows", "end", "to", "number"] ["strands"] (defScope s_counts_of) := ⟨rfl, rfl, rfl, by decide +kernel, rfl, by decide +kernel, by decide +kernel⟩
theorem ok_counts_of (T : Tx mg) (F : Dfn K mg "counts_of" s_counts_of) :
    Cal P w K mg base CX0 1 "counts_of" ["strands"] (spP (K := K) R_counts_of) := by
  have nd := sc_counts_of.nd
  refine cal_pure F sc_counts_of (by rintro _ _ ⟨a, _, _, rfl, rfl⟩; rfl) (fun f fd F => F.bindsN fun _ _ _ _ _ _ us hl => match us, hl with | [_], _ => rfl) (fun f cdv A outer s H E hr => ⟨_,
      (pss_cons (ps_set (i := 1) nd rfl (.inl rfl) (pe_op (r := rRepT K) op_repT (pe_tup (pa_cons pe_int pa_nil)) (pe_op op_add (pe_callB (id := "len") (r := rLenS K) call_len_seq rfl T.len (by decide +kernel) (pa_cons (pv 0) pa_nil)) pe_int)))
      (pss_cons (ps_set (i := 2) nd rfl (.inl rfl) (pe_lst (pa_cons (pv 1) pa_nil)))
      (pss_cons (ps_for PassesOwn.never rfl (pi_tupK (K := K) (pe_revT (pv 0))) (pg_name (i := 3) nd rfl (.inr rfl) (.inl rfl)) (pss_cons (ps_set (i := 1) nd rfl (.inl rfl) (pe_callTy (T := "tuple") (r := rTupS K) call_tuple_of rfl T.tuple (by decide +kernel) (pa_cons (pe_lc (own := [("to", 4), ("number", 5)]) rfl nd (pi_enumTK (K := K) rfl T.enumerate (pa_cons (pv 1) pa_nil)) (blkOk_by (by kernel_rfl)) (fun _ _ _ _ _ => (pg_pairK (K := K) (pg_name (i := 4) nd rfl (.inl rfl) (.inr rfl)) (pg_name (i := 5) nd rfl (.inl rfl) (.inr rfl)))) (fun _ _ _ _ _ => pts_nil) (fun _ _ _ _ _ => (pe_op op_add (pv 5) (pe_callTy (T := "int") call_int1 rfl T.int (by decide +kernel) (pa_cons (pe_cmpR op_gt (pv 4) (pv 3) (nomark _)) pa_nil))))) pa_nil)))
      (pss_one (ps_expr (pe_bm PySem.F.plainAttrs_list PySem.F.slot_list_append PySem.F.type_list_append mt_append (pv 2) (pa_cons (pv 1) pa_nil))))))
      (pss_one (ps_ret (pe_callTy (T := "tuple") (r := rTupS K) call_tuple_of rfl T.tuple (by decide +kernel) (pa_cons (pe_revL (pv 2)) pa_nil))))))), ?_⟩)
  rintro _ _ ⟨p, h1, h2, rfl, rfl⟩
  have hl := nats_len p
  generalize hn : p.length = n at h1 h2 hl ⊢
  have row0 : (List.replicate ((n : Int) + 1).toNat [PyData.int 0]).flatten = (rowOf n (cn p n)).map .int := by
    rw [rowI, show ((n : Int) + 1).toNat = n + 1 by omega]
    refine List.ext_getElem? fun i => ?_
    rw [List.flatten_replicate_singleton]
    by_cases c : i < n + 1
    · simp [c, cn_end (p := p) (i := n) (by omega)]
    · simp [c]
  refine ss_seq (N1 := fun r => r = [.im (dS p), .im (dR (rowOf n (cn p n))), .no, .no, .no, .no]) (ss_asg (d := dR (rowOf n (cn p n))) ((ev_op (ev_tup (ea_cons ev_int ea_nil) (by simp)) (ev_add ((ev_lenT ev_var).is (by rw [List.length_map, hl])) ev_int) (rv_rep (by simp) (by omega) (by omega) (by simp))).is (by rw [row0]; rfl)) rfl) ?_
  rintro _ rfl
  refine ss_seq (N1 := fun r => ∃ q, r = [.im (dS p), .im (dR (rowOf n (cn p n))), .ml true q [dR (rowOf n (cn p n))], .no, .no, .no]) (ss_asgN (en_lst (ea_cons ev_var ea_nil) (by simp)) fun q => ⟨q, rfl⟩) ?_
  rintro _ ⟨q, rfl⟩
  let rws := fun i : Nat => (List.range (i + 1)).map fun m => dR (rowOf n (cn p (n - m)))
  refine ss_seq (N1 := fun r => ∃ q, r = [.im (dS p), .im (dR (rowOf n (cn p 0))), .ml true q (rws n), .no, .no, .no])
    (ss_for (I := fun i r => r = [.im (dS p), .im (dR (rowOf n (cn p (n - i)))), .ml true q (rws i), .no, .no, .no]) (ew_tup (ev_revT ev_var)) rfl (by rintro i _ rfl; rfl) ?_ ?_) ?_
  · rintro i hi _ rfl
    have hi' : i < n := by simpa [hl] using hi
    have hx : ((nats p).map PyData.int).reverse[i] = .int ((p[n - 1 - i]'(by omega) : Nat) : Int) := by
      simp [nats, hn]
    rw [hx]
    have st : ∀ j : Nat, cn p (n - i) j + (if decide (((p[n - 1 - i]'(by omega) : Nat) : Int) < (j : Int)) then 1 else 0) = cn p (n - (i + 1)) j := by
      intro j
      have a := cn_step (p := p) (i := n - (i + 1)) (j := j) (by omega)
      rw [show n - (i + 1) + 1 = n - i by omega] at a
      rw [a, Int.add_comm]
      congr 1
      unfold b2
      have : (((p[n - 1 - i]'(by omega) : Nat) : Int) < (j : Int)) ↔ p[n - (i + 1)]'(by omega) < j := by
        have e : n - (i + 1) = n - 1 - i := by omega
        simp only [e]
        omega
      simp only [this]
    refine ss_seq (N1 := fun r => r = [.im (dS p), .im (dR (rowOf n (cn p (n - (i + 1))))), .ml true q (rws i), .im (.int ((p[n - 1 - i]'(by omega) : Nat) : Int)), .no, .no]) (ss_asg (d := dR (rowOf n (cn p (n - (i + 1))))) ((ev_tupL (ev_lc2 (xs := List.range (n + 1)) (e1 := fun j : Nat => .int (j : Int)) (e2 := fun j => .int (cn p (n - i) j)) _ ((ew_enumT ev_var).is (by rw [rowI, numbered_map])) (fun j hj => ev_add ev_var (ev_intB (ev_cmpI (p := fun i j => decide (j < i)) ev_var ev_var))) (by simp; omega))).is ?_) rfl) ?_
    · rw [dR_row]
      congr 1
      refine List.map_congr_left fun j _ => ?_
      rw [← st j]
    · rintro _ rfl
      refine ss_app rfl ev_var (by simp only [rws, List.length_map, List.length_range]; omega) ?_
      show _ = _
      have e : rws (i + 1) = rws i ++ [dR (rowOf n (cn p (n - (i + 1))))] := by
        simp only [rws]
        rw [List.range_succ, List.map_append]
        rfl
      rw [e]
      rfl
  · rintro r hr
    have e : ((nats p).map PyData.int).reverse.length = n := by simp [hl]
    rw [e, Nat.sub_self] at hr
    exact ⟨q, hr⟩
  · rintro _ ⟨q, rfl⟩
    refine ss_ret (ev_tupL (ev_revM rfl)) ?_
    rw [dT_tab]
    congr 1
    refine List.ext_getElem? fun i => ?_
    by_cases c : i < n + 1
    · rw [List.getElem?_reverse (by simpa [rws] using c)]
      have c2 : n - i < n + 1 := by omega
      simp [rws, c, c2]
      congr 3
      omega
    · simp [rws, c]
end
end Jn
set_option maxHeartbeats 4000000
namespace Jn
open PySem
open PySem.Spec PyProof.Rows
open L2
open Ma
section
variable {P : Program} {w : World} {K : PySem.W.Frag} {mg : Str → Option Value} {base : Heap}
/-! ### are_counts_rows -/
def R_are_counts_rows (ds : List PyData) (d : PyData) : Prop := ∃ (n : Nat) (f : Nat → Nat → Int), 1 ≤ n ∧ n ≤ 12 ∧ ds = [dT (tab n f)] ∧ d = .bool true
abbrev s_are_counts_rows : Stmt := topS 14
theorem sc_are_counts_rows : FnScope ["thing", "row", "number"] ["thing"] (defScope s_are_counts_rows) := ⟨rfl, rfl, rfl, by decide +kernel, rfl, by decide +kernel, by decide +kernel⟩
theorem ok_are_counts_rows (T : Tx mg) (F : Dfn K mg "are_counts_rows" s_are_counts_rows) (C_is_integer : Cal P w K mg base CX0 1 "is_integer" ["thing"] (spP (K := K) R_is_integer)) :
    Cal P w K mg base CX0 2 "are_counts_rows" ["thing"] (spP (K := K) R_are_counts_rows) := by
  have nd := sc_are_counts_rows.nd
  refine cal_pure F sc_are_counts_rows (by rintro _ _ ⟨a, _, _, _, rfl, rfl⟩; rfl) (fun f fd F => F.bindsN fun _ _ _ _ _ _ us hl => match us, hl with | [_], _ => rfl) (fun f cdv A outer s H E hr => ⟨_,
      (pss_cons (ps_if (PW.pt (pw_or (pt_not (pt_val (pe_callB (id := "isinstance") (r := rIsi K) call_isi rfl T.isinstance (by decide +kernel) (pa_cons (pv 0) (pa_cons (pe_ty (n := "tuple") T.tuple (by decide +kernel)) pa_nil))))) (pw_or1 (pt_not (pt_chain op_le op_le pe_int (pe_callB (id := "len") (r := rLenS K) call_len_seq rfl T.len (by decide +kernel) (pa_cons (pv 0) pa_nil)) (pe_op op_add (pe_num T.ms) pe_int)))))) (pss_one (ps_ret pe_bl)) pss_nil)
      (pss_cons (ps_for PassesOwn.never rfl (pi_tupK (K := K) (pv 0)) (pg_name (i := 1) nd rfl (.inl rfl) (.inl rfl)) (pss_one (ps_if (PW.pt (pw_or (pt_not (pt_val (pe_callB (id := "isinstance") (r := rIsi K) call_isi rfl T.isinstance (by decide +kernel) (pa_cons (pv 1) (pa_cons (pe_ty (n := "tuple") T.tuple (by decide +kernel)) pa_nil))))) (pw_or (pt_cmpR op_ne (pe_callB (id := "len") (r := rLenS K) call_len_seq rfl T.len (by decide +kernel) (pa_cons (pv 1) pa_nil)) (pe_callB (id := "len") (r := rLenS K) call_len_seq rfl T.len (by decide +kernel) (pa_cons (pv 0) pa_nil)) (nomark _)) (pw_or1 (pt_not (pt_val (pe_callB (id := "all") (r := rAll K) (cr_all rfl) rfl T.all (by decide +kernel) (pa_cons (pe_lc (own := [("number", 2)]) rfl nd (pi_tupK (K := K) (pv 1)) (blkOk_by (by kernel_rfl)) (fun _ _ _ _ _ => (pg_name (i := 2) nd rfl (.inl rfl) (.inr rfl))) (fun _ _ _ _ _ => pts_nil) (fun _ _ _ _ _ => (pe_cal C_is_integer hr pass0 (pa_cons (pv 2) pa_nil)))) pa_nil)))))))) (pss_one (ps_ret pe_bl)) pss_nil)))
      (pss_one (ps_ret pe_bl)))), ?_⟩)
  rintro _ _ ⟨n, f, h1, h2, rfl, rfl⟩
  have hl : ((tab n f).map dR).length = n + 1 := by simp [tab_len]
  refine ss_seq (N1 := fun r => r = [.im (dT (tab n f)), .no, .no]) (ss_if (b := !true || !(true && true)) (et_or (et_not (et_B (ev_isi ev_var (k_tuple _)))) fun h => et_not (et_test ((ev_chain ev_int (ev_lenT ev_var) (rv_i0 fun _ => .bl _) (ev_add ev_int ev_int) (rv_i0 fun _ => .bl _)).is ?_))) (fun h => by cases h) fun h => ss_next rfl) ?_
  · rw [hl, decide_eq_true (by omega), decide_eq_true (by omega)]
  rintro _ rfl
  refine ss_seq (N1 := fun r => r = [.im (dT (tab n f)), .no, .no]) (ss_for (I := fun _ r => r = [.im (dT (tab n f)), .no, .no]) (ew_tup ev_var) rfl (by rintro i _ rfl; rfl) ?_ (by rintro _ rfl; rfl)) ?_
  · rintro i hi _ rfl
    have hi' : i < n + 1 := by simpa [tab_len] using hi
    have hx : ((tab n f).map dR)[i] = dR (rowOf n (f i)) := by
      have := tab_at (n := n) (f := f) (i := i) (by omega)
      rw [List.getElem_map]
      congr 1
      exact Option.some.inj ((List.getElem?_eq_getElem _).symm.trans this)
    rw [hx]
    refine ss_if (b := !true || (false || !true)) (et_or (et_not (et_B (ev_isi ev_var (k_tuple _)))) fun _ => et_or ((et_test (ev_neI (ev_lenT ev_var) (ev_lenT ev_var))).is ?_) fun _ => et_not (et_B ((ev_allC (p := fun _ => true) (ev_lc (emb := .int) _ (ew_tup ev_var) (fun x hx => ev_call (R := R_is_integer) (ea_cons ev_var ea_nil) ⟨_, rfl, rfl⟩) ?_)).is ?_))) (fun h => by cases h) fun h => ss_next rfl
    · simp [rowOf_len, tab_len]
    · simp [rowOf_len]; omega
    · simp
  · rintro _ rfl
    exact ss_ret ev_bl rfl
/-! ### ends_of -/
def R_ends_of (ds : List PyData) (d : PyData) : Prop := ∃ (n r : Nat) (f g : Nat → Int), n ≤ 12 ∧ r < n ∧ (∀ j, j ≤ n → f j = b2 (decide (r < j)) + g j) ∧ ds = [dR (rowOf n f), dR (rowOf n g)] ∧ d = .list [.int (r : Int)]
abbrev s_ends_of : Stmt := topS 15
theorem sc_ends_of : FnScope ["row", "below", "more", "number", "other", "to"] ["row", "below"] (defScope s_ends_of) := ⟨rfl, rfl, rfl, by decide +kernel, rfl, by decide +kernel, by decide +kernel⟩
theorem ok_ends_of (T : Tx mg) (F : Dfn K mg "ends_of" s_ends_of) : Cal P w K mg base CX0 1 "ends_of" ["row", "below"] (spP (K := K) R_ends_of) := by
  have nd := sc_ends_of.nd
  refine cal_pure F sc_ends_of (by rintro _ _ ⟨a, _, _, _, _, _, _, rfl, rfl⟩; rfl) (fun f fd F => F.bindsN fun _ _ _ _ _ _ us hl => match us, hl with | [_, _], _ => rfl) (fun f cdv A outer s H E hr => ⟨_,
      (pss_cons (ps_set (i := 2) nd rfl (.inr rfl) (pe_lc (own := [("number", 3), ("other", 4)]) rfl nd (pi_zipAK (K := K) rfl T.zip (pa_cons (pv 0) (pa_cons (pv 1) pa_nil))) (blkOk_by (by kernel_rfl)) (fun _ _ _ _ _ => (pg_pairK (K := K) (pg_name (i := 3) nd rfl (.inl rfl) (.inr rfl)) (pg_name (i := 4) nd rfl (.inl rfl) (.inr rfl)))) (fun _ _ _ _ _ => pts_nil) (fun _ _ _ _ _ => (pe_op op_sub (pv 3) (pv 4)))))
      (pss_one (ps_ret (pe_lc (own := [("to", 5)]) rfl nd (pi_range1 rfl T.range (pa_cons (pe_op op_sub (pe_callB (id := "len") (r := rLenS K) call_len_seq rfl T.len (by decide +kernel) (pa_cons (pv 2) pa_nil)) pe_int) pa_nil)) (blkOk_by (by kernel_rfl)) (fun _ _ _ _ _ => (pg_name (i := 5) nd rfl (.inl rfl) (.inr rfl))) (fun _ _ _ _ _ => (pts_one (pt_cmpR op_gt (pe_ix (r := rIxL K) ix_list (pv 2) (pe_op op_add (pv 5) pe_int) (fun _ _ => rfl)) (pe_ix (r := rIxL K) ix_list (pv 2) (pv 5) (fun _ _ => rfl)) (nomark _)))) (fun _ _ _ _ _ => (pv 5)))))), ?_⟩)
  rintro _ _ ⟨n, r, f, g, hn, hr, hj, rfl, rfl⟩
  let mo := (List.range (n + 1)).map fun j => PyData.int (f j - g j)
  have ml : mo.length = n + 1 := by simp [mo]
  have mat : ∀ j, j ≤ n → mo[j]? = some (.int (f j - g j)) := fun j h => by
    simp only [mo]
    rw [List.getElem?_map, List.getElem?_range (by omega)]
    rfl
  refine ss_seq (N1 := fun q => q = [.im (dR (rowOf n f)), .im (dR (rowOf n g)), .im (.list mo), .no, .no, .no]) (ss_asg (ev_lc2 (xs := List.range (n + 1)) (e1 := fun j => .int (f j)) (e2 := fun j => .int (g j)) _ ((ew_zipT ev_var ev_var).is (by rw [rowI, rowI, pairs_map])) (fun j hj => ev_sub ev_var ev_var) (by simp; omega)) rfl) ?_
  rintro _ rfl
  refine ss_ret (ev_lcI (xs := List.range n) (emb := fun j : Nat => .int (j : Int)) (fun j => decide (j = r)) (fun j : Nat => .int (j : Int)) ((ew_rng1 (ea_cons ((ev_sub ((ev_lenL ev_var)) ev_int)) ea_nil) (by rw [ml]; omega) (by rw [ml]; omega)).is ?_) (fun j hjm => et_test ((ev_cmpI (p := fun i j => decide (j < i)) (ev_op ev_var ((ev_add ev_var ev_int).is (b := .int ((j + 1 : Nat) : Int)) (by simp)) (rv_ixL (mat (j + 1) (by have := List.mem_range.mp hjm; omega)))) (ev_op ev_var ev_var (rv_ixL (mat j (by have := List.mem_range.mp hjm; omega))))).is ?_)) (fun j _ _ => ev_var) (by simp; omega)) ?_
  · rw [ml, show ((((n + 1 : Nat) : Int)) - 1).toNat = n by omega]
  · have hjn := List.mem_range.mp hjm
    have a := hj j (by omega)
    have b := hj (j + 1) (by omega)
    congr 1
    rw [a, b]
    apply decide_eq_decide.mpr
    unfold b2
    by_cases c1 : r < j
    · simp [c1, show r < j + 1 by omega]
      try omega
    · by_cases c2 : j = r
      · subst c2
        simp
        try omega
      · simp [c1, c2, show ¬ r < j + 1 by omega]
        try omega
  · show PyData.list _ = PyData.list _
    congr 1
    have e : (List.range n).filter (fun j => decide (j = r)) = [r] := by
      have e2 : (fun j => decide (j = r)) = fun j => j == r := by funext j; simp [Bool.beq_eq_decide_eq]
      rw [e2, List.filter_beq, show List.count r (List.range n) = 1 by rw [List.nodup_range.count, if_pos (List.mem_range.mpr hr)]]
      rfl
    rw [e]
    rfl
/-! ### least_sum -/
def R_least_sum (ds : List PyData) (d : PyData) : Prop := ∃ (n j : Nat) (f : Nat → Int) (g : Nat → Nat → Int), n ≤ 12 ∧ j ≤ n ∧ ds = [dR (rowOf n f), dT (tab n g), .int (j : Int)] ∧ d = .int (mn ((List.range (n + 1)).map fun k => f k + g k j))
abbrev s_least_sum : Stmt := topS 17
theorem sc_least_sum : FnScope ["row", "other", "column", "middle", "number"] ["row", "other", "column"] (defScope s_least_sum) := ⟨rfl, rfl, rfl, by decide +kernel, rfl, by decide +kernel, by decide +kernel⟩
theorem ok_least_sum (T : Tx mg) (F : Dfn K mg "least_sum" s_least_sum) : Cal P w K mg base CX0 1 "least_sum" ["row", "other", "column"] (spP (K := K) R_least_sum) := by
  have nd := sc_least_sum.nd
  refine cal_pure F sc_least_sum (by rintro _ _ ⟨a, _, _, _, _, _, rfl, rfl⟩; rfl) (fun f fd F => F.bindsN fun _ _ _ _ _ _ us hl => match us, hl with | [_, _, _], _ => rfl) (fun f cdv A outer s H E hr => ⟨_,
      (pss_one (ps_ret (pe_callB (id := "min") (r := rMin K) (cr_min rfl) rfl T.min (by decide +kernel) (pa_cons (pe_lc (own := [("middle", 3), ("number", 4)]) rfl nd (pi_enumTK (K := K) rfl T.enumerate (pa_cons (pv 0) pa_nil)) (blkOk_by (by kernel_rfl)) (fun _ _ _ _ _ => (pg_pairK (K := K) (pg_name (i := 3) nd rfl (.inl rfl) (.inr rfl)) (pg_name (i := 4) nd rfl (.inl rfl) (.inr rfl)))) (fun _ _ _ _ _ => pts_nil) (fun _ _ _ _ _ => (pe_op op_add (pv 4) (pe_ix (r := rIxT K) ix_tup (pe_ix (r := rIxT K) ix_tup (pv 1) (pv 3) (fun _ _ => rfl)) (pv 2) (fun _ _ => rfl))))) pa_nil)))), ?_⟩)
  rintro _ _ ⟨n, j, f, g, hn, hj, rfl, rfl⟩
  refine ss_ret (ev_min (ns := (List.range (n + 1)).map fun k => f k + g k j) ((ev_lc2 (xs := List.range (n + 1)) (e1 := fun k : Nat => .int (k : Int)) (e2 := fun k => .int (f k)) (fun k => .int (f k + g k j)) ((ew_enumT ev_var).is (by rw [rowI, numbered_map])) (fun k hk => ev_add ev_var (ev_op (ev_op ev_var ev_var (rv_ixT (d := dR (rowOf n (g k))) ?_)) ev_var (rv_ixT ?_))) (by simp; omega)).is (by rw [List.map_map]; rfl)) (by simp) (fun k h1 h2 => mn_eq h1 h2)) rfl
  · rw [List.getElem?_map, tab_at (by have := List.mem_range.mp hk; omega)]
    rfl
  · rw [List.getElem?_map, rowOf_at hj]
    rfl
/-! ### strands_from -/
def R_strands_from (ds : List PyData) (d : PyData) : Prop := ∃ (n : Nat) (p : List Nat), p.Perm (List.range n) ∧ 1 ≤ n ∧ n ≤ 12 ∧ ds = [dT (tab n (cn p))] ∧ d = dS p
theorem tab_next {n : Nat} {f : Nat → Nat → Int} : ((tab n f).map dR).drop 1 = (List.range n).map fun i => dR (rowOf n (f (i + 1))) := by
  rw [tabI]
  refine List.ext_getElem? fun i => ?_
  rw [List.getElem?_drop]
  by_cases c : i < n
  · have c2 : 1 + i < n + 1 := by omega
    simp [c, c2, Nat.add_comm]
  · have c2 : ¬ 1 + i < n + 1 := by omega
    simp [c, c2]
theorem pairs_next {n : Nat} {f : Nat → Nat → Int} : pairs ((tab n f).map dR) (((tab n f).map dR).drop 1) = (List.range n).map fun i => .tuple [dR (rowOf n (f i)), dR (rowOf n (f (i + 1)))] := by
  rw [tab_next, tabI]
  unfold pairs
  refine List.ext_getElem? fun i => ?_
  by_cases c : i < n
  · have c2 : i < n + 1 := by omega
    simp [c, c2]
  · simp [c]
abbrev s_strands_from : Stmt := topS 16
theorem sc_strands_from : FnScope ["thing", "ends", "strands", "row", "below", "found"] ["thing"] (defScope s_strands_from) := ⟨rfl, rfl, rfl, by decide +kernel, rfl, by decide +kernel, by decide +kernel⟩
theorem ok_strands_from (T : Tx mg) (F : Dfn K mg "strands_from" s_strands_from) (C_are_counts_rows : Cal P w K mg base CX0 2 "are_counts_rows" ["thing"] (spP (K := K) R_are_counts_rows))
    (C_ends_of : Cal P w K mg base CX0 1 "ends_of" ["row", "below"] (spP (K := K) R_ends_of)) (C_are_strands : Cal P w K mg base CX0 2 "are_strands" ["thing"] (spP (K := K) R_are_strands))
    (C_counts_of : Cal P w K mg base CX0 1 "counts_of" ["strands"] (spP (K := K) R_counts_of)) : Cal P w K mg base CX0 3 "strands_from" ["thing"] (spP (K := K) R_strands_from) := by
  have nd := sc_strands_from.nd
  refine cal_pure F sc_strands_from (by rintro _ _ ⟨a, _, _, _, _, rfl, rfl⟩; rfl) (fun f fd F => F.bindsN fun _ _ _ _ _ _ us hl => match us, hl with | [_], _ => rfl) (fun f cdv A outer s H E hr => ⟨_,
      (pss_cons (ps_if (pt_not (pt_val (pe_cal C_are_counts_rows hr pass0 (pa_cons (pv 0) pa_nil)))) (pss_one (ps_ret pe_non)) pss_nil)
      (pss_cons (ps_setLc (i := 1) (own := [("row", 3), ("below", 4)]) rfl nd rfl rfl (sw_true rfl rfl rfl (by decide +kernel)) (pi_zipAK (K := K) rfl T.zip (pa_cons (pv 0) (pa_cons (pe_slice (r := rSlA K) sl_tupA (pv 0) (po_some pe_int) po_none) pa_nil))) (blkOk_by (by kernel_rfl)) (fun _ _ _ _ _ => (pg_pairK (K := K) (pg_name (i := 3) nd rfl (.inl rfl) (.inr rfl)) (pg_name (i := 4) nd rfl (.inl rfl) (.inr rfl)))) (fun _ _ _ _ _ => pts_nil) (fun _ _ _ _ _ => (pe_cal C_ends_of hr pass0 (pa_cons (pv 3) (pa_cons (pv 4) pa_nil)))))
      (pss_cons (ps_if (pt_val (pe_callB (id := "any") (r := rAny K) (cr_any rfl) rfl T.any (by decide +kernel) (pa_cons (pe_lc (own := [("found", 5)]) rfl nd (pi_listK (K := K) (pv 1)) (blkOk_by (by kernel_rfl)) (fun _ _ _ _ _ => (pg_name (i := 5) nd rfl (.inl rfl) (.inr rfl))) (fun _ _ _ _ _ => pts_nil) (fun _ _ _ _ _ => (pe_cmpR op_ne (pe_callB (id := "len") (r := rLenS K) call_len_seq rfl T.len (by decide +kernel) (pa_cons (pv 5) pa_nil)) pe_int (nomark _)))) pa_nil))) (pss_one (ps_ret pe_non)) pss_nil)
      (pss_cons (ps_set (i := 2) nd rfl (.inl rfl) (pe_callTy (T := "tuple") (r := rTupS K) call_tuple_of rfl T.tuple (by decide +kernel) (pa_cons (pe_lc (own := [("found", 5)]) rfl nd (pi_listK (K := K) (pv 1)) (blkOk_by (by kernel_rfl)) (fun _ _ _ _ _ => (pg_name (i := 5) nd rfl (.inl rfl) (.inr rfl))) (fun _ _ _ _ _ => pts_nil) (fun _ _ _ _ _ => (pe_ix (r := rIxL K) ix_list (pv 5) pe_int (fun _ _ => rfl)))) pa_nil)))
      (pss_one (ps_ret (pe_ifExp (PW.pt (pw_and (pt_val (pe_cal C_are_strands hr pass0 (pa_cons (pv 2) pa_nil))) (pw_and1 (pt_cmpR (r := rEqD K) (op_eqD hr.units) (pe_cal C_counts_of hr pass0 (pa_cons (pv 2) pa_nil)) (pv 0) (nomark _))))) (pv 2) pe_non))))))), ?_⟩)
  rintro _ _ ⟨n, p, hp, h1, h2, rfl, rfl⟩
  have hl := perm_len hp
  refine ss_seq (N1 := fun r => r = [.im (dT (tab n (cn p))), .no, .no, .no, .no, .no]) (ss_if (b := !true) (et_not (et_B (ev_call (R := R_are_counts_rows) (ea_cons ev_var ea_nil) ⟨n, cn p, h1, h2, rfl, rfl⟩))) (fun h => by cases h) fun _ => ss_next rfl) ?_
  rintro _ rfl
  refine ss_seq (N1 := fun r => r = [.im (dT (tab n (cn p))), .im (.list (p.map fun x : Nat => .list [.int (x : Int)])), .no, .no, .no, .no])
    (ss_asg ((ev_lc2 (xs := List.range n) (e1 := fun i => dR (rowOf n (cn p i))) (e2 := fun i => dR (rowOf n (cn p (i + 1)))) (fun i => .list [.int ((p.getD i 0 : Nat) : Int)]) ((ew_zipT ev_var ((ev_slT ev_var (eo_some ev_int) eo_none))).is (by rw [show (1 : Int) = ((1 : Nat) : Int) from rfl, cut_from, pairs_next]))
      (fun i hi => ev_call (R := R_ends_of) (ea_cons ev_var (ea_cons ev_var ea_nil)) ⟨n, p.getD i 0, _, _, h2, ?_, fun j hj => ?_, rfl, rfl⟩) (by simp; omega)).is ?_) rfl) ?_
  · have hi' := List.mem_range.mp hi
    have c : i < p.length := by omega
    rw [List.getD_eq_getElem?_getD, List.getElem?_eq_getElem c]
    exact perm_lt hp _ (List.getElem_mem c)
  · have hi' := List.mem_range.mp hi
    have c : i < p.length := by omega
    rw [cn_step c, List.getD_eq_getElem?_getD, List.getElem?_eq_getElem c]
    rfl
  · congr 1
    exact map_at hl fun x : Nat => PyData.list [.int (x : Int)]
  rintro _ rfl
  refine ss_seq (N1 := fun r => r = [.im (dT (tab n (cn p))), .im (.list (p.map fun x : Nat => .list [.int (x : Int)])), .no, .no, .no, .no]) (ss_if (b := false) ((et_B (ev_anyC (ev_lc (xs := p) (emb := fun x : Nat => .list [.int (x : Int)]) _ (ew_list ev_var) (fun x hx => ev_neI (ev_lenL ev_var) ev_int) (by omega)))).is (by simp)) (fun h => by cases h) fun _ => ss_next rfl) ?_
  rintro _ rfl
  refine ss_seq (N1 := fun r => r = [.im (dT (tab n (cn p))), .im (.list (p.map fun x : Nat => .list [.int (x : Int)])), .im (dS p), .no, .no, .no]) (ss_asg ((ev_tupL (ev_lc (xs := p) (emb := fun x : Nat => .list [.int (x : Int)]) (fun x : Nat => .int (x : Int)) (ew_list ev_var) (fun x hx => ev_op ev_var ev_int (rv_ixL (n := 0) rfl)) (by omega))).is (by simp [dS, dR, nats])) rfl) ?_
  rintro _ rfl
  refine ss_ret (d := dS p) (ev_if (x := true && true) (et_and (et_B ((ev_call (R := R_are_strands) (d := .bool true) (ea_cons ev_var ea_nil) ⟨_, rfl, by rw [isStr_perm hp h1 h2]⟩))) fun _ => et_test ((ev_op (ev_call (R := R_counts_of) (d := dT (tab n (cn p))) (ea_cons ev_var ea_nil) ⟨p, by omega, by omega, rfl, by rw [hl]⟩) ev_var (rv_eqD (shaped_tab _) (shaped_tab _) (dict_tab _) (dict_tab _))).is (by rw [eqv_tab]))) (fun _ => ev_var) fun h => by cases h) rfl
/-! ### join -/
def R_join (ds : List PyData) (d : PyData) : Prop := ∃ (n : Nat) (p q r : List Nat), p.Perm (List.range n) ∧ q.Perm (List.range n) ∧ r.Perm (List.range n) ∧ 1 ≤ n ∧ n ≤ 12 ∧ (∀ i j, i ≤ n → j ≤ n → cn r i j = mp (cn p) (cn q) n i j) ∧ ds = [dS p, dS q] ∧ d = dS r
abbrev s_join : Stmt := topS 18
theorem sc_join : FnScope ["strands", "other", "one", "two", "sums", "row", "column"] ["strands", "other"] (defScope s_join) := ⟨rfl, rfl, rfl, by decide +kernel, rfl, by decide +kernel, by decide +kernel⟩
theorem ok_join (T : Tx mg) (F : Dfn K mg "join" s_join) (C_counts_of : Cal P w K mg base CX0 1 "counts_of" ["strands"] (spP (K := K) R_counts_of))
    (C_least_sum : Cal P w K mg base CX0 1 "least_sum" ["row", "other", "column"] (spP (K := K) R_least_sum)) (C_strands_from : Cal P w K mg base CX0 3 "strands_from" ["thing"] (spP (K := K) R_strands_from)) : Cal P w K mg base CX0 4 "join" ["strands", "other"] (spP (K := K) R_join) := by
  have nd := sc_join.nd
  refine cal_pure F sc_join (by rintro _ _ ⟨a, _, _, _, _, _, _, _, _, _, rfl, rfl⟩; rfl) (fun f fd F => F.bindsN fun _ _ _ _ _ _ us hl => match us, hl with | [_, _], _ => rfl) (fun f cdv A outer s H E hr => ⟨_,
      (pss_cons (ps_asg (pe_tup (pa_cons (pe_cal C_counts_of hr pass0 (pa_cons (pv 0) pa_nil)) (pa_cons (pe_cal C_counts_of hr pass0 (pa_cons (pv 1) pa_nil)) pa_nil))) (pg_pairK (K := K) (pg_name (i := 2) nd rfl (.inl rfl) (.inl rfl)) (pg_name (i := 3) nd rfl (.inr rfl) (.inl rfl))))
      (pss_cons (ps_set (i := 4) nd rfl (.inl rfl) (pe_callTy (T := "tuple") (r := rTupS K) call_tuple_of rfl T.tuple (by decide +kernel) (pa_cons (pe_lc (own := [("row", 5)]) rfl nd (pi_tupK (K := K) (pv 2)) (blkOk_by (by kernel_rfl)) (fun _ _ _ _ _ => (pg_name (i := 5) nd rfl (.inr rfl) (.inl rfl))) (fun _ _ _ _ _ => pts_nil) (fun _ _ _ _ _ => (pe_callTy (T := "tuple") (r := rTupS K) call_tuple_of rfl T.tuple (by decide +kernel) (pa_cons (pe_lc (own := [("column", 6)]) rfl nd (pi_range1 rfl T.range (pa_cons (pe_callB (id := "len") (r := rLenS K) call_len_seq rfl T.len (by decide +kernel) (pa_cons (pv 5) pa_nil)) pa_nil)) (blkOk_by (by kernel_rfl)) (fun _ _ _ _ _ => (pg_name (i := 6) nd rfl (.inl rfl) (.inr rfl))) (fun _ _ _ _ _ => pts_nil) (fun _ _ _ _ _ => (pe_cal C_least_sum hr pass0 (pa_cons (pv 5) (pa_cons (pv 3) (pa_cons (pv 6) pa_nil)))))) pa_nil)))) pa_nil)))
      (pss_one (ps_ret (pe_cal C_strands_from hr pass0 (pa_cons (pv 4) pa_nil)))))), ?_⟩)
  rintro _ _ ⟨n, p, q, r, hp, hq, hr, h1, h2, hc, rfl, rfl⟩
  have lp := perm_len hp
  have lq := perm_len hq
  refine ss_seq (N1 := fun s => s = [.im (dS p), .im (dS q), .im (dT (tab n (cn p))), .im (dT (tab n (cn q))), .no, .no, .no]) (ss_asg2 (d1 := dT (tab n (cn p))) (d2 := dT (tab n (cn q))) (ev_tup (ea_cons (ev_call (R := R_counts_of) (ea_cons ev_var ea_nil) ⟨p, by omega, by omega, rfl, by rw [lp]⟩) (ea_cons (ev_call (R := R_counts_of) (ea_cons ev_var ea_nil) ⟨q, by omega, by omega, rfl, by rw [lq]⟩) ea_nil)) (by simp)) rfl) ?_
  rintro _ rfl
  refine ss_seq (N1 := fun s => s = [.im (dS p), .im (dS q), .im (dT (tab n (cn p))), .im (dT (tab n (cn q))), .im (dT (tab n (cn r))), .no, .no]) (ss_asg ((ev_tupL (ev_lc (xs := List.range (n + 1)) (emb := fun i => dR (rowOf n (cn p i))) (fun i => dR (rowOf n (mp (cn p) (cn q) n i))) ((ew_tup ev_var).is (by rw [tabI])) (fun i hi => (ev_tupL (ev_lc (xs := List.range (n + 1)) (emb := fun j : Nat => .int (j : Int)) (fun j => .int (mp (cn p) (cn q) n i j)) ((ew_rng1 (ea_cons (ev_lenT ev_var) ea_nil) ?_ ?_).is ?_) (fun j hj => ev_call (R := R_least_sum) (ea_cons ev_var (ea_cons ev_var (ea_cons ev_var ea_nil))) ⟨n, j, _, _, h2, by have := List.mem_range.mp hj; omega, rfl, rfl⟩) (by simp; omega))).is (by rw [dR_row])) (by simp; omega))).is ?_) rfl) ?_
  · simp [rowOf_len]; omega
  · simp [rowOf_len]; omega
  · simp [rowOf_len]
  · rw [dT_tab]
    congr 1
    refine List.map_congr_left fun i hi => ?_
    congr 1
    exact rowOf_congr fun j hj => (hc i j (by have := List.mem_range.mp hi; omega) hj).symm
  rintro _ rfl
  exact ss_ret (ev_call (R := R_strands_from) (ea_cons ev_var ea_nil) ⟨n, r, hr, h1, h2, rfl, rfl⟩) rfl
end
end Jn
set_option maxHeartbeats 4000000
namespace Jn
open PySem
open PySem.Spec PyProof.Rows
open L2
open Ma
section
variable {K : PySem.W.Frag} {ρ : Rho} {te : TE} {N : Rho → Prop} {R : PyData → Rho → Prop} {d : PyData}
/-- a call for its own sake -/
theorem ss_drop (h : Ev K te ρ d) (hn : N ρ) : Ss K (tDrop te) ρ N R := fun S G0 H0 σ G H D k n r => h σ G H _ k.f.i k.s fun v G1 H1 g1 _ => n _ _ _ _ hn (k.go g1)
/-- a row of a table, an entry of it -/
theorem ev_row {n i : Nat} {f : Nat → Nat → Int} {ta tb : TE} (ha : Ev K ta ρ (dT (tab n f))) (hb : Ev K tb ρ (.int (i : Int))) (hi : i ≤ n) : Ev K (tOp (rIxT K) ta tb) ρ (dR (rowOf n (f i))) := ev_op ha hb (rv_ixT (by rw [List.getElem?_map, tab_at hi]; rfl))
theorem ev_at {n i : Nat} {f : Nat → Int} {ta tb : TE} (ha : Ev K ta ρ (dR (rowOf n f))) (hb : Ev K tb ρ (.int (i : Int))) (hi : i ≤ n) : Ev K (tOp (rIxT K) ta tb) ρ (.int (f i)) := ev_op ha hb (rv_ixT (by rw [List.getElem?_map, rowOf_at hi]; rfl))
theorem ev_nat1 {i : Nat} {ta : TE} (ha : Ev K ta ρ (.int (i : Int))) : Ev K (tOp (rI0 fun i j => .int (i + j)) ta (tC (.int 1))) ρ (.int ((i + 1 : Nat) : Int)) := (ev_add ha ev_int).is (by simp)
theorem ev_lenTab {n : Nat} {f : Nat → Nat → Int} {ta : TE} (ha : Ev K ta ρ (dT (tab n f))) : Ev K (tCB (rLenS K) (tCons ta tNil)) ρ (.int ((n + 1 : Nat) : Int)) := (ev_lenT ha).is (by rw [List.length_map, tab_len])
theorem ev_lenRow {n : Nat} {f : Nat → Int} {ta : TE} (ha : Ev K ta ρ (dR (rowOf n f))) : Ev K (tCB (rLenS K) (tCons ta tNil)) ρ (.int ((n + 1 : Nat) : Int)) := (ev_lenT ha).is (by rw [List.length_map, rowOf_len])
theorem ew_rngN {n : Nat} {ta : TE} (ha : Ev K ta ρ (.int (n : Int))) (hn : n ≤ 1000) : EvW K (iRng1 (tCons ta tNil)) ρ ((List.range n).map fun i : Nat => .int (i : Int)) := (ew_rng1 (ea_cons ha ea_nil) (by omega) (by omega)).is (by rw [Int.toNat_natCast])
end
section
variable {P : Program} {w : World} {K : PySem.W.Frag} {mg : Str → Option Value} {base : Heap}
/-! ### columns_of -/
def R_columns_of (ds : List PyData) (d : PyData) : Prop := ∃ (n : Nat) (f : Nat → Nat → Int), n ≤ 12 ∧ ds = [dT (tab n f)] ∧ d = .list ((List.range (n + 1)).map fun j => dR (rowOf n fun i => f i j))
abbrev s_columns_of : Stmt := topS 26
theorem sc_columns_of : FnScope ["table", "column", "row"] ["table"] (defScope s_columns_of) := ⟨rfl, rfl, rfl, by decide +kernel, rfl, by decide +kernel, by decide +kernel⟩
theorem ok_columns_of (T : Tx mg) (F : Dfn K mg "columns_of" s_columns_of) : Cal P w K mg base CX0 1 "columns_of" ["table"] (spP (K := K) R_columns_of) := by
  have nd := sc_columns_of.nd
  refine cal_pure F sc_columns_of (by rintro _ _ ⟨_, _, _, rfl, rfl⟩; rfl) (fun f fd F => F.bindsN fun _ _ _ _ _ _ us hl => match us, hl with | [_], _ => rfl) (fun f cdv A outer s H E hr => ⟨_,
      (pss_one (ps_ret (pe_lc (own := [("column", 1)]) rfl nd (pi_range1 rfl T.range (pa_cons (pe_callB (id := "len") (r := rLenS K) call_len_seq rfl T.len (by decide +kernel) (pa_cons (pe_ix (r := rIxT K) ix_tup (pv 0) pe_int (fun _ _ => rfl)) pa_nil)) pa_nil)) (blkOk_by (by kernel_rfl)) (fun _ _ _ _ _ => (pg_name (i := 1) nd rfl (.inr rfl) (.inl rfl))) (fun _ _ _ _ _ => pts_nil) (fun _ _ _ _ _ => (pe_callTy (T := "tuple") (r := rTupS K) call_tuple_of rfl T.tuple (by decide +kernel) (pa_cons (pe_lc (own := [("row", 2)]) rfl nd (pi_tupK (K := K) (pv 0)) (blkOk_by (by kernel_rfl)) (fun _ _ _ _ _ => (pg_name (i := 2) nd rfl (.inl rfl) (.inr rfl))) (fun _ _ _ _ _ => pts_nil) (fun _ _ _ _ _ => (pe_ix (r := rIxT K) ix_tup (pv 2) (pv 1) (fun _ _ => rfl)))) pa_nil)))))), ?_⟩)
  rintro _ _ ⟨n, f, hn, rfl, rfl⟩
  refine ss_ret (ev_lc (xs := List.range (n + 1)) (emb := fun j : Nat => .int (j : Int)) _ (ew_rngN (ev_lenRow (ev_row (i := 0) ev_var ev_int (by omega))) (by omega)) (fun j hj => ?_) (by simp; omega)) rfl
  have hj' := List.mem_range.mp hj
  refine (ev_tupL (ev_lc (xs := List.range (n + 1)) (emb := fun i => dR (rowOf n (f i))) (fun i => .int (f i j)) ((ew_tup ev_var).is (by rw [tabI])) (fun i hi => ev_at ev_var ev_var (by omega)) (by simp; omega))).is ?_
  rw [dR_row]
/-! ### sums_by -/
def R_sums_by (ds : List PyData) (d : PyData) : Prop := ∃ (n : Nat) (f g : Nat → Int), n ≤ 12 ∧ ds = [dR (rowOf n f), dR (rowOf n g)] ∧ d = .list (((List.range (n + 1)).map fun k => f k + g k).map .int)
abbrev s_sums_by : Stmt := topS 27
theorem sc_sums_by : FnScope ["row", "line", "entry", "number"] ["row", "line"] (defScope s_sums_by) := ⟨rfl, rfl, rfl, by decide +kernel, rfl, by decide +kernel, by decide +kernel⟩
theorem ok_sums_by (T : Tx mg) (F : Dfn K mg "sums_by" s_sums_by) : Cal P w K mg base CX0 1 "sums_by" ["row", "line"] (spP (K := K) R_sums_by) := by
  have nd := sc_sums_by.nd
  refine cal_pure F sc_sums_by (by rintro _ _ ⟨_, _, _, _, rfl, rfl⟩; rfl) (fun f fd F => F.bindsN fun _ _ _ _ _ _ us hl => match us, hl with | [_, _], _ => rfl) (fun f cdv A outer s H E hr => ⟨_,
      (pss_one (ps_ret (pe_lc (own := [("entry", 2), ("number", 3)]) rfl nd (pi_zipAK (K := K) rfl T.zip (pa_cons (pv 0) (pa_cons (pv 1) pa_nil))) (blkOk_by (by kernel_rfl)) (fun _ _ _ _ _ => (pg_pairK (K := K) (pg_name (i := 2) nd rfl (.inl rfl) (.inr rfl)) (pg_name (i := 3) nd rfl (.inl rfl) (.inr rfl)))) (fun _ _ _ _ _ => pts_nil) (fun _ _ _ _ _ => (pe_op op_add (pv 2) (pv 3)))))), ?_⟩)
  rintro _ _ ⟨n, f, g, hn, rfl, rfl⟩
  refine ss_ret (ev_lc2 (xs := List.range (n + 1)) (e1 := fun j => .int (f j)) (e2 := fun j => .int (g j)) (fun k => .int (f k + g k)) ((ew_zipT ev_var ev_var).is (by rw [rowI, rowI, pairs_map])) (fun j hj => ev_add ev_var ev_var) (by simp; omega)) ?_
  rw [List.map_map]
  rfl
/-! ### least_sums -/
def R_least_sums (ds : List PyData) (d : PyData) : Prop := ∃ (n : Nat) (f g : Nat → Nat → Int), n ≤ 12 ∧ ds = [dT (tab n f), dT (tab n g)] ∧ d = dT (tab n (mp f g n))
abbrev s_least_sums : Stmt := topS 28
theorem sc_least_sums : FnScope ["one", "other", "lines", "row", "line"] ["one", "other"] (defScope s_least_sums) := ⟨rfl, rfl, rfl, by decide +kernel, rfl, by decide +kernel, by decide +kernel⟩
theorem ok_least_sums (T : Tx mg) (F : Dfn K mg "least_sums" s_least_sums) (C_columns_of : Cal P w K mg base CX0 1 "columns_of" ["table"] (spP (K := K) R_columns_of)) (C_sums_by : Cal P w K mg base CX0 1 "sums_by" ["row", "line"] (spP (K := K) R_sums_by)) :
    Cal P w K mg base CX0 2 "least_sums" ["one", "other"] (spP (K := K) R_least_sums) := by
  have nd := sc_least_sums.nd
  refine cal_pure F sc_least_sums (by rintro _ _ ⟨_, _, _, _, rfl, rfl⟩; rfl) (fun f fd F => F.bindsN fun _ _ _ _ _ _ us hl => match us, hl with | [_, _], _ => rfl) (fun f cdv A outer s H E hr => ⟨_,
      (pss_cons (ps_set (i := 2) nd rfl (.inr rfl) (pe_cal C_columns_of hr pass0 (pa_cons (pv 1) pa_nil)))
      (pss_one (ps_ret (pe_callTy (T := "tuple") (r := rTupS K) call_tuple_of rfl T.tuple (by decide +kernel) (pa_cons (pe_lc (own := [("row", 3)]) rfl nd (pi_tupK (K := K) (pv 0)) (blkOk_by (by kernel_rfl)) (fun _ _ _ _ _ => (pg_name (i := 3) nd rfl (.inr rfl) (.inl rfl))) (fun _ _ _ _ _ => pts_nil) (fun _ _ _ _ _ => (pe_callTy (T := "tuple") (r := rTupS K) call_tuple_of rfl T.tuple (by decide +kernel) (pa_cons (pe_lc (own := [("line", 4)]) rfl nd (pi_listK (K := K) (pv 2)) (blkOk_by (by kernel_rfl)) (fun _ _ _ _ _ => (pg_name (i := 4) nd rfl (.inl rfl) (.inr rfl))) (fun _ _ _ _ _ => pts_nil) (fun _ _ _ _ _ => (pe_callB (id := "min") (r := rMin K) (cr_min rfl) rfl T.min (by decide +kernel) (pa_cons (pe_cal C_sums_by hr pass0 (pa_cons (pv 3) (pa_cons (pv 4) pa_nil))) pa_nil)))) pa_nil)))) pa_nil))))), ?_⟩)
  rintro _ _ ⟨n, f, g, hn, rfl, rfl⟩
  let ls := (List.range (n + 1)).map fun j => dR (rowOf n fun i => g i j)
  refine ss_seq (N1 := fun s => s = [.im (dT (tab n f)), .im (dT (tab n g)), .im (.list ls), .no, .no]) (ss_asg (ev_call (R := R_columns_of) (ea_cons ev_var ea_nil) ⟨n, g, hn, rfl, rfl⟩) rfl) ?_
  rintro _ rfl
  refine ss_ret (ev_tupL (ev_lc (xs := List.range (n + 1)) (emb := fun i => dR (rowOf n (f i))) (fun i => dR (rowOf n (mp f g n i))) ((ew_tup ev_var).is (by rw [tabI])) (fun i hi => (ev_tupL (ev_lc (xs := List.range (n + 1)) (emb := fun j => dR (rowOf n fun i => g i j)) (fun j => .int (mp f g n i j)) (ew_list ev_var) (fun j hj => ?_) (by simp; omega))).is (by rw [dR_row])) (by simp; omega))) (by rw [dT_tab])
  exact ev_min (ev_call (R := R_sums_by) (ea_cons ev_var (ea_cons ev_var ea_nil)) ⟨n, _, _, hn, rfl, rfl⟩) (by simp) (fun k h1 h2 => mn_eq h1 h2)
/-! ### width -/
def R_width (ds : List PyData) (d : PyData) : Prop := ∃ (n : Nat) (f : Nat → Nat → Int), n ≤ 12 ∧ ds = [dT (tab n f)] ∧ d = .int ((n + 1 : Nat) : Int)
abbrev s_width : Stmt := topS 30
theorem sc_width : FnScope ["table"] ["table"] (defScope s_width) := ⟨rfl, rfl, rfl, by decide +kernel, rfl, by decide +kernel, by decide +kernel⟩
theorem ok_width (T : Tx mg) (F : Dfn K mg "width" s_width) : Cal P w K mg base CX0 1 "width" ["table"] (spP (K := K) R_width) := by
  have nd := sc_width.nd
  refine cal_pure F sc_width (by rintro _ _ ⟨_, _, _, rfl, rfl⟩; rfl) (fun f fd F => F.bindsN fun _ _ _ _ _ _ us hl => match us, hl with | [_], _ => rfl) (fun f cdv A outer s H E hr => ⟨_,
      (pss_one (ps_ret (pe_callB (id := "len") (r := rLenS K) call_len_seq rfl T.len (by decide +kernel) (pa_cons (pe_ix (r := rIxT K) ix_tup (pv 0) pe_int (fun _ _ => rfl)) pa_nil)))), ?_⟩)
  rintro _ _ ⟨n, f, hn, rfl, rfl⟩
  exact ss_ret (ev_lenRow (ev_row (i := 0) ev_var ev_int (by omega))) rfl
/-! ### gain_of -/
def gain (f : Nat → Nat → Int) (i j : Nat) : Int := f i (j + 1) + f (i + 1) j - (f i j + f (i + 1) (j + 1))
def R_gain_of (ds : List PyData) (d : PyData) : Prop := ∃ (n i j : Nat) (f : Nat → Nat → Int), i < n ∧ j < n ∧ ds = [dT (tab n f), .int (i : Int), .int ((i + 1 : Nat) : Int), .int (j : Int), .int ((j + 1 : Nat) : Int)] ∧ d = .int (gain f i j)
abbrev s_gain_of : Stmt := topS 31
theorem sc_gain_of : FnScope ["table", "row", "other", "column", "last", "straight"] ["table", "row", "other", "column", "last"] (defScope s_gain_of) := ⟨rfl, rfl, rfl, by decide +kernel, rfl, by decide +kernel, by decide +kernel⟩
theorem ok_gain_of (T : Tx mg) (F : Dfn K mg "gain_of" s_gain_of) : Cal P w K mg base CX0 1 "gain_of" ["table", "row", "other", "column", "last"] (spP (K := K) R_gain_of) := by
  have nd := sc_gain_of.nd
  refine cal_pure F sc_gain_of (by rintro _ _ ⟨_, _, _, _, _, _, rfl, rfl⟩; rfl) (fun f fd F => F.bindsN fun _ _ _ _ _ _ us hl => match us, hl with | [_, _, _, _, _], _ => rfl) (fun f cdv A outer s H E hr => ⟨_,
      (pss_cons (ps_set (i := 5) nd rfl (.inl rfl) (pe_op op_add (pe_ix (r := rIxT K) ix_tup (pe_ix (r := rIxT K) ix_tup (pv 0) (pv 1) (fun _ _ => rfl)) (pv 3) (fun _ _ => rfl)) (pe_ix (r := rIxT K) ix_tup (pe_ix (r := rIxT K) ix_tup (pv 0) (pv 2) (fun _ _ => rfl)) (pv 4) (fun _ _ => rfl))))
      (pss_one (ps_ret (pe_op op_sub (pe_op op_add (pe_ix (r := rIxT K) ix_tup (pe_ix (r := rIxT K) ix_tup (pv 0) (pv 1) (fun _ _ => rfl)) (pv 4) (fun _ _ => rfl)) (pe_ix (r := rIxT K) ix_tup (pe_ix (r := rIxT K) ix_tup (pv 0) (pv 2) (fun _ _ => rfl)) (pv 3) (fun _ _ => rfl))) (pv 5))))), ?_⟩)
  rintro _ _ ⟨n, i, j, f, hi, hj, rfl, rfl⟩
  refine ss_seq (N1 := fun s => s = [.im (dT (tab n f)), .im (.int (i : Int)), .im (.int ((i + 1 : Nat) : Int)), .im (.int (j : Int)), .im (.int ((j + 1 : Nat) : Int)), .im (.int (f i j + f (i + 1) (j + 1)))]) (ss_asg (ev_add (ev_at (ev_row ev_var ev_var (by omega)) ev_var (by omega)) (ev_at (ev_row ev_var ev_var (by omega)) ev_var (by omega))) rfl) ?_
  rintro _ rfl
  exact ss_ret (ev_sub (ev_add (ev_at (ev_row ev_var ev_var (by omega)) ev_var (by omega)) (ev_at (ev_row ev_var ev_var (by omega)) ev_var (by omega))) ev_var) rfl
def R_gain_at (ds : List PyData) (d : PyData) : Prop := ∃ (n i j : Nat) (f : Nat → Nat → Int), i < n ∧ j < n ∧ ds = [dT (tab n f), .int (i : Int), .int (j : Int)] ∧ d = .int (gain f i j)
abbrev s_gain_at : Stmt := topS 32
theorem sc_gain_at : FnScope ["table", "row", "column"] ["table", "row", "column"] (defScope s_gain_at) := ⟨rfl, rfl, rfl, by decide +kernel, rfl, by decide +kernel, by decide +kernel⟩
theorem ok_gain_at (T : Tx mg) (F : Dfn K mg "gain_at" s_gain_at) (C_gain_of : Cal P w K mg base CX0 1 "gain_of" ["table", "row", "other", "column", "last"] (spP (K := K) R_gain_of)) : Cal P w K mg base CX0 2 "gain_at" ["table", "row", "column"] (spP (K := K) R_gain_at) := by
  have nd := sc_gain_at.nd
  refine cal_pure F sc_gain_at (by rintro _ _ ⟨_, _, _, _, _, _, rfl, rfl⟩; rfl) (fun f fd F => F.bindsN fun _ _ _ _ _ _ us hl => match us, hl with | [_, _, _], _ => rfl) (fun f cdv A outer s H E hr => ⟨_,
      (pss_one (ps_ret (pe_cal C_gain_of hr pass0 (pa_cons (pv 0) (pa_cons (pv 1) (pa_cons (pe_op op_add (pv 1) pe_int) (pa_cons (pv 2) (pa_cons (pe_op op_add (pv 2) pe_int) pa_nil)))))))), ?_⟩)
  rintro _ _ ⟨n, i, j, f, hi, hj, rfl, rfl⟩
  exact ss_ret (ev_call (R := R_gain_of) (ea_cons ev_var (ea_cons ev_var (ea_cons (ev_nat1 ev_var) (ea_cons ev_var (ea_cons (ev_nat1 ev_var) ea_nil))))) ⟨n, i, j, f, hi, hj, rfl, rfl⟩) rfl
/-! ### gains_of -/
def gains (n : Nat) (f : Nat → Nat → Int) : List PyData := (List.range n).map fun i => .tuple ((List.range n).map fun j => .int (gain f i j))
def R_gains_of (ds : List PyData) (d : PyData) : Prop := ∃ (n : Nat) (f : Nat → Nat → Int), n ≤ 12 ∧ ds = [dT (tab n f)] ∧ d = .tuple (gains n f)
abbrev s_gains_of : Stmt := topS 33
theorem sc_gains_of : FnScope ["table", "found", "row", "column"] ["table"] (defScope s_gains_of) := ⟨rfl, rfl, rfl, by decide +kernel, rfl, by decide +kernel, by decide +kernel⟩
theorem ok_gains_of (T : Tx mg) (F : Dfn K mg "gains_of" s_gains_of) (C_gain_at : Cal P w K mg base CX0 2 "gain_at" ["table", "row", "column"] (spP (K := K) R_gain_at)) (C_width : Cal P w K mg base CX0 1 "width" ["table"] (spP (K := K) R_width)) :
    Cal P w K mg base CX0 3 "gains_of" ["table"] (spP (K := K) R_gains_of) := by
  have nd := sc_gains_of.nd
  refine cal_pure F sc_gains_of (by rintro _ _ ⟨_, _, _, rfl, rfl⟩; rfl) (fun f fd F => F.bindsN fun _ _ _ _ _ _ us hl => match us, hl with | [_], _ => rfl) (fun f cdv A outer s H E hr => ⟨_,
      (pss_cons (ps_set (i := 1) nd rfl (.inl rfl) (pe_lst pa_nil))
      (pss_cons (ps_for PassesOwn.never rfl (pi_range1 rfl T.range (pa_cons (pe_op op_sub (pe_callB (id := "len") (r := rLenS K) call_len_seq rfl T.len (by decide +kernel) (pa_cons (pv 0) pa_nil)) pe_int) pa_nil)) (pg_name (i := 2) nd rfl (.inr rfl) (.inl rfl)) (pss_one (ps_expr (pe_bm PySem.F.plainAttrs_list PySem.F.slot_list_append PySem.F.type_list_append mt_append (pv 1) (pa_cons (pe_callTy (T := "tuple") (r := rTupS K) call_tuple_of rfl T.tuple (by decide +kernel) (pa_cons (pe_lc (own := [("column", 3)]) rfl nd (pi_range1 rfl T.range (pa_cons (pe_op op_sub (pe_cal C_width hr pass0 (pa_cons (pv 0) pa_nil)) pe_int) pa_nil)) (blkOk_by (by kernel_rfl)) (fun _ _ _ _ _ => (pg_name (i := 3) nd rfl (.inl rfl) (.inr rfl))) (fun _ _ _ _ _ => pts_nil) (fun _ _ _ _ _ => (pe_cal C_gain_at hr pass0 (pa_cons (pv 0) (pa_cons (pv 2) (pa_cons (pv 3) pa_nil)))))) pa_nil)) pa_nil)))))
      (pss_one (ps_ret (pe_callTy (T := "tuple") (r := rTupS K) call_tuple_of rfl T.tuple (by decide +kernel) (pa_cons (pv 1) pa_nil)))))), ?_⟩)
  rintro _ _ ⟨n, f, hn, rfl, rfl⟩
  have sub1 : ((n + 1 : Nat) : Int) - 1 = (n : Int) := by omega
  refine ss_seq (N1 := fun s => ∃ q, s = [.im (dT (tab n f)), .ml true q [], .no, .no]) (ss_asgN (en_lst ea_nil (by simp)) fun q => ⟨q, rfl⟩) ?_
  rintro _ ⟨q, rfl⟩
  refine ss_seq (N1 := fun s => s = [.im (dT (tab n f)), .ml true q (gains n f), .no, .no]) (ss_for (I := fun i s => s = [.im (dT (tab n f)), .ml true q ((gains n f).take i), .no, .no]) (ew_rngN ((ev_sub (ev_lenTab ev_var) ev_int).is (by rw [sub1])) (by omega)) rfl (by rintro i _ rfl; rfl) ?_ ?_) ?_
  · rintro i hi _ rfl
    have hi' : i < n := by simpa using hi
    rw [List.getElem_map, List.getElem_range]
    refine ss_app rfl (ev_tupL (ev_lc (xs := List.range n) (emb := fun j : Nat => .int (j : Int)) (fun j => .int (gain f i j)) (ew_rngN ((ev_sub (ev_call (R := R_width) (ea_cons ev_var ea_nil) ⟨n, f, hn, rfl, rfl⟩) ev_int).is (by rw [sub1])) (by omega)) (fun j hj => ev_call (R := R_gain_at) (ea_cons ev_var (ea_cons ev_var (ea_cons ev_var ea_nil))) ⟨n, i, j, f, hi', List.mem_range.mp hj, rfl, rfl⟩) (by simp; omega))) (by simp [gains]; omega) ?_
    have e : (gains n f).take (i + 1) = (gains n f).take i ++ [.tuple ((List.range n).map fun j => .int (gain f i j))] := by
      rw [List.take_add_one]
      congr 1
      simp [gains, hi']
    show _ = _
    rw [e]
    rfl
  · rintro s hs
    rw [List.length_map, List.length_range] at hs
    rw [hs, List.take_of_length_le (by simp [gains])]
  rintro _ rfl
  exact ss_ret (ev_tupM rfl) rfl
/-! ### first_paying: nothing pays -/
def Straight (n : Nat) (f : Nat → Nat → Int) : Prop := ∀ i j, i < n → j < n → 0 ≤ gain f i j
theorem un_straight {n : Nat} {f : Nat → Nat → Int} (u : Un n f) : Straight n f := fun i j hi hj => by
  have := u.mon i (i + 1) j (j + 1) (by omega) (by omega) (by omega) (by omega)
  unfold gain
  omega
def R_first_paying (ds : List PyData) (d : PyData) : Prop := ∃ (n : Nat) (f : Nat → Nat → Int), n ≤ 12 ∧ Straight n f ∧ ds = [dT (tab n f)] ∧ d = .none
abbrev s_first_paying : Stmt := topS 34
theorem sc_first_paying : FnScope ["table", "row", "gains", "column", "gain"] ["table"] (defScope s_first_paying) := ⟨rfl, rfl, rfl, by decide +kernel, rfl, by decide +kernel, by decide +kernel⟩
theorem ok_first_paying (T : Tx mg) (F : Dfn K mg "first_paying" s_first_paying) (C_gains_of : Cal P w K mg base CX0 3 "gains_of" ["table"] (spP (K := K) R_gains_of)) :
    Cal P w K mg base CX0 4 "first_paying" ["table"] (spP (K := K) R_first_paying) := by
  have nd := sc_first_paying.nd
  refine cal_pure F sc_first_paying (by rintro _ _ ⟨_, _, _, _, rfl, rfl⟩; rfl) (fun f fd F => F.bindsN fun _ _ _ _ _ _ us hl => match us, hl with | [_], _ => rfl) (fun f cdv A outer s H E hr => ⟨_,
      (pss_cons (ps_for PassesOwn.never rfl (pi_enumTK (K := K) rfl T.enumerate (pa_cons (pe_cal C_gains_of hr pass0 (pa_cons (pv 0) pa_nil)) pa_nil)) (pg_pairK (K := K) (pg_name (i := 1) nd rfl (.inl rfl) (.inl rfl)) (pg_name (i := 2) nd rfl (.inl rfl) (.inl rfl))) (pss_one (ps_for PassesOwn.never rfl (pi_enumTK (K := K) rfl T.enumerate (pa_cons (pv 2) pa_nil)) (pg_pairK (K := K) (pg_name (i := 3) nd rfl (.inl rfl) (.inl rfl)) (pg_name (i := 4) nd rfl (.inl rfl) (.inl rfl))) (pss_one (ps_if (pt_cmpR op_lt (pv 4) pe_int (nomark _)) (pss_one (ps_ret (pe_tup (pa_cons (pv 1) (pa_cons (pv 3) pa_nil))))) pss_nil)))))
      (pss_one (ps_ret pe_non))), ?_⟩)
  rintro _ _ ⟨n, f, hn, hs, rfl, rfl⟩
  let r0 : Rho := [.im (dT (tab n f)), .no, .no, .no, .no]
  refine ss_seq (N1 := fun s => s = r0) (ss_for2 (xs := List.range n) (e1 := fun i : Nat => .int (i : Int)) (e2 := fun i => .tuple ((List.range n).map fun j => .int (gain f i j))) (I := fun _ s => s = r0) ((ew_enumT (ev_call (R := R_gains_of) (ea_cons ev_var ea_nil) ⟨n, f, hn, rfl, rfl⟩)).is (by rw [gains, numbered_map])) rfl (by decide) (by rintro i _ rfl; exact ⟨rfl, rfl⟩) ?_ (by rintro _ rfl; rfl)) ?_
  · rintro i hi _ rfl
    have hi' : i < n := by simpa using hi
    rw [List.getElem_range]
    refine Ss.imp (N' := fun s => s = [.im (dT (tab n f)), .im (.int (i : Int)), .im (.tuple ((List.range n).map fun j => .int (gain f i j))), .no, .no]) (R' := fun _ _ => False) ?_ (by rintro _ rfl; rfl) (fun _ _ z => z.elim)
    refine ss_for2 (xs := List.range n) (e1 := fun j : Nat => .int (j : Int)) (e2 := fun j => .int (gain f i j)) (I := fun _ s => s = [.im (dT (tab n f)), .im (.int (i : Int)), .im (.tuple ((List.range n).map fun j => .int (gain f i j))), .no, .no]) ((ew_enumT ev_var).is (by rw [numbered_map])) rfl (by decide) (by rintro i _ rfl; exact ⟨rfl, rfl⟩) ?_ (by rintro _ rfl; rfl)
    rintro j hj _ rfl
    have hj' : j < n := by simpa using hj
    rw [List.getElem_range]
    refine ss_if (et_test (ev_cmpI (p := fun i j => decide (i < j)) ev_var ev_int)) (fun h => ?_) (fun _ => ss_next rfl)
    have := hs i j hi' hj'
    simp at h
    omega
  · rintro _ rfl
    exact ss_ret ev_non rfl
def R_is_straight_table (ds : List PyData) (d : PyData) : Prop := ∃ (n : Nat) (f : Nat → Nat → Int), n ≤ 12 ∧ Straight n f ∧ ds = [dT (tab n f)] ∧ d = .bool true
abbrev s_is_straight_table : Stmt := topS 35
theorem sc_is_straight_table : FnScope ["table"] ["table"] (defScope s_is_straight_table) := ⟨rfl, rfl, rfl, by decide +kernel, rfl, by decide +kernel, by decide +kernel⟩
theorem ok_is_straight_table (T : Tx mg) (F : Dfn K mg "is_straight_table" s_is_straight_table) (C_first_paying : Cal P w K mg base CX0 4 "first_paying" ["table"] (spP (K := K) R_first_paying)) :
    Cal P w K mg base CX0 5 "is_straight_table" ["table"] (spP (K := K) R_is_straight_table) := by
  have nd := sc_is_straight_table.nd
  refine cal_pure F sc_is_straight_table (by rintro _ _ ⟨_, _, _, _, rfl, rfl⟩; rfl) (fun f fd F => F.bindsN fun _ _ _ _ _ _ us hl => match us, hl with | [_], _ => rfl) (fun f cdv A outer s H E hr => ⟨_,
      (pss_one (ps_ret (pe_cmpR op_isN (pe_cal C_first_paying hr pass0 (pa_cons (pv 0) pa_nil)) pe_non (nomark _)))), ?_⟩)
  rintro _ _ ⟨n, f, hn, hs, rfl, rfl⟩
  exact ss_ret (ev_isN rfl (ev_call (R := R_first_paying) (ea_cons ev_var ea_nil) ⟨n, f, hn, hs, rfl, rfl⟩) (k := true) (fun G v dv => by cases dv; rfl)) rfl
/-! ### is_table_form, need_table, need_two, product, is_straight: tables that are tables -/
def R_is_table_form (ds : List PyData) (d : PyData) : Prop := ∃ (n : Nat) (f : Nat → Nat → Int), n ≤ 7 ∧ ds = [dT (tab n f)] ∧ d = .bool true
abbrev s_is_table_form : Stmt := topS 38
theorem sc_is_table_form : FnScope ["thing", "row"] ["thing"] (defScope s_is_table_form) := ⟨rfl, rfl, rfl, by decide +kernel, rfl, by decide +kernel, by decide +kernel⟩
theorem ok_is_table_form (T : Tx mg) (F : Dfn K mg "is_table_form" s_is_table_form) (C_is_row_of : Cal P w K mg base CX0 1 "is_row_of" ["thing", "least", "most"] (spP (K := K) R_is_row_of)) (C_are_integers : Cal P w K mg base CX0 2 "are_integers" ["thing", "many"] (spP (K := K) R_are_integers)) :
    Cal P w K mg base CX0 3 "is_table_form" ["thing"] (spP (K := K) R_is_table_form) := by
  have nd := sc_is_table_form.nd
  refine cal_pure F sc_is_table_form (by rintro _ _ ⟨_, _, _, rfl, rfl⟩; rfl) (fun f fd F => F.bindsN fun _ _ _ _ _ _ us hl => match us, hl with | [_], _ => rfl) (fun f cdv A outer s H E hr => ⟨_,
      (pss_cons (ps_if (PW.pt (pw_or (pt_not (pt_val (pe_cal C_is_row_of hr pass0 (pa_cons (pv 0) (pa_cons pe_int (pa_cons (pe_num T.mr) pa_nil)))))) (pw_or1 (pt_not (pt_val (pe_cal C_is_row_of hr pass0 (pa_cons (pe_ix (r := rIxT K) ix_tup (pv 0) pe_int (fun _ _ => rfl)) (pa_cons pe_int (pa_cons (pe_num T.mr) pa_nil))))))))) (pss_one (ps_ret pe_bl)) pss_nil)
      (pss_one (ps_ret (pe_callB (id := "all") (r := rAll K) (cr_all rfl) rfl T.all (by decide +kernel) (pa_cons (pe_lc (own := [("row", 1)]) rfl nd (pi_tupK (K := K) (pv 0)) (blkOk_by (by kernel_rfl)) (fun _ _ _ _ _ => (pg_name (i := 1) nd rfl (.inl rfl) (.inr rfl))) (fun _ _ _ _ _ => pts_nil) (fun _ _ _ _ _ => (pe_cal C_are_integers hr pass0 (pa_cons (pv 1) (pa_cons (pe_callB (id := "len") (r := rLenS K) call_len_seq rfl T.len (by decide +kernel) (pa_cons (pe_ix (r := rIxT K) ix_tup (pv 0) pe_int (fun _ _ => rfl)) pa_nil)) pa_nil))))) pa_nil))))), ?_⟩)
  rintro _ _ ⟨n, f, hn, rfl, rfl⟩
  refine ss_seq (N1 := fun s => s = [.im (dT (tab n f)), .no]) (ss_if (b := !true || !true) (et_or (et_not (et_B (ev_call (R := R_is_row_of) (ea_cons ev_var (ea_cons ev_int (ea_cons ev_int ea_nil))) ⟨_, _, _, rfl, ?_⟩))) fun _ => et_not (et_B (ev_call (R := R_is_row_of) (ea_cons (ev_row (i := 0) ev_var ev_int (by omega)) (ea_cons ev_int (ea_cons ev_int ea_nil))) ⟨_, _, _, rfl, ?_⟩))) (fun h => by cases h) (fun _ => ss_next rfl)) ?_
  · simp [lenIn, dT, tab_len]; omega
  · simp [lenIn, dR, rowOf_len]; omega
  rintro _ rfl
  refine ss_ret (ev_allC (p := fun _ => true) (ev_lc (xs := List.range (n + 1)) (emb := fun i => dR (rowOf n (f i))) _ ((ew_tup ev_var).is (by rw [tabI])) (fun i hi => ev_call (R := R_are_integers) (ea_cons ev_var (ea_cons (ev_lenRow (ev_row (i := 0) ev_var ev_int (by omega))) ea_nil)) ⟨rowOf n (f i), by rw [rowOf_len]; omega, by rw [rowOf_len], rfl⟩) (by simp; omega))) ?_
  simp
def R_need_table (ds : List PyData) (d : PyData) : Prop := ∃ (n : Nat) (f : Nat → Nat → Int), n ≤ 7 ∧ ds = [dT (tab n f)] ∧ d = .none
abbrev s_need_table : Stmt := topS 39
theorem sc_need_table : FnScope ["table"] ["table"] (defScope s_need_table) := ⟨rfl, rfl, rfl, by decide +kernel, rfl, by decide +kernel, by decide +kernel⟩
theorem ok_need_table (T : Tx mg) (F : Dfn K mg "need_table" s_need_table) (C_is_table_form : Cal P w K mg base CX0 3 "is_table_form" ["thing"] (spP (K := K) R_is_table_form)) :
    Cal P w K mg base CX0 4 "need_table" ["table"] (spP (K := K) R_need_table) := by
  have nd := sc_need_table.nd
  refine cal_pure F sc_need_table (by rintro _ _ ⟨_, _, _, rfl, rfl⟩; rfl) (fun f fd F => F.bindsN fun _ _ _ _ _ _ us hl => match us, hl with | [_], _ => rfl) (fun f cdv A outer s H E hr => ⟨_,
      (pss_one (ps_if (pt_not (pt_val (pe_cal C_is_table_form hr pass0 (pa_cons (pv 0) pa_nil)))) (pss_one ps_never) pss_nil)), ?_⟩)
  rintro _ _ ⟨n, f, hn, rfl, rfl⟩
  exact ss_if (b := !true) (et_not (et_B (ev_call (R := R_is_table_form) (ea_cons ev_var ea_nil) ⟨n, f, hn, rfl, rfl⟩))) (fun h => by cases h) (fun _ => ss_next rfl)
def R_need_two (ds : List PyData) (d : PyData) : Prop := ∃ (n : Nat) (f g : Nat → Nat → Int), n ≤ 7 ∧ ds = [dT (tab n f), dT (tab n g)] ∧ d = .none
abbrev s_need_two : Stmt := topS 41
theorem sc_need_two : FnScope ["table", "other"] ["table", "other"] (defScope s_need_two) := ⟨rfl, rfl, rfl, by decide +kernel, rfl, by decide +kernel, by decide +kernel⟩
theorem ok_need_two (T : Tx mg) (F : Dfn K mg "need_two" s_need_two) (C_need_table : Cal P w K mg base CX0 4 "need_table" ["table"] (spP (K := K) R_need_table)) :
    Cal P w K mg base CX0 5 "need_two" ["table", "other"] (spP (K := K) R_need_two) := by
  have nd := sc_need_two.nd
  refine cal_pure F sc_need_two (by rintro _ _ ⟨_, _, _, _, rfl, rfl⟩; rfl) (fun f fd F => F.bindsN fun _ _ _ _ _ _ us hl => match us, hl with | [_, _], _ => rfl) (fun f cdv A outer s H E hr => ⟨_,
      (pss_cons (ps_expr (pe_cal C_need_table hr pass0 (pa_cons (pv 0) pa_nil)))
      (pss_cons (ps_expr (pe_cal C_need_table hr pass0 (pa_cons (pv 1) pa_nil)))
      (pss_one (ps_if (pt_cmpR op_ne (pe_callB (id := "len") (r := rLenS K) call_len_seq rfl T.len (by decide +kernel) (pa_cons (pe_ix (r := rIxT K) ix_tup (pv 0) pe_int (fun _ _ => rfl)) pa_nil)) (pe_callB (id := "len") (r := rLenS K) call_len_seq rfl T.len (by decide +kernel) (pa_cons (pv 1) pa_nil)) (nomark _)) (pss_one ps_never) pss_nil)))), ?_⟩)
  rintro _ _ ⟨n, f, g, hn, rfl, rfl⟩
  refine ss_seq (N1 := fun s => s = [.im (dT (tab n f)), .im (dT (tab n g))]) (ss_drop (ev_call (R := R_need_table) (ea_cons ev_var ea_nil) ⟨n, f, hn, rfl, rfl⟩) rfl) ?_
  rintro _ rfl
  refine ss_seq (N1 := fun s => s = [.im (dT (tab n f)), .im (dT (tab n g))]) (ss_drop (ev_call (R := R_need_table) (ea_cons ev_var ea_nil) ⟨n, g, hn, rfl, rfl⟩) rfl) ?_
  rintro _ rfl
  exact ss_if (b := false) ((et_test (ev_neI (ev_lenRow (ev_row (i := 0) ev_var ev_int (by omega))) (ev_lenTab ev_var))).is (by simp)) (fun h => by cases h) (fun _ => ss_next rfl)
def R_product (ds : List PyData) (d : PyData) : Prop := ∃ (n : Nat) (f g : Nat → Nat → Int), n ≤ 7 ∧ ds = [dT (tab n f), dT (tab n g)] ∧ d = dT (tab n (mp f g n))
abbrev s_product : Stmt := topS 42
theorem sc_product : FnScope ["table", "other"] ["table", "other"] (defScope s_product) := ⟨rfl, rfl, rfl, by decide +kernel, rfl, by decide +kernel, by decide +kernel⟩
theorem ok_product (T : Tx mg) (F : Dfn K mg "product" s_product) (C_need_two : Cal P w K mg base CX0 5 "need_two" ["table", "other"] (spP (K := K) R_need_two)) (C_least_sums : Cal P w K mg base CX0 2 "least_sums" ["one", "other"] (spP (K := K) R_least_sums)) :
    Cal P w K mg base CX0 6 "product" ["table", "other"] (spP (K := K) R_product) := by
  have nd := sc_product.nd
  refine cal_pure F sc_product (by rintro _ _ ⟨_, _, _, _, rfl, rfl⟩; rfl) (fun f fd F => F.bindsN fun _ _ _ _ _ _ us hl => match us, hl with | [_, _], _ => rfl) (fun f cdv A outer s H E hr => ⟨_,
      (pss_cons (ps_expr (pe_cal C_need_two hr pass0 (pa_cons (pv 0) (pa_cons (pv 1) pa_nil))))
      (pss_one (ps_ret (pe_cal C_least_sums hr pass0 (pa_cons (pv 0) (pa_cons (pv 1) pa_nil)))))), ?_⟩)
  rintro _ _ ⟨n, f, g, hn, rfl, rfl⟩
  refine ss_seq (N1 := fun s => s = [.im (dT (tab n f)), .im (dT (tab n g))]) (ss_drop (ev_call (R := R_need_two) (ea_cons ev_var (ea_cons ev_var ea_nil)) ⟨n, f, g, hn, rfl, rfl⟩) rfl) ?_
  rintro _ rfl
  exact ss_ret (ev_call (R := R_least_sums) (ea_cons ev_var (ea_cons ev_var ea_nil)) ⟨n, f, g, by omega, rfl, rfl⟩) rfl
def R_is_straight (ds : List PyData) (d : PyData) : Prop := ∃ (n : Nat) (f : Nat → Nat → Int), n ≤ 7 ∧ Straight n f ∧ ds = [dT (tab n f)] ∧ d = .bool true
abbrev s_is_straight : Stmt := topS 44
theorem sc_is_straight : FnScope ["table"] ["table"] (defScope s_is_straight) := ⟨rfl, rfl, rfl, by decide +kernel, rfl, by decide +kernel, by decide +kernel⟩
theorem ok_is_straight (T : Tx mg) (F : Dfn K mg "is_straight" s_is_straight) (C_need_table : Cal P w K mg base CX0 4 "need_table" ["table"] (spP (K := K) R_need_table)) (C_is_straight_table : Cal P w K mg base CX0 5 "is_straight_table" ["table"] (spP (K := K) R_is_straight_table)) :
    Cal P w K mg base CX0 6 "is_straight" ["table"] (spP (K := K) R_is_straight) := by
  have nd := sc_is_straight.nd
  refine cal_pure F sc_is_straight (by rintro _ _ ⟨_, _, _, _, rfl, rfl⟩; rfl) (fun f fd F => F.bindsN fun _ _ _ _ _ _ us hl => match us, hl with | [_], _ => rfl) (fun f cdv A outer s H E hr => ⟨_,
      (pss_cons (ps_expr (pe_cal C_need_table hr pass0 (pa_cons (pv 0) pa_nil)))
      (pss_one (ps_ret (pe_cal C_is_straight_table hr pass0 (pa_cons (pv 0) pa_nil))))), ?_⟩)
  rintro _ _ ⟨n, f, hn, hs, rfl, rfl⟩
  refine ss_seq (N1 := fun s => s = [.im (dT (tab n f))]) (ss_drop (ev_call (R := R_need_table) (ea_cons ev_var ea_nil) ⟨n, f, hn, rfl, rfl⟩) rfl) ?_
  rintro _ rfl
  exact ss_ret (ev_call (R := R_is_straight_table) (ea_cons ev_var ea_nil) ⟨n, f, by omega, hs, rfl, rfl⟩) rfl
end
end Jn
set_option maxHeartbeats 4000000
/-! expressions that draw: what they give is not fixed, the feed changes -/
namespace Jn
open PySem
open PySem.Spec PyProof.Rows
open L2
/-- a feed: three ints, its count at most n -/
def FeedD (n : Nat) (fd : List PyData) : Prop := ∃ a b c : Int, fd = [.int a, .int b, .int c] ∧ 0 ≤ b ∧ b < 10 ^ 40 ∧ 0 ≤ c ∧ c ≤ n
theorem FeedD.mono {n m : Nat} {fd : List PyData} (h : FeedD n fd) (hm : n ≤ m) : FeedD m fd := by
  obtain ⟨a, b, c, e, h1, h2, h3, h4⟩ := h
  exact ⟨a, b, c, e, h1, h2, h3, by omega⟩
def FeedAt (K : PySem.W.Frag) (G H : Hp) (p : Addr) (n : Nat) : Prop := G p = none ∧ ∃ (ys : List V) (fd : List PyData), H p = some (.lst ys) ∧ DqAll K G ys fd ∧ FeedD n fd
/-- a def that draws (at most k times); R what it may give -/
def spF (K : PySem.W.Frag) (k : Nat) (R : List PyData → PyData → Prop) : Sp := fun vs H Q _ => ∃ (G : Hp) (p : Addr) (us : List V) (ds : List PyData) (n : Nat), vs = .ref p :: us ∧ Ex G H ∧ FeedAt K G H p n ∧ n + k ≤ 1000 ∧ DqAll K G us ds ∧ (∃ d, R ds d) ∧
  ∀ v d G' H', R ds d → Fx (fun a => a = p) G H G' H' → FeedAt K G' H' p (n + k) → Dq K G' v d → Q v H'
/-- a def that changes nothing; R what it may give -/
def spQ (K : PySem.W.Frag) (R : List PyData → PyData → Prop) : Sp := fun vs H Q _ => ∃ (G : Hp) (ds : List PyData), Ex G H ∧ DqAll K G vs ds ∧ (∃ d, R ds d) ∧ ∀ v d G' H', R ds d → Gx G H G' H' → Dq K G' v d → Q v H'
section
variable {K : PySem.W.Frag} {ρ : Rho} {te ta tb : TE} {tt tu : TT} {t u : TS} {tl : TA} {N : Rho → Prop} {R : PyData → Rho → Prop}
theorem EvA.em {ds : List PyData} (h : EvA K tl ρ ds) : EmA K tl ρ fun a r => a = ds ∧ r = ρ := fun S G0 H0 σ G H Q k q => h σ G H Q k.f.i k.s fun v G' H' g dq => q v ds ρ G' H' ⟨rfl, rfl⟩ (k.go g) dq
theorem ema_nil {RA : List PyData → Rho → Prop} (h : RA [] ρ) : EmA K tNil ρ RA := fun S G0 H0 σ G H Q k q => q [] [] ρ G H h k .nil
theorem ema_cons {R1 : PyData → Rho → Prop} {RB : PyData → List PyData → Rho → Prop} {RA : List PyData → Rho → Prop} (h : Em K te ρ R1) (h2 : ∀ a r, R1 a r → EmA K tl r (RB a)) (hr : ∀ a r1 ds r, R1 a r1 → RB a ds r → RA (a :: ds) r) : EmA K (tCons te tl) ρ RA := fun S G0 H0 σ G H Q k q =>
  h S G0 H0 σ G H _ k fun v a r1 G1 H1 x1 k1 d1 => h2 a r1 x1 S G1 H0 σ G1 H1 _ (k1.later k1.f (Same.refl _)) fun vs ds r2 G2 H2 x2 k2 d2 =>
    q _ _ r2 G2 H2 (hr a r1 ds r2 x1 x2) (k2.back k1.f) (.cons (d1.mono k2.f.g) d2)
theorem em_op {r : R2} {R1 : PyData → Rho → Prop} {R2' : PyData → PyData → Rho → Prop} (ha : Em K ta ρ R1) (hb : ∀ a r1, R1 a r1 → Em K tb r1 (R2' a)) (hr : ∀ a r1 b r2, R1 a r1 → R2' a b r2 → ∃ c, RvD K r a b c ∧ R c r2) : Em K (tOp r ta tb) ρ R := fun S G0 H0 σ G H Q k q =>
  ha S G0 H0 σ G H _ k fun v a r1 G1 H1 x1 k1 d1 => hb a r1 x1 S G1 H0 σ G1 H1 _ (k1.later k1.f (Same.refl _)) fun w b r2 G2 H2 x2 k2 d2 => by
    obtain ⟨c, h1, h2⟩ := hr a r1 b r2 x1 x2
    exact h1 v w G2 H2 Q k2.f.i (d1.mono k2.f.g) d2 fun z G3 H3 g3 d3 => q z c r2 G3 H3 h2 ((k2.back k1.f).go g3) d3
theorem em_cb {r : List V → Hp → VK → Prop} {RA : List PyData → Rho → Prop} (h : EmA K tl ρ RA) (hr : ∀ ds r1, RA ds r1 → ∃ c, RcD K r ds c ∧ R c r1) : Em K (tCB r tl) ρ R := fun S G0 H0 σ G H Q k q =>
  h S G0 H0 σ G H _ k fun vs ds r1 G1 H1 x1 k1 d1 => by
    obtain ⟨c, h1, h2⟩ := hr ds r1 x1
    exact h1 vs G1 H1 Q k1.f.i d1 fun z G3 H3 g3 d3 => q z c r1 G3 H3 h2 (k1.go g3) d3
theorem emt_test {R1 : PyData → Rho → Prop} {RT : Bool → Rho → Prop} (h : Em K te ρ R1) (hr : ∀ d r, R1 d r → ∃ b, d = .bool b ∧ RT b r) : EmT K (tTest te) ρ RT := fun S G0 H0 σ G H Q k q =>
  h S G0 H0 σ G H _ k fun v d r1 G1 H1 x1 k1 d1 => by
    obtain ⟨b, rfl, h2⟩ := hr d r1 x1
    cases d1
    exact ⟨b, rfl, q b r1 G1 H1 h2 k1⟩
theorem emt_or {R1 RT : Bool → Rho → Prop} (h : EmT K tt ρ R1) (h1 : ∀ r, R1 true r → RT true r) (h2 : ∀ r, R1 false r → EmT K tu r RT) : EmT K (tOr tt tu) ρ RT := fun S G0 H0 σ G H Q k q =>
  h S G0 H0 σ G H _ k fun b r1 G1 H1 x1 k1 => by
    cases b with
    | true => exact iteT (q true r1 G1 H1 (h1 r1 x1) k1)
    | false => exact iteF (h2 r1 x1 S G0 H0 σ G1 H1 Q k1 q)
theorem em_if {R1 : Bool → Rho → Prop} (h : EmT K tt ρ R1) (h1 : ∀ r, R1 true r → Em K ta r R) (h2 : ∀ r, R1 false r → Em K tb r R) : Em K (tIf tt ta tb) ρ R := fun S G0 H0 σ G H Q k q =>
  h S G0 H0 σ G H _ k fun b r1 G1 H1 x1 k1 => by
    cases b with
    | true => exact iteT (h1 r1 x1 S G0 H0 σ G1 H1 Q k1 q)
    | false => exact iteF (h2 r1 x1 S G0 H0 σ G1 H1 Q k1 q)
theorem feed_at {G H : Hp} {σ : L2.St} {i : Nat} {o : Bool} {p : Addr} {fd : List PyData} {n : Nat} (s : Sd K G H σ ρ) (hi : ρ[i]? = some (.ml o p fd)) (hf : FeedD n fd) : FeedAt K G H p n := by
  obtain ⟨h1, h2, vs, h3, h4⟩ := s.at_ i _ hi
  exact ⟨h2, vs, fd, h3, h4, hf⟩
/-- a call that draws -/
theorem em_callF {i k : Nat} {o : Bool} {p : Addr} {fd : List PyData} {n : Nat} {E : XK} {RF : List PyData → PyData → Prop} {RA : List PyData → Rho → Prop} (hi : ρ[i]? = some (.ml o p fd)) (h : EmA K tl ρ RA)
    (hR : ∀ ds r1, RA ds r1 → ∃ fd1, r1[i]? = some (.ml o p fd1) ∧ FeedD n fd1 ∧ ∃ d, RF ds d) (hn : n + k ≤ 1000) (hq : ∀ ds r1 d fd', RA ds r1 → RF ds d → FeedD (n + k) fd' → R d (r1.set i (.ml o p fd'))) :
    Em K (tCall (spF K k RF) [] E (tCons (tVar i) tl)) ρ R := fun S G0 H0 σ G H Q kk q => by
  obtain ⟨s1, _⟩ := kk.s.at_ i _ hi
  refine ⟨_, s1, h S G0 H0 σ G H _ kk fun vs ds r1 G1 H1 x1 k1 d1 => ?_⟩
  obtain ⟨fd1, hi1, hf1, hd⟩ := hR ds r1 x1
  refine ⟨G1, p, vs, ds, n, by rw [List.append_nil], k1.f.i, feed_at k1.s hi1 hf1, hn, d1, hd, fun v d G' H' hr f ⟨g1, ys, fd', g2, g3, g4⟩ dq => ?_⟩
  exact q v d _ G' H' (hq ds r1 d fd' x1 hr g4) (k1.change hi1 f g1 g2 g3) dq
theorem em_callQ {E : XK} {RF : List PyData → PyData → Prop} {RA : List PyData → Rho → Prop} (h : EmA K tl ρ RA) (hR : ∀ ds r1, RA ds r1 → ∃ d, RF ds d) (hq : ∀ ds r1 d, RA ds r1 → RF ds d → R d r1) :
    Em K (tCall (spQ K RF) [] E tl) ρ R := fun S G0 H0 σ G H Q kk q =>
  h S G0 H0 σ G H _ kk fun vs ds r1 G1 H1 x1 k1 d1 => ⟨G1, ds, k1.f.i, by rw [List.append_nil]; exact d1, hR ds r1 x1, fun v d G' H' hr g dq => q v d r1 G' H' (hq ds r1 d x1 hr) (k1.go g) dq⟩
/-- xs.pop(e) -/
theorem em_pop {i : Nat} {o : Bool} {p : Addr} {ds : List PyData} {R1 : PyData → Rho → Prop} (hi : ρ[i]? = some (.ml o p ds)) (h : Em K te ρ R1) (hl : ds.length ≤ 100000)
    (hr : ∀ d r1, R1 d r1 → ∃ n : Nat, d = .int (n : Int) ∧ n < ds.length ∧ r1[i]? = some (.ml o p ds) ∧ ∀ x, ds[n]? = some x → R x (r1.set i (.ml o p (ds.eraseIdx n)))) :
    Em K (tBM K "list" rPopAt (tVar i) (tCons te tNil)) ρ R := fun S G0 H0 σ G H Q k q => by
  obtain ⟨s1, s2, vs, s3, s4⟩ := k.s.at_ i _ hi
  refine ⟨_, s1, tyv_l (G := G) s3, h S G0 H0 σ G H _ k fun v d r1 G1 H1 x1 k1 d1 => ?_⟩
  obtain ⟨n, rfl, hn, hi1, hx⟩ := hr d r1 x1
  cases d1
  obtain ⟨_, _, vs1, s31, s41⟩ := k1.s.at_ i _ hi1
  obtain ⟨y, hy, dy⟩ := s41.ix hn
  have hvl : vs1.length = ds.length := s41.length
  refine ⟨p, vs1, n, n, y, rfl, rfl, s31, by omega, by omega, ?_, hy, ?_⟩
  · exact (ixN_seq (ixNat (by omega))).1
  · exact q y _ _ _ _ (hx _ (at_of hn)) (k1.write hi1 (s41.eraseIdx n)) dy
/-! ### statements -/
theorem ss_appE {i : Nat} {o : Bool} {p : Addr} {ds0 : List PyData} {R1 : PyData → Rho → Prop} {RR : PyData → Rho → Prop} (hi : ρ[i]? = some (.ml o p ds0)) (h : Em K te ρ R1)
    (hr : ∀ d r1, R1 d r1 → ∃ ds, r1[i]? = some (.ml o p ds) ∧ ds.length < 100000 ∧ N (r1.set i (.ml o p (ds ++ [d])))) : Ss K (tDrop (tBM K "list" rAppend (tVar i) (tCons te tNil))) ρ N RR := fun S G0 H0 σ G H D k n r => by
  obtain ⟨s1, s2, vs, s3, s4⟩ := k.s.at_ i _ hi
  refine ⟨_, s1, tyv_l (G := G) s3, h S G0 H0 σ G H _ k fun v d r1 G1 H1 x1 k1 d1 => ?_⟩
  obtain ⟨ds, hi1, hl, hN⟩ := hr d r1 x1
  obtain ⟨_, _, vs1, s31, s41⟩ := k1.s.at_ i _ hi1
  exact ⟨p, vs1, v, rfl, rfl, s31, by rw [sizeLine_eq, s41.length]; omega, n _ _ _ _ hN (k1.write hi1 (s41.append (.cons d1 .nil)))⟩
theorem ss_parE {i j : Nat} {RA : List PyData → Rho → Prop} {RR : PyData → Rho → Prop} (h : EmA K tl ρ RA) (hij : i ≠ j) (hr : ∀ ds r, RA ds r → ∃ a b, ds = [a, b] ∧ (r[i]?).isSome = true ∧ (r[j]?).isSome = true ∧ N ((r.set i (.im a)).set j (.im b))) : Ss K (tPar i j tl) ρ N RR := fun S G0 H0 σ G H D k n r =>
  h S G0 H0 σ G H _ k fun vs ds r1 G1 H1 x1 k1 d1 => by
    obtain ⟨a, b, rfl, hi, hj, hN⟩ := hr ds r1 x1
    cases d1 with
    | @cons v _ _ _ q1 d1 =>
      cases d1 with
      | @cons w _ _ _ q2 d1 =>
        cases d1
        exact ⟨v, w, rfl, n _ _ _ _ hN ((k1.put q1 hi).put (i := j) q2 (by rw [List.getElem?_set_ne hij]; exact hj))⟩
theorem ss_par3E {i j l : Nat} {RA : List PyData → Rho → Prop} {RR : PyData → Rho → Prop} (h : EmA K tl ρ RA) (hij : i ≠ j) (hil : i ≠ l) (hjl : j ≠ l)
    (hr : ∀ ds r, RA ds r → ∃ a b c, ds = [a, b, c] ∧ (r[i]?).isSome = true ∧ (r[j]?).isSome = true ∧ (r[l]?).isSome = true ∧ N (((r.set i (.im a)).set j (.im b)).set l (.im c))) : Ss K (tPar3 i j l tl) ρ N RR := fun S G0 H0 σ G H D k n r =>
  h S G0 H0 σ G H _ k fun vs ds r1 G1 H1 x1 k1 d1 => by
    obtain ⟨a, b, c, rfl, hi, hj, hl, hN⟩ := hr ds r1 x1
    cases d1 with
    | @cons v _ _ _ q1 d1 =>
      cases d1 with
      | @cons w _ _ _ q2 d1 =>
        cases d1 with
        | @cons z _ _ _ q3 d1 =>
          cases d1
          exact ⟨v, w, z, rfl, n _ _ _ _ hN (((k1.put q1 hi).put (i := j) q2 (by rw [List.getElem?_set_ne hij]; exact hj)).put (i := l) q3 (by rw [List.getElem?_set_ne hjl, List.getElem?_set_ne hil]; exact hl))⟩
/-- two new lists -/
theorem ss_parNN {i j : Nat} {ds es : List PyData} {RR : PyData → Rho → Prop} (h1 : EvN K ta ρ ds) (h2 : EvN K tb ρ es) (hi : (ρ[i]?).isSome = true) (hj : (ρ[j]?).isSome = true) (hij : i ≠ j) (hN : ∀ p q, N ((ρ.set i (.ml true p ds)).set j (.ml true q es))) :
    Ss K (tPar i j (tCons ta (tCons tb tNil))) ρ N RR := fun S G0 H0 σ G H D k n r =>
  h1 σ G H _ k.f.i k.s fun p vs G1 H1 a0 a1 ag a2 aq => by
    have k1 := k.putM ag a0 a1 a2 aq hi
    refine h2 σ G1 H1 _ ag.i (k.s.go ag) fun q ws G2 H2 b0 b1 bg b2 bq => ?_
    have k2 := k1.putM bg b0 b1 b2 bq (i := j) (by rw [List.getElem?_set_ne hij]; exact hj)
    exact ⟨.ref p, .ref q, rfl, n _ _ _ _ (hN p q) k2⟩
theorem ss_parNE {i j : Nat} {ds : List PyData} {d : PyData} {RR : PyData → Rho → Prop} (h1 : EvN K ta ρ ds) (h2 : Ev K tb ρ d) (hi : (ρ[i]?).isSome = true) (hj : (ρ[j]?).isSome = true) (hij : i ≠ j) (hN : ∀ p, N ((ρ.set i (.ml true p ds)).set j (.im d))) :
    Ss K (tPar i j (tCons ta (tCons tb tNil))) ρ N RR := fun S G0 H0 σ G H D k n r =>
  h1 σ G H _ k.f.i k.s fun p vs G1 H1 a0 a1 ag a2 aq => by
    have k1 := k.putM ag a0 a1 a2 aq hi
    refine h2 σ G1 H1 _ ag.i (k.s.go ag) fun w G2 H2 bg bq => ?_
    have k2 := (k1.go bg).put (i := j) bq (by rw [List.getElem?_set_ne hij]; exact hj)
    exact ⟨.ref p, w, rfl, n _ _ _ _ (hN p) k2⟩
theorem yes_intro {σ : L2.St} {H : Hp} {A B : Hp → Prop} (h : A H) : tYes σ H fun b H3 => if b = true then A H3 else B H3 := iteT (B := B H) h
/-- [f(feed, ..) for _ in range(..)], where f draws -/
theorem em_lcF {i j k n cm : Nat} {o : Bool} {p : Addr} {fd0 : List PyData} {tl2 : TA} {ds2 : List PyData} {E : XK} {RF : List PyData → PyData → Prop} (hi : ρ[i]? = some (.ml o p fd0)) (hj : ρ[j]? = some .no) (hij : i ≠ j)
    (h : EmA K tl ρ fun ds r => ∃ (c : Nat) (fd : List PyData), ds = [.int (c : Int)] ∧ c ≤ cm ∧ r = ρ.set i (.ml o p fd) ∧ FeedD n fd) (ha : ∀ x fd, EvA K tl2 ((ρ.set i (.ml o p fd)).set j (.im x)) ds2) (hR : ∃ d, RF ds2 d) (hn : n + cm * k ≤ 1000) (hcm : cm ≤ 1000)
    (hq : ∀ ds fd, ds.length ≤ cm → (∀ x ∈ ds, RF ds2 x) → FeedD (n + cm * k) fd → R (.list ds) (ρ.set i (.ml o p fd))) :
    Em K (tLc (iRng1 tl) (gName j) tYes (tCall (spF K k RF) [] E (tCons (tVar i) tl2)) [j]) ρ R := fun S G0 H0 σ G H Q kk q =>
  h S G0 H0 σ G H _ kk fun vs ds r1 G1 H1 x1 k1 d1 => by
    obtain ⟨c, fd1, rfl, hc, rfl, hf1⟩ := x1
    cases d1 with
    | cons d1 dr =>
      cases d1
      cases dr
      refine ⟨(c : Int), rfl, by omega, by omega, fun D hD => ?_⟩
      refine ⟨fun t m H2 => m = c - t ∧ t ≤ c ∧ ∃ (G2 : Hp) (acc : List V) (dr : List PyData) (fd : List PyData), FeedD (n + t * k) fd ∧ Ok K S G0 H0 G2 H2 σ (ρ.set i (.ml o p fd)) ∧ G2 D = none ∧ H2 D = some (.lst acc) ∧ DqAll K G2 acc dr ∧ dr.length = t ∧ ∀ x ∈ dr, RF ds2 x,
        ⟨c, rfl, Nat.zero_le _, G1, [], [], fd1, by simpa using hf1, k1.go (Gx.more k1.f.i hD), Same.free k1.f.i hD, upd_same, .nil, rfl, fun x hx => by cases hx⟩, ?_⟩
      rintro t m H2 ⟨rfl, ht, G2, acc, dr, fd, f1, k2, f2, f3, f4, f5, f6⟩
      have hip : ∀ e, (ρ.set i e)[i]? = some e := fun e => List.getElem?_set_self (is_lt (by rw [hi]; rfl))
      by_cases hlt : t < c
      · refine .inr ⟨?_, fun H3 => t + 1 ≤ c ∧ ∃ (G2 : Hp) (acc : List V) (dr : List PyData) (fd : List PyData), FeedD (n + (t + 1) * k) fd ∧ Ok K S G0 H0 G2 H3 σ (ρ.set i (.ml o p fd)) ∧ G2 D = none ∧ H3 D = some (.lst acc) ∧ DqAll K G2 acc dr ∧ dr.length = t + 1 ∧ ∀ x ∈ dr, RF ds2 x,
          fun H3 h3 => ⟨c - (t + 1), by omega, rfl, h3.1, h3.2⟩, ?_⟩
        · simp [Itr]; omega
        rintro x H3 ⟨rfl, rfl⟩
        refine ⟨wipe1, ?_⟩
        refine yes_intro ?_
        have hjn : (ρ.set i (.ml o p fd))[j]? = some .no := by rw [List.getElem?_set_ne hij]; exact hj
        have sw : Sd K G2 H3 (wipe σ [j]) (ρ.set i (.ml o p fd)) := k2.s.wipe (by
          rw [List.all_cons, List.getD_eq_getElem?_getD, hjn]
          rfl)
        have sp := sw.put (i := j) (v := V.int (0 + (t : Int))) (d := .int (0 + (t : Int))) (.int _) (by rw [hjn]; rfl)
        have hi3 : ((ρ.set i (.ml o p fd)).set j (.im (.int (0 + (t : Int)))))[i]? = some (.ml o p fd) := by rw [List.getElem?_set_ne (Ne.symm hij)]; exact hip _
        obtain ⟨s1, s2, ys, s3, s4⟩ := sp.at_ i _ hi3
        refine ⟨_, s1, ha _ fd _ G2 H3 _ k2.f.i sp fun us G4 H4 g4 d4 => ?_⟩
        have k4 := k2.go g4
        have hb : n + t * k + k ≤ 1000 := by
          have : (t + 1) * k ≤ cm * k := Nat.mul_le_mul_right k (by omega)
          rw [Nat.succ_mul] at this
          omega
        refine ⟨G4, p, us, ds2, n + t * k, by rw [List.append_nil], g4.i, feed_at k4.s (hip _) f1, hb, d4, hR, fun v d G5 H5 hr f ⟨e1, ys5, fd5, e2, e3, e4⟩ dq => ?_⟩
        have k5 := k4.change (hip _) f e1 e2 e3
        rw [List.set_set] at k5
        have Dp : D ≠ p := fun z => by
          rw [z] at f2 f3
          rw [s3] at f3
          have z2 := Same.free k1.f.i hD
          obtain ⟨_, _, ws, w3, _⟩ := k1.s.at_ i _ (hip _)
          rw [z, w3] at hD
          cases hD
        have D4 : H4 D = some (.lst acc) := g4.h _ _ f3
        have D5 : H5 D = some (.lst acc) := f.h D _ Dp D4
        have gD4 : G4 D = none := g4.n D f2 (by rw [f3]; simp)
        have gD5 : G5 D = none := f.n D gD4 (by rw [D4]; simp)
        have al : acc.length = t := by rw [f4.length, f5]
        refine ⟨acc, D5, by rw [sizeLine_eq, al]; omega, hlt, G5, acc ++ [v], dr ++ [d], fd5, by rw [Nat.succ_mul, ← Nat.add_assoc]; exact e4, ?_, gD5, upd_same, ((f4.mono g4.g).mono f.g).append (.cons dq .nil), by simp [f5], fun x hx => ?_⟩
        · have hD0 : H0 D = none := by
            cases e : H0 D with
            | none => rfl
            | some ob => exact absurd hD (k1.f.t D (by rw [e]; simp))
          refine ⟨⟨k5.f.g, ex_mut k5.f.i gD5, fun a ob ns e => ?_, fun a ha => ?_, k5.f.n⟩, ⟨k5.s.len, fun l e hl => ?_⟩, k5.own, k5.dis⟩
          · have ne : a ≠ D := fun z => by rw [z, hD0] at e; cases e
            rw [upd_ne ne]
            exact k5.f.h a ob ns e
          · by_cases z : a = D
            · rw [z, upd_same]; simp
            · rw [upd_ne z]; exact k5.f.t a ha
          · have a5 := k5.s.at_ l e hl
            cases e with
            | no => trivial
            | im d' => exact a5
            | ml o' p' es' =>
              obtain ⟨h1, h2, ws, h3, h4⟩ := a5
              have ne : p' ≠ D := fun z => by
                obtain ⟨_, _, ws1, w3, _⟩ := k1.s.at_ l _ (show (ρ.set i (.ml o p fd1))[l]? = some (.ml o' p' (if l = i then fd1 else es')) from by
                  by_cases z : l = i
                  · subst z
                    rw [hip] at hl ⊢
                    cases hl
                    rw [if_pos rfl]
                  · rw [List.getElem?_set_ne (Ne.symm z)] at hl ⊢
                    rw [if_neg z]
                    exact hl)
                rw [z, hD] at w3
                cases w3
              exact ⟨h1, h2, ws, by rw [upd_ne ne]; exact h3, h4⟩
        · rcases List.mem_append.mp hx with hx | hx
          · exact f6 x hx
          · rw [List.mem_singleton.mp hx]; exact hr
      · have et : t = c := by omega
        subst et
        refine .inl ⟨by simp [Itr], ?_⟩
        have kD : Ok K S G0 H0 (upd G2 D (.lst acc)) H2 σ (ρ.set i (.ml o p fd)) := by
          refine ⟨⟨k2.f.g.trans (ex_new f2), fun a ob ha => ?_, k2.f.h, k2.f.t, fun a h1 h2 => ?_⟩, ⟨k2.s.len, fun l e hl => ?_⟩, k2.own, k2.dis⟩
          · by_cases z : a = D
            · rw [z, upd_same] at ha
              rw [z, f3]
              exact ha
            · rw [upd_ne z] at ha
              exact k2.f.i a ob ha
          · have ne : a ≠ D := fun z => k1.f.t a h2 (by rw [z]; exact hD)
            rw [upd_ne ne]
            exact k2.f.n a h1 h2
          · have a2 := k2.s.at_ l e hl
            cases e with
            | no => trivial
            | im d' =>
              obtain ⟨w, h1, h2⟩ := a2
              exact ⟨w, h1, h2.mono (ex_new f2)⟩
            | ml o' p' es' =>
              obtain ⟨h1, h2, ws, h3, h4⟩ := a2
              have ne : p' ≠ D := fun z => by
                obtain ⟨_, _, ws1, w3, _⟩ := k1.s.at_ l _ (show (ρ.set i (.ml o p fd1))[l]? = some (.ml o' p' (if l = i then fd1 else es')) from by
                  by_cases z : l = i
                  · subst z
                    rw [hip] at hl ⊢
                    cases hl
                    rw [if_pos rfl]
                  · rw [List.getElem?_set_ne (Ne.symm z)] at hl ⊢
                    rw [if_neg z]
                    exact hl)
                rw [z, hD] at w3
                cases w3
              exact ⟨h1, by rw [upd_ne ne]; exact h2, ws, h3, h4.mono (ex_new f2)⟩
        exact q (.ref D) (.list dr) _ _ H2 (hq dr fd (by omega) f6 (f1.mono (by have := Nat.mul_le_mul_right k hc; omega))) kD (.lst (SqL.of upd_same) (f4.mono (ex_new f2)))
end
end Jn
set_option maxHeartbeats 4000000
namespace Jn
open PySem
open PySem.Spec PyProof.Rows
open L2
/-! ### list(range(i, j, -1)) -/
def dnV (i j : Int) : List V := (List.range (i - j).toNat).map fun m => V.int (i + (m : Nat) * (-1))
def tLstDn (ta : TA) : TE := fun σ H Q => ta σ H fun vs H1 => ∃ i j : Int, vs = [.int i, .int j, .int (-1)] ∧ (-(1000) ≤ i ∧ i < 1000 ∧ -(1000) ≤ j ∧ j < 1000) ∧ ∀ q, H1 q = none → Q (.ref q) (upd H1 q (.lst (dnV i j)))
section
variable {X : Cx} {a b c : Expr} {ta : TA} {p p2 pos pos2 : Pos}
theorem pe_lstDn (hc : X.calm = true) (hg : Gl X "list") (hm : X.mg "list" = none) (hg2 : Gl X "range") (hm2 : X.mg "range" = none) (ha : PA X [a, b, c] ta)
    (na : starEach [.Call (.Name "range" p2) [a, b, c] [] pos2] X.env = (false, eval (.Call (.Name "range" p2) [a, b, c] [] pos2) X.env) :: starEach [] X.env := by rfl)
    (hs : starEach [a, b, c] X.env = (false, eval a X.env) :: starEach [b, c] X.env := by rfl) (hpl : (backTo pos2 (starEach [b, c] X.env)).any (·.1) = false := by rfl) :
    PE X (.Call (.Name "list" p) [.Call (.Name "range" p2) [a, b, c] [] pos2] [] pos) (tLstDn ta) := by
  have inner : ∀ (pins : List (Addr × Obj)) (s : Shared) (σ : L2.St) (H : Hp) (R : Int → Int → Hp → Prop), Inv X pins σ H s → (ta σ H fun vs H1 => ∃ i j : Int, vs = [.int i, .int j, .int (-1)] ∧ R i j H1) →
      wpAny (model X.prog X.w) X.A (eval (.Call (.Name "range" p2) [a, b, c] [] pos2) X.env) (fun x s' => ∃ r i j t u v H', x = .ref r ∧ IsRange s'.heap r i j (-1) t u v ∧ Inv X pins σ H' s' ∧ R i j H') X.xe s := by
    intro pins s σ H R I h
    refine Call_ (ld_blt I hg2 hm2 boot_range (PyProof.Rows.callWith_type1 (thn (ha.run pos2 pins s σ H _ I h) fun us s1 ⟨vs, H1, I1, r1, q1⟩ => ?_) hs hpl))
    obtain ⟨i, j, e, q⟩ := q1
    subst e
    cases r1 with
    | cons r rr =>
      cases rr with
      | cons r' rr =>
        cases rr with
        | cons r'' rr =>
          cases rr
          obtain ⟨t, rfl⟩ := r
          obtain ⟨t', rfl⟩ := r'
          obtain ⟨t'', rfl⟩ := r''
          exact call_range_3 (by decide) ⟨_, i, j, _, _, _, H1, rfl, IsRange.new _ _ _ _ _ _ _, I1.kept fun b u e => Heap.get?_push_of_some _ e, q⟩ (.inl (PyProof.noPylong_small (by decide)))
  refine ⟨fun pins s σ H Q I h => ?_⟩
  refine Call_ (ld_blt I hg hm boot_list (PyProof.Rows.callWith_type1 (args_cons (thn (inner pins s σ H (fun i j H1 => (-(1000) ≤ i ∧ i < 1000 ∧ -(1000) ≤ j ∧ j < 1000) ∧ ∀ q, H1 q = none → Q (.ref q) (upd H1 q (.lst (dnV i j)))) I h) fun x s1 ⟨r, i, j, t, u, v, H1, ex, hr, I1, ok, q⟩ => args_nil ?_) na) na))
  subst ex
  obtain ⟨b1, b2, b3, b4⟩ := ok
  refine call_list_range (n := (i - j).toNat) (I1.ok.hd hc) hr (PySem.W.small_down (by omega) (by omega) (by omega) (by omega)) (PySem.W.rangeSize_downNat i j) (by omega) fun h' tk acc c' hk e' hi => ?_
  refine ⟨.ref s1.heap.objs.size, upd H1 s1.heap.objs.size (.lst (dnV i j)), I1.laid hk (Nat.le_refl _) (show ObjOk X.prog X.w _ _ _ (.lst (dnV i j)) from ⟨?_, acc.toList, c', ?_, ?_⟩), rfl, q _ (I1.hok.fresh (Nat.le_refl _))⟩
  · unfold dnV
    rw [List.length_map, List.length_range, sizeLine_eq]; omega
  · have e : acc.toList.length = (i - j).toNat := by rw [Array.length_toList]; exact hi.1
    unfold dnV
    rw [← e]
    refine vals_of_get acc.toList _ fun m u hm => ?_
    obtain ⟨t, rfl⟩ := hi.2 m u (by rw [← hm, Array.getElem?_toList])
    exact ⟨t, rfl⟩
  · rw [Array.toArray_toList]; exact e'
end
section
variable {K : PySem.W.Frag} {ρ : Rho} {ta tb tc te : TE}
def dnI (i j : Int) : List Int := (List.range (i - j).toNat).map fun m : Nat => i + (m : Int) * (-1)
theorem en_lstDn {i j : Int} (ha : Ev K ta ρ (.int i)) (hb : Ev K tb ρ (.int j)) (hc : Ev K tc ρ (.int (-1))) (hz : -(1000) ≤ i ∧ i < 1000 ∧ -(1000) ≤ j ∧ j < 1000) : EvN K (tLstDn (tCons ta (tCons tb (tCons tc tNil)))) ρ ((dnI i j).map .int) := fun σ G H Q e s q =>
  (ea_cons ha (ea_cons hb (ea_cons hc ea_nil))) σ G H _ e s fun vs G1 H1 g1 d1 => by
    cases d1 with
    | cons d1 dr =>
      cases d1
      cases dr with
      | cons d1 dr =>
        cases d1
        cases dr with
        | cons d1 dr =>
          cases d1
          cases dr
          refine ⟨i, j, rfl, hz, fun p hp => q p _ G1 _ (Same.free g1.h hp) (Same.free g1.i hp) (g1.trans (Gx.more g1.i hp)) upd_same ?_⟩
          have e1 : dnV i j = (dnI i j).map V.int := by
            unfold dnV dnI
            rw [List.map_map]
            rfl
          rw [e1]
          exact dq_ints K _ _
/-- calls and operations, on data alone -/
theorem rc_tupL {ds : List PyData} : RcD K (rTupS K) [.list ds] (.tuple ds) := fun vs G H Q e h q => by
  cases h with
  | cons h r =>
    cases r
    cases h with
    | @lst p ws _ hs ha => exact ⟨p, ws, rfl, .inl ⟨ex_l e hs, fun t ht => q _ _ _ (Gx.new e ht) (.tup (SqT.of upd_same) (ha.mono (ex_new (Same.free e ht))))⟩⟩
theorem rc_min2 {i j : Int} : RcD K (fun xs H Q => ∃ i j, xs = [.int i, .int j] ∧ Q (.int (if j < i then j else i)) H) [.int i, .int j] (.int (if j < i then j else i)) := fun vs G H Q e h q => by
  cases h with
  | cons h r =>
    cases h
    cases r with
    | cons h r =>
      cases h
      cases r
      exact ⟨i, j, rfl, q _ G H (.refl e) (.int _)⟩
theorem rv_eqI {i j : Int} : RvD K rEq (.int i) (.int j) (.bool (decide (i = j))) := fun x y G H Q e h1 h2 q => by
  cases h1
  cases h2
  refine ⟨rfl, ?_⟩
  have e1 : decide (V.int i = V.int j) = decide (i = j) := by rw [dec_int, Bool.beq_eq_decide_eq]
  rw [e1]
  exact q _ G H (.refl e) (.bl _)
end
/-! ### promises of defs that draw, or whose answer is not fixed -/
section
variable {P : Program} {w : World} {K : PySem.W.Frag} {mg : Str → Option Value} {base : Heap}
theorem sd_startF {G H : Hp} {p : Addr} {us : List V} {fd ds : List PyData} {n : Nat} {N : List Str} (hf : FeedAt K G H p n) (h : DqAll K G us ds) (hl : ds.length + 1 ≤ N.length) :
    ∃ fd, FeedD n fd ∧ Sd K G H (L2.start N (.ref p :: us)) (.ml false p fd :: (ds.map .im ++ List.replicate (N.length - (ds.length + 1)) .no)) := by
  obtain ⟨h1, ys, fd, h2, h3, h4⟩ := hf
  have l := h.length
  refine ⟨fd, h4, by unfold L2.start; simp; omega, fun i e hi => ?_⟩
  cases i with
  | zero =>
    cases hi
    exact ⟨rfl, h1, ys, h2, h3⟩
  | succ i =>
    rw [List.getElem?_cons_succ] at hi
    by_cases c : i < ds.length
    · rw [List.getElem?_append_left (by simpa using c), List.getElem?_map, at_of c] at hi
      cases hi
      obtain ⟨v, hv, dv⟩ := h.ix c
      refine ⟨v, ?_, dv⟩
      unfold L2.start
      rw [List.getElem?_append_left (by simp; omega), List.getElem?_map, List.getElem?_cons_succ, hv]
      rfl
    · rw [List.getElem?_append_right (by simp; omega), List.getElem?_replicate] at hi
      split at hi
      · cases hi
        trivial
      · cases hi
theorem ml_at0 {p q : Addr} {fd es ds : List PyData} {n i : Nat} {o : Bool} (h : (En.ml false p fd :: (ds.map En.im ++ List.replicate n En.no))[i]? = some (.ml o q es)) : i = 0 ∧ o = false ∧ q = p := by
  cases i with
  | zero =>
    cases h
    exact ⟨rfl, rfl, rfl⟩
  | succ i =>
    rw [List.getElem?_cons_succ] at h
    exact absurd h no_ml
theorem cal_feed {x : Str} {st : Stmt} {N ps : List Str} {k kd : Nat} {R : List PyData → PyData → Prop} (F : Dfn K mg x st) (S : FnScope N ps (defScope st)) (lens : ∀ ds d, R ds d → ds.length + 1 = ps.length)
    (b : ∀ f fd, FnP K x st f fd → Binds K fd ps [])
    (der : ∀ (f : Addr) (cdv : Value) (A : Around) (outer : List Env) (s : Shared) (H : Hp) (E : XK), Room k (A.deeper (envOfC x (defScope st) s.heap.objs.size f cdv)) →
      ∃ t, PSs (cxOf CX0 P w K mg base N x (defScope st) f cdv A outer s H E).nox (defBody st) t ∧ ∀ ds n p fd, (∃ d, R ds d) → FeedD n fd → n + kd ≤ 1000 →
        Ss K t (.ml false p fd :: (ds.map .im ++ List.replicate (N.length - (ds.length + 1)) .no)) (fun _ => False) (fun a r => R ds a ∧ ∃ fd', r[0]? = some (.ml false p fd') ∧ FeedD (n + kd) fd')) :
    Cal P w K mg base CX0 (k + 1) x ps (spF K kd R) := by
  obtain ⟨f, fd, F, gf⟩ := F
  have hN : ps.length ≤ N.length := by
    have z := congrArg List.length S.pre
    rw [List.length_take] at z
    omega
  refine ⟨f, fd, F.ok S (fun vs H Q E h => ?_) (fun cdv A outer s H vs Q E hr h => ?_), gf, F.kp, b f fd F, st, F⟩
  · obtain ⟨G, p, us, ds, n, rfl, _, _, _, hd, ⟨d, hR⟩, _⟩ := h
    rw [List.length_cons, hd.length]
    exact lens ds d hR
  · obtain ⟨t, h1, body⟩ := der f cdv A outer s H E hr
    refine ⟨t, PSs.nox h1, ?_⟩
    obtain ⟨G, p, us, ds, n, rfl, e, hf, hn, hd, hR, q⟩ := h
    have hl : ds.length + 1 ≤ N.length := by
      obtain ⟨d, hR⟩ := hR
      rw [lens ds d hR]
      exact hN
    obtain ⟨fd, hf2, s0⟩ := sd_startF (fd := []) hf hd hl
    have ok : Ok K (fun a => a = p) G H G H (L2.start N (.ref p :: us)) (.ml false p fd :: (ds.map .im ++ List.replicate (N.length - (ds.length + 1)) .no)) := ⟨Fx.refl e, s0, fun i o q es h => .inr (by
      obtain ⟨_, h2, h3⟩ := ml_at0 h
      exact ⟨h2, h3⟩), fun i j o q es o' es' h h' => by rw [(ml_at0 h).1, (ml_at0 h').1]⟩
    refine body ds n p fd hR hf2 hn (fun a => a = p) G H _ G H _ ok (fun σ' G' H' ρ' z k => z.elim) fun v a ρ' σ' G' H' z k dq => ?_
    obtain ⟨z1, fd', z2, z3⟩ := z
    exact q v a G' H' z1 k.f (feed_at k.s z2 z3) dq
theorem cal_Q {x : Str} {st : Stmt} {N ps : List Str} {k : Nat} {R : List PyData → PyData → Prop} (F : Dfn K mg x st) (S : FnScope N ps (defScope st)) (lens : ∀ ds d, R ds d → ds.length = ps.length)
    (b : ∀ f fd, FnP K x st f fd → Binds K fd ps [])
    (der : ∀ (f : Addr) (cdv : Value) (A : Around) (outer : List Env) (s : Shared) (H : Hp) (E : XK), Room k (A.deeper (envOfC x (defScope st) s.heap.objs.size f cdv)) →
      ∃ t, PSs (cxOf CX0 P w K mg base N x (defScope st) f cdv A outer s H E).nox (defBody st) t ∧ ∀ ds, (∃ d, R ds d) → Ss K t (ds.map .im ++ List.replicate (N.length - ds.length) .no) (fun _ => False) (fun a _ => R ds a)) :
    Cal P w K mg base CX0 (k + 1) x ps (spQ K R) := by
  obtain ⟨f, fd, F, gf⟩ := F
  have hN : ps.length ≤ N.length := by
    have z := congrArg List.length S.pre
    rw [List.length_take] at z
    omega
  refine ⟨f, fd, F.ok S (fun vs H Q E h => ?_) (fun cdv A outer s H vs Q E hr h => ?_), gf, F.kp, b f fd F, st, F⟩
  · obtain ⟨G, ds, _, hd, ⟨d, hR⟩, _⟩ := h
    rw [hd.length]
    exact lens ds d hR
  · obtain ⟨t, h1, body⟩ := der f cdv A outer s H E hr
    refine ⟨t, PSs.nox h1, ?_⟩
    obtain ⟨G, ds, e, hd, hR, q⟩ := h
    have hl : ds.length ≤ N.length := by
      obtain ⟨d, hR⟩ := hR
      rw [lens ds d hR]
      exact hN
    have ok : Ok K (fun _ => False) G H G H (L2.start N vs) (ds.map .im ++ List.replicate (N.length - ds.length) .no) := ⟨Fx.refl e, sd_start hd hl, fun i o p es h => absurd h no_ml, fun i j o p es o' es' h => absurd h no_ml⟩
    exact body ds hR (fun _ => False) G H _ G H _ ok (fun σ' G' H' ρ' z k => z.elim) fun v a ρ' σ' G' H' z k dq => q v a G' H' z k.f.gx dq
end
/-! ### a def that makes a new list, handed to its caller to change -/
def spNew (K : PySem.W.Frag) (R : List PyData → List PyData → Prop) : Sp := fun vs H Q _ => ∃ (G : Hp) (ds : List PyData), Ex G H ∧ DqAll K G vs ds ∧ (∃ es, R ds es) ∧ ∀ es p ws G' H', R ds es → H p = none → G' p = none → Gx G H G' H' → H' p = some (.lst ws) → DqAll K G' ws es → Q (.ref p) H'
def Sr (K : PySem.W.Frag) (ts : TS) (ρ : Rho) (R : List PyData → Prop) : Prop := ∀ (S : Addr → Prop) (G0 H0 : Hp) (σ : L2.St) (G H : Hp) (D : Ends), Ok K S G0 H0 G H σ ρ →
  (∀ es p ws G' H', R es → H0 p = none → G' p = none → Fx S G0 H0 G' H' → H' p = some (.lst ws) → DqAll K G' ws es → D.rt (.ref p) H') → ts D σ H
section
variable {K : PySem.W.Frag} {ρ : Rho} {te : TE} {t u : TS} {N1 : Rho → Prop} {R : List PyData → Prop}
theorem sr_seq (h : Ss K t ρ N1 (fun _ _ => False)) (h2 : ∀ r, N1 r → Sr K u r R) : Sr K (tSeq t u) ρ R := fun S G0 H0 σ G H D k r =>
  h S G0 H0 σ G H { D with nx := u D } k (fun σ' G' H' ρ' x k' => h2 ρ' x S G0 H0 σ' G' H' D k' r) fun v d ρ' σ' G' H' z k' dq => z.elim
theorem sr_ret {es : List PyData} (h : EvN K te ρ es) (hr : R es) : Sr K (tRet te) ρ R := fun S G0 H0 σ G H D k r =>
  h σ G H _ k.f.i k.s fun p ws G' H' h0 h1 g h2 q => by
    have hn : H0 p = none := by
      cases e : H0 p with
      | none => rfl
      | some o => exact absurd h0 (k.f.t p (by rw [e]; simp))
    exact r es p ws G' H' hr hn h1 (k.f.go g) h2 q
theorem en_callN {E : XK} {RN : List PyData → List PyData → Prop} {tl : TA} {ds : List PyData} {N : Rho → Prop} {RR : PyData → Rho → Prop} {i : Nat} (h : EvA K tl ρ ds) (hR : ∃ es, RN ds es) (hi : (ρ[i]?).isSome = true) (hn : ∀ es p, RN ds es → N (ρ.set i (.ml true p es))) :
    Ss K (tAsg (tCall (spNew K RN) [] E tl) (gName i)) ρ N RR := fun S G0 H0 σ G H D k n r => h σ G H _ k.f.i k.s fun vs G1 H1 g1 d1 => by
  refine ⟨G1, ds, g1.i, by rw [List.append_nil]; exact d1, hR, fun es p ws G' H' hr h0 h1 g h2 q => ?_⟩
  exact n _ G' H' _ (hn es p hr) ((k.go g1).putM g h0 h1 h2 q hi)
end
section
variable {P : Program} {w : World} {K : PySem.W.Frag} {mg : Str → Option Value} {base : Heap}
theorem cal_new {x : Str} {st : Stmt} {N ps : List Str} {k : Nat} {R : List PyData → List PyData → Prop} (F : Dfn K mg x st) (S : FnScope N ps (defScope st)) (lens : ∀ ds d, R ds d → ds.length = ps.length)
    (b : ∀ f fd, FnP K x st f fd → Binds K fd ps [])
    (der : ∀ (f : Addr) (cdv : Value) (A : Around) (outer : List Env) (s : Shared) (H : Hp) (E : XK), Room k (A.deeper (envOfC x (defScope st) s.heap.objs.size f cdv)) →
      ∃ t, PSs (cxOf CX0 P w K mg base N x (defScope st) f cdv A outer s H E).nox (defBody st) t ∧ ∀ ds, (∃ d, R ds d) → Sr K t (ds.map .im ++ List.replicate (N.length - ds.length) .no) (fun es => R ds es)) :
    Cal P w K mg base CX0 (k + 1) x ps (spNew K R) := by
  obtain ⟨f, fd, F, gf⟩ := F
  have hN : ps.length ≤ N.length := by
    have z := congrArg List.length S.pre
    rw [List.length_take] at z
    omega
  refine ⟨f, fd, F.ok S (fun vs H Q E h => ?_) (fun cdv A outer s H vs Q E hr h => ?_), gf, F.kp, b f fd F, st, F⟩
  · obtain ⟨G, ds, _, hd, ⟨d, hR⟩, _⟩ := h
    rw [hd.length]
    exact lens ds d hR
  · obtain ⟨t, h1, body⟩ := der f cdv A outer s H E hr
    refine ⟨t, PSs.nox h1, ?_⟩
    obtain ⟨G, ds, e, hd, hR, q⟩ := h
    have hl : ds.length ≤ N.length := by
      obtain ⟨d, hR⟩ := hR
      rw [lens ds d hR]
      exact hN
    have ok : Ok K (fun _ => False) G H G H (L2.start N vs) (ds.map .im ++ List.replicate (N.length - ds.length) .no) := ⟨Fx.refl e, sd_start hd hl, fun i o p es h => absurd h no_ml, fun i j o p es o' es' h => absurd h no_ml⟩
    exact body ds hR (fun _ => False) G H _ G H _ ok fun es p ws G' H' z h0 h1 f h2 q2 => q es p ws G' H' z h0 h1 f.gx h2 q2
end
end Jn
set_option maxHeartbeats 4000000
namespace Jn
open PySem
open PySem.Spec PyProof.Rows
open L2
open Ma
theorem cut_map {α : Type} {f : α → PyData} {ns : List α} {lo hi : Option Int} : ∃ ms : List α, cutD (ns.map f) lo hi = ms.map f := by
  unfold cutD
  exact ⟨_, by rw [← List.map_drop, ← List.map_take]⟩
section
variable {P : Program} {w : World} {K : PySem.W.Frag} {mg : Str → Option Value} {base : Heap}
/-! ### the feed -/
def R_feed (ds es : List PyData) : Prop := ∃ (ns : List Int) (k : Nat), k ≤ 1000 ∧ ds = [.list (ns.map .int), .int (k : Int)] ∧ FeedD 0 es
abbrev s__law_feed : Stmt := topS 46
theorem sc__law_feed : FnScope ["_law_script", "_law_k", "_law_cell"] ["_law_script", "_law_k"] (defScope s__law_feed) := ⟨rfl, rfl, rfl, by decide +kernel, rfl, by decide +kernel, by decide +kernel⟩
theorem ok_law_feed (T : Tx mg) (F : Dfn K mg "_law_feed" s__law_feed) : Cal P w K mg base CX0 1 "_law_feed" ["_law_script", "_law_k"] (spNew K R_feed) := by
  have nd := sc__law_feed.nd
  refine cal_new F sc__law_feed (by rintro _ _ ⟨_, _, _, rfl, _⟩; rfl) (fun f fd F => F.bindsN fun _ _ _ _ _ _ us hl => match us, hl with | [_, _], _ => rfl) (fun f cdv A outer s H E hr => ⟨_,
      (pss_cons (ps_set (i := 2) nd rfl (.inl rfl) (pe_op op_add (pe_op op_mul pe_int (pv 1)) (pe_callB (id := "sum") (r := rSum K) (cr_sum rfl) rfl T.sum (by decide +kernel) (pa_cons (pe_slice (r := rSlL K) sl_list (pv 0) po_none (po_some pe_int)) pa_nil))))
      (pss_cons (ps_if (pt_cmpR op_lt (pv 1) (pe_callB (id := "len") (r := rLenS K) call_len_seq rfl T.len (by decide +kernel) (pa_cons (pv 0) pa_nil)) (nomark _)) (pss_one (ps_set (i := 2) nd rfl (.inl rfl) (pe_ix (r := rIxL K) ix_list (pv 0) (pv 1) (fun _ _ => rfl)))) pss_nil)
      (pss_one (ps_ret (pe_lst (pa_cons (pe_callB (id := "max") (call_max2 rfl) rfl T.max (by decide +kernel) (pa_cons pe_int (pa_cons (pe_op op_sub (pv 2) (pe_op op_pow pe_int pe_int)) pa_nil))) (pa_cons (pe_op op_mod (pe_callTy (T := "int") call_int1 rfl T.int (by decide +kernel) (pa_cons (pe_op op_add (pe_op op_mul (pv 2) pe_int) (pe_op op_mul pe_int (pv 1))) pa_nil)) (pe_op op_add (pe_op op_pow pe_int pe_int) pe_int)) (pa_cons pe_int pa_nil)))))))), ?_⟩)
  rintro _ ⟨_, ns, k, hk, rfl, _⟩
  obtain ⟨ms, hms⟩ := cut_map (f := PyData.int) (ns := ns) (lo := none) (hi := some 1)
  refine sr_seq (N1 := fun r => ∃ c : Int, r = [.im (.list (ns.map .int)), .im (.int (k : Int)), .im (.int c)]) (ss_asg (ev_add (ev_opC (f := fun i j => i * j) ev_int ev_var (.inl ⟨by decide, by decide⟩)) (ev_sum ((ev_slL ev_var eo_none (eo_some ev_int)).is (by rw [hms])))) ⟨_, rfl⟩) ?_
  rintro _ ⟨c0, rfl⟩
  refine sr_seq (N1 := fun r => ∃ c : Int, r = [.im (.list (ns.map .int)), .im (.int (k : Int)), .im (.int c)]) (ss_if (et_test (ev_cmpI (p := fun i j => decide (i < j)) ev_var (ev_lenL ev_var))) (fun h => ?_) (fun _ => ss_next ⟨c0, rfl⟩)) ?_
  · have hl : k < ns.length := by
      have := of_decide_eq_true h
      rw [List.length_map] at this
      omega
    exact ss_asg (d := .int ns[k]) (ev_op ev_var ev_var (rv_ixL (by rw [List.getElem?_map, at_of hl]; rfl))) ⟨_, rfl⟩
  rintro _ ⟨c, rfl⟩
  refine sr_ret (en_lst (ea_cons (ev_max2 ev_int (ev_sub ev_var (ev_opC (f := fun i j => i ^ j.toNat) ev_int ev_int ⟨by decide, by decide, by decide⟩))) (ea_cons (ev_opC (f := fun i j => i % j) (ev_intI (ev_add (ev_opC (f := fun i j => i * j) ev_var ev_int (.inr ⟨by decide, by decide⟩)) (ev_opC (f := fun i j => i * j) ev_int ev_var (.inl ⟨by decide, by decide⟩)))) (ev_add (ev_opC (f := fun i j => i ^ j.toNat) ev_int ev_int ⟨by decide, by decide, by decide⟩) ev_int) ?_) (ea_cons ev_int ea_nil))) (by simp)) ⟨ns, k, hk, rfl, _, _, _, rfl, ?_, ?_, by omega, by omega⟩
  · decide
  · exact Int.emod_nonneg _ (by decide)
  · exact Int.lt_trans (Int.emod_lt_of_pos _ (by decide)) (by decide)
/-! ### a draw -/
def R_draw (ds : List PyData) (d : PyData) : Prop := ∃ m r : Nat, m ≤ 1000 ∧ r < m ∧ ds = [.int (m : Int)] ∧ d = .int (r : Int)
abbrev s__law_draw : Stmt := topS 47
theorem sc__law_draw : FnScope ["_law_feed_here", "_law_many", "_law_rest", "_law_got", "_law_stir"] ["_law_feed_here", "_law_many"] (defScope s__law_draw) := ⟨rfl, rfl, rfl, by decide +kernel, rfl, by decide +kernel, by decide +kernel⟩
theorem ok_law_draw (T : Tx mg) (F : Dfn K mg "_law_draw" s__law_draw) : Cal P w K mg base CX0 1 "_law_draw" ["_law_feed_here", "_law_many"] (spF K 1 R_draw) := by
  have nd := sc__law_draw.nd
  refine cal_feed F sc__law_draw (by rintro _ _ ⟨_, _, _, _, rfl, _⟩; rfl) (fun f fd F => F.bindsN fun _ _ _ _ _ _ us hl => match us, hl with | [_, _], _ => rfl) (fun f cdv A outer s H E hr => ⟨_,
      (pss_cons (ps_if (pt_cmpR op_gt (pe_ix (r := rIxL K) ix_list (pv 0) pe_int (fun _ _ => rfl)) pe_int (nomark _)) (pss_cons (ps_set (i := 2) nd rfl (.inl rfl) (pe_op op_fdiv (pe_ix (r := rIxL K) ix_list (pv 0) pe_int (fun _ _ => rfl)) (pv 1)))
      (pss_cons (ps_set (i := 3) nd rfl (.inl rfl) (pe_op op_sub (pe_ix (r := rIxL K) ix_list (pv 0) pe_int (fun _ _ => rfl)) (pe_op op_mul (pv 2) (pv 1))))
      (pss_cons (ps_asg (pv 2) (pg_sub (pv 0) pe_int set_list))
      (pss_one (ps_ret (pv 3)))))) pss_nil)
      (pss_cons (ps_asg (pe_op op_add (pe_ix (r := rIxL K) ix_list (pv 0) pe_int (fun _ _ => rfl)) pe_int) (pg_sub (pv 0) pe_int set_list))
      (pss_cons (ps_set (i := 4) nd rfl (.inl rfl) (pe_op op_add (pe_ix (r := rIxL K) ix_list (pv 0) pe_int (fun _ _ => rfl)) (pe_op op_mul pe_int (pe_ix (r := rIxL K) ix_list (pv 0) pe_int (fun _ _ => rfl)))))
      (pss_cons (ps_set (i := 4) nd rfl (.inl rfl) (pe_op op_mod (pe_callTy (T := "int") call_int1 rfl T.int (by decide +kernel) (pa_cons (pe_op op_add (pe_op op_mulW (pe_op op_mulW (pv 4) (pv 4)) (pv 4)) (pe_op op_mul pe_int (pe_ix (r := rIxL K) ix_list (pv 0) pe_int (fun _ _ => rfl)))) pa_nil)) (pe_op op_add (pe_op op_pow pe_int pe_int) pe_int)))
      (pss_cons (ps_set (i := 4) nd rfl (.inl rfl) (pe_op op_mod (pe_callTy (T := "int") call_int1 rfl T.int (by decide +kernel) (pa_cons (pe_op op_add (pe_op op_mulW (pv 4) (pv 4)) pe_int) pa_nil)) (pe_op op_add (pe_op op_pow pe_int pe_int) pe_int)))
      (pss_one (ps_ret (pe_op op_mod (pe_callTy (T := "int") call_int1 rfl T.int (by decide +kernel) (pa_cons (pe_op op_fdiv (pv 4) (pe_op op_pow pe_int pe_int)) pa_nil)) (pv 1))))))))), ?_⟩)
  rintro _ n p _ ⟨_, m, r0, hm, hr0, rfl, _⟩ ⟨a, b, c, rfl, b0, b1, c0, c1⟩ hn
  have m0 : (0 : Int) < (m : Int) := by omega
  refine ss_seq (N1 := fun r => r = [.ml false p [.int a, .int b, .int c], .im (.int (m : Int)), .no, .no, .no]) (ss_if (et_test (ev_cmpI (p := fun i j => decide (j < i)) (ev_ixM (n := 0) rfl ev_int rfl) ev_int)) (fun h => ?_) (fun _ => ss_next rfl)) ?_
  · refine ss_seq (N1 := fun r => r = [.ml false p [.int a, .int b, .int c], .im (.int (m : Int)), .im (.int (a / m)), .no, .no]) (ss_asg (ev_opC (f := fun i j => i / j) (ev_ixM (n := 0) rfl ev_int rfl) ev_var ⟨m0, by omega⟩) rfl) ?_
    rintro _ rfl
    refine ss_seq (N1 := fun r => r = [.ml false p [.int a, .int b, .int c], .im (.int (m : Int)), .im (.int (a / m)), .im (.int (a - a / m * m)), .no]) (ss_asg (ev_sub (ev_ixM (n := 0) rfl ev_int rfl) (ev_opC (f := fun i j => i * j) ev_var ev_var (.inr ⟨by omega, by omega⟩))) rfl) ?_
    rintro _ rfl
    refine ss_seq (N1 := fun r => r = [.ml false p [.int (a / m), .int b, .int c], .im (.int (m : Int)), .im (.int (a / m)), .im (.int (a - a / m * m)), .no]) (ss_setI (n := 0) rfl ev_var (by simp) rfl) ?_
    rintro _ rfl
    refine ss_ret ev_var ⟨⟨m, (a % m).toNat, hm, ?_, rfl, ?_⟩, _, rfl, a / m, b, c, rfl, b0, b1, c0, by omega⟩
    · have := Int.emod_nonneg a (b := (m : Int)) (by omega)
      have := Int.emod_lt_of_pos a m0
      omega
    · have := Int.emod_nonneg a (b := (m : Int)) (by omega)
      have e := Int.emod_add_mul_ediv a m
      have e2 : a / (m : Int) * m = m * (a / m) := Int.mul_comm _ _
      congr 1
      omega
  rintro _ rfl
  refine ss_seq (N1 := fun r => r = [.ml false p [.int a, .int b, .int (c + 1)], .im (.int (m : Int)), .no, .no, .no]) (ss_setI (n := 2) rfl (ev_add (ev_ixM (n := 2) rfl ev_int rfl) ev_int) (by simp) rfl) ?_
  rintro _ rfl
  have hs1 : ∃ s1 : Int, s1 = b + 6700417 * (c + 1) := ⟨_, rfl⟩
  obtain ⟨s1, hs1⟩ := hs1
  have l1 : s1.natAbs < 2 ^ 140 := by
    have : s1 < 10 ^ 40 + 6700417 * 1002 := by omega
    omega
  refine ss_seq (N1 := fun r => r = [.ml false p [.int a, .int b, .int (c + 1)], .im (.int (m : Int)), .no, .no, .im (.int s1)]) (ss_asg ((ev_add (ev_ixM (n := 1) rfl ev_int rfl) (ev_opC (f := fun i j => i * j) ev_int (ev_ixM (n := 2) rfl ev_int rfl) (.inl ⟨by decide, by decide⟩))).is (by rw [hs1])) rfl) ?_
  rintro _ rfl
  have hs2 : ∃ s2 : Int, s2 = (s1 * s1 * s1 + 15485863 * (c + 1)) % (10 ^ (43 : Int).toNat + 57) := ⟨_, rfl⟩
  obtain ⟨s2, hs2⟩ := hs2
  have l2 : s2.natAbs < 2 ^ 150 := by
    have h1 : 0 ≤ s2 := by rw [hs2]; exact Int.emod_nonneg _ (by decide)
    have h2 : s2 < 10 ^ 43 + 57 := by rw [hs2]; exact Int.emod_lt_of_pos _ (by decide)
    omega
  refine ss_seq (N1 := fun r => r = [.ml false p [.int a, .int b, .int (c + 1)], .im (.int (m : Int)), .no, .no, .im (.int s2)]) (ss_asg ((ev_opC (f := fun i j => i % j) (ev_intI (ev_add (ev_opC (f := fun i j => i * j) (ev_opC (f := fun i j => i * j) ev_var ev_var (wide_mul l1 l1 (by decide) (by decide) (by decide))) ev_var (wide_mul (wide_lt l1 l1) l1 (by decide) (by decide) (by decide))) (ev_opC (f := fun i j => i * j) ev_int (ev_ixM (n := 2) rfl ev_int rfl) (.inl ⟨by decide, by decide⟩)))) (ev_add (ev_opC (f := fun i j => i ^ j.toNat) ev_int ev_int ⟨by decide, by decide, by decide⟩) ev_int) (by decide)).is (by rw [hs2])) rfl) ?_
  rintro _ rfl
  have hs3 : ∃ s3 : Int, s3 = (s2 * s2 + 32452843) % (10 ^ (38 : Int).toNat + 133) := ⟨_, rfl⟩
  obtain ⟨s3, hs3⟩ := hs3
  have h3 : 0 ≤ s3 := by rw [hs3]; exact Int.emod_nonneg _ (by decide)
  refine ss_seq (N1 := fun r => r = [.ml false p [.int a, .int b, .int (c + 1)], .im (.int (m : Int)), .no, .no, .im (.int s3)]) (ss_asg ((ev_opC (f := fun i j => i % j) (ev_intI (ev_add (ev_opC (f := fun i j => i * j) ev_var ev_var (wide_mul l2 l2 (by decide) (by decide) (by decide))) ev_int)) (ev_add (ev_opC (f := fun i j => i ^ j.toNat) ev_int ev_int ⟨by decide, by decide, by decide⟩) ev_int) (by decide)).is (by rw [hs3])) rfl) ?_
  rintro _ rfl
  refine ss_ret (ev_opC (f := fun i j => i % j) (ev_intI (ev_opC (f := fun i j => i / j) ev_var (ev_opC (f := fun i j => i ^ j.toNat) ev_int ev_int ⟨by decide, by decide, by decide⟩) ⟨by decide, by decide⟩)) ev_var m0) ⟨⟨m, (s3 / 10 ^ (9 : Int).toNat % m).toNat, hm, ?_, rfl, ?_⟩, _, rfl, a, b, c + 1, rfl, b0, b1, by omega, by omega⟩
  · have := Int.emod_nonneg (s3 / 10 ^ (9 : Int).toNat) (b := (m : Int)) (by omega)
    have := Int.emod_lt_of_pos (s3 / 10 ^ (9 : Int).toNat) m0
    omega
  · have := Int.emod_nonneg (s3 / 10 ^ (9 : Int).toNat) (b := (m : Int)) (by omega)
    rw [Int.toNat_of_nonneg this]
/-! ### one of some things -/
def R_one (ds : List PyData) (d : PyData) : Prop := ∃ xs : List PyData, xs.length ≤ 1000 ∧ d ∈ xs ∧ ds = [.list xs]
abbrev s__law_one : Stmt := topS 48
theorem sc__law_one : FnScope ["_law_feed_here", "_law_things"] ["_law_feed_here", "_law_things"] (defScope s__law_one) := ⟨rfl, rfl, rfl, by decide +kernel, rfl, by decide +kernel, by decide +kernel⟩
theorem ok_law_one (T : Tx mg) (F : Dfn K mg "_law_one" s__law_one) (C__law_draw : Cal P w K mg base CX0 1 "_law_draw" ["_law_feed_here", "_law_many"] (spF K 1 R_draw)) : Cal P w K mg base CX0 2 "_law_one" ["_law_feed_here", "_law_things"] (spF K 1 R_one) := by
  have nd := sc__law_one.nd
  refine cal_feed F sc__law_one (by rintro _ _ ⟨_, _, _, rfl⟩; rfl) (fun f fd F => F.bindsN fun _ _ _ _ _ _ us hl => match us, hl with | [_, _], _ => rfl) (fun f cdv A outer s H E hr => ⟨_,
      (pss_one (ps_ret (pe_ix (r := rIxL K) ix_list (pv 1) (pe_cal C__law_draw hr pass0 (pa_cons (pv 0) (pa_cons (pe_callB (id := "len") (r := rLenS K) call_len_seq rfl T.len (by decide +kernel) (pa_cons (pv 1) pa_nil)) pa_nil))) (fun _ _ => rfl)))), ?_⟩)
  rintro _ n p fd ⟨d0, xs, hl, hd0, rfl⟩ hf hn
  have hx : 0 < xs.length := List.length_pos_of_mem hd0
  refine ss_retE (em_op (R := fun d r => d ∈ xs ∧ ∃ fd', FeedD (n + 1) fd' ∧ r = [.ml false p fd', .im (.list xs)]) (R1 := fun a r => a = .list xs ∧ r = [.ml false p fd, .im (.list xs)]) (R2' := fun _ b r => ∃ i : Nat, i < xs.length ∧ b = .int (i : Int) ∧ ∃ fd', FeedD (n + 1) fd' ∧ r = [.ml false p fd', .im (.list xs)]) (ev_var (d := .list xs)).em ?_ ?_) ?_
  · rintro _ _ ⟨rfl, rfl⟩
    refine em_callF (o := false) (p := p) (fd := fd) (n := n) (RF := R_draw) rfl ((ea_cons (ev_lenL ev_var) ea_nil).em) ?_ hn ?_
    · rintro _ _ ⟨rfl, rfl⟩
      exact ⟨fd, rfl, hf, _, xs.length, 0, hl, hx, rfl, rfl⟩
    · rintro _ _ _ fd' ⟨rfl, rfl⟩ ⟨m, r, _, h1, h2, rfl⟩ hf'
      simp only [List.cons.injEq, PyData.int.injEq, and_true] at h2
      exact ⟨r, by omega, rfl, fd', hf', rfl⟩
  · rintro _ _ _ _ ⟨rfl, rfl⟩ ⟨i, hi, rfl, fd', hf', rfl⟩
    exact ⟨xs[i], rv_ixL (at_of hi), List.getElem_mem hi, fd', hf', rfl⟩
  · rintro a r ⟨h1, fd', h2, rfl⟩
    exact ⟨⟨xs, hl, h1, rfl⟩, fd', rfl, h2⟩
/-! ### mixed -/
def R_mixed (ds : List PyData) (d : PyData) : Prop := ∃ xs ys : List PyData, xs.length ≤ 12 ∧ ys.Perm xs ∧ (ds = [.list xs] ∨ ds = [.tuple xs]) ∧ d = .list ys
abbrev s__law_mixed : Stmt := topS 49
theorem sc__law_mixed : FnScope ["_law_feed_here", "_law_things", "_law_pool", "_law_got", "_law_turn"] ["_law_feed_here", "_law_things"] (defScope s__law_mixed) := ⟨rfl, rfl, rfl, by decide +kernel, rfl, by decide +kernel, by decide +kernel⟩
theorem erase_perm {α : Type} {l : List α} {n : Nat} (h : n < l.length) : (l.eraseIdx n ++ [l[n]]).Perm l := by
  have e : l.Perm (l[n] :: l.eraseIdx n) := by
    induction l generalizing n with
    | nil => cases h
    | cons a l ih =>
      cases n with
      | zero => exact List.Perm.refl _
      | succ n =>
        simp only [List.getElem_cons_succ, List.eraseIdx_cons_succ]
        exact ((ih (by simpa using h)).cons a).trans (List.Perm.swap _ _ _)
  exact (List.perm_append_comm (l₁ := l.eraseIdx n) (l₂ := [l[n]])).trans e.symm
theorem ok_law_mixed (T : Tx mg) (F : Dfn K mg "_law_mixed" s__law_mixed) (C__law_draw : Cal P w K mg base CX0 1 "_law_draw" ["_law_feed_here", "_law_many"] (spF K 1 R_draw)) : Cal P w K mg base CX0 2 "_law_mixed" ["_law_feed_here", "_law_things"] (spF K 12 R_mixed) := by
  have nd := sc__law_mixed.nd
  refine cal_feed F sc__law_mixed (by rintro _ _ ⟨_, _, _, _, h, _⟩; rcases h with rfl | rfl <;> rfl) (fun f fd F => F.bindsN fun _ _ _ _ _ _ us hl => match us, hl with | [_, _], _ => rfl) (fun f cdv A outer s H E hr => ⟨_,
      (pss_cons (ps_par (i := 2) (j := 3) rfl nd rfl rfl (by decide) rfl rfl (pa_cons (pe_callTy (T := "list") (r := rLstS K) call_list_of rfl T.list (by decide +kernel) (pa_cons (pv 1) pa_nil)) (pa_cons (pe_lst pa_nil) pa_nil)) rfl)
      (pss_cons (ps_for PassesOwn.never rfl (pi_range1 rfl T.range (pa_cons (pe_callB (id := "len") (r := rLenS K) call_len_seq rfl T.len (by decide +kernel) (pa_cons (pv 1) pa_nil)) pa_nil)) (pg_name (i := 4) nd rfl (.inl rfl) (.inl rfl)) (pss_one (ps_expr (pe_bm PySem.F.plainAttrs_list PySem.F.slot_list_append PySem.F.type_list_append mt_append (pv 3) (pa_cons (pe_bm PySem.F.plainAttrs_list PySem.F.slot_list_pop PySem.F.type_list_pop mt_popAt (pv 2) (pa_cons (pe_cal C__law_draw hr pass0 (pa_cons (pv 0) (pa_cons (pe_callB (id := "len") (r := rLenS K) call_len_seq rfl T.len (by decide +kernel) (pa_cons (pv 2) pa_nil)) pa_nil))) pa_nil)) pa_nil)))))
      (pss_one (ps_ret (pv 3))))), ?_⟩)
  rintro ds0 n p fd ⟨_, xs, _, hl, _, hds, _⟩ hf hn
  obtain ⟨th, hth, rfl⟩ : ∃ th, (th = .list xs ∨ th = .tuple xs) ∧ ds0 = [th] := by
    rcases hds with e | e
    · exact ⟨_, .inl rfl, e⟩
    · exact ⟨_, .inr rfl, e⟩
  have hlen : ∀ {ρ : Rho} {te : TE}, Ev K te ρ th → Ev K (tCB (rLenS K) (tCons te tNil)) ρ (.int xs.length) := fun h => by
    rcases hth with e | e
    · subst e; exact ev_lenL h
    · subst e; exact ev_lenT h
  have hlst : ∀ {ρ : Rho} {te : TE}, Ev K te ρ th → EvN K (tCB (rLstS K) (tCons te tNil)) ρ xs := fun h => by
    rcases hth with e | e
    · subst e; exact en_lstL h
    · subst e; exact en_lstT h
  refine ss_seq (N1 := fun r => ∃ q1 q2, r = [.ml false p fd, .im th, .ml true q1 xs, .ml true q2 [], .no]) (ss_parNN (hlst ev_var) (en_lst ea_nil (by simp)) rfl rfl (by decide) fun q1 q2 => ⟨q1, q2, rfl⟩) ?_
  rintro _ ⟨q1, q2, rfl⟩
  refine ss_seq (N1 := fun r => ∃ pool got fd', FeedD (n + 12) fd' ∧ pool.length = 0 ∧ (pool ++ got).Perm xs ∧ r = [.ml false p fd', .im th, .ml true q1 pool, .ml true q2 got, .no])
    (ss_for (I := fun i r => ∃ pool got fd', FeedD (n + i) fd' ∧ pool.length + i = xs.length ∧ (pool ++ got).Perm xs ∧ r = [.ml false p fd', .im th, .ml true q1 pool, .ml true q2 got, .no]) (ew_rngN (n := xs.length) (hlen ev_var) (by omega)) ⟨xs, [], fd, hf, rfl, by simp, rfl⟩ (by rintro i _ ⟨_, _, _, _, _, _, rfl⟩; rfl) ?_ ?_) ?_
  · rintro i hi _ ⟨pool, got, fd', f1, f2, f3, rfl⟩
    have hi' : i < xs.length := by simpa using hi
    have hp : 0 < pool.length := by omega
    refine ss_appE (o := true) (p := q2) (ds0 := got) (i := 3) (R1 := fun d r => ∃ (j : Nat) (hj : j < pool.length) (fd2 : List PyData), d = pool[j] ∧ FeedD (n + (i + 1)) fd2 ∧ r = [.ml false p fd2, .im th, .ml true q1 (pool.eraseIdx j), .ml true q2 got, .im (((List.range xs.length).map fun i : Nat => PyData.int (i : Int))[i])]) rfl
      (em_pop (o := true) (p := q1) (ds := pool) (R1 := fun d r => ∃ (j : Nat) (fd2 : List PyData), j < pool.length ∧ d = .int (j : Int) ∧ FeedD (n + (i + 1)) fd2 ∧ r = [.ml false p fd2, .im th, .ml true q1 pool, .ml true q2 got, .im (((List.range xs.length).map fun i : Nat => PyData.int (i : Int))[i])]) rfl ?_ (by omega) ?_) ?_
    · refine em_callF (o := false) (p := p) (fd := fd') (n := n + i) (RF := R_draw) rfl ((ea_cons (ev_lenM (i := 2) rfl) ea_nil).em) ?_ (by omega) ?_
      · rintro _ _ ⟨rfl, rfl⟩
        exact ⟨fd', rfl, f1, _, pool.length, 0, by omega, hp, rfl, rfl⟩
      · rintro _ _ _ fd2 ⟨rfl, rfl⟩ ⟨m, r, _, h1, h2, rfl⟩ hf'
        simp only [List.cons.injEq, PyData.int.injEq, and_true] at h2
        exact ⟨r, fd2, by omega, rfl, hf', rfl⟩
    · rintro _ _ ⟨j, fd2, hj, rfl, g1, rfl⟩
      refine ⟨j, rfl, hj, rfl, fun x hx => ⟨j, hj, fd2, ?_, g1, rfl⟩⟩
      rw [at_of hj] at hx
      exact (Option.some.inj hx).symm
    · rintro _ _ ⟨j, hj, fd2, rfl, g1, rfl⟩
      refine ⟨got, rfl, ?_, pool.eraseIdx j, got ++ [pool[j]], fd2, g1, ?_, ?_, rfl⟩
      · have := f3.length_eq
        rw [List.length_append] at this
        omega
      · have := List.length_eraseIdx_of_lt hj
        omega
      · have e := erase_perm hj
        refine List.Perm.trans ?_ f3
        have e2 : (pool.eraseIdx j ++ (got ++ [pool[j]])).Perm (pool.eraseIdx j ++ ([pool[j]] ++ got)) := List.Perm.append_left _ List.perm_append_comm
        refine e2.trans ?_
        rw [← List.append_assoc]
        exact e.append_right got
  · rintro r ⟨pool, got, fd', f1, f2, f3, rfl⟩
    rw [List.length_map, List.length_range] at f1 f2
    exact ⟨pool, got, fd', f1.mono (by omega), by omega, f3, rfl⟩
  rintro _ ⟨pool, got, fd', f1, f2, f3, rfl⟩
  have e : pool = [] := List.eq_nil_of_length_eq_zero f2
  subst e
  exact ss_retM rfl ⟨⟨xs, got, hl, f3, hds, rfl⟩, fd', rfl, f1⟩
end
end Jn
set_option maxHeartbeats 4000000
namespace Jn
open PySem
open PySem.Spec PyProof.Rows
open L2
open Ma
section
variable {X : Cx} {K : PySem.W.Frag} {tg o e e2 : Expr} {es : List Expr} {to : TE} {ta t : TA} {p pos tpos apos cpos : Pos} {elts : List Expr} {kk : Nat} {T name id : String} {r : V → List V → Hp → VK → Prop}
theorem pi_zipMK (hg : Gl X "zip") (hm : X.mg "zip" = none) (ha : PA X [e, e2] ta) (hK : X.K = K := by rfl)
    (hs : starEach [e, e2] X.env = (false, eval e X.env) :: starEach [e2] X.env := by rfl) (hpl : (backTo pos (starEach [e2] X.env)).any (·.1) = false := by rfl) :
    PI X (.Tuple elts kk tpos) (.Call (.Name "zip" p) [e, e2] [] pos) (iZipM K ta) := hK ▸ pi_zipM hg hm ha hs hpl
theorem pe_bmK (pa : PlainAttrs T) (slot : Slot T name id) (hty : typeOf (.builtin id) = pure (.type "method_descriptor")) (hm : MtR X id r) (ho : PE X o to) (ha : PA X (e :: es) t)
    (hK : X.K = K := by rfl) (hbase : attributeBase o name X.env (eval o X.env) = eval o X.env := by rfl)
    (hfew : ((backTo cpos (starEach (e :: es) X.env)).all (fun x => !x.1) && (backToKw cpos (keywordEach [] X.env)).all (fun x => x.1.isSome)
      && decide ((e :: es).length + ([] : List Keyword).length + (if ([] : List Keyword).isEmpty then 0 else 1) < 30)) = true := by rfl)
    (hline : (apos.endLine == cpos.line) = true := by rfl) (hs : starEach (e :: es) X.env = (false, eval e X.env) :: starEach es X.env := by rfl) (hplain : (backTo cpos (starEach es X.env)).any (·.1) = false := by rfl) :
    PE X (.Call (.Attribute o name apos) (e :: es) [] cpos) (tBM K T r to t) := hK ▸ pe_bm pa slot hty hm ho ha hbase hfew hline hs hplain
end
/-! ### permutations -/
theorem nats_set (h : List Nat) (a x : Nat) : ((nats h).map PyData.int).set a (.int (x : Int)) = (nats (h.set a x)).map .int := by
  unfold nats
  rw [List.map_map, List.map_map, List.map_set]
  rfl
theorem nats_at {h : List Nat} {a : Nat} (ha : a < h.length) : ((nats h).map PyData.int)[a]? = some (.int (h[a] : Int)) := by
  unfold nats
  simp [ha]
theorem idx_at {h : List Nat} {v : Nat} (hm : v ∈ h) : h[h.idxOf v]? = some v := by
  have hl := List.idxOf_lt_length_iff.mpr hm
  rw [List.getElem?_eq_getElem hl, List.getElem_idxOf hl]
theorem inv_perm {n : Nat} {h : List Nat} (hp : h.Perm (List.range n)) : ((List.range n).map fun s => h.idxOf s).Perm (List.range n) := by
  have nd : h.Nodup := hp.nodup_iff.mpr List.nodup_range
  have hl := perm_len hp
  have mem : ∀ s, s < n → s ∈ h := fun s hs => hp.mem_iff.mpr (List.mem_range.mpr hs)
  refine (List.perm_ext_iff_of_nodup ?_ List.nodup_range).mpr fun v => ?_
  · show List.Pairwise _ _
    rw [List.pairwise_map]
    refine (List.nodup_range (n := n)).imp_of_mem fun {a b} ha hb ne e => ne ?_
    have h1 := idx_at (mem a (List.mem_range.mp ha))
    have h2 := idx_at (mem b (List.mem_range.mp hb))
    rw [e, h2] at h1
    exact (Option.some.inj h1).symm
  · rw [List.mem_map, List.mem_range]
    constructor
    · rintro ⟨s, hs, rfl⟩
      have := List.idxOf_lt_length_iff.mpr (mem s (List.mem_range.mp hs))
      omega
    · intro hv
      have hv' : v < h.length := by omega
      refine ⟨h[v], List.mem_range.mpr (perm_lt hp _ (List.getElem_mem hv')), ?_⟩
      exact nd.idxOf_getElem v hv'
section
variable {P : Program} {w : World} {K : PySem.W.Frag} {mg : Str → Option Value} {base : Heap}
/-! ### comb -/
def R_comb (ds : List PyData) (d : PyData) : Prop := ∃ (n : Nat) (ws p : List Nat), 1 ≤ n ∧ n ≤ 12 ∧ ws.length ≤ 20 ∧ (∀ x ∈ ws, x + 1 < n) ∧ p.Perm (List.range n) ∧ ds = [.int (n : Int), dS ws] ∧ d = dS p
abbrev s__law_comb : Stmt := topS 52
theorem sc__law_comb : FnScope ["_law_places", "_law_word_here", "_law_here", "_law_at", "_law_strand"] ["_law_places", "_law_word_here"] (defScope s__law_comb) := ⟨rfl, rfl, rfl, by decide +kernel, rfl, by decide +kernel, by decide +kernel⟩
theorem ok_law_comb (T : Tx mg) (F : Dfn K mg "_law_comb" s__law_comb) : Cal P w K mg base CX0 1 "_law_comb" ["_law_places", "_law_word_here"] (spQ K R_comb) := by
  have nd := sc__law_comb.nd
  refine cal_Q F sc__law_comb (by rintro _ _ ⟨_, _, _, _, _, _, _, _, rfl, _⟩; rfl) (fun f fd F => F.bindsN fun _ _ _ _ _ _ us hl => match us, hl with | [_, _], _ => rfl) (fun f cdv A outer s H E hr => ⟨_,
      (pss_cons (ps_set (i := 2) nd rfl (.inr rfl) (pe_listRg rfl rfl T.list (prg_1 rfl T.range (pv 0))))
      (pss_cons (ps_for PassesOwn.never rfl (pi_tupK (K := K) (pv 1)) (pg_name (i := 3) nd rfl (.inl rfl) (.inl rfl)) (pss_one (ps_if (pt_cmpR op_lt (pe_ix (r := rIxL K) ix_list (pv 2) (pv 3) (fun _ _ => rfl)) (pe_ix (r := rIxL K) ix_list (pv 2) (pe_op op_add (pv 3) pe_int) (fun _ _ => rfl)) (nomark _)) (pss_one (ps_asg (pe_tup (pa_cons (pe_ix (r := rIxL K) ix_list (pv 2) (pe_op op_add (pv 3) pe_int) (fun _ _ => rfl)) (pa_cons (pe_ix (r := rIxL K) ix_list (pv 2) (pv 3) (fun _ _ => rfl)) pa_nil))) (pg_pairK (K := K) (pg_sub (pv 2) (pv 3) set_list) (pg_sub (pv 2) (pe_op op_add (pv 3) pe_int) set_list)))) pss_nil)))
      (pss_one (ps_ret (pe_callTy (T := "tuple") (r := rTupS K) call_tuple_of rfl T.tuple (by decide +kernel) (pa_cons (pe_lc (own := [("_law_strand", 4)]) rfl nd (pi_range1 rfl T.range (pa_cons (pv 0) pa_nil)) (blkOk_by (by kernel_rfl)) (fun _ _ _ _ _ => (pg_name (i := 4) nd rfl (.inl rfl) (.inr rfl))) (fun _ _ _ _ _ => pts_nil) (fun _ _ _ _ _ => (pe_bmK (K := K) (r := rIndex K) PySem.F.plainAttrs_list PySem.F.slot_list_index PySem.F.type_list_index mt_index (pv 2) (pa_cons (pv 4) pa_nil)))) pa_nil)))))), ?_⟩)
  rintro _ ⟨_, n, ws, _, h1, h2, hw, hx, _, rfl, _⟩
  refine ss_seq (N1 := fun r => ∃ q, r = [.im (.int (n : Int)), .im (dS ws), .ml true q ((nats (List.range n)).map .int), .no, .no]) (ss_asgN (en_lstRg (n := n) ev_var (by omega)) fun q => ⟨q, rfl⟩) ?_
  rintro _ ⟨q, rfl⟩
  refine ss_seq (N1 := fun r => ∃ h : List Nat, h.Perm (List.range n) ∧ r = [.im (.int (n : Int)), .im (dS ws), .ml true q ((nats h).map .int), .no, .no])
    (ss_for (I := fun _ r => ∃ h : List Nat, h.Perm (List.range n) ∧ r = [.im (.int (n : Int)), .im (dS ws), .ml true q ((nats h).map .int), .no, .no]) (ew_tup ev_var) ⟨_, List.Perm.refl _, rfl⟩ (by rintro i _ ⟨_, _, rfl⟩; rfl) ?_ (fun r h => h)) ?_
  · rintro i hi _ ⟨h, hp, rfl⟩
    have hl := perm_len hp
    have hi' : i < ws.length := by simpa [nats_len] using hi
    have ex : ((nats ws).map PyData.int)[i] = .int ((ws[i] : Nat) : Int) := by simp [nats]
    rw [ex]
    have hb := hx _ (List.getElem_mem hi')
    generalize ws[i] = a at hb
    have a1 : a < h.length := by omega
    have a2 : a + 1 < h.length := by omega
    refine ss_if (et_test (ev_cmpI (p := fun i j => decide (i < j)) (ev_ixM (i := 2) (n := a) rfl ev_var (nats_at a1)) (ev_ixM (i := 2) (n := a + 1) rfl (ev_nat1 ev_var) (nats_at a2)))) (fun _ => ?_) (fun _ => ss_next ⟨h, hp, rfl⟩)
    refine ss_swap (a := a) (b := a + 1) rfl (ev_ixM (i := 2) (n := a + 1) rfl (ev_nat1 ev_var) (nats_at a2)) (ev_ixM (i := 2) (n := a) rfl ev_var (nats_at a1)) (fun ds' => ev_var) (fun ds' => ev_nat1 ev_var) (by simp [nats_len]; omega) (by simp [nats_len]; omega) ⟨(h.set a h[a + 1]).set (a + 1) h[a], ?_, ?_⟩
    · exact (List.set_set_perm a1 a2).trans hp
    · show _ = _
      rw [nats_set, nats_set]
      rfl
  rintro _ ⟨h, hp, rfl⟩
  refine ss_ret (d := dS ((List.range n).map fun s => h.idxOf s)) ((ev_tupL (ev_lc (xs := List.range n) (emb := fun s : Nat => .int (s : Int)) (fun s => .int ((h.idxOf s : Nat) : Int)) (ew_rngN ev_var (by omega)) (fun s hs => ev_index (i := 2) (n := h.idxOf s) (ns := nats h) rfl ev_var ?_ ?_) (by simp; omega))).is ?_) ⟨n, ws, _, h1, h2, hw, hx, inv_perm hp, rfl, rfl⟩
  · have hm : s ∈ h := hp.mem_iff.mpr hs
    unfold nats
    rw [List.getElem?_map, idx_at hm]
    rfl
  · intro m hm e
    unfold nats at e
    rw [List.getElem?_map] at e
    cases e2 : h[m]? with
    | none => rw [e2] at e; cases e
    | some y =>
      rw [e2] at e
      have ey : y = s := by
        have : (y : Int) = (s : Int) := Option.some.inj e
        omega
      subst ey
      obtain ⟨hml, e3⟩ := List.getElem?_eq_some_iff.mp e2
      have nd : h.Nodup := hp.nodup_iff.mpr List.nodup_range
      have := nd.idxOf_getElem m hml
      rw [e3] at this
      omega
  · unfold dS dR nats
    rw [List.map_map, List.map_map]
    rfl
/-! ### word -/
def R_word (ds : List PyData) (d : PyData) : Prop := ∃ (n m : Nat) (ws : List Nat), 1 ≤ n ∧ n ≤ 12 ∧ m ≤ 12 ∧ ws.length ≤ 12 ∧ (∀ x ∈ ws, x + 1 < n) ∧ ds = [.int (n : Int), .int (m : Int)] ∧ d = dS ws
theorem draws_are {n : Nat} : ∀ {ds : List PyData}, (∀ x ∈ ds, ∃ r : Nat, r + 1 < n ∧ x = .int (r : Int)) → ∃ ws : List Nat, ws.length = ds.length ∧ (∀ x ∈ ws, x + 1 < n) ∧ ds = (nats ws).map .int
  | [], _ => ⟨[], rfl, (fun x h => by cases h), rfl⟩
  | d :: ds, h => by
    obtain ⟨r, hr, e⟩ := h d List.mem_cons_self
    obtain ⟨ws, h1, h2, h3⟩ := draws_are (ds := ds) fun x hx => h x (List.mem_cons_of_mem _ hx)
    refine ⟨r :: ws, by simp [h1], fun x hx => ?_, by rw [e, h3]; rfl⟩
    rcases List.mem_cons.mp hx with z | hx
    · rw [z]; exact hr
    · exact h2 x hx
abbrev s__law_word : Stmt := topS 51
theorem sc__law_word : FnScope ["_law_feed_here", "_law_places", "_law_many", "_law_turn"] ["_law_feed_here", "_law_places", "_law_many"] (defScope s__law_word) := ⟨rfl, rfl, rfl, by decide +kernel, rfl, by decide +kernel, by decide +kernel⟩
theorem ok_law_word (T : Tx mg) (F : Dfn K mg "_law_word" s__law_word) (C__law_draw : Cal P w K mg base CX0 1 "_law_draw" ["_law_feed_here", "_law_many"] (spF K 1 R_draw)) : Cal P w K mg base CX0 2 "_law_word" ["_law_feed_here", "_law_places", "_law_many"] (spF K 13 R_word) := by
  have nd := sc__law_word.nd
  refine cal_feed F sc__law_word (by rintro _ _ ⟨_, _, _, _, _, _, _, _, rfl, _⟩; rfl) (fun f fd F => F.bindsN fun _ _ _ _ _ _ us hl => match us, hl with | [_, _, _], _ => rfl) (fun f cdv A outer s H E hr => ⟨_,
      (pss_one (ps_ret (pe_ifExp (pt_cmpR op_gt (pv 1) pe_int (nomark _)) (pe_callTy (T := "tuple") (r := rTupS K) call_tuple_of rfl T.tuple (by decide +kernel) (pa_cons (pe_lc (own := [("_law_turn", 3)]) rfl nd (pi_range1 rfl T.range (pa_cons (pe_cal C__law_draw hr pass0 (pa_cons (pv 0) (pa_cons (pe_op op_add (pv 2) pe_int) pa_nil))) pa_nil)) (blkOk_by (by kernel_rfl)) (fun _ _ _ _ _ => (pg_name (i := 3) nd rfl (.inl rfl) (.inr rfl))) (fun _ _ _ _ _ => pts_nil) (fun _ _ _ _ _ => (pe_cal C__law_draw hr pass0 (pa_cons (pv 0) (pa_cons (pe_op op_sub (pv 1) pe_int) pa_nil))))) pa_nil)) (pe_tup pa_nil)))), ?_⟩)
  rintro _ b p fd ⟨_, n, m, _, h1, h2, h3, _, _, rfl, _⟩ hf hn
  let R0 : PyData → Rho → Prop := fun d r => (∃ ws : List Nat, ws.length ≤ 12 ∧ (∀ x ∈ ws, x + 1 < n) ∧ d = dS ws) ∧ ∃ fd', FeedD (b + 13) fd' ∧ r = [.ml false p fd', .im (.int (n : Int)), .im (.int (m : Int)), .no]
  refine ss_retE (R1 := R0) (em_if (R1 := fun k r => k = decide (1 < n) ∧ r = [.ml false p fd, .im (.int (n : Int)), .im (.int (m : Int)), .no]) (emt_test (R1 := fun d r => d = .bool (decide ((1 : Int) < (n : Int))) ∧ r = [.ml false p fd, .im (.int (n : Int)), .im (.int (m : Int)), .no]) (ev_cmpI (p := fun i j => decide (j < i)) ev_var ev_int).em ?_) ?_ ?_) ?_
  · rintro _ _ ⟨rfl, rfl⟩
    exact ⟨_, rfl, by apply decide_eq_decide.mpr; omega, rfl⟩
  · rintro _ ⟨hk, rfl⟩
    have hn1 : 1 < n := of_decide_eq_true hk.symm
    refine em_cb (RA := fun ds r => ∃ dl, ds = [.list dl] ∧ (∃ ws : List Nat, ws.length ≤ 12 ∧ (∀ x ∈ ws, x + 1 < n) ∧ dl = (nats ws).map .int) ∧ ∃ fd', FeedD (b + 13) fd' ∧ r = [.ml false p fd', .im (.int (n : Int)), .im (.int (m : Int)), .no]) (ema_cons (R1 := fun d r => ∃ dl, d = .list dl ∧ (∃ ws : List Nat, ws.length ≤ 12 ∧ (∀ x ∈ ws, x + 1 < n) ∧ dl = (nats ws).map .int) ∧ ∃ fd', FeedD (b + 13) fd' ∧ r = [.ml false p fd', .im (.int (n : Int)), .im (.int (m : Int)), .no]) (RB := fun d dr r => dr = [] ∧ ∃ dl, d = .list dl ∧ (∃ ws : List Nat, ws.length ≤ 12 ∧ (∀ x ∈ ws, x + 1 < n) ∧ dl = (nats ws).map .int) ∧ ∃ fd', FeedD (b + 13) fd' ∧ r = [.ml false p fd', .im (.int (n : Int)), .im (.int (m : Int)), .no]) ?_ (fun a r h => ema_nil ⟨rfl, h⟩) ?_) ?_
    · refine em_lcF (i := 0) (j := 3) (k := 1) (n := b + 1) (cm := 12) (o := false) (p := p) (fd0 := fd) (ds2 := [.int ((n - 1 : Nat) : Int)]) (RF := R_draw) rfl rfl (by decide) ?_ (fun x fd => ea_cons ((ev_sub ev_var ev_int).is (by congr 1; omega)) ea_nil) ⟨.int ((0 : Nat) : Int), n - 1, 0, by omega, by omega, rfl, rfl⟩ (by omega) (by decide) ?_
      · refine ema_cons (R1 := fun d r => ∃ (c : Nat) (fd1 : List PyData), d = .int (c : Int) ∧ c ≤ 12 ∧ r = [.ml false p fd1, .im (.int (n : Int)), .im (.int (m : Int)), .no] ∧ FeedD (b + 1) fd1) (RB := fun d dr r => dr = [] ∧ ∃ (c : Nat) (fd1 : List PyData), d = .int (c : Int) ∧ c ≤ 12 ∧ r = [.ml false p fd1, .im (.int (n : Int)), .im (.int (m : Int)), .no] ∧ FeedD (b + 1) fd1) ?_ (fun a r h => ema_nil ⟨rfl, h⟩) ?_
        · refine em_callF (o := false) (p := p) (fd := fd) (n := b) (RF := R_draw) rfl ((ea_cons (ev_nat1 ev_var) ea_nil).em) ?_ (by omega) ?_
          · rintro _ _ ⟨rfl, rfl⟩
            exact ⟨fd, rfl, hf, _, m + 1, 0, by omega, by omega, rfl, rfl⟩
          · rintro _ _ _ fd2 ⟨rfl, rfl⟩ ⟨m', r, _, g1, g2, rfl⟩ hf'
            simp only [List.cons.injEq, PyData.int.injEq, and_true] at g2
            exact ⟨r, fd2, rfl, by omega, rfl, hf'⟩
        · rintro _ _ _ _ _ ⟨rfl, c, fd1, rfl, hc, rfl, hf1⟩
          exact ⟨c, fd1, rfl, hc, rfl, hf1⟩
      · rintro ds fd1 hl hx hf1
        obtain ⟨ws, w1, w2, w3⟩ := draws_are (n := n) (ds := ds) fun x hm => by
          obtain ⟨m', r, _, g1, g2, e⟩ := hx x hm
          simp only [List.cons.injEq, PyData.int.injEq, and_true] at g2
          exact ⟨r, by omega, e⟩
        exact ⟨ds, rfl, ⟨ws, by omega, w2, w3⟩, fd1, hf1.mono (by omega), rfl⟩
    · rintro _ _ _ _ _ ⟨rfl, dl, rfl, hws, fd', hf', rfl⟩
      exact ⟨dl, rfl, hws, fd', hf', rfl⟩
    · rintro _ _ ⟨dl, rfl, ⟨ws, w1, w2, rfl⟩, fd', hf', rfl⟩
      exact ⟨_, rc_tupL, ⟨ws, w1, w2, rfl⟩, fd', hf', rfl⟩
  · rintro _ ⟨hk, rfl⟩
    refine (ev_tup ea_nil (by simp)).em.imp ?_
    rintro _ _ ⟨rfl, rfl⟩
    exact ⟨⟨[], by simp, (fun x h => by cases h), rfl⟩, fd, hf.mono (by omega), rfl⟩
  · rintro _ _ ⟨⟨ws, w1, w2, rfl⟩, fd', hf', rfl⟩
    exact ⟨⟨n, m, ws, h1, h2, h3, w1, w2, rfl, rfl⟩, fd', rfl, hf'⟩
/-! ### counts, by the law's own count -/
abbrev s__law_counts : Stmt := topS 53
theorem sc__law_counts : FnScope ["_law_strands_here", "_law_got", "_law_at", "_law_to", "_law_end"] ["_law_strands_here"] (defScope s__law_counts) := ⟨rfl, rfl, rfl, by decide +kernel, rfl, by decide +kernel, by decide +kernel⟩
theorem ok_law_counts (T : Tx mg) (F : Dfn K mg "_law_counts" s__law_counts) : Cal P w K mg base CX0 1 "_law_counts" ["_law_strands_here"] (spP (K := K) R_counts_of) := by
  have nd := sc__law_counts.nd
  refine cal_pure F sc__law_counts (by rintro _ _ ⟨_, _, _, rfl, rfl⟩; rfl) (fun f fd F => F.bindsN fun _ _ _ _ _ _ us hl => match us, hl with | [_], _ => rfl) (fun f cdv A outer s H E hr => ⟨_,
      (pss_cons (ps_set (i := 1) nd rfl (.inl rfl) (pe_lst pa_nil))
      (pss_cons (ps_for PassesOwn.never rfl (pi_range1 rfl T.range (pa_cons (pe_op op_add (pe_callB (id := "len") (r := rLenS K) call_len_seq rfl T.len (by decide +kernel) (pa_cons (pv 0) pa_nil)) pe_int) pa_nil)) (pg_name (i := 2) nd rfl (.inr rfl) (.inl rfl)) (pss_one (ps_expr (pe_bm PySem.F.plainAttrs_list PySem.F.slot_list_append PySem.F.type_list_append mt_append (pv 1) (pa_cons (pe_callTy (T := "tuple") (r := rTupS K) call_tuple_of rfl T.tuple (by decide +kernel) (pa_cons (pe_lc (own := [("_law_to", 3)]) rfl nd (pi_range1 rfl T.range (pa_cons (pe_op op_add (pe_callB (id := "len") (r := rLenS K) call_len_seq rfl T.len (by decide +kernel) (pa_cons (pv 0) pa_nil)) pe_int) pa_nil)) (blkOk_by (by kernel_rfl)) (fun _ _ _ _ _ => (pg_name (i := 3) nd rfl (.inr rfl) (.inl rfl))) (fun _ _ _ _ _ => pts_nil) (fun _ _ _ _ _ => (pe_callB (id := "len") (r := rLenS K) call_len_seq rfl T.len (by decide +kernel) (pa_cons (pe_lc (own := [("_law_end", 4)]) rfl nd (pi_tupK (K := K) (pe_slice (r := rSlA K) sl_tupA (pv 0) (po_some (pv 2)) po_none)) (blkOk_by (by kernel_rfl)) (fun _ _ _ _ _ => (pg_name (i := 4) nd rfl (.inl rfl) (.inr rfl))) (fun _ _ _ _ _ => (pts_one (pt_cmpR op_lt (pv 4) (pv 3) (nomark _)))) (fun _ _ _ _ _ => pe_int)) pa_nil)))) pa_nil)) pa_nil)))))
      (pss_one (ps_ret (pe_callTy (T := "tuple") (r := rTupS K) call_tuple_of rfl T.tuple (by decide +kernel) (pa_cons (pv 1) pa_nil)))))), ?_⟩)
  rintro _ _ ⟨p, h1, h2, rfl, rfl⟩
  have hl := nats_len p
  have hl2 : ((nats p).map PyData.int).length = p.length := by rw [List.length_map, hl]
  have rng : ∀ {ρ : Rho} {te : TE}, Ev K te ρ (dS p) → EvW K (iRng1 (tCons (tOp (rI0 fun i j => .int (i + j)) (tCB (rLenS K) (tCons te tNil)) (tC (.int 1))) tNil)) ρ ((List.range (p.length + 1)).map fun i : Nat => .int (i : Int)) := fun h =>
    ew_rngN (n := p.length + 1) (ev_nat1 ((ev_lenT h).is (by rw [hl2]))) (by omega)
  refine ss_seq (N1 := fun r => ∃ q, r = [.im (dS p), .ml true q [], .no, .no, .no]) (ss_asgN (en_lst ea_nil (by simp)) fun q => ⟨q, rfl⟩) ?_
  rintro _ ⟨q, rfl⟩
  let rw' := (tab p.length (cn p)).map dR
  have rl : rw'.length = p.length + 1 := by simp [rw', tab_len]
  refine ss_seq (N1 := fun r => r = [.im (dS p), .ml true q rw', .no, .no, .no]) (ss_for (I := fun i r => r = [.im (dS p), .ml true q (rw'.take i), .no, .no, .no]) (rng ev_var) rfl (by rintro i _ rfl; rfl) ?_ ?_) ?_
  · rintro i hi _ rfl
    have hi' : i < p.length + 1 := by simpa using hi
    rw [List.getElem_map, List.getElem_range]
    refine ss_app rfl ((ev_tupL (ev_lc (xs := List.range (p.length + 1)) (emb := fun j : Nat => .int (j : Int)) (fun j => .int (cn p i j)) (rng ev_var) (fun j hj => ?_) (by simp; omega))).is (b := dR (rowOf p.length (cn p i))) (by rw [dR_row])) (by simp; omega) ?_
    · refine (ev_lenL (ev_lcI (xs := (p.drop i)) (emb := fun x : Nat => .int (x : Int)) (fun x => decide (x < j)) (fun _ => .int 1) ((ew_tup ((ev_slT ev_var (eo_some ev_var) eo_none).is (by rw [cut_from]))).is ?_) (fun x hx => et_test ((ev_cmpI (p := fun i j => decide (i < j)) ev_var ev_var).is (by congr 1; apply decide_eq_decide.mpr; omega))) (fun x _ _ => ev_int) (by rw [List.length_drop]; omega))).is ?_
      · unfold nats
        rw [List.map_map, List.map_drop]
        rfl
      · rw [List.length_map, ← List.countP_eq_length_filter]
        rfl
    · have e : rw'.take (i + 1) = rw'.take i ++ [dR (rowOf p.length (cn p i))] := by
        rw [List.take_add_one]
        congr 1
        simp only [rw']
        rw [List.getElem?_map, tab_at (by omega)]
        rfl
      show _ = _
      rw [e]
      rfl
  · rintro s hs
    rw [List.length_map, List.length_range] at hs
    rw [hs, List.take_of_length_le (by omega)]
  rintro _ rfl
  exact ss_ret (ev_tupM rfl) rfl
/-! ### the law's own product -/
abbrev s__law_product : Stmt := topS 54
theorem sc__law_product : FnScope ["_law_one_here", "_law_other", "_law_columns", "_law_to", "_law_line", "_law_row", "_law_first", "_law_second"] ["_law_one_here", "_law_other"] (defScope s__law_product) := ⟨rfl, rfl, rfl, by decide +kernel, rfl, by decide +kernel, by decide +kernel⟩
theorem ok_law_product (T : Tx mg) (F : Dfn K mg "_law_product" s__law_product) : Cal P w K mg base CX0 1 "_law_product" ["_law_one_here", "_law_other"] (spP (K := K) R_least_sums) := by
  have nd := sc__law_product.nd
  refine cal_pure F sc__law_product (by rintro _ _ ⟨_, _, _, _, rfl, rfl⟩; rfl) (fun f fd F => F.bindsN fun _ _ _ _ _ _ us hl => match us, hl with | [_, _], _ => rfl) (fun f cdv A outer s H E hr => ⟨_,
      (pss_cons (ps_set (i := 2) nd rfl (.inr rfl) (pe_lc (own := [("_law_to", 3)]) rfl nd (pi_range1 rfl T.range (pa_cons (pe_callB (id := "len") (r := rLenS K) call_len_seq rfl T.len (by decide +kernel) (pa_cons (pe_ix (r := rIxT K) ix_tup (pv 1) pe_int (fun _ _ => rfl)) pa_nil)) pa_nil)) (blkOk_by (by kernel_rfl)) (fun _ _ _ _ _ => (pg_name (i := 3) nd rfl (.inr rfl) (.inl rfl))) (fun _ _ _ _ _ => pts_nil) (fun _ _ _ _ _ => (pe_lc (own := [("_law_line", 4)]) rfl nd (pi_tupK (K := K) (pv 1)) (blkOk_by (by kernel_rfl)) (fun _ _ _ _ _ => (pg_name (i := 4) nd rfl (.inl rfl) (.inr rfl))) (fun _ _ _ _ _ => pts_nil) (fun _ _ _ _ _ => (pe_ix (r := rIxT K) ix_tup (pv 4) (pv 3) (fun _ _ => rfl)))))))
      (pss_one (ps_ret (pe_callTy (T := "tuple") (r := rTupS K) call_tuple_of rfl T.tuple (by decide +kernel) (pa_cons (pe_lc (own := [("_law_row", 5)]) rfl nd (pi_tupK (K := K) (pv 0)) (blkOk_by (by kernel_rfl)) (fun _ _ _ _ _ => (pg_name (i := 5) nd rfl (.inr rfl) (.inl rfl))) (fun _ _ _ _ _ => pts_nil) (fun _ _ _ _ _ => (pe_callTy (T := "tuple") (r := rTupS K) call_tuple_of rfl T.tuple (by decide +kernel) (pa_cons (pe_lc (own := [("_law_line", 4)]) rfl nd (pi_listK (K := K) (pv 2)) (blkOk_by (by kernel_rfl)) (fun _ _ _ _ _ => (pg_name (i := 4) nd rfl (.inl rfl) (.inr rfl))) (fun _ _ _ _ _ => pts_nil) (fun _ _ _ _ _ => (pe_callB (id := "min") (r := rMin K) (cr_min rfl) rfl T.min (by decide +kernel) (pa_cons (pe_lc (own := [("_law_first", 6), ("_law_second", 7)]) rfl nd (pi_zipMK (K := K) rfl T.zip (pa_cons (pv 5) (pa_cons (pv 4) pa_nil))) (blkOk_by (by kernel_rfl)) (fun _ _ _ _ _ => (pg_pairK (K := K) (pg_name (i := 6) nd rfl (.inl rfl) (.inr rfl)) (pg_name (i := 7) nd rfl (.inl rfl) (.inr rfl)))) (fun _ _ _ _ _ => pts_nil) (fun _ _ _ _ _ => (pe_op op_add (pv 6) (pv 7)))) pa_nil)))) pa_nil)))) pa_nil))))), ?_⟩)
  rintro _ _ ⟨n, f, g, hn, rfl, rfl⟩
  let col := fun j => PyData.list ((List.range (n + 1)).map fun i => .int (g i j))
  refine ss_seq (N1 := fun s => s = [.im (dT (tab n f)), .im (dT (tab n g)), .im (.list ((List.range (n + 1)).map col)), .no, .no, .no, .no, .no]) (ss_asg (ev_lc (xs := List.range (n + 1)) (emb := fun j : Nat => .int (j : Int)) col (ew_rngN (ev_lenRow (ev_row (i := 0) ev_var ev_int (by omega))) (by omega)) (fun j hj => ?_) (by simp; omega)) rfl) ?_
  · have hj' := List.mem_range.mp hj
    exact ev_lc (xs := List.range (n + 1)) (emb := fun i => dR (rowOf n (g i))) (fun i => .int (g i j)) ((ew_tup ev_var).is (by rw [tabI])) (fun i hi => ev_at ev_var ev_var (by omega)) (by simp; omega)
  rintro _ rfl
  refine ss_ret (ev_tupL (ev_lc (xs := List.range (n + 1)) (emb := fun i => dR (rowOf n (f i))) (fun i => dR (rowOf n (mp f g n i))) ((ew_tup ev_var).is (by rw [tabI])) (fun i hi => (ev_tupL (ev_lc (xs := List.range (n + 1)) (emb := col) (fun j => .int (mp f g n i j)) (ew_list ev_var) (fun j hj => ?_) (by simp; omega))).is (by rw [dR_row])) (by simp; omega))) (by rw [dT_tab])
  refine ev_min (ns := (List.range (n + 1)).map fun k => f i k + g k j) ((ev_lc2 (xs := List.range (n + 1)) (e1 := fun k => .int (f i k)) (e2 := fun k => .int (g k j)) (fun k => .int (f i k + g k j)) ((ew_zipM ev_var ev_var).is (by rw [rowI, pairs_map])) (fun k hk => ev_add ev_var ev_var) (by simp; omega)).is (by rw [List.map_map]; rfl)) (by simp) (fun k h1 h2 => mn_eq h1 h2)
end
end Jn
set_option maxHeartbeats 4000000
namespace Jn
open PySem
open PySem.Spec PyProof.Rows
open L2
open Ma
def unN : PyData → Nat
  | .int i => i.toNat
  | _ => 0
theorem perm_data {n : Nat} {ys : List PyData} (h : ys.Perm ((nats (List.range n)).map .int)) : ∃ p : List Nat, p.Perm (List.range n) ∧ ys = (nats p).map .int := by
  have e : ((nats (List.range n)).map PyData.int).map unN = List.range n := by
    unfold nats
    rw [List.map_map, List.map_map]
    exact (List.map_congr_left fun x _ => by simp [unN]).trans (List.map_id _)
  refine ⟨ys.map unN, by have := h.map unN; rwa [e] at this, ?_⟩
  unfold nats
  rw [List.map_map, List.map_map]
  refine ((List.map_congr_left fun y hy => ?_).trans (List.map_id _)).symm
  have hm := h.mem_iff.mp hy
  unfold nats at hm
  rw [List.map_map] at hm
  obtain ⟨x, _, rfl⟩ := List.mem_map.mp hm
  simp [unN]
section
variable {K : PySem.W.Frag} {ρ : Rho} {te ta tb : TE} {tl : TA} {E : XK} {i n : Nat} {o : Bool} {p : Addr} {fd : List PyData}
theorem em_draw {m : Nat} (hi : ρ[i]? = some (.ml o p fd)) (hf : FeedD n fd) (hn : n + 1 ≤ 1000) (h : Ev K ta ρ (.int (m : Int))) (hm : 1 ≤ m) (hm2 : m ≤ 1000) :
    Em K (tCall (spF K 1 R_draw) [] E (tCons (tVar i) (tCons ta tNil))) ρ fun d r => ∃ (x : Nat) (fd' : List PyData), x < m ∧ d = .int (x : Int) ∧ FeedD (n + 1) fd' ∧ r = ρ.set i (.ml o p fd') := by
  refine em_callF (o := o) (p := p) (fd := fd) (n := n) (RF := R_draw) hi ((ea_cons h ea_nil).em) ?_ hn ?_
  · rintro _ _ ⟨rfl, rfl⟩
    exact ⟨fd, hi, hf, _, m, 0, hm2, hm, rfl, rfl⟩
  · rintro _ _ _ fd2 ⟨rfl, rfl⟩ ⟨m', r, _, g1, g2, rfl⟩ hf'
    simp only [List.cons.injEq, PyData.int.injEq, and_true] at g2
    exact ⟨r, fd2, by omega, rfl, hf', rfl⟩
theorem em_draw1 {m : Nat} (hi : ρ[i]? = some (.ml o p fd)) (hf : FeedD n fd) (hn : n + 1 ≤ 1000) (h : Ev K ta ρ (.int (m : Int))) (hm : 1 ≤ m) (hm2 : m ≤ 1000) :
    Em K (tOp (rI0 fun i j => .int (i + j)) (tC (.int 1)) (tCall (spF K 1 R_draw) [] E (tCons (tVar i) (tCons ta tNil)))) ρ fun d r => ∃ (x : Nat) (fd' : List PyData), 1 ≤ x ∧ x ≤ m ∧ d = .int (x : Int) ∧ FeedD (n + 1) fd' ∧ r = ρ.set i (.ml o p fd') := by
  refine em_op (R1 := fun a r => a = .int 1 ∧ r = ρ) (R2' := fun _ d r => ∃ (x : Nat) (fd' : List PyData), x < m ∧ d = .int (x : Int) ∧ FeedD (n + 1) fd' ∧ r = ρ.set i (.ml o p fd')) (ev_int (i := 1)).em ?_ ?_
  · rintro _ _ ⟨rfl, rfl⟩
    exact em_draw hi hf hn h hm hm2
  · rintro _ _ _ _ ⟨rfl, rfl⟩ ⟨x, fd', hx, rfl, hf', rfl⟩
    exact ⟨_, rv_i0 fun _ => .int _, x + 1, fd', by omega, by omega, by congr 1; omega, hf', rfl⟩
/-- tuple(mixed(feed, th)), th a row of 0 .. m-1 in some order -/
theorem em_tmix {q : List Nat} {m : Nat} {th : PyData} (hi : ρ[i]? = some (.ml o p fd)) (hf : FeedD n fd) (hn : n + 12 ≤ 1000) (hth : th = .list ((nats q).map .int) ∨ th = dS q) (hq : q.Perm (List.range m)) (h : Ev K ta ρ th) (hm2 : m ≤ 12) :
    Em K (tCB (rTupS K) (tCons (tCall (spF K 12 R_mixed) [] E (tCons (tVar i) (tCons ta tNil))) tNil)) ρ fun d r => ∃ (x : List Nat) (fd' : List PyData), x.Perm (List.range m) ∧ d = dS x ∧ FeedD (n + 12) fd' ∧ r = ρ.set i (.ml o p fd') := by
  have lq : ((nats q).map PyData.int).length ≤ 12 := by rw [List.length_map, nats_len, perm_len hq]; exact hm2
  refine em_cb (RA := fun ds r => ∃ (x : List Nat) (fd' : List PyData), ds = [.list ((nats x).map .int)] ∧ x.Perm (List.range m) ∧ FeedD (n + 12) fd' ∧ r = ρ.set i (.ml o p fd')) (ema_cons (R1 := fun d r => ∃ (x : List Nat) (fd' : List PyData), d = .list ((nats x).map .int) ∧ x.Perm (List.range m) ∧ FeedD (n + 12) fd' ∧ r = ρ.set i (.ml o p fd')) (RB := fun d dr r => dr = [] ∧ ∃ (x : List Nat) (fd' : List PyData), d = .list ((nats x).map .int) ∧ x.Perm (List.range m) ∧ FeedD (n + 12) fd' ∧ r = ρ.set i (.ml o p fd')) ?_ (fun a r h => ema_nil ⟨rfl, h⟩) ?_) ?_
  · refine em_callF (o := o) (p := p) (fd := fd) (n := n) (RF := R_mixed) hi ((ea_cons h ea_nil).em) ?_ hn ?_
    · rintro _ _ ⟨rfl, rfl⟩
      refine ⟨fd, hi, hf, .list ((nats q).map .int), (nats q).map .int, _, lq, List.Perm.refl _, ?_, rfl⟩
      rcases hth with e | e
      · exact .inl (by rw [e])
      · exact .inr (by rw [e]; rfl)
    · rintro _ _ _ fd2 ⟨rfl, rfl⟩ ⟨xs, ys, _, g1, g2, rfl⟩ hf'
      have ex : xs = (nats q).map .int := by
        rcases hth with e | e <;> subst e <;> rcases g2 with g2 | g2
        · simpa using g2.symm
        · simp [dS, dR] at g2
        · simp [dS, dR] at g2
        · simpa [dS, dR] using g2.symm
      subst ex
      obtain ⟨x, hx, e⟩ := perm_data (n := m) (g1.trans ((hq.map _).map _))
      exact ⟨x, fd2, by rw [e], hx, hf', rfl⟩
  · rintro _ _ _ _ _ ⟨rfl, x, fd', rfl, hx, hf', rfl⟩
    exact ⟨x, fd', rfl, hx, hf', rfl⟩
  · rintro _ _ ⟨x, fd', rfl, hx, hf', rfl⟩
    exact ⟨_, rc_tupL, x, fd', hx, rfl, hf', rfl⟩
/-- tuple(range(n)) -/
theorem ev_tupRg {m : Nat} (h : Ev K te ρ (.int (m : Int))) (hm : m ≤ 1000) : Ev K (tTupRg (tRg1 te)) ρ (dS (List.range m)) := fun σ G H Q e s q => h σ G H _ e s fun v G1 H1 g1 d1 => by
  cases d1
  refine ⟨m, rfl, RgOk.of_le (by omega) (by omega) (by omega) (by omega), fun t ht => q _ _ _ (g1.trans (Gx.new g1.i ht)) (.tup (SqT.of upd_same) ?_)⟩
  have e1 : rgV 0 (m : Int) = (nats (List.range m)).map V.int := by
    unfold rgV nats
    rw [List.map_map]
    simp
  rw [e1]
  exact dq_ints K _ _
end
/-- a row of 0 .. m-1 in some order, for some m up to n -/
def R_strandsN (ds : List PyData) (d : PyData) : Prop := ∃ (m n : Nat) (p : List Nat), 1 ≤ m ∧ m ≤ 12 ∧ 1 ≤ n ∧ n ≤ 12 ∧ p.Perm (List.range n) ∧ ds = [.int (m : Int)] ∧ d = dS p
section
variable {P : Program} {w : World} {K : PySem.W.Frag} {mg : Str → Option Value} {base : Heap}
abbrev s__law_strands : Stmt := topS 50
theorem sc__law_strands : FnScope ["_law_feed_here", "_law_many", "_law_places"] ["_law_feed_here", "_law_many"] (defScope s__law_strands) := ⟨rfl, rfl, rfl, by decide +kernel, rfl, by decide +kernel, by decide +kernel⟩
theorem ok_law_strands (T : Tx mg) (F : Dfn K mg "_law_strands" s__law_strands) (C__law_draw : Cal P w K mg base CX0 1 "_law_draw" ["_law_feed_here", "_law_many"] (spF K 1 R_draw)) (C__law_mixed : Cal P w K mg base CX0 2 "_law_mixed" ["_law_feed_here", "_law_things"] (spF K 12 R_mixed))
    (C__law_word : Cal P w K mg base CX0 2 "_law_word" ["_law_feed_here", "_law_places", "_law_many"] (spF K 13 R_word)) (C__law_comb : Cal P w K mg base CX0 1 "_law_comb" ["_law_places", "_law_word_here"] (spQ K R_comb)) : Cal P w K mg base CX0 3 "_law_strands" ["_law_feed_here", "_law_many"] (spF K 15 R_strandsN) := by
  have nd := sc__law_strands.nd
  refine cal_feed F sc__law_strands (by rintro _ _ ⟨_, _, _, _, _, _, _, _, rfl, _⟩; rfl) (fun f fd F => F.bindsN fun _ _ _ _ _ _ us hl => match us, hl with | [_, _], _ => rfl) (fun f cdv A outer s H E hr => ⟨_,
      (pss_cons (ps_set (i := 2) nd rfl (.inl rfl) (pe_op op_add pe_int (pe_cal C__law_draw hr pass0 (pa_cons (pv 0) (pa_cons (pv 1) pa_nil)))))
      (pss_cons (ps_if (PW.pt (pw_or (pt_cmpR op_eq (pe_cal C__law_draw hr pass0 (pa_cons (pv 0) (pa_cons pe_int pa_nil))) pe_int (nomark _)) (pw_or1 (pt_cmpR op_lt (pv 2) pe_int (nomark _))))) (pss_one (ps_ret (pe_callTy (T := "tuple") (r := rTupS K) call_tuple_of rfl T.tuple (by decide +kernel) (pa_cons (pe_cal C__law_mixed hr pass0 (pa_cons (pv 0) (pa_cons (pe_listRg rfl rfl T.list (prg_1 rfl T.range (pv 2))) pa_nil))) pa_nil)))) pss_nil)
      (pss_one (ps_ret (pe_cal C__law_comb hr pass0 (pa_cons (pv 2) (pa_cons (pe_cal C__law_word hr pass0 (pa_cons (pv 0) (pa_cons (pv 2) (pa_cons pe_int pa_nil)))) pa_nil))))))), ?_⟩)
  rintro _ b p fd ⟨_, m, _, _, h1, h2, _, _, _, rfl, _⟩ hf hn
  refine ss_seq (N1 := fun r => ∃ (x : Nat) (fd' : List PyData), 1 ≤ x ∧ x ≤ 12 ∧ FeedD (b + 1) fd' ∧ r = [.ml false p fd', .im (.int (m : Int)), .im (.int (x : Int))]) (ss_asgE (em_draw1 (o := false) (p := p) (fd := fd) (n := b) (m := m) rfl hf (by omega) ev_var h1 (by omega)) ?_) ?_
  · rintro _ _ ⟨x, fd', g1, g2, rfl, g3, rfl⟩
    exact ⟨rfl, x, fd', g1, by omega, g3, rfl⟩
  rintro _ ⟨x, fd1, g1, g2, g3, rfl⟩
  refine ss_seq (N1 := fun r => 2 ≤ x ∧ ∃ fd', FeedD (b + 2) fd' ∧ r = [.ml false p fd', .im (.int (m : Int)), .im (.int (x : Int))]) (ss_ifE (R1 := fun k r => (k = false → 2 ≤ x) ∧ ∃ fd', FeedD (b + 2) fd' ∧ r = [.ml false p fd', .im (.int (m : Int)), .im (.int (x : Int))])
    (emt_or (R1 := fun k r => ∃ fd', FeedD (b + 2) fd' ∧ r = [.ml false p fd', .im (.int (m : Int)), .im (.int (x : Int))]) (emt_test (R1 := fun d r => (∃ k, d = .bool k) ∧ ∃ fd', FeedD (b + 2) fd' ∧ r = [.ml false p fd', .im (.int (m : Int)), .im (.int (x : Int))]) (em_op (R1 := fun d r => ∃ (y : Nat) (fd' : List PyData), y < 2 ∧ d = .int (y : Int) ∧ FeedD (b + 1 + 1) fd' ∧ r = [.ml false p fd', .im (.int (m : Int)), .im (.int (x : Int))]) (R2' := fun _ d r => d = .int 0 ∧ ∃ fd', FeedD (b + 2) fd' ∧ r = [.ml false p fd', .im (.int (m : Int)), .im (.int (x : Int))]) (em_draw (o := false) (p := p) (fd := fd1) (n := b + 1) (m := 2) rfl g3 (by omega) ev_int (by omega) (by omega)) ?_ ?_) ?_) ?_ ?_) ?_ ?_) ?_
  · rintro _ _ ⟨y, fd', _, rfl, f1, rfl⟩
    refine (ev_int (i := 0)).em.imp ?_
    rintro _ _ ⟨rfl, rfl⟩
    exact ⟨rfl, fd', f1, rfl⟩
  · rintro _ _ _ _ ⟨y, _, _, rfl, _, _⟩ ⟨rfl, fd', f1, rfl⟩
    exact ⟨_, rv_eqI, ⟨_, rfl⟩, fd', f1, rfl⟩
  · rintro _ _ ⟨⟨k, rfl⟩, h⟩
    exact ⟨k, rfl, h⟩
  · rintro r h
    exact ⟨fun z => (Bool.noConfusion z), h⟩
  · rintro _ ⟨fd', f1, rfl⟩
    refine emt_test (ev_cmpI (p := fun i j => decide (i < j)) ev_var ev_int).em ?_
    rintro _ _ ⟨rfl, rfl⟩
    exact ⟨_, rfl, fun z => by have := of_decide_eq_false z; omega, fd', f1, rfl⟩
  · rintro _ ⟨_, fd', f1, rfl⟩
    refine ss_retE (em_tmix (o := false) (p := p) (fd := fd') (n := b + 2) (q := List.range x) (m := x) rfl f1 (by omega) (.inl rfl) (List.Perm.refl _) (ev_lstRg (n := x) ev_var (by omega)) g2) ?_
    rintro _ _ ⟨y, fd2, hy, rfl, f2, rfl⟩
    exact ⟨⟨m, x, y, h1, h2, g1, g2, hy, rfl, rfl⟩, fd2, rfl, f2.mono (by omega)⟩
  · rintro _ ⟨h, h3⟩
    exact ss_next ⟨h rfl, h3⟩
  rintro _ ⟨hx, fd2, f2, rfl⟩
  refine ss_retE (em_callQ (RF := R_comb) (RA := fun ds r => ∃ (ws : List Nat) (fd' : List PyData), ws.length ≤ 12 ∧ (∀ z ∈ ws, z + 1 < x) ∧ ds = [.int (x : Int), dS ws] ∧ FeedD (b + 15) fd' ∧ r = [.ml false p fd', .im (.int (m : Int)), .im (.int (x : Int))]) (R := fun d r => (∃ q : List Nat, q.Perm (List.range x) ∧ d = dS q) ∧ ∃ fd', FeedD (b + 15) fd' ∧ r = [.ml false p fd', .im (.int (m : Int)), .im (.int (x : Int))]) ?_ ?_ ?_) ?_
  · refine ema_cons (R1 := fun a r => a = .int (x : Int) ∧ r = [.ml false p fd2, .im (.int (m : Int)), .im (.int (x : Int))]) (RB := fun _ ds r => ∃ (ws : List Nat) (fd' : List PyData), ws.length ≤ 12 ∧ (∀ z ∈ ws, z + 1 < x) ∧ ds = [dS ws] ∧ FeedD (b + 15) fd' ∧ r = [.ml false p fd', .im (.int (m : Int)), .im (.int (x : Int))]) (ev_var (d := .int (x : Int))).em ?_ ?_
    · rintro _ _ ⟨rfl, rfl⟩
      refine ema_cons (R1 := fun d r => ∃ (ws : List Nat) (fd' : List PyData), ws.length ≤ 12 ∧ (∀ z ∈ ws, z + 1 < x) ∧ d = dS ws ∧ FeedD (b + 15) fd' ∧ r = [.ml false p fd', .im (.int (m : Int)), .im (.int (x : Int))]) (RB := fun d ds r => ds = [] ∧ ∃ (ws : List Nat) (fd' : List PyData), ws.length ≤ 12 ∧ (∀ z ∈ ws, z + 1 < x) ∧ d = dS ws ∧ FeedD (b + 15) fd' ∧ r = [.ml false p fd', .im (.int (m : Int)), .im (.int (x : Int))]) ?_ (fun a r h => ema_nil ⟨rfl, h⟩) ?_
      · refine em_callF (o := false) (p := p) (fd := fd2) (n := b + 2) (RF := R_word) rfl ((ea_cons ev_var (ea_cons (ev_int (i := ((8 : Nat) : Int))) ea_nil)).em) ?_ (by omega) ?_
        · rintro _ _ ⟨rfl, rfl⟩
          exact ⟨fd2, rfl, f2, dS [], x, 8, [], g1, g2, by decide, by decide, (fun z h => by cases h), rfl, rfl⟩
        · rintro _ _ _ fd' ⟨rfl, rfl⟩ ⟨n', m', ws, _, _, _, w1, w2, w3, rfl⟩ hf'
          simp only [List.cons.injEq, PyData.int.injEq, and_true] at w3
          have en : x = n' := by omega
          subst en
          exact ⟨ws, fd', w1, w2, rfl, hf', rfl⟩
      · rintro _ _ _ _ _ ⟨rfl, ws, fd', w1, w2, rfl, w3, rfl⟩
        exact ⟨ws, fd', w1, w2, rfl, w3, rfl⟩
    · rintro _ _ _ _ ⟨rfl, _⟩ ⟨ws, fd', w1, w2, rfl, w3, rfl⟩
      exact ⟨ws, fd', w1, w2, rfl, w3, rfl⟩
  · rintro _ _ ⟨ws, fd', w1, w2, rfl, w3, rfl⟩
    exact ⟨dS (List.range x), x, ws, _, g1, g2, by omega, w2, List.Perm.refl _, rfl, rfl⟩
  · rintro _ _ _ ⟨ws, fd', w1, w2, rfl, w3, rfl⟩ ⟨n', ws', q, _, _, _, _, hq, e, rfl⟩
    simp only [List.cons.injEq, PyData.int.injEq, and_true] at e
    have en : n' = x := by omega
    subst en
    exact ⟨⟨q, hq, rfl⟩, fd', w3, rfl⟩
  · rintro _ _ ⟨⟨q, hq, rfl⟩, fd', w3, rfl⟩
    exact ⟨⟨m, x, q, h1, h2, g1, g2, hq, rfl, rfl⟩, fd', rfl, w3⟩
/-! ### strands of another number -/
def R_unlike (ds : List PyData) (d : PyData) : Prop := ∃ (n m : Nat) (p q : List Nat), p.length = n ∧ n ≤ 12 ∧ 1 ≤ m ∧ m ≤ 12 ∧ m ≠ n ∧ q.Perm (List.range m) ∧ ds = [dS p] ∧ d = dS q
abbrev s__law_unlike : Stmt := topS 56
theorem sc__law_unlike : FnScope ["_law_feed_here", "_law_strands_here", "_law_many", "_law_number"] ["_law_feed_here", "_law_strands_here"] (defScope s__law_unlike) := ⟨rfl, rfl, rfl, by decide +kernel, rfl, by decide +kernel, by decide +kernel⟩
theorem ok_law_unlike (T : Tx mg) (F : Dfn K mg "_law_unlike" s__law_unlike) (C__law_one : Cal P w K mg base CX0 2 "_law_one" ["_law_feed_here", "_law_things"] (spF K 1 R_one)) (C__law_mixed : Cal P w K mg base CX0 2 "_law_mixed" ["_law_feed_here", "_law_things"] (spF K 12 R_mixed)) :
    Cal P w K mg base CX0 3 "_law_unlike" ["_law_feed_here", "_law_strands_here"] (spF K 13 R_unlike) := by
  have nd := sc__law_unlike.nd
  refine cal_feed F sc__law_unlike (by rintro _ _ ⟨_, _, _, _, _, _, _, _, _, _, rfl, _⟩; rfl) (fun f fd F => F.bindsN fun _ _ _ _ _ _ us hl => match us, hl with | [_, _], _ => rfl) (fun f cdv A outer s H E hr => ⟨_,
      (pss_cons (ps_set (i := 2) nd rfl (.inl rfl) (pe_cal C__law_one hr pass0 (pa_cons (pv 0) (pa_cons (pe_lc (own := [("_law_number", 3)]) rfl nd (pi_range2 rfl T.range (pa_cons pe_int (pa_cons pe_int pa_nil))) (blkOk_by (by kernel_rfl)) (fun _ _ _ _ _ => (pg_name (i := 3) nd rfl (.inl rfl) (.inr rfl))) (fun _ _ _ _ _ => (pts_one (pt_cmpR op_ne (pv 3) (pe_callB (id := "len") (r := rLenS K) call_len_seq rfl T.len (by decide +kernel) (pa_cons (pv 1) pa_nil)) (nomark _)))) (fun _ _ _ _ _ => (pv 3))) pa_nil))))
      (pss_one (ps_ret (pe_callTy (T := "tuple") (r := rTupS K) call_tuple_of rfl T.tuple (by decide +kernel) (pa_cons (pe_cal C__law_mixed hr pass0 (pa_cons (pv 0) (pa_cons (pe_listRg rfl rfl T.list (prg_1 rfl T.range (pv 2))) pa_nil))) pa_nil))))), ?_⟩)
  rintro _ b a fd ⟨_, n, _, p, _, hl, h2, _, _, _, _, rfl, _⟩ hf hn
  have lp : ((nats p).map PyData.int).length = n := by rw [List.length_map, nats_len, hl]
  let L : List PyData := ((List.range 12).filter fun i : Nat => !decide ((1 : Int) + (i : Int) = (n : Int))).map fun i : Nat => .int (1 + (i : Int))
  have hL : L.length ≤ 12 := by
    show (List.map _ _).length ≤ 12
    rw [List.length_map]
    exact Nat.le_trans (List.length_filter_le _ _) (by simp)
  have hm : ∀ d ∈ L, ∃ m : Nat, 1 ≤ m ∧ m ≤ 12 ∧ m ≠ n ∧ d = .int (m : Int) := by
    intro d hd
    obtain ⟨i, hi, rfl⟩ := List.mem_map.mp hd
    rw [List.mem_filter, List.mem_range] at hi
    refine ⟨i + 1, by omega, by omega, ?_, by congr 1; omega⟩
    have := hi.2
    simp at this
    omega
  have h0 : ∃ d, d ∈ L := by
    by_cases c : n = 1
    · exact ⟨.int (1 + ((1 : Nat) : Int)), List.mem_map.mpr ⟨1, List.mem_filter.mpr ⟨by simp, by simp; omega⟩, rfl⟩⟩
    · exact ⟨.int (1 + ((0 : Nat) : Int)), List.mem_map.mpr ⟨0, List.mem_filter.mpr ⟨by simp, by simp; omega⟩, rfl⟩⟩
  refine ss_seq (N1 := fun r => ∃ (m : Nat) (fd' : List PyData), 1 ≤ m ∧ m ≤ 12 ∧ m ≠ n ∧ FeedD (b + 1) fd' ∧ r = [.ml false a fd', .im (dS p), .im (.int (m : Int)), .no]) (ss_asgE (R1 := fun d r => ∃ (m : Nat) (fd' : List PyData), 1 ≤ m ∧ m ≤ 12 ∧ m ≠ n ∧ d = .int (m : Int) ∧ FeedD (b + 1) fd' ∧ r = [.ml false a fd', .im (dS p), .no, .no]) (em_callF (o := false) (p := a) (fd := fd) (n := b) (RF := R_one) (RA := fun ds r => ds = [.list L] ∧ r = [.ml false a fd, .im (dS p), .no, .no]) rfl ?_ ?_ (by omega) ?_) ?_) ?_
  · exact (ea_cons (d := .list L) (ev_lcI (xs := List.range 12) (emb := fun i : Nat => .int (1 + (i : Int))) (fun i : Nat => !decide ((1 : Int) + (i : Int) = (n : Int))) (fun i : Nat => .int (1 + (i : Int))) ((ew_rng2 (m := 1) (n := 13) (ea_cons ev_int (ea_cons ev_int ea_nil)) (by decide)).is (by rfl)) (fun i hi => et_test (ev_neI ev_var ((ev_lenT ev_var).is (by rw [lp])))) (fun i _ _ => ev_var) (by simp)) ea_nil).em
  · rintro _ _ ⟨rfl, rfl⟩
    obtain ⟨d, hd⟩ := h0
    exact ⟨fd, rfl, hf, d, L, by omega, hd, rfl⟩
  · rintro _ _ _ fd' ⟨rfl, rfl⟩ ⟨xs, _, hd, e⟩ hf'
    simp only [List.cons.injEq, PyData.list.injEq, and_true] at e
    rw [← e] at hd
    obtain ⟨m, m1, m2, m3, rfl⟩ := hm _ hd
    exact ⟨m, fd', m1, m2, m3, rfl, hf', rfl⟩
  · rintro _ _ ⟨m, fd', m1, m2, m3, rfl, hf', rfl⟩
    exact ⟨rfl, m, fd', m1, m2, m3, hf', rfl⟩
  rintro _ ⟨m, fd1, m1, m2, m3, f1, rfl⟩
  refine ss_retE (em_tmix (o := false) (p := a) (fd := fd1) (n := b + 1) (q := List.range m) (m := m) rfl f1 (by omega) (.inl rfl) (List.Perm.refl _) (ev_lstRg (n := m) ev_var (by omega)) m2) ?_
  rintro _ _ ⟨y, fd2, hy, rfl, f2, rfl⟩
  exact ⟨⟨n, m, p, y, hl, h2, m1, m2, m3, hy, rfl, rfl⟩, fd2, rfl, f2.mono (by omega)⟩
end
end Jn
set_option maxHeartbeats 4000000
namespace Jn
open PySem
open PySem.Spec PyProof.Rows
open L2
open Ma
theorem rud_neg {K : PySem.W.Frag} {i : Int} : RuD K (rU fun i => .int (-i)) (.int i) (.int (-i)) := fun x G H Q e h q => by
  cases h
  exact ⟨i, rfl, q _ G H (.refl e) (.int _)⟩
theorem dn_nats (a s : Nat) : dnI ((a : Int) + (s : Int) - 1) ((a : Int) - 1) = nats ((List.range s).map fun m => a + s - 1 - m) := by
  unfold dnI nats
  rw [show ((a : Int) + (s : Int) - 1 - ((a : Int) - 1)).toNat = s by omega, List.map_map]
  refine List.map_congr_left fun m hm => ?_
  have := List.mem_range.mp hm
  show (a : Int) + s - 1 + (m : Int) * (-1) = ((a + s - 1 - m : Nat) : Int)
  omega
theorem dn_perm (a s : Nat) : ((List.range s).map fun m => a + s - 1 - m).Perm ((List.range s).map fun m => a + m) := by
  have e : ((List.range s).map fun m => a + s - 1 - m) = ((List.range s).map fun m => a + m).reverse := by
    refine List.ext_getElem? fun i => ?_
    by_cases c : i < s
    · rw [List.getElem?_reverse (by simpa using c)]
      have c2 : s - 1 - i < s := by omega
      simp [c, c2]
      omega
    · simp [c]
  rw [e]
  exact List.reverse_perm _
theorem range_add' (a s : Nat) : List.range (a + s) = List.range a ++ (List.range s).map fun m => a + m := List.range_add
theorem nats_app (p q : List Nat) : (nats p).map PyData.int ++ (nats q).map .int = (nats (p ++ q)).map .int := by unfold nats; rw [List.map_append, List.map_append]
section
variable {P : Program} {w : World} {K : PySem.W.Frag} {mg : Str → Option Value} {base : Heap}
abbrev s__law_wide : Stmt := topS 57
theorem sc__law_wide : FnScope ["_law_feed_here", "_law_many", "_law_way", "_law_places", "_law_got", "_law_at", "_law_turn", "_law_size"] ["_law_feed_here", "_law_many"] (defScope s__law_wide) := ⟨rfl, rfl, rfl, by decide +kernel, rfl, by decide +kernel, by decide +kernel⟩
theorem ok_law_wide (T : Tx mg) (F : Dfn K mg "_law_wide" s__law_wide) (C__law_draw : Cal P w K mg base CX0 1 "_law_draw" ["_law_feed_here", "_law_many"] (spF K 1 R_draw)) (C__law_strands : Cal P w K mg base CX0 3 "_law_strands" ["_law_feed_here", "_law_many"] (spF K 15 R_strandsN)) :
    Cal P w K mg base CX0 4 "_law_wide" ["_law_feed_here", "_law_many"] (spF K 17 R_strandsN) := by
  have nd := sc__law_wide.nd
  refine cal_feed F sc__law_wide (by rintro _ _ ⟨_, _, _, _, _, _, _, _, rfl, _⟩; rfl) (fun f fd F => F.bindsN fun _ _ _ _ _ _ us hl => match us, hl with | [_, _], _ => rfl) (fun f cdv A outer s H E hr => ⟨_,
      (pss_cons (ps_par (i := 2) (j := 3) rfl nd rfl rfl (by decide) rfl rfl (pa_cons (pe_cal C__law_draw hr pass0 (pa_cons (pv 0) (pa_cons pe_int pa_nil))) (pa_cons (pe_op op_add pe_int (pe_cal C__law_draw hr pass0 (pa_cons (pv 0) (pa_cons (pv 1) pa_nil)))) pa_nil)) rfl)
      (pss_cons (ps_if (pt_cmpR op_lt (pv 2) pe_int (nomark _)) (pss_one (ps_ret (pe_cal C__law_strands hr pass0 (pa_cons (pv 0) (pa_cons (pv 1) pa_nil))))) pss_nil)
      (pss_cons (ps_par (i := 4) (j := 5) rfl nd rfl rfl (by decide) rfl rfl (pa_cons (pe_lst pa_nil) (pa_cons pe_int pa_nil)) rfl)
      (pss_cons (ps_for PassesOwn.never rfl (pi_range1 rfl T.range (pa_cons (pe_ifExp (pt_cmpR op_eq (pv 2) pe_int (nomark _)) (pv 3) pe_int) pa_nil)) (pg_name (i := 6) nd rfl (.inl rfl) (.inl rfl)) (pss_cons (ps_set (i := 7) nd rfl (.inl rfl) (pe_callB (id := "min") (call_min2 rfl) rfl T.min (by decide +kernel) (pa_cons (pe_op op_sub (pv 3) (pv 5)) (pa_cons (pe_op op_add pe_int (pe_cal C__law_draw hr pass0 (pa_cons (pv 0) (pa_cons pe_int pa_nil)))) pa_nil))))
      (pss_cons (ps_expr (pe_bm PySem.F.plainAttrs_list PySem.F.slot_list_extend PySem.F.type_list_extend mt_extend (pv 4) (pa_cons (pe_lstDn rfl rfl T.list rfl T.range (pa_cons (pe_op op_sub (pe_op op_add (pv 5) (pv 7)) pe_int) (pa_cons (pe_op op_sub (pv 5) pe_int) (pa_cons (pe_un un_neg pe_int) pa_nil)))) pa_nil)))
      (pss_one (ps_set (i := 5) nd rfl (.inl rfl) (pe_op op_add (pv 5) (pv 7)))))))
      (pss_one (ps_ret (pe_ifExp (pt_cmpR op_eq (pv 2) pe_int (nomark _)) (pe_callTy (T := "tuple") (r := rTupS K) call_tuple_of rfl T.tuple (by decide +kernel) (pa_cons (pv 4) pa_nil)) (pe_tupRg rfl rfl T.tuple (prg_1 rfl T.range (pv 3)))))))))), ?_⟩)
  rintro _ b p fd ⟨_, m, _, _, h1, h2, _, _, _, rfl, _⟩ hf hn
  refine ss_seq (N1 := fun r => ∃ (y x : Nat) (fd' : List PyData), 1 ≤ x ∧ x ≤ 12 ∧ FeedD (b + 2) fd' ∧ r = [.ml false p fd', .im (.int (m : Int)), .im (.int (y : Int)), .im (.int (x : Int)), .no, .no, .no, .no])
    (ss_parE (RA := fun ds r => ∃ (y x : Nat) (fd' : List PyData), 1 ≤ x ∧ x ≤ 12 ∧ FeedD (b + 2) fd' ∧ ds = [.int (y : Int), .int (x : Int)] ∧ r = [.ml false p fd', .im (.int (m : Int)), .no, .no, .no, .no, .no, .no]) ?_ (by decide) ?_) ?_
  · refine ema_cons (R1 := fun d r => ∃ (y : Nat) (fd' : List PyData), FeedD (b + 1) fd' ∧ d = .int (y : Int) ∧ r = [.ml false p fd', .im (.int (m : Int)), .no, .no, .no, .no, .no, .no]) (RB := fun _ ds r => ∃ (x : Nat) (fd' : List PyData), 1 ≤ x ∧ x ≤ 12 ∧ FeedD (b + 2) fd' ∧ ds = [.int (x : Int)] ∧ r = [.ml false p fd', .im (.int (m : Int)), .no, .no, .no, .no, .no, .no]) ?_ ?_ ?_
    · refine (em_draw (o := false) (p := p) (fd := fd) (n := b) (m := 5) rfl hf (by omega) ev_int (by omega) (by omega)).imp ?_
      rintro _ _ ⟨y, fd', _, rfl, f1, rfl⟩
      exact ⟨y, fd', f1, rfl, rfl⟩
    · rintro _ _ ⟨y, fd', f1, _, rfl⟩
      refine ema_cons (R1 := fun d r => ∃ (x : Nat) (fd' : List PyData), 1 ≤ x ∧ x ≤ 12 ∧ FeedD (b + 2) fd' ∧ d = .int (x : Int) ∧ r = [.ml false p fd', .im (.int (m : Int)), .no, .no, .no, .no, .no, .no]) (RB := fun d ds r => ds = [] ∧ ∃ (x : Nat) (fd' : List PyData), 1 ≤ x ∧ x ≤ 12 ∧ FeedD (b + 2) fd' ∧ d = .int (x : Int) ∧ r = [.ml false p fd', .im (.int (m : Int)), .no, .no, .no, .no, .no, .no]) ?_ (fun a r h => ema_nil ⟨rfl, h⟩) ?_
      · refine (em_draw1 (o := false) (p := p) (fd := fd') (n := b + 1) (m := m) rfl f1 (by omega) ev_var h1 (by omega)).imp ?_
        rintro _ _ ⟨x, fd2, x1, x2, rfl, f2, rfl⟩
        exact ⟨x, fd2, x1, by omega, f2, rfl, rfl⟩
      · rintro _ _ _ _ _ ⟨rfl, x, fd2, x1, x2, f2, rfl, rfl⟩
        exact ⟨x, fd2, x1, x2, f2, rfl, rfl⟩
    · rintro _ _ _ _ ⟨y, _, _, rfl, _⟩ ⟨x, fd2, x1, x2, f2, rfl, rfl⟩
      exact ⟨y, x, fd2, x1, x2, f2, rfl, rfl⟩
  · rintro _ _ ⟨y, x, fd2, x1, x2, f2, rfl, rfl⟩
    exact ⟨_, _, rfl, rfl, rfl, y, x, fd2, x1, x2, f2, rfl⟩
  rintro _ ⟨y, x, fd1, x1, x2, f1, rfl⟩
  refine ss_seq (N1 := fun r => r = [.ml false p fd1, .im (.int (m : Int)), .im (.int (y : Int)), .im (.int (x : Int)), .no, .no, .no, .no]) (ss_if (et_test (ev_cmpI (p := fun i j => decide (i < j)) ev_var ev_int)) (fun _ => ?_) (fun _ => ss_next rfl)) ?_
  · refine ss_retE (em_callF (o := false) (p := p) (fd := fd1) (n := b + 2) (RF := R_strandsN) (RA := fun ds r => ds = [.int (m : Int)] ∧ r = [.ml false p fd1, .im (.int (m : Int)), .im (.int (y : Int)), .im (.int (x : Int)), .no, .no, .no, .no]) (R := fun d r => (∃ (n : Nat) (q : List Nat), 1 ≤ n ∧ n ≤ 12 ∧ q.Perm (List.range n) ∧ d = dS q) ∧ ∃ fd', FeedD (b + 17) fd' ∧ r = [.ml false p fd', .im (.int (m : Int)), .im (.int (y : Int)), .im (.int (x : Int)), .no, .no, .no, .no]) rfl ?_ ?_ (by omega) ?_) ?_
    · exact (ea_cons ev_var ea_nil).em
    · rintro _ _ ⟨rfl, rfl⟩
      exact ⟨fd1, rfl, f1, _, m, 1, _, h1, h2, by omega, by omega, List.Perm.refl _, rfl, rfl⟩
    · rintro _ _ _ fd' ⟨rfl, rfl⟩ ⟨_, n, q, _, _, n1, n2, hq, _, rfl⟩ hf'
      exact ⟨⟨n, q, n1, n2, hq, rfl⟩, fd', hf', rfl⟩
    · rintro _ _ ⟨⟨n, q, n1, n2, hq, rfl⟩, fd', hf', rfl⟩
      exact ⟨⟨m, n, q, h1, h2, n1, n2, hq, rfl, rfl⟩, fd', rfl, hf'⟩
  rintro _ rfl
  refine ss_seq (N1 := fun r => ∃ q, r = [.ml false p fd1, .im (.int (m : Int)), .im (.int (y : Int)), .im (.int (x : Int)), .ml true q [], .im (.int ((0 : Nat) : Int)), .no, .no]) (ss_parNE (en_lst ea_nil (by simp)) ev_int rfl rfl (by decide) fun q => ⟨q, rfl⟩) ?_
  rintro _ ⟨q, rfl⟩
  let st := fun (fd' : List PyData) (g : List Nat) (a : Nat) (z : En) => ([.ml false p fd', .im (.int (m : Int)), .im (.int (y : Int)), .im (.int (x : Int)), .ml true q ((nats g).map .int), .im (.int (a : Int)), .no, z] : Rho)
  let cnt : Nat := if decide ((y : Int) = 4) = true then x else 0
  refine ss_seq (N1 := fun r => ∃ (fd' : List PyData) (g : List Nat) (a : Nat) (z : En), FeedD (b + 17) fd' ∧ g.Perm (List.range a) ∧ a ≤ x ∧ (decide ((y : Int) = 4) = true → x ≤ a) ∧ r = st fd' g a z)
    (ss_for (I := fun i r => ∃ (fd' : List PyData) (g : List Nat) (a : Nat) (z : En), FeedD (b + 2 + i) fd' ∧ g.Perm (List.range a) ∧ a ≤ x ∧ i ≤ a ∧ r = st fd' g a z) (ew_rngN (n := cnt) (ev_if (x := decide ((y : Int) = 4)) (et_test (ev_eqI ev_var ev_int)) (fun h => Ev.is ev_var (by simp only [cnt]; rw [if_pos h])) (fun h => Ev.is ev_int (by simp only [cnt]; rw [if_neg (by rw [h]; exact Bool.false_ne_true)]; rfl))) (by simp only [cnt]; split <;> omega)) ⟨fd1, [], 0, .no, f1, List.Perm.refl _, by omega, by omega, rfl⟩ (by rintro i _ ⟨_, _, _, _, _, _, _, _, rfl⟩; rfl) ?_ ?_) ?_
  · rintro i hi _ ⟨fd', g, a, z0, g1, g2, g3, g4, rfl⟩
    have hi' : i < cnt := by simpa using hi
    have hix : i < x := by
      simp only [cnt] at hi'
      split at hi' <;> omega
    rw [List.getElem_map, List.getElem_range]
    let stt := fun (fd' : List PyData) (g : List Nat) (a : Nat) (z : En) => ([.ml false p fd', .im (.int (m : Int)), .im (.int (y : Int)), .im (.int (x : Int)), .ml true q ((nats g).map .int), .im (.int (a : Int)), .im (.int (i : Int)), z] : Rho)
    refine ss_seq (N1 := fun r => ∃ (sz : Nat) (fd2 : List PyData), FeedD (b + 2 + (i + 1)) fd2 ∧ a + sz ≤ x ∧ i + 1 ≤ a + sz ∧ r = stt fd2 g a (.im (.int (sz : Int)))) (ss_asgE (R1 := fun d r => ∃ (sz : Nat) (fd2 : List PyData), FeedD (b + 2 + (i + 1)) fd2 ∧ a + sz ≤ x ∧ i + 1 ≤ a + sz ∧ d = .int (sz : Int) ∧ r = stt fd2 g a z0) (em_cb (RA := fun ds r => ∃ (v : Nat) (fd2 : List PyData), 1 ≤ v ∧ FeedD (b + 2 + (i + 1)) fd2 ∧ ds = [.int ((x : Int) - (a : Int)), .int (v : Int)] ∧ r = stt fd2 g a z0) (ema_cons (R1 := fun d r => d = .int ((x : Int) - (a : Int)) ∧ r = stt fd' g a z0) (RB := fun _ ds r => ∃ (v : Nat) (fd2 : List PyData), 1 ≤ v ∧ FeedD (b + 2 + (i + 1)) fd2 ∧ ds = [.int (v : Int)] ∧ r = stt fd2 g a z0) ?_ ?_ ?_) ?_) ?_) ?_
    · exact (ev_sub ev_var ev_var).em
    · rintro _ _ ⟨rfl, rfl⟩
      refine ema_cons (R1 := fun d r => ∃ (v : Nat) (fd2 : List PyData), 1 ≤ v ∧ FeedD (b + 2 + (i + 1)) fd2 ∧ d = .int (v : Int) ∧ r = stt fd2 g a z0) (RB := fun d ds r => ds = [] ∧ ∃ (v : Nat) (fd2 : List PyData), 1 ≤ v ∧ FeedD (b + 2 + (i + 1)) fd2 ∧ d = .int (v : Int) ∧ r = stt fd2 g a z0) ?_ (fun a r h => ema_nil ⟨rfl, h⟩) ?_
      · refine (em_draw1 (o := false) (p := p) (fd := fd') (n := b + 2 + i) (m := 4) rfl g1 (by omega) ev_int (by omega) (by omega)).imp ?_
        rintro _ _ ⟨v, fd2, v1, _, rfl, f2, rfl⟩
        exact ⟨v, fd2, v1, f2, rfl, rfl⟩
      · rintro _ _ _ _ _ ⟨rfl, v, fd2, v1, f2, rfl, rfl⟩
        exact ⟨v, fd2, v1, f2, rfl, rfl⟩
    · rintro _ _ _ _ ⟨rfl, _⟩ ⟨v, fd2, v1, f2, rfl, rfl⟩
      exact ⟨v, fd2, v1, f2, rfl, rfl⟩
    · rintro _ _ ⟨v, fd2, v1, f2, rfl, rfl⟩
      refine ⟨_, rc_min2, min v (x - a), fd2, f2, by omega, by omega, ?_, rfl⟩
      congr 1
      split <;> omega
    · rintro _ _ ⟨sz, fd2, f2, s1, s2, rfl, rfl⟩
      exact ⟨rfl, sz, fd2, f2, s1, s2, rfl⟩
    rintro _ ⟨sz, fd2, f2, s1, s2, rfl⟩
    let g' := g ++ (List.range sz).map fun m => a + sz - 1 - m
    have hg' : g'.Perm (List.range (a + sz)) := by
      rw [range_add']
      exact g2.append (dn_perm a sz)
    have lg := perm_len g2
    refine ss_seq (N1 := fun r => r = stt fd2 g' a (.im (.int (sz : Int)))) (ss_ext (i := 4) (o := true) (p := q) (es := (nats ((List.range sz).map fun m => a + sz - 1 - m)).map .int) rfl (by
      have z := en_lstDn (K := K) (ρ := stt fd2 g a (.im (.int (sz : Int)))) (i := (a : Int) + (sz : Int) - 1) (j := (a : Int) - 1) (ev_sub (ev_add (ev_var (i := 5)) (ev_var (i := 7))) ev_int) (ev_sub (ev_var (i := 5)) ev_int) (ev_un ev_int (rud_neg (i := 1))) (by omega)
      rw [dn_nats] at z
      exact z) (by simp [nats_len]; omega) ?_) ?_
    · show _ = _
      rw [nats_app]
      rfl
    rintro _ rfl
    refine ss_asg (d := .int ((a + sz : Nat) : Int)) ((ev_add ev_var ev_var).is (by simp)) ?_
    exact ⟨fd2, g', a + sz, _, f2, hg', s1, s2, rfl⟩
  · rintro _ ⟨fd', g, a, z0, g1, g2, g3, g4, rfl⟩
    rw [List.length_map, List.length_range] at g1 g4
    refine ⟨fd', g, a, z0, g1.mono ?_, g2, g3, fun h => ?_, rfl⟩
    · simp only [cnt]
      split <;> omega
    · simp only [cnt] at g4
      rw [if_pos h] at g4
      exact g4
  rintro _ ⟨fd', g, a, z0, g1, g2, g3, g4, rfl⟩
  by_cases c : decide ((y : Int) = 4) = true
  · have ea : a = x := by have := g4 c; omega
    subst ea
    exact ss_ret (d := dS g) (ev_if (x := decide ((y : Int) = 4)) (et_test (ev_eqI ev_var ev_int)) (fun _ => ev_tupM (i := 4) rfl) (fun h => by rw [c] at h; cases h)) ⟨⟨m, a, g, h1, h2, x1, x2, g2, rfl, rfl⟩, fd', rfl, g1⟩
  · exact ss_ret (d := dS (List.range x)) (ev_if (x := decide ((y : Int) = 4)) (et_test (ev_eqI ev_var ev_int)) (fun h => absurd h c) (fun h => ev_tupRg ev_var (by omega))) ⟨⟨m, x, _, h1, h2, x1, x2, List.Perm.refl _, rfl, rfl⟩, fd', rfl, g1⟩
end
end Jn
set_option maxHeartbeats 4000000
namespace Jn
open PySem
open PySem.Spec PyProof.Rows
open L2
open Ma
/-! what is no strands -/
theorem isStr_says {ds : List PyData} (h : isStr (.tuple ds) = true) : 1 ≤ ds.length ∧ ds.length ≤ 12 ∧ (∀ x ∈ ds, ∃ v : Nat, v < ds.length ∧ x = .int (v : Int)) ∧ ∀ v, v < ds.length → PyData.int ((v : Nat) : Int) ∈ ds := by
  simp only [isStr, Bool.and_eq_true, decide_eq_true_eq] at h
  obtain ⟨⟨⟨h1, h2⟩, h3⟩, h4⟩ := h
  have hp := List.isPerm_iff.mp h4
  have e := all_ints h3
  refine ⟨h1, h2, fun x hx => ?_, fun v hv => ?_⟩
  · have hi : isInt x = true := List.all_eq_true.mp h3 x hx
    cases x with
    | int i =>
      have hm : i ∈ rangeI ds.length := hp.mem_iff.mp (List.mem_map.mpr ⟨_, hx, rfl⟩)
      unfold rangeI at hm
      obtain ⟨v, hv, rfl⟩ := List.mem_map.mp hm
      exact ⟨v, List.mem_range.mp hv, rfl⟩
    | _ => cases hi
  · have hm : ((v : Nat) : Int) ∈ ds.map unI := hp.mem_iff.mpr (by unfold rangeI; exact List.mem_map.mpr ⟨v, List.mem_range.mpr hv, rfl⟩)
    rw [e]
    exact List.mem_map.mpr ⟨_, hm, rfl⟩
theorem bad_out {ds : List PyData} {x : PyData} (hx : x ∈ ds) (hn : ∀ v : Nat, v < ds.length → x ≠ .int (v : Int)) : isStr (.tuple ds) = false := by
  cases h : isStr (.tuple ds) with
  | false => rfl
  | true =>
    obtain ⟨v, hv, e⟩ := (isStr_says h).2.2.1 x hx
    exact absurd e (hn v hv)
theorem bad_miss {ds : List PyData} {v : Nat} (hv : v < ds.length) (hn : PyData.int (v : Int) ∉ ds) : isStr (.tuple ds) = false := by
  cases h : isStr (.tuple ds) with
  | false => rfl
  | true => exact absurd ((isStr_says h).2.2.2 v hv) hn
theorem bad_long {ds : List PyData} (h : ds.length = 0 ∨ 12 < ds.length) : isStr (.tuple ds) = false := by
  cases h2 : isStr (.tuple ds) with
  | false => rfl
  | true =>
    have := isStr_says h2
    omega
abbrev iN (p : List Nat) : List PyData := (nats p).map .int
theorem iN_len {p : List Nat} : (iN p).length = p.length := by simp [nats]
theorem mem_iN {p : List Nat} {v : Nat} : PyData.int (v : Int) ∈ iN p ↔ v ∈ p := by
  unfold iN nats
  rw [List.map_map, List.mem_map]
  constructor
  · rintro ⟨x, hx, e⟩
    have : (x : Int) = v := PyData.int.inj e
    have e2 : x = v := by omega
    rw [← e2]
    exact hx
  · intro h
    exact ⟨v, h, rfl⟩
theorem cat_set {ds : List PyData} {a : Nat} {x : PyData} (h : a < ds.length) : ds.take a ++ [x] ++ ds.drop (a + 1) = ds.set a x := by
  rw [List.set_eq_take_append_cons_drop, if_pos h, List.append_assoc]
  rfl
/-- an item is put where it does not belong -/
theorem bad_set {n : Nat} {p : List Nat} (hp : p.Perm (List.range n)) {a : Nat} (ha : a < n) {x : PyData} (hx : ∀ v : Nat, v < n → x = .int (v : Int) → v ≠ p.getD a 0) : isStr (.tuple ((iN p).set a x)) = false := by
  have hl := perm_len hp
  have hal : a < (iN p).length := by rw [iN_len]; omega
  by_cases c : ∃ v : Nat, v < n ∧ x = .int (v : Int)
  · obtain ⟨v, hv, rfl⟩ := c
    have ne := hx v hv rfl
    have hpa : p.getD a 0 = p[a]'(by omega) := by simp [hl, ha]
    have hlt : p[a]'(by omega) < n := perm_lt hp _ (List.getElem_mem _)
    refine bad_miss (v := p[a]'(by omega)) (by rw [List.length_set, iN_len]; omega) fun hm => ?_
    obtain ⟨i, hi, e⟩ := List.mem_iff_getElem.mp hm
    rw [List.length_set, iN_len] at hi
    rw [List.getElem_set] at e
    split at e
    · have : ((v : Nat) : Int) = (p[a]'(by omega) : Nat) := PyData.int.inj e
      omega
    · rename_i nai
      simp only [iN, nats, List.getElem_map] at e
      have e2 : ((p[i]'(by omega) : Nat) : Int) = (p[a]'(by omega) : Nat) := PyData.int.inj e
      have nd : p.Nodup := hp.nodup_iff.mpr List.nodup_range
      have e3 : p[i]'(by omega) = p[a]'(by omega) := by omega
      have z1 := nd.idxOf_getElem i (by omega)
      have z2 := nd.idxOf_getElem a (by omega)
      rw [e3] at z1
      omega
  · refine bad_out (x := x) (List.mem_iff_getElem.mpr ⟨a, by rw [List.length_set]; exact hal, by rw [List.getElem_set_self]⟩) fun v hv e => c ⟨v, ?_, e⟩
    rw [List.length_set, iN_len] at hv
    omega
section
variable {K : PySem.W.Frag} {ρ : Rho} {te ta tb : TE}
theorem ev_dnew : Ev K tDNewK ρ (.dict []) := fun σ G H Q e s q p hp => q _ _ _ (Gx.new e hp) (.dic upd_same)
end
theorem log_small {i : Int} (h : 0 ≤ i ∧ i < 1000) : i.natAbs.log2 < 1920 := by
  have := PySem.Flt.log2_lt_of (k := 10) (n := i.natAbs) (by decide) (by omega)
  omega
def AllBad (bs : List PyData) : Prop := ∀ b ∈ bs, isStr b = false
theorem allBad_cons {b : PyData} {bs : List PyData} (h : isStr b = false) (r : AllBad bs) : AllBad (b :: bs) := fun x hx => by
  rcases List.mem_cons.mp hx with e | hx
  · rw [e]; exact h
  · exact r x hx
theorem allBad_app {as bs : List PyData} (h : AllBad as) (r : AllBad bs) : AllBad (as ++ bs) := fun x hx => (List.mem_append.mp hx).elim (h x) (r x)
def R_bad (ds : List PyData) (d : PyData) : Prop := ∃ (n : Nat) (p : List Nat) (bs : List PyData), p.Perm (List.range n) ∧ 1 ≤ n ∧ n ≤ 12 ∧ bs.length ≤ 1000 ∧ bs ≠ [] ∧ AllBad bs ∧ ds = [dS p] ∧ d = .list bs
section
variable {P : Program} {w : World} {K : PySem.W.Frag} {mg : Str → Option Value} {base : Heap}
abbrev s__law_bad_strands : Stmt := topS 55
theorem sc__law_bad_strands : FnScope ["_law_strands_here", "_law_many", "_law_bad", "_law_at", "_law_end", "_law_odd"] ["_law_strands_here"] (defScope s__law_bad_strands) := ⟨rfl, rfl, rfl, by decide +kernel, rfl, by decide +kernel, by decide +kernel⟩
theorem ok_law_bad_strands (T : Tx mg) (F : Dfn K mg "_law_bad_strands" s__law_bad_strands) : Cal P w K mg base CX0 1 "_law_bad_strands" ["_law_strands_here"] (spQ K R_bad) := by
  have nd := sc__law_bad_strands.nd
  refine cal_Q F sc__law_bad_strands (by rintro _ _ ⟨_, _, _, _, _, _, _, _, _, rfl, _⟩; rfl) (fun f fd F => F.bindsN fun _ _ _ _ _ _ us hl => match us, hl with | [_], _ => rfl) (fun f cdv A outer s H E hr => ⟨_,
      (pss_cons (ps_set (i := 1) nd rfl (.inl rfl) (pe_callB (id := "len") (r := rLenS K) call_len_seq rfl T.len (by decide +kernel) (pa_cons (pv 0) pa_nil)))
      (pss_cons (ps_set (i := 2) nd rfl (.inl rfl) (pe_lst (pa_cons pe_non (pa_cons pe_int (pa_cons pe_str (pa_cons pe_dnewK (pa_cons (pe_tup pa_nil) (pa_cons (pe_callTy (T := "list") (r := rLstS K) call_list_of rfl T.list (by decide +kernel) (pa_cons (pv 0) pa_nil)) (pa_cons (pe_tup (pa_cons (pv 0) pa_nil)) (pa_cons (pe_op (r := rCatA K) op_catA (pv 0) (pe_slice (r := rSlA K) sl_tupA (pv 0) po_none (po_some pe_int))) (pa_cons (pe_op (r := rCatA K) op_catA (pv 0) (pe_tup (pa_cons (pe_op op_add (pv 1) pe_int) pa_nil))) (pa_cons (pe_callTy (T := "tuple") (r := rTupS K) call_tuple_of rfl T.tuple (by decide +kernel) (pa_cons (pe_lc (own := [("_law_end", 4)]) rfl nd (pi_tupK (K := K) (pv 0)) (blkOk_by (by kernel_rfl)) (fun _ _ _ _ _ => (pg_name (i := 4) nd rfl (.inl rfl) (.inr rfl))) (fun _ _ _ _ _ => pts_nil) (fun _ _ _ _ _ => (pe_op op_add (pv 4) pe_int))) pa_nil)) (pa_cons (pe_tupRg rfl rfl T.tuple (prg_1 rfl T.range pe_int)) (pa_cons (pe_tup (pa_cons pe_int pa_nil)) pa_nil))))))))))))))
      (pss_cons (ps_expr (pe_bm PySem.F.plainAttrs_list PySem.F.slot_list_append PySem.F.type_list_append mt_append (pv 2) (pa_cons (pe_callTy (T := "tuple") (r := rTupS K) call_tuple_of rfl T.tuple (by decide +kernel) (pa_cons (pe_lc (own := [("_law_end", 4)]) rfl nd (pi_tupK (K := K) (pv 0)) (blkOk_by (by kernel_rfl)) (fun _ _ _ _ _ => (pg_name (i := 4) nd rfl (.inl rfl) (.inr rfl))) (fun _ _ _ _ _ => pts_nil) (fun _ _ _ _ _ => (pe_ifExp (pt_cmpR op_lt (pv 4) pe_int (nomark _)) (pe_cmpR op_eq (pv 4) pe_int (nomark _)) (pv 4)))) pa_nil)) pa_nil)))
      (pss_cons (ps_for PassesOwn.never rfl (pi_listK (K := K) (pe_callB (id := "sorted") (r := rSortedSet w) (cr_sortedSet rfl) rfl T.sorted (by decide +kernel) (pa_cons (pe_callTy (T := "set") (r := rSetL' w K) (cr_setL rfl) rfl T.set (by decide +kernel) (pa_cons (pe_lst (pa_cons pe_int (pa_cons (pe_op op_fdiv (pv 1) pe_int) (pa_cons (pe_op op_sub (pv 1) pe_int) pa_nil)))) pa_nil)) pa_nil))) (pg_name (i := 3) nd rfl (.inr rfl) (.inl rfl)) (pss_cons (ps_expr (pe_bm PySem.F.plainAttrs_list PySem.F.slot_list_extend PySem.F.type_list_extend mt_extend (pv 2) (pa_cons (pe_lc (own := [("_law_odd", 5)]) rfl nd (pi_listK (K := K) (pe_lst (pa_cons pe_non (pa_cons pe_str (pa_cons (pe_un un_neg pe_int) (pa_cons (pv 1) (pa_cons (pe_tup (pa_cons (pe_ix (r := rIxT K) ix_tup (pv 0) (pv 3) (fun _ _ => rfl)) pa_nil)) (pa_cons (pe_lst (pa_cons (pe_ix (r := rIxT K) ix_tup (pv 0) (pv 3) (fun _ _ => rfl)) pa_nil)) (pa_cons (pe_op op_pow pe_int pe_int) (pa_cons (pe_callTy (T := "str") call_str_int rfl T.str (by decide +kernel) (pa_cons (pe_ix (r := rIxT K) ix_tup (pv 0) (pv 3) (fun _ _ => rfl)) pa_nil)) pa_nil)))))))))) (blkOk_by (by kernel_rfl)) (fun _ _ _ _ _ => (pg_name (i := 5) nd rfl (.inl rfl) (.inr rfl))) (fun _ _ _ _ _ => pts_nil) (fun _ _ _ _ _ => (pe_op (r := rCatA K) op_catA (pe_op (r := rCatA K) op_catA (pe_slice (r := rSlA K) sl_tupA (pv 0) po_none (po_some (pv 3))) (pe_tup (pa_cons (pv 5) pa_nil))) (pe_slice (r := rSlA K) sl_tupA (pv 0) (po_some (pe_op op_add (pv 3) pe_int)) po_none)))) pa_nil)))
      (pss_one (ps_expr (pe_bm PySem.F.plainAttrs_list PySem.F.slot_list_extend PySem.F.type_list_extend mt_extend (pv 2) (pa_cons (pe_lc (own := [("_law_odd", 5)]) rfl nd (pi_tupK (K := K) (pv 0)) (blkOk_by (by kernel_rfl)) (fun _ _ _ _ _ => (pg_name (i := 5) nd rfl (.inl rfl) (.inr rfl))) (fun _ _ _ _ _ => (pts_one (pt_cmpR op_ne (pv 5) (pe_ix (r := rIxT K) ix_tup (pv 0) (pv 3) (fun _ _ => rfl)) (nomark _)))) (fun _ _ _ _ _ => (pe_op (r := rCatA K) op_catA (pe_op (r := rCatA K) op_catA (pe_slice (r := rSlA K) sl_tupA (pv 0) po_none (po_some (pv 3))) (pe_tup (pa_cons (pv 5) pa_nil))) (pe_slice (r := rSlA K) sl_tupA (pv 0) (po_some (pe_op op_add (pv 3) pe_int)) po_none)))) pa_nil))))))
      (pss_one (ps_ret (pv 2))))))), ?_⟩)
  rintro _ ⟨_, n, p, _, hp, h1, h2, _, _, _, rfl, _⟩
  have hl := perm_len hp
  have li : (iN p).length = n := by rw [iN_len, hl]
  let st := fun (b : En) => ([.im (dS p), .im (.int (n : Int)), b, .no, .no, .no] : Rho)
  have lenE : ∀ {ρ : Rho} {te : TE}, Ev K te ρ (dS p) → Ev K (tCB (rLenS K) (tCons te tNil)) ρ (.int (n : Int)) := fun h => (ev_lenT h).is (by rw [li])
  refine ss_seq (N1 := fun r => r = st .no) (ss_asg (lenE ev_var) rfl) ?_
  rintro _ rfl
  have p0 : 0 < p.length := by omega
  let pl : List PyData := p.map fun e : Nat => .int ((e : Int) + 1)
  let b0 : List PyData := [.none, .int 3, .str "01", .dict [], .tuple [], .list (iN p), .tuple [dS p], .tuple (iN p ++ (iN p).take 1), .tuple (iN p ++ [.int ((n + 1 : Nat) : Int)]), .tuple pl, dS (List.range 13), .tuple [.int 1]]
  have bad0 : AllBad b0 := by
    refine allBad_cons rfl (allBad_cons rfl (allBad_cons rfl (allBad_cons rfl (allBad_cons (bad_long (.inl rfl)) (allBad_cons rfl (allBad_cons ?_ (allBad_cons ?_ (allBad_cons ?_ (allBad_cons ?_ (allBad_cons ?_ (allBad_cons ?_ fun x hx => by cases hx)))))))))))
    · exact bad_out (x := dS p) (by simp) fun v _ e => by cases e
    · refine bad_miss (v := n) (by rw [List.length_append, List.length_take, li]; omega) fun hm => ?_
      have hm2 : PyData.int (n : Int) ∈ iN p := (List.mem_append.mp hm).elim id List.mem_of_mem_take
      have := perm_lt hp _ (mem_iN.mp hm2)
      omega
    · refine bad_out (x := .int ((n + 1 : Nat) : Int)) (by simp) fun v hv e => ?_
      rw [List.length_append, li] at hv
      have : ((n + 1 : Nat) : Int) = v := PyData.int.inj e
      simp at hv
      omega
    · refine bad_miss (v := 0) (by simp [pl]; omega) fun hm => ?_
      obtain ⟨e, _, z⟩ := List.mem_map.mp hm
      have : (e : Int) + 1 = 0 := PyData.int.inj z
      omega
    · exact bad_long (.inr (by simp [nats_len]))
    · exact bad_miss (v := 0) (by simp) fun hm => by
        have := List.mem_singleton.mp hm
        have z : ((0 : Nat) : Int) = 1 := PyData.int.inj this
        omega
  refine ss_seq (N1 := fun r => ∃ q, r = st (.ml true q b0)) (ss_asgN (en_lst (ea_cons ev_non (ea_cons ev_int (ea_cons ev_str (ea_cons ev_dnew (ea_cons (ev_tup ea_nil (by simp)) (ea_cons (ev_lstT ev_var) (ea_cons (ev_tup (ea_cons ev_var ea_nil) (by simp)) (ea_cons (ev_op ev_var ((ev_slT ev_var eo_none (eo_some ev_int)).is (b := .tuple ((iN p).take 1)) (by rw [show (1 : Int) = ((1 : Nat) : Int) from rfl, cut_to (by rw [li]; exact h1)])) (rv_cat (by rw [List.length_take, li]; omega)))
    (ea_cons (ev_op ev_var (ev_tup (ea_cons (ev_nat1 ev_var) ea_nil) (by simp)) (rv_cat (by rw [li]; simp; omega))) (ea_cons (ev_tupL (ev_lc (xs := p) (emb := fun e : Nat => .int (e : Int)) (fun e : Nat => .int ((e : Int) + 1)) ((ew_tup ev_var).is (by unfold nats; rw [List.map_map]; rfl)) (fun e he => ev_add ev_var ev_int) (by omega))) (ea_cons (ev_tupRg (m := 13) ev_int (by decide)) (ea_cons (ev_tup (ea_cons ev_int ea_nil) (by simp)) ea_nil)))))))))))) (by simp [b0])) fun q => ⟨q, rfl⟩) ?_
  rintro _ ⟨q, rfl⟩
  let bb : List PyData := p.map fun e : Nat => if decide ((e : Int) < 2) = true then PyData.bool (decide ((e : Int) = 1)) else .int (e : Int)
  have badb : isStr (.tuple bb) = false := by
    have m0 : 0 ∈ p := hp.mem_iff.mpr (List.mem_range.mpr (by omega))
    exact bad_out (x := .bool false) (List.mem_map.mpr ⟨0, m0, rfl⟩) fun v _ e => by cases e
  refine ss_seq (N1 := fun r => ∃ bs : List PyData, bs.length ≤ 13 ∧ bs ≠ [] ∧ AllBad bs ∧ r = st (.ml true q bs)) (ss_app (ds := b0) (d := .tuple bb) rfl (ev_tupL (ev_lc (xs := p) (emb := fun e : Nat => .int (e : Int)) _ ((ew_tup ev_var).is (by unfold nats; rw [List.map_map]; rfl)) (fun e he => ev_if (x := decide ((e : Int) < 2)) (et_test (ev_cmpI (p := fun i j => decide (i < j)) ev_var ev_int)) (fun h => (ev_eqI ev_var ev_int).is (by rw [if_pos h])) (fun h => Ev.is ev_var (by rw [if_neg (by rw [h]; exact Bool.false_ne_true)]))) (by omega))) (by simp [b0]) ⟨b0 ++ [.tuple bb], by simp [b0], by simp, allBad_app bad0 (allBad_cons badb fun x hx => by cases hx), rfl⟩) ?_
  rintro _ ⟨bs, hb1, hb2, hb3, rfl⟩
  let ats : List Int := [0, (n : Int) / 2, (n : Int) - 1]
  have hat : ∀ k ∈ ats, ∃ a : Nat, a < n ∧ k = (a : Int) := by
    intro k hk
    simp only [ats, List.mem_cons, List.not_mem_nil, or_false] at hk
    rcases hk with e | e | e
    · exact ⟨0, by omega, by omega⟩
    · exact ⟨n / 2, by omega, by omega⟩
    · exact ⟨n - 1, by omega, by omega⟩
  have lu : (uq ats).length ≤ 12 := Nat.le_trans (List.length_filter_le _ _) (by simp [rangeI])
  refine ss_seq (N1 := fun r => ∃ bs : List PyData, bs.length ≤ 900 ∧ bs ≠ [] ∧ AllBad bs ∧ r = st (.ml true q bs)) (ss_for (I := fun i r => ∃ bs : List PyData, bs.length ≤ 13 + 20 * i ∧ bs ≠ [] ∧ AllBad bs ∧ r = st (.ml true q bs)) (ew_list (ev_sortSet (ns := ats) (ev_lst (ea_cons ev_int (ea_cons (ev_opC (f := fun i j => i / j) ev_var ev_int ⟨by decide, by decide⟩) (ea_cons (ev_sub ev_var ev_int) ea_nil))) (show 3 ≤ 100000 by decide)) (fun k hk => by obtain ⟨a, ha, rfl⟩ := hat k hk; omega) (by simp [ats]))) ⟨bs, by omega, hb2, hb3, rfl⟩ (by rintro i _ ⟨_, _, _, _, rfl⟩; rfl) ?_ ?_) ?_
  · rintro i hi _ ⟨bs, hb1, hb2, hb3, rfl⟩
    have hi' : i < (uq ats).length := by simpa using hi
    rw [List.getElem_map]
    have hm : (uq ats)[i] ∈ ats := by
      have hg : (uq ats)[i] ∈ (rangeI 12).filter (fun k => decide (k ∈ ats)) := List.getElem_mem hi'
      exact of_decide_eq_true (List.mem_filter.mp hg).2
    generalize (uq ats)[i] = k at hm
    obtain ⟨a, ha, rfl⟩ := hat k hm
    have hap : a < p.length := by omega
    let s2 := fun (b : En) => ([.im (dS p), .im (.int (n : Int)), b, .im (.int (a : Int)), .no, .no] : Rho)
    have atE : ∀ {ρ : Rho} {te tb : TE}, Ev K te ρ (dS p) → Ev K tb ρ (.int (a : Int)) → Ev K (tOp (rIxT K) te tb) ρ (.int ((p[a] : Nat) : Int)) := fun h h' => ev_op h h' (rv_ixT (nats_at hap))
    have cutE : ∀ {ρ : Rho} {te tb tc tx : TE} {x : PyData}, Ev K te ρ (dS p) → Ev K tb ρ (.int (a : Int)) → Ev K tx ρ x → Ev K tc ρ (.int ((a + 1 : Nat) : Int)) →
        Ev K (tOp (rCatA K) (tOp (rCatA K) (tSl (rSlA K) te tNoPart (tPart tb)) (tTup (tCons tx tNil))) (tSl (rSlA K) te (tPart tc) tNoPart)) ρ (.tuple ((iN p).set a x)) := fun h hb hx hc => by
      refine (ev_op (ev_op (ev_slT h eo_none (eo_some hb)) (ev_tup (ea_cons hx ea_nil) (by simp)) (rv_cat (by rw [cut_to (by rw [li]; omega), List.length_take, li]; simp; omega))) (ev_slT h (eo_some hc) eo_none) (rv_cat ?_)).is ?_
      · rw [cut_to (by rw [li]; omega), cut_from, List.length_append, List.length_take, List.length_drop, li]
        simp
        omega
      · rw [cut_to (by rw [li]; omega), cut_from, cat_set (by rw [li]; exact ha)]
    have pa12 : p[a] < n := perm_lt hp _ (List.getElem_mem hap)
    let odds : List PyData := [.none, .str "0", .int (-1), .int (n : Int), .tuple [.int ((p[a] : Nat) : Int)], .list [.int ((p[a] : Nat) : Int)], .int (10 ^ (20 : Int).toNat), .str (toString ((p[a] : Nat) : Int))]
    have bado : AllBad (odds.map fun x => PyData.tuple ((iN p).set a x)) := by
      intro y hy
      obtain ⟨x, hx, rfl⟩ := List.mem_map.mp hy
      refine bad_set hp ha fun v hv e => ?_
      simp only [odds, List.mem_cons, List.not_mem_nil, or_false] at hx
      rcases hx with z | z | z | z | z | z | z | z
      · rw [z] at e; cases e
      · rw [z] at e; cases e
      · rw [z] at e
        have : (-1 : Int) = v := PyData.int.inj e
        omega
      · rw [z] at e
        have : (n : Int) = v := PyData.int.inj e
        omega
      · rw [z] at e; cases e
      · rw [z] at e; cases e
      · rw [z] at e
        have : (10 : Int) ^ (20 : Int).toNat = v := PyData.int.inj e
        have : (10 : Int) ^ (20 : Int).toNat = 100000000000000000000 := rfl
        omega
      · rw [z] at e; cases e
    refine ss_seq (N1 := fun r => r = s2 (.ml true q (bs ++ odds.map fun x => PyData.tuple ((iN p).set a x)))) (ss_ext (ds := bs) rfl (en_lc (xs := odds) (emb := id) (fun x => PyData.tuple ((iN p).set a x)) (ew_id (ew_list (ev_lst (ea_cons ev_non (ea_cons ev_str (ea_cons (ev_un ev_int (rud_neg (i := 1))) (ea_cons ev_var (ea_cons (ev_tup (ea_cons (atE ev_var ev_var) ea_nil) (by simp)) (ea_cons (ev_lst (ea_cons (atE ev_var ev_var) ea_nil) (by simp)) (ea_cons (ev_opC (f := fun i j => i ^ j.toNat) ev_int ev_int ⟨by decide, by decide, by decide⟩) (ea_cons (ev_strI (atE ev_var ev_var) (log_small (by omega))) ea_nil)))))))) (show 8 ≤ 100000 by decide)))) (fun x hx => cutE ev_var ev_var ev_var (ev_nat1 ev_var)) (show 8 ≤ 100000 by decide)) (by rw [List.length_map]; show bs.length + 8 ≤ 100000; omega) rfl) ?_
    rintro _ rfl
    let keep := fun v : Nat => !decide ((v : Int) = ((p[a] : Nat) : Int))
    have badk : AllBad ((p.filter keep).map fun v : Nat => PyData.tuple ((iN p).set a (.int (v : Int)))) := by
      intro y hy
      obtain ⟨v, hv, rfl⟩ := List.mem_map.mp hy
      have hk := (List.mem_filter.mp hv).2
      simp only [keep, Bool.not_eq_true', decide_eq_false_iff_not] at hk
      refine bad_set hp ha fun u hu e => ?_
      have e2 : (v : Int) = u := PyData.int.inj e
      have e3 : p.getD a 0 = p[a] := by simp [hap]
      rw [e3]
      omega
    have lk : (p.filter keep).length ≤ 12 := Nat.le_trans (List.length_filter_le _ _) (by omega)
    refine ss_ext (ds := bs ++ odds.map fun x => PyData.tuple ((iN p).set a x)) rfl (en_lcI (xs := p) (emb := fun v : Nat => .int (v : Int)) keep (fun v : Nat => PyData.tuple ((iN p).set a (.int (v : Int)))) ((ew_tup ev_var).is (by unfold nats; rw [List.map_map]; rfl)) (fun v hv => et_test (ev_neI ev_var (atE ev_var ev_var))) (fun v _ _ => cutE ev_var ev_var ev_var (ev_nat1 ev_var)) (by omega)) (by rw [List.length_append, List.length_map, List.length_map]; simp [odds]; omega) ?_
    refine ⟨_, ?_, by simp [hb2], allBad_app (allBad_app hb3 bado) badk, rfl⟩
    rw [List.length_append, List.length_append, List.length_map, List.length_map]
    simp only [odds, List.length_cons, List.length_nil]
    omega
  · rintro _ ⟨bs, g1, g2, g3, rfl⟩
    rw [List.length_map] at g1
    exact ⟨bs, by omega, g2, g3, rfl⟩
  rintro _ ⟨bs, g1, g2, g3, rfl⟩
  exact ss_retM rfl ⟨n, p, bs, hp, h1, h2, by omega, g2, g3, rfl, rfl⟩
end
end Jn
set_option maxHeartbeats 4000000
/-! defs that may raise -/
namespace Jn
open PySem
open PySem.Spec PyProof.Rows
open L2
/-- as Ss, where an exception of the class at C may leave, told by B -/
def Sx (K : PySem.W.Frag) (E : XK) (ts : TS) (ρ : Rho) (B : Addr → Prop) (N : Rho → Prop) (R : PyData → Rho → Prop) : Prop := ∀ (S : Addr → Prop) (G0 H0 : Hp) (σ : L2.St) (G H : Hp) (D : Ends), Ok K S G0 H0 G H σ ρ →
  (∀ C σ' G' H' ρ', B C → Ok K S G0 H0 G' H' σ' ρ' → E (.ref C) none H') →
  (∀ σ' G' H' ρ', N ρ' → Ok K S G0 H0 G' H' σ' ρ' → D.nx σ' H') → (∀ v d ρ' σ' G' H', R d ρ' → Ok K S G0 H0 G' H' σ' ρ' → Dq K G' v d → D.rt v H') → ts D σ H
/-- a def's promise that may raise: o what it gives, or the class it raises -/
def spE (K : PySem.W.Frag) (R : List PyData → PyData ⊕ Addr → Prop) : Sp := fun vs H Q E => ∃ (G : Hp) (ds : List PyData) (o : PyData ⊕ Addr), Ex G H ∧ DqAll K G vs ds ∧ R ds o ∧
  (∀ d, o = .inl d → ∀ v G' H', Gx G H G' H' → Dq K G' v d → Q v H') ∧ (∀ C, o = .inr C → ∀ G' H', Gx G H G' H' → E (.ref C) none H')
section
variable {K : PySem.W.Frag} {E : XK} {ρ : Rho} {te : TE} {tt : TT} {t u : TS} {B : Addr → Prop} {N N1 : Rho → Prop} {R : PyData → Rho → Prop} {d : PyData}
theorem sx_of (h : Ss K t ρ N R) : Sx K E t ρ B N R := fun S G0 H0 σ G H D k b n r => h S G0 H0 σ G H D k n r
theorem sx_seq (h : Sx K E t ρ B N1 R) (h2 : ∀ r, N1 r → Sx K E u r B N R) : Sx K E (tSeq t u) ρ B N R := fun S G0 H0 σ G H D k b n r =>
  h S G0 H0 σ G H { D with nx := u D } k b (fun σ' G' H' ρ' x k' => h2 ρ' x S G0 H0 σ' G' H' D k' b n r) r
theorem sx_if {b : Bool} (h : EvT K tt ρ b) (h1 : b = true → Sx K E t ρ B N R) (h2 : b = false → Sx K E u ρ B N R) : Sx K E (tIfS tt t u) ρ B N R := fun S G0 H0 σ G H D k bb n r =>
  h σ G H _ k.f.i k.s fun G1 H1 g1 => by
    cases b with
    | true => exact iteT (h1 rfl S G0 H0 σ G1 H1 D (k.go g1) bb n r)
    | false => exact iteF (h2 rfl S G0 H0 σ G1 H1 D (k.go g1) bb n r)
theorem sx_raise {C : Addr} (h : B C) : Sx K E (fun _ _ H => E (.ref C) none H) ρ B N R := fun S G0 H0 σ G H D k b n r => b C σ G H ρ h k
/-- a call that may raise, for its own sake -/
theorem sx_drop {RO : List PyData → PyData ⊕ Addr → Prop} {ta : TA} {ds : List PyData} {o : PyData ⊕ Addr} (h : EvA K ta ρ ds) (hR : RO ds o) (hn : ∀ d, o = .inl d → N ρ) (hb : ∀ C, o = .inr C → B C) :
    Sx K E (tDrop (tCall (spE K RO) [] E ta)) ρ B N R := fun S G0 H0 σ G H D k b n r => h σ G H _ k.f.i k.s fun vs G1 H1 g1 q => by
  have k1 := k.go g1
  refine ⟨G1, ds, o, k1.f.i, by rw [List.append_nil]; exact q, hR, fun d e v G' H' g _ => n σ G' H' ρ (hn d e) (k1.go g), fun C e G' H' g => b C σ G' H' ρ (hb C e) (k1.go g)⟩
end
/-- a class of the text whose instances are raised -/
structure Exs (K : PySem.W.Frag) (mg : Str → Option Value) (x : Str) (C : Addr) : Prop where
  g : mg x = some (.ref C)
  x : PySem.W.excIn K C He.veBase "ValueError.__new__" = true
  k : PySem.W.keepIn K (.ref C) = true
  b : PySem.W.subIn K (.ref C) (.type "BaseException") = some true
  t : PySem.W.typeIn K (.ref C) = some (.type "type")
section
variable {X : Cx} {x m : Str} {C : Addr} {E : XK} {j : Nat} {p p2 pos pos2 : Pos}
theorem ps_rse (T : Exs X.K X.mg x C) (hc : X.calm = true) (tk : Takes X (fun cls d _ H => E cls d H)) (hg : Gl X x) (hdb : (x == ("__debug__" : Str)) = false := by decide) :
    PS X (.Raise (some (.Call (.Name x p) [.Constant (.str m) j p2] [] pos)) none pos2) (fun _ _ H => E (.ref C) none H) :=
  ps_raise hc tk (pmk_own PySem.F.excBase_ValueError T.x T.g T.k (raises_own T.b T.t) hg hdb)
end
section
variable {X : Cx} {CX : CXT} {k j : Nat} {ps : List Str} {sp : Sp} {x : Str} {p pos : Pos} {e : Expr} {es : List Expr} {t : TA} {E : XK}
theorem pe_calE (C : Cal X.prog X.w X.K X.mg X.base CX k x ps sp) (hr : Room j X.A) (hx : Passes CX X E) (ha : PA X (e :: es) t) (hg : Gl X x := by rfl) (hkj : k ≤ j := by decide) (hdb : (x == ("__debug__" : Str)) = false := by decide)
    (he : starEach (e :: es) X.env = (false, eval e X.env) :: starEach es X.env := by rfl) (hpl : (backTo pos (starEach es X.env)).any (·.1) = false := by rfl) :
    PE X (.Call (.Name x p) (e :: es) [] pos) (tCall sp [] E t) := by
  obtain ⟨f, fd, F, gm, kp, b, _⟩ := C.ex
  exact pe_call F (hr.mono hkj) hg gm kp b .nil hx ha hdb he hpl
end
section
variable {P : Program} {w : World} {K : PySem.W.Frag} {mg : Str → Option Value} {base : Heap}
theorem cal_exc {x : Str} {st : Stmt} {N ps : List Str} {k : Nat} {RO : List PyData → PyData ⊕ Addr → Prop} (F : Dfn K mg x st) (S : FnScope N ps (defScope st)) (lens : ∀ ds o, RO ds o → ds.length = ps.length)
    (b : ∀ f fd, FnP K x st f fd → Binds K fd ps [])
    (der : ∀ (f : Addr) (cdv : Value) (A : Around) (outer : List Env) (s : Shared) (H : Hp) (E : XK), Room k (A.deeper (envOfC x (defScope st) s.heap.objs.size f cdv)) →
      ∃ t, PSs (cxOf (L2.CX P w) P w K mg base N x (defScope st) f cdv A outer s H E) (defBody st) t ∧ ∀ ds o, RO ds o → Sx K E t (ds.map .im ++ List.replicate (N.length - ds.length) .no) (fun C => o = .inr C) (fun _ => o = .inl .none) (fun a _ => o = .inl a)) :
    Cal P w K mg base (L2.CX P w) (k + 1) x ps (spE K RO) := by
  obtain ⟨f, fd, F, gf⟩ := F
  have hN : ps.length ≤ N.length := by
    have z := congrArg List.length S.pre
    rw [List.length_take] at z
    omega
  refine ⟨f, fd, F.ok S (fun vs H Q E h => ?_) (fun cdv A outer s H vs Q E hr h => ?_), gf, F.kp, b f fd F, st, F⟩
  · obtain ⟨G, ds, o, _, hd, r, _⟩ := h
    rw [hd.length]
    exact lens ds o r
  · obtain ⟨t, h1, body⟩ := der f cdv A outer s H E hr
    refine ⟨t, h1, ?_⟩
    obtain ⟨G, ds, o, e, hd, hR, qo, qe⟩ := h
    have ok : Ok K (fun _ => False) G H G H (start N vs) (ds.map .im ++ List.replicate (N.length - ds.length) .no) := ⟨Fx.refl e, sd_start hd (by rw [lens ds o hR]; exact hN), fun i o p es h => absurd h no_ml, fun i j o p es o' es' h => absurd h no_ml⟩
    refine body ds o hR (fun _ => False) G H _ G H _ ok (fun C σ' G' H' ρ' z k => qe C z G' H' k.f.gx) (fun σ' G' H' ρ' z k => qo _ z _ G' H' k.f.gx .non) fun v a ρ' σ' G' H' z k dq => qo a z v G' H' k.f.gx dq
end
end Jn
set_option maxHeartbeats 4000000
namespace Jn
open PySem
open PySem.Spec PyProof.Rows
open L2
open Ma
section
variable {P : Program} {w : World} {K : PySem.W.Frag} {mg : Str → Option Value} {base : Heap}
/-! ### on strands that are strands: nothing is raised -/
def R_need_strands (ds : List PyData) (d : PyData) : Prop := ∃ (a : PyData), isStr a = true ∧ ds = [a] ∧ d = .none
abbrev s_need_strands : Stmt := topS 20
theorem sc_need_strands : FnScope ["strands"] ["strands"] (defScope s_need_strands) := ⟨rfl, rfl, rfl, by decide +kernel, rfl, by decide +kernel, by decide +kernel⟩
theorem ok_need_strands (T : Tx mg) (F : Dfn K mg "need_strands" s_need_strands) (C_are_strands : Cal P w K mg base CX0 2 "are_strands" ["thing"] (spP (K := K) R_are_strands)) :
    Cal P w K mg base CX0 3 "need_strands" ["strands"] (spP (K := K) R_need_strands) := by
  have nd := sc_need_strands.nd
  refine cal_pure F sc_need_strands (by rintro _ _ ⟨_, _, rfl, rfl⟩; rfl) (fun f fd F => F.bindsN fun _ _ _ _ _ _ us hl => match us, hl with | [_], _ => rfl) (fun f cdv A outer s H E hr => ⟨_,
      (pss_one (ps_if (pt_not (pt_val (pe_cal C_are_strands hr pass0 (pa_cons (pv 0) pa_nil)))) (pss_one ps_never) pss_nil)), ?_⟩)
  rintro _ _ ⟨a, ha, rfl, rfl⟩
  exact ss_if (b := !true) (et_not (et_B (ev_call (R := R_are_strands) (ea_cons ev_var ea_nil) ⟨_, rfl, by rw [ha]⟩))) (fun h => by cases h) (fun _ => ss_next rfl)
def R_need_like (ds : List PyData) (d : PyData) : Prop := ∃ (n : Nat) (p q : List Nat), p.Perm (List.range n) ∧ q.Perm (List.range n) ∧ 1 ≤ n ∧ n ≤ 12 ∧ ds = [dS p, dS q] ∧ d = .none
abbrev s_need_like : Stmt := topS 21
theorem sc_need_like : FnScope ["strands", "other"] ["strands", "other"] (defScope s_need_like) := ⟨rfl, rfl, rfl, by decide +kernel, rfl, by decide +kernel, by decide +kernel⟩
theorem ok_need_like (T : Tx mg) (F : Dfn K mg "need_like" s_need_like) (C_need_strands : Cal P w K mg base CX0 3 "need_strands" ["strands"] (spP (K := K) R_need_strands)) :
    Cal P w K mg base CX0 4 "need_like" ["strands", "other"] (spP (K := K) R_need_like) := by
  have nd := sc_need_like.nd
  refine cal_pure F sc_need_like (by rintro _ _ ⟨_, _, _, _, _, _, _, rfl, rfl⟩; rfl) (fun f fd F => F.bindsN fun _ _ _ _ _ _ us hl => match us, hl with | [_, _], _ => rfl) (fun f cdv A outer s H E hr => ⟨_,
      (pss_cons (ps_expr (pe_cal C_need_strands hr pass0 (pa_cons (pv 0) pa_nil)))
      (pss_cons (ps_expr (pe_cal C_need_strands hr pass0 (pa_cons (pv 1) pa_nil)))
      (pss_one (ps_if (pt_cmpR op_ne (pe_callB (id := "len") (r := rLenS K) call_len_seq rfl T.len (by decide +kernel) (pa_cons (pv 1) pa_nil)) (pe_callB (id := "len") (r := rLenS K) call_len_seq rfl T.len (by decide +kernel) (pa_cons (pv 0) pa_nil)) (nomark _)) (pss_one ps_never) pss_nil)))), ?_⟩)
  rintro _ _ ⟨n, p, q, hp, hq, h1, h2, rfl, rfl⟩
  refine ss_seq (N1 := fun r => r = [.im (dS p), .im (dS q)]) (ss_drop (ev_call (R := R_need_strands) (ea_cons ev_var ea_nil) ⟨_, isStr_perm hp h1 h2, rfl, rfl⟩) rfl) ?_
  rintro _ rfl
  refine ss_seq (N1 := fun r => r = [.im (dS p), .im (dS q)]) (ss_drop (ev_call (R := R_need_strands) (ea_cons ev_var ea_nil) ⟨_, isStr_perm hq h1 h2, rfl, rfl⟩) rfl) ?_
  rintro _ rfl
  exact ss_if (b := false) ((et_test (ev_neI (ev_lenT ev_var) (ev_lenT ev_var))).is (by simp [nats_len, perm_len hp, perm_len hq])) (fun h => by cases h) (fun _ => ss_next rfl)
def R_counts_table (ds : List PyData) (d : PyData) : Prop := ∃ (n : Nat) (p : List Nat), p.Perm (List.range n) ∧ 1 ≤ n ∧ n ≤ 12 ∧ ds = [dS p] ∧ d = dT (tab n (cn p))
abbrev s_counts_table : Stmt := topS 22
theorem sc_counts_table : FnScope ["strands"] ["strands"] (defScope s_counts_table) := ⟨rfl, rfl, rfl, by decide +kernel, rfl, by decide +kernel, by decide +kernel⟩
theorem ok_counts_table (T : Tx mg) (F : Dfn K mg "counts_table" s_counts_table) (C_need_strands : Cal P w K mg base CX0 3 "need_strands" ["strands"] (spP (K := K) R_need_strands)) (C_counts_of : Cal P w K mg base CX0 1 "counts_of" ["strands"] (spP (K := K) R_counts_of)) :
    Cal P w K mg base CX0 4 "counts_table" ["strands"] (spP (K := K) R_counts_table) := by
  have nd := sc_counts_table.nd
  refine cal_pure F sc_counts_table (by rintro _ _ ⟨_, _, _, _, _, rfl, rfl⟩; rfl) (fun f fd F => F.bindsN fun _ _ _ _ _ _ us hl => match us, hl with | [_], _ => rfl) (fun f cdv A outer s H E hr => ⟨_,
      (pss_cons (ps_expr (pe_cal C_need_strands hr pass0 (pa_cons (pv 0) pa_nil)))
      (pss_one (ps_ret (pe_cal C_counts_of hr pass0 (pa_cons (pv 0) pa_nil))))), ?_⟩)
  rintro _ _ ⟨n, p, hp, h1, h2, rfl, rfl⟩
  have hl := perm_len hp
  refine ss_seq (N1 := fun r => r = [.im (dS p)]) (ss_drop (ev_call (R := R_need_strands) (ea_cons ev_var ea_nil) ⟨_, isStr_perm hp h1 h2, rfl, rfl⟩) rfl) ?_
  rintro _ rfl
  exact ss_ret (ev_call (R := R_counts_of) (ea_cons ev_var ea_nil) ⟨p, by omega, by omega, rfl, by rw [hl]⟩) rfl
def R_strands_of (ds : List PyData) (d : PyData) : Prop := R_strands_from ds d
abbrev s_strands_of : Stmt := topS 23
theorem sc_strands_of : FnScope ["counts", "strands"] ["counts"] (defScope s_strands_of) := ⟨rfl, rfl, rfl, by decide +kernel, rfl, by decide +kernel, by decide +kernel⟩
theorem ok_strands_of (T : Tx mg) (F : Dfn K mg "strands_of" s_strands_of) (C_strands_from : Cal P w K mg base CX0 3 "strands_from" ["thing"] (spP (K := K) R_strands_from)) :
    Cal P w K mg base CX0 4 "strands_of" ["counts"] (spP (K := K) R_strands_of) := by
  have nd := sc_strands_of.nd
  refine cal_pure F sc_strands_of (by rintro _ _ ⟨_, _, _, _, _, rfl, rfl⟩; rfl) (fun f fd F => F.bindsN fun _ _ _ _ _ _ us hl => match us, hl with | [_], _ => rfl) (fun f cdv A outer s H E hr => ⟨_,
      (pss_cons (ps_set (i := 1) nd rfl (.inl rfl) (pe_cal C_strands_from hr pass0 (pa_cons (pv 0) pa_nil)))
      (pss_cons (ps_if (pt_cmpR op_isN (pv 1) pe_non (nomark _)) (pss_one ps_never) pss_nil)
      (pss_one (ps_ret (pv 1))))), ?_⟩)
  rintro _ _ ⟨n, p, hp, h1, h2, rfl, rfl⟩
  refine ss_seq (N1 := fun r => r = [.im (dT (tab n (cn p))), .im (dS p)]) (ss_asg (ev_call (R := R_strands_from) (ea_cons ev_var ea_nil) ⟨n, p, hp, h1, h2, rfl, rfl⟩) rfl) ?_
  rintro _ rfl
  refine ss_seq (N1 := fun r => r = [.im (dT (tab n (cn p))), .im (dS p)]) (ss_if (et_test (ev_isN rfl ev_var (k := false) (fun G v dv => by cases dv; rfl))) (fun h => by cases h) (fun _ => ss_next rfl)) ?_
  rintro _ rfl
  exact ss_ret ev_var rfl
abbrev s_joined : Stmt := topS 24
theorem sc_joined : FnScope ["strands", "other"] ["strands", "other"] (defScope s_joined) := ⟨rfl, rfl, rfl, by decide +kernel, rfl, by decide +kernel, by decide +kernel⟩
theorem ok_joined (T : Tx mg) (F : Dfn K mg "joined" s_joined) (C_need_like : Cal P w K mg base CX0 4 "need_like" ["strands", "other"] (spP (K := K) R_need_like)) (C_join : Cal P w K mg base CX0 4 "join" ["strands", "other"] (spP (K := K) R_join)) :
    Cal P w K mg base CX0 5 "joined" ["strands", "other"] (spP (K := K) R_join) := by
  have nd := sc_joined.nd
  refine cal_pure F sc_joined (by rintro _ _ ⟨_, _, _, _, _, _, _, _, _, _, rfl, rfl⟩; rfl) (fun f fd F => F.bindsN fun _ _ _ _ _ _ us hl => match us, hl with | [_, _], _ => rfl) (fun f cdv A outer s H E hr => ⟨_,
      (pss_cons (ps_expr (pe_cal C_need_like hr pass0 (pa_cons (pv 0) (pa_cons (pv 1) pa_nil))))
      (pss_one (ps_ret (pe_cal C_join hr pass0 (pa_cons (pv 0) (pa_cons (pv 1) pa_nil)))))), ?_⟩)
  rintro _ _ ⟨n, p, q, r, hp, hq, hr, h1, h2, hc, rfl, rfl⟩
  refine ss_seq (N1 := fun r => r = [.im (dS p), .im (dS q)]) (ss_drop (ev_call (R := R_need_like) (ea_cons ev_var (ea_cons ev_var ea_nil)) ⟨n, p, q, hp, hq, h1, h2, rfl, rfl⟩) rfl) ?_
  rintro _ rfl
  exact ss_ret (ev_call (R := R_join) (ea_cons ev_var (ea_cons ev_var ea_nil)) ⟨n, p, q, r, hp, hq, hr, h1, h2, hc, rfl, rfl⟩) rfl
end
end Jn
set_option maxHeartbeats 4000000
namespace Jn
open PySem
open PySem.Spec PyProof.Rows
open L2
open Ma
/-! ### told of anything: what is raised -/
def lenT : PyData → Nat
  | .tuple ds => ds.length
  | _ => 0
theorem str_tup {a : PyData} (h : isStr a = true) : ∃ ds, a = .tuple ds := by
  cases a with
  | tuple ds => exact ⟨ds, rfl⟩
  | _ => cases h
section
variable {P : Program} {w : World} {K : PySem.W.Frag} {mg : Str → Option Value} {base : Heap} {CS CZ : Addr}
def O_need_strands (CS : Addr) (ds : List PyData) (o : PyData ⊕ Addr) : Prop := ∃ a, ds = [a] ∧ o = if isStr a = true then .inl .none else .inr CS
theorem ox_need_strands (T : Tx mg) (XS : Exs K mg "BadStrands" CS) (F : Dfn K mg "need_strands" s_need_strands) (C_are_strands : Cal P w K mg base CX0 2 "are_strands" ["thing"] (spP (K := K) R_are_strands)) :
    Cal P w K mg base (L2.CX P w) 3 "need_strands" ["strands"] (spE K (O_need_strands CS)) := by
  have nd := sc_need_strands.nd
  refine cal_exc F sc_need_strands (by rintro _ _ ⟨_, rfl, rfl⟩; rfl) (fun f fd F => F.bindsN fun _ _ _ _ _ _ us hl => match us, hl with | [_], _ => rfl) (fun f cdv A outer s H E hr => ⟨_,
      (pss_one (ps_if (pt_not (pt_val (pe_cal C_are_strands hr pass0 (pa_cons (pv 0) pa_nil)))) (pss_one (ps_rse XS rfl (takes_of rfl rfl rfl rfl) rfl)) pss_nil)), ?_⟩)
  rintro _ _ ⟨a, rfl, rfl⟩
  refine sx_if (b := !isStr a) (et_not (et_B (ev_call (R := R_are_strands) (ea_cons ev_var ea_nil) ⟨_, rfl, rfl⟩))) (fun h => sx_raise ?_) (fun h => sx_of (ss_next ?_))
  · have h' : isStr a = false := by simpa using h
    rw [h']
    rfl
  · have h' : isStr a = true := by simpa using h
    rw [h']
    rfl
/-- on two things of which one is no strands, or that are unlike -/
def badOf (CS CZ : Addr) (a b : PyData) : Addr := if (isStr a && isStr b) = true then CZ else CS
def O_need_like (CS CZ : Addr) (ds : List PyData) (o : PyData ⊕ Addr) : Prop := ∃ a b, ((isStr a && isStr b) = true → lenT a ≠ lenT b) ∧ ds = [a, b] ∧ o = .inr (badOf CS CZ a b)
theorem ox_need_like (T : Tx mg) (XZ : Exs K mg "BadSizes" CZ) (F : Dfn K mg "need_like" s_need_like) (D_need_strands : Cal P w K mg base (L2.CX P w) 3 "need_strands" ["strands"] (spE K (O_need_strands CS))) :
    Cal P w K mg base (L2.CX P w) 4 "need_like" ["strands", "other"] (spE K (O_need_like CS CZ)) := by
  have nd := sc_need_like.nd
  refine cal_exc F sc_need_like (by rintro _ _ ⟨_, _, _, rfl, rfl⟩; rfl) (fun f fd F => F.bindsN fun _ _ _ _ _ _ us hl => match us, hl with | [_, _], _ => rfl) (fun f cdv A outer s H E hr => ⟨_,
      (pss_cons (ps_expr (pe_calE (E := E) D_need_strands hr (passes_call (takes_of rfl rfl rfl rfl) (fun _ _ _ _ h => h)) (pa_cons (pv 0) pa_nil)))
      (pss_cons (ps_expr (pe_calE (E := E) D_need_strands hr (passes_call (takes_of rfl rfl rfl rfl) (fun _ _ _ _ h => h)) (pa_cons (pv 1) pa_nil)))
      (pss_one (ps_if (pt_cmpR op_ne (pe_callB (id := "len") (r := rLenS K) call_len_seq rfl T.len (by decide +kernel) (pa_cons (pv 1) pa_nil)) (pe_callB (id := "len") (r := rLenS K) call_len_seq rfl T.len (by decide +kernel) (pa_cons (pv 0) pa_nil)) (nomark _)) (pss_one (ps_rse XZ rfl (takes_of rfl rfl rfl rfl) rfl)) pss_nil)))), ?_⟩)
  rintro _ _ ⟨a, b, hab, rfl, rfl⟩
  refine sx_seq (N1 := fun r => r = [.im a, .im b] ∧ isStr a = true) (sx_drop (ea_cons ev_var ea_nil) ⟨a, rfl, rfl⟩ (fun d e => ⟨rfl, ?_⟩) fun C e => ?_) ?_
  · by_cases c : isStr a = true
    · exact c
    · rw [if_neg c] at e; cases e
  · by_cases c : isStr a = true
    · rw [if_pos c] at e; cases e
    · rw [if_neg c] at e
      cases e
      have c' : isStr a = false := by simpa using c
      simp [badOf, c']
  rintro _ ⟨rfl, ha⟩
  refine sx_seq (N1 := fun r => r = [.im a, .im b] ∧ isStr b = true) (sx_drop (ea_cons ev_var ea_nil) ⟨b, rfl, rfl⟩ (fun d e => ⟨rfl, ?_⟩) fun C e => ?_) ?_
  · by_cases c : isStr b = true
    · exact c
    · rw [if_neg c] at e; cases e
  · by_cases c : isStr b = true
    · rw [if_pos c] at e; cases e
    · rw [if_neg c] at e
      cases e
      have c' : isStr b = false := by simpa using c
      simp [badOf, c']
  rintro _ ⟨rfl, hb⟩
  obtain ⟨as, rfl⟩ := str_tup ha
  obtain ⟨bs, rfl⟩ := str_tup hb
  have hl : as.length ≠ bs.length := hab (by rw [ha, hb]; rfl)
  refine sx_if (b := true) ((et_test (ev_neI (ev_lenT ev_var) (ev_lenT ev_var))).is ?_) (fun _ => sx_raise ?_) (fun h => by cases h)
  · simp
    omega
  · simp [badOf, ha, hb]
theorem ox_joined (T : Tx mg) (F : Dfn K mg "joined" s_joined) (C_join : Cal P w K mg base CX0 4 "join" ["strands", "other"] (spP (K := K) R_join)) (D_need_like : Cal P w K mg base (L2.CX P w) 4 "need_like" ["strands", "other"] (spE K (O_need_like CS CZ))) :
    Cal P w K mg base (L2.CX P w) 5 "joined" ["strands", "other"] (spE K (O_need_like CS CZ)) := by
  have nd := sc_joined.nd
  refine cal_exc F sc_joined (by rintro _ _ ⟨_, _, _, rfl, rfl⟩; rfl) (fun f fd F => F.bindsN fun _ _ _ _ _ _ us hl => match us, hl with | [_, _], _ => rfl) (fun f cdv A outer s H E hr => ⟨_,
      (pss_cons (ps_expr (pe_calE (E := E) D_need_like hr (passes_call (takes_of rfl rfl rfl rfl) (fun _ _ _ _ h => h)) (pa_cons (pv 0) (pa_cons (pv 1) pa_nil))))
      (pss_one (ps_ret (pe_calE (E := E0) C_join hr pass0 (pa_cons (pv 0) (pa_cons (pv 1) pa_nil)))))), ?_⟩)
  rintro _ _ ⟨a, b, hab, rfl, rfl⟩
  refine sx_seq (N1 := fun _ => False) (sx_drop (ea_cons ev_var (ea_cons ev_var ea_nil)) ⟨a, b, hab, rfl, rfl⟩ (fun d e => by cases e) fun C e => e) (fun _ z => z.elim)
end
end Jn
set_option maxHeartbeats 4000000
namespace Jn
open PySem
open PySem.Spec PyProof.Rows
open L2
open Ma
/-! ### joined(other = .., strands = ..) -/
def gK : {α : Type} → List α → List α → List α
  | _, [], [o, s] => [s, o]
  | _, _, _ => []
theorem gK_len {α : Type} {us ws : List α} (h : (gK us ws).length = 2) : ∃ o s, us = [] ∧ ws = [o, s] := by
  match us, ws, h with
  | [], [o, s], _ => exact ⟨o, s, rfl, rfl⟩
theorem kb_joined {K : PySem.W.Frag} {mg : Str → Option Value} {f : Addr} {fd : FuncData} {st : Stmt} (D : Dfn K mg "joined" s_joined) (gm : mg "joined" = some (.ref f)) (F : FnP K "joined" st f fd) : KBinds K fd ["strands", "other"] ["other", "strands"] gK gK := by
  obtain ⟨f2, fd2, F2, gm2⟩ := D
  have ef : f2 = f := Value.ref.inj (Option.some.inj (gm2.symm.trans gm))
  subst ef
  have efd : fd = fd2 := by
    obtain ⟨oc, od, dV, kV, doc, pm, an, cdv, ct, osl, _, lk, _⟩ := F.ex
    obtain ⟨oc', od', dV', kV', doc', pm', an', cdv', ct', osl', _, lk', _⟩ := F2.ex
    have z := lk.symm.trans lk'
    simp only [Option.some.injEq, Obj.mk.injEq, Data.func.injEq] at z
    exact z.2.2.1
  subst efd
  refine ⟨fun s us ws _ hl => ?_, fun {vs us zs ws} r rz => ?_⟩
  · obtain ⟨o, z, rfl, rfl⟩ := gK_len hl
    obtain ⟨oc, od, dV, kV, doc, pm, an, cdv, ct, osl, rfl, lk, hcd, hD, hK⟩ := F2.ex
    rcases hD with ⟨_, rfl⟩ | ⟨e, _⟩
    · exact .of_eq rfl
    · exact absurd rfl e
  · cases r with
    | nil =>
      cases rz with
      | nil => exact .nil
      | cons r1 rz =>
        cases rz with
        | nil => exact .nil
        | cons r2 rz =>
          cases rz with
          | nil => exact .cons r2 (.cons r1 .nil)
          | cons r3 rz => exact .nil
    | cons r1 r => exact .nil
section
variable {X : Cx} {CX : CXT} {k j : Nat} {f : Addr} {fd : FuncData} {ps ks : List Str} {sp : Sp} {E : L2.St → XK} {x : Str} {p pos : Pos} {kws : List Keyword} {tk : TA} {g : List Value → List Value → List Value} {gV : List V → List V → List V}
/-- f(k = v, ..) by keywords alone -/
def tKwS (sp : Sp) (gV : List V → List V → List V) (E : L2.St → XK) (tk : TA) : TE := fun σ H Q => tk σ H fun zs H1 => sp (gV [] zs) H1 Q (E σ)
theorem pe_kwS (F : FnOk X.prog X.w X.K X.mg X.base CX k f fd ps sp) (hr : Room k X.A) (hg : Gl X x) (hm : X.mg x = some (.ref f)) (hk : PySem.W.keepIn X.K (.ref f) = true) (hb : KBinds X.K fd ps ks g gV) (hx : ∀ σ, PassesAt CX X σ (E σ))
    (hkw : PK X kws tk) (hall : (backToKw pos (keywordEach kws X.env)).all (·.1.isSome) = true := by rfl) (hks : (backToKw pos (keywordEach kws X.env)).filterMap (·.1) = ks := by rfl) (hdb : (x == ("__debug__" : Str)) = false := by decide)
    (hpl : ((backTo pos (starEach [] X.env)).any (·.1) || (backToKw pos (keywordEach kws X.env)).any (·.1.isNone)) = false := by rfl) : PE X (.Call (.Name x p) [] kws pos) (tKwS sp gV E tk) := by
  refine ⟨fun pins s σ H Q I h => wpAny_Call_Name_kw (ld_glob I hg hm ?_ hdb)⟩
  refine PySem.W.callWith_KW0 (h₀ := X.base) I.ok.mod.kin hk hall (thn (hkw.run pos pins s σ H _ I h) fun ws s1 ⟨zs, H1, J, rz, q⟩ => ⟨J.kIn, ?_⟩) hpl
  have rv := hb.rel (vs := []) (us := []) .nil rz
  have ln : (g [] ws).length = ps.length := rv.length ▸ F.len _ _ _ _ q
  rw [hks]
  refine wpAny_call (codeAny_mono (F.run X.A X.stack s1 H1 ⟨[], ks.zip ws⟩ _ _ Q (E σ) hr J.env0 (hb.to s1 [] ws J.kIn ln) rv q) fun fin s2 got => ?_)
  match fin, got with
  | .error e, got => exact hx σ pins H1 s1 e s2 J got
  | .ok (.ret u), got => exact J.after got
end
/-! ### the two errors, told apart -/
structure Exk (K : PySem.W.Frag) (CL CS CZ : Addr) : Prop where
  eS : ExcC K CS
  eZ : ExcC K CZ
  mS : PySem.W.exmOne K (.ref CS) (.ref CL) = some true
  mZ : PySem.W.exmOne K (.ref CZ) (.ref CL) = some true
  kSS : PySem.W.kitOne K (.ref CS) (.ref CS) = some true
  kZS : PySem.W.kitOne K (.ref CZ) (.ref CS) = some false
  kZZ : PySem.W.kitOne K (.ref CZ) (.ref CZ) = some true
/-- the suite, where the error is of the class at C -/
def tSu (K : PySem.W.Frag) (CS CZ C a : Addr) : TS := tAsg (tIf (tB (tCB (rIsE K C a) (tCons (tVar 3) (tCons (tC (.ref CS)) tNil)))) (tC (.str "strands")) (tIf (tB (tCB (rIsE K C a) (tCons (tVar 3) (tCons (tC (.ref CZ)) tNil)))) (tC (.str "sizes")) (tC (.str "another")))) (gName 2)
def tSuite (K : PySem.W.Frag) (CS CZ : Addr) (a : Addr) (cls : Value) (d : Option Addr) : TS := fun D σ H => ((cls = .ref CS ∧ d = none) ∧ tSu K CS CZ CS a D σ H) ∨ ((cls = .ref CZ ∧ d = none) ∧ tSu K CS CZ CZ a D σ H)
theorem pss_or {X : Cx} {sts : List Stmt} {A B : Prop} {t u : TS} (h1 : A → PSs X sts t) (h2 : B → PSs X sts u) : PSs X sts (fun D σ H => (A ∧ t D σ H) ∨ (B ∧ u D σ H)) :=
  ⟨fun pins s σ H D I h => by
    rcases h with ⟨a, h⟩ | ⟨b, h⟩
    · exact (h1 a).run pins s σ H D I h
    · exact (h2 b).run pins s σ H D I h⟩
def wordOf (a b : PyData) : Str := if (isStr a && isStr b) = true then "sizes" else "strands"
def R_word_of (ds : List PyData) (d : PyData) : Prop := ∃ a b, ((isStr a && isStr b) = true → lenT a ≠ lenT b) ∧ ds = [a, b] ∧ d = .str (wordOf a b)
section
variable {K : PySem.W.Frag} {CL CS CZ : Addr} {G H : Hp} {σ : L2.St} {ρ : Rho}
theorem su_reads (X : Exk K CL CS CZ) {C a : Addr} {D : Ends} (hC : C = CS ∨ C = CZ) (h3 : σ[3]? = some (some (.ref a))) (h : D.nx (σ.set 2 (some (.str (if C = CS then "strands" else "sizes")))) H) : tSu K CS CZ C a D σ H := by
  by_cases c : C = CS
  · subst c
    rw [if_pos rfl] at h
    refine ⟨_, h3, .ref C, .ref C, true, rfl, fun u r => r, X.kSS, true, rfl, ?_⟩
    exact iteT h
  · have e : C = CZ := hC.resolve_left c
    subst e
    rw [if_neg c] at h
    refine ⟨_, h3, .ref CS, .ref CS, false, rfl, fun u r => r, X.kZS, false, rfl, ?_⟩
    refine iteF ⟨_, h3, .ref C, .ref C, true, rfl, fun u r => r, X.kZZ, true, rfl, ?_⟩
    exact iteT h
theorem Sd.any {i : Nat} {x : Option V} (s : Sd K G H σ ρ) (h : ρ[i]? = some .no) : Sd K G H (σ.set i x) ρ := by
  refine ⟨by rw [List.length_set]; exact s.len, fun j e he => ?_⟩
  have a := s.at_ j e he
  by_cases c : i = j
  · subst c
    rw [h] at he
    cases he
    trivial
  · cases e with
    | no => trivial
    | im d =>
      obtain ⟨v, h1, h2⟩ := a
      exact ⟨v, by rw [List.getElem?_set_ne c]; exact h1, h2⟩
    | ml o p ds =>
      obtain ⟨h1, h2⟩ := a
      exact ⟨by rw [List.getElem?_set_ne c]; exact h1, h2⟩
end
section
variable {P : Program} {w : World} {K : PySem.W.Frag} {mg : Str → Option Value} {base : Heap} {CL CS CZ : Addr}
abbrev s__law_word_of : Stmt := topS 58
theorem sc__law_word_of : FnScope ["_law_one_here", "_law_other", "_law_found", "e"] ["_law_one_here", "_law_other"] (defScope s__law_word_of) := ⟨rfl, rfl, rfl, by decide +kernel, rfl, by decide +kernel, by decide +kernel⟩
theorem ok_law_word_of (T : Tx mg) (gL : mg "LeastError" = some (.ref CL)) (XS : Exs K mg "BadStrands" CS) (XZ : Exs K mg "BadSizes" CZ) (X : Exk K CL CS CZ) (F : Dfn K mg "_law_word_of" s__law_word_of) (DJ : Dfn K mg "joined" s_joined)
    (D_joined : Cal P w K mg base (L2.CX P w) 5 "joined" ["strands", "other"] (spE K (O_need_like CS CZ))) : Cal P w K mg base CX0 6 "_law_word_of" ["_law_one_here", "_law_other"] (spP (K := K) R_word_of) := by
  have nd := sc__law_word_of.nd
  obtain ⟨jf, jd, JF, jm, jk, jb, jst, JFn⟩ := D_joined.ex
  have KB := kb_joined DJ jm JFn
  refine cal_pure F sc__law_word_of (by rintro _ _ ⟨_, _, _, rfl, rfl⟩; rfl) (fun f fd F => F.bindsN fun _ _ _ _ _ _ us hl => match us, hl with | [_, _], _ => rfl) (fun f cdv A outer s H E hr => ⟨_,
    (pss_cons (ps_set (i := 2) nd rfl (.inl rfl) pe_str)
      (pss_cons (ps_try_as (i := 3) (tb := fun W => tDrop (tKwS (spE K (O_need_like CS CZ)) gK (WE W) (tCons (tVar 1) (tCons (tVar 0) tNil)))) (ts := tSuite K CS CZ) (Wout := fun _ _ _ _ => False) rfl rfl nd rfl rfl ⟨rfl, by decide, .inl gL⟩ takes0
          (fun W pn xe tk _ => pss_one (ps_expr (pe_kwS JF hr rfl jm jk KB (fun σ => passAt tk σ) (pk_cons (pv 1) (pk_cons (pv 0) pk_nil)))))
          (fun a oe cls d pn hz hf => pss_or
            (fun ⟨e1, e2⟩ => pss_one (ps_set (i := 2) nd rfl (.inl rfl) (pe_ifExp (pt_val (pe_callB (call_isE X.eS (e1 ▸ e2 ▸ hz) hf) rfl T.isinstance (by decide +kernel) (pa_cons (pv 3) (pa_cons (pe_glob rfl XS.g rfl) pa_nil)))) pe_str (pe_ifExp (pt_val (pe_callB (call_isE X.eS (e1 ▸ e2 ▸ hz) hf) rfl T.isinstance (by decide +kernel) (pa_cons (pv 3) (pa_cons (pe_glob rfl XZ.g rfl) pa_nil)))) pe_str pe_str))))
            (fun ⟨e1, e2⟩ => pss_one (ps_set (i := 2) nd rfl (.inl rfl) (pe_ifExp (pt_val (pe_callB (call_isE X.eZ (e1 ▸ e2 ▸ hz) hf) rfl T.isinstance (by decide +kernel) (pa_cons (pv 3) (pa_cons (pe_glob rfl XS.g rfl) pa_nil)))) pe_str (pe_ifExp (pt_val (pe_callB (call_isE X.eZ (e1 ▸ e2 ▸ hz) hf) rfl T.isinstance (by decide +kernel) (pa_cons (pv 3) (pa_cons (pe_glob rfl XZ.g rfl) pa_nil)))) pe_str pe_str))))))
        (pss_one (ps_ret (pv 2))))), ?_⟩)
  rintro _ _ ⟨a, b, hab, rfl, rfl⟩
  refine ss_seq (N1 := fun r => r = [.im a, .im b, .im (.str ""), .no]) (ss_asg ev_str rfl) ?_
  rintro _ rfl
  refine ss_seq (N1 := fun r => r = [.im a, .im b, .im (.str (wordOf a b)), .no]) ?_ (by rintro _ rfl; exact ss_ret ev_var rfl)
  intro S G0 H0 σ G H D k n _
  show (tCons (tVar 1) (tCons (tVar 0) tNil)) σ H (fun zs H1 => spE K (O_need_like CS CZ) (gK [] zs) H1 (fun _ H2 => D.nx σ H2) (WE (wAs K (.ref CL) 3 (tSuite K CS CZ) (fun _ _ _ _ => False) D) σ))
  refine (ea_cons (ev_var (i := 1) (d := b)) (ea_cons (ev_var (i := 0) (d := a)) ea_nil)) σ G H _ k.f.i k.s fun vs G1 H1 g1 d1 => ?_
  have k1 := k.go g1
  cases d1 with
  | @cons v1 _ _ _ q1 d1 =>
    cases d1 with
    | @cons v2 _ _ _ q2 d1 =>
      cases d1
      refine ⟨G1, [a, b], .inr (badOf CS CZ a b), k1.f.i, .cons q2 (.cons q1 .nil), ⟨a, b, hab, rfl, rfl⟩, (fun d e => by cases e), fun C e G2 H2 g2 => ?_⟩
      have eC : C = badOf CS CZ a b := (Sum.inr.inj e).symm
      have k2 := k1.go g2
      have hCC : C = CS ∨ C = CZ := by
        rw [eC]
        unfold badOf
        split
        · exact .inr rfl
        · exact .inl rfl
      refine ⟨true, ?_, fun _ x hx => ?_, fun z => Bool.noConfusion z⟩
      · rcases hCC with z | z <;> rw [z]
        · exact X.mS
        · exact X.mZ
      · have l3 : 3 < σ.length := by rw [k2.s.len]; exact (show 3 < 4 by decide)
        have wd : (if C = CS then ("strands" : Str) else "sizes") = wordOf a b := by
          rw [eC]
          unfold badOf wordOf
          by_cases c : (isStr a && isStr b) = true
          · rw [if_pos c, if_pos c]
            by_cases c2 : CZ = CS
            · have z := X.kZS
              rw [c2, X.kSS] at z
              cases z
            · rw [if_neg c2]
          · rw [if_neg c, if_neg c, if_pos rfl]
        have fin : ∀ C', C' = C → tSu K CS CZ C' x { nx := fun σ' H' => D.nx (σ'.set 3 none) H', rt := D.rt, bk := fun σ' H' => D.bk (σ'.set 3 none) H', ct := fun σ' H' => D.ct (σ'.set 3 none) H' } (σ.set 3 (some (.ref x))) H2 := by
          rintro _ rfl
          refine su_reads X hCC (List.getElem?_set_self l3) ?_
          rw [wd]
          have kp := k2.put (i := 2) (v := .str (wordOf a b)) (d := .str (wordOf a b)) (.str _) rfl
          have es : ((σ.set 3 (some (.ref x))).set 2 (some (V.str (wordOf a b)))).set 3 none = (σ.set 2 (some (V.str (wordOf a b)))).set 3 none := by
            rw [List.set_comm _ _ (by decide : (3 : Nat) ≠ 2), List.set_set]
          show D.nx (((σ.set 3 (some (.ref x))).set 2 (some (V.str (wordOf a b)))).set 3 none) H2
          rw [es]
          exact n _ G2 H2 _ rfl ⟨kp.f, kp.s.any rfl, kp.own, kp.dis⟩
        rcases hCC with z | z
        · exact .inl ⟨⟨by rw [z], rfl⟩, fin CS z.symm⟩
        · exact .inr ⟨⟨by rw [z], rfl⟩, fin CZ z.symm⟩
end
end Jn
set_option maxHeartbeats 0
/-! the head: what the top leaves, by names -/
namespace Jn
open PySem PySem.Spec PyProof.Rows L2
def mkD (x : Str) (i : Nat) : He.DefD := ⟨(x, none), x, x, defArgs (topS i), defBody (topS i), defScope (topS i), [], []⟩
def hfn : List He.DefD := [mkD "is_integer" 7, mkD "is_row_of" 8, mkD "are_integers" 9, mkD "are_strands" 12, mkD "counts_of" 13, mkD "are_counts_rows" 14, mkD "ends_of" 15, mkD "strands_from" 16, mkD "least_sum" 17, mkD "join" 18, mkD "need_strands" 20, mkD "need_like" 21, mkD "counts_table" 22, mkD "strands_of" 23, mkD "joined" 24, mkD "columns_of" 26, mkD "sums_by" 27, mkD "least_sums" 28, mkD "width" 30, mkD "gain_of" 31, mkD "gain_at" 32, mkD "gains_of" 33, mkD "first_paying" 34, mkD "is_straight_table" 35, mkD "is_table_form" 38, mkD "need_table" 39, mkD "need_two" 41, mkD "product" 42, mkD "is_straight" 44, mkD "_law_feed" 46, mkD "_law_draw" 47, mkD "_law_one" 48, mkD "_law_mixed" 49, mkD "_law_strands" 50, mkD "_law_word" 51, mkD "_law_comb" 52, mkD "_law_counts" 53, mkD "_law_product" 54, mkD "_law_bad_strands" 55, mkD "_law_unlike" 56, mkD "_law_wide" 57, mkD "_law_word_of" 58, mkD "law" 59]
def hfa1 : List He.Fa := [.glo "is_integer", .glo "is_row_of", .glo "are_integers", .glo "are_strands", .glo "counts_of", .glo "are_counts_rows", .glo "ends_of", .glo "strands_from", .glo "least_sum", .glo "join", .glo "need_strands", .glo "need_like", .glo "counts_table", .glo "strands_of", .glo "joined", .glo "columns_of", .glo "sums_by", .glo "least_sums", .glo "width", .glo "gain_of", .glo "gain_at", .glo "gains_of", .glo "first_paying", .glo "is_straight_table", .glo "is_table_form", .glo "need_table", .glo "need_two", .glo "product", .glo "is_straight", .glo "_law_feed"]
def hfa2 : List He.Fa := [.glo "_law_draw", .glo "_law_one", .glo "_law_mixed", .glo "_law_strands", .glo "_law_word", .glo "_law_comb", .glo "_law_counts", .glo "_law_product", .glo "_law_bad_strands", .glo "_law_unlike", .glo "_law_wide", .glo "_law_word_of", .glo "law", .free "all", .free "any", .free "bool", .free "enumerate", .free "int", .free "isinstance", .free "len", .free "list", .free "max", .free "min", .free "range", .free "repr", .free "set", .free "sorted", .free "str", .free "sum", .free "tuple"]
def hfa3 : List He.Fa := [.free "zip", .int "MOST_STRANDS" 12, .int "MOST_ROWS" 8, .glo "LeastError", .glo "BadStrands", .glo "BadSizes", .exc "BadStrands", .exc "BadSizes", .exm "BadStrands" "LeastError" true, .exm "BadSizes" "LeastError" true]
def hfa : List He.Fa := hfa1 ++ (hfa2 ++ hfa3)
/-- isinstance of the two errors that are caught -/
def excOk (K : PySem.W.Frag) (x : Str) : Bool :=
  decide (PySem.W.findIn K (.ref (He.ga K x)) "__getattribute__" = some (some (.builtin "BaseException.__getattribute__"))) && (decide (PySem.W.findIn K (.ref (He.ga K x)) "__getattr__" = some none) &&
  (decide (PySem.W.hasDictIn K (He.ga K x) = true) && (decide (PySem.W.findIn K (.ref (He.ga K x)) "__class__" = some (some (.builtin "object.__class__"))) &&
  (decide (PySem.W.specialIn K (.builtin "object.__class__") "__get__" = some (some (.builtin "getset_descriptor.__get__"))) && (decide (PySem.W.takesIn K (.builtin "object.__class__") = some true) && decide (PySem.W.mroIn K (He.ga K x) (.type "object") = some true))))))
def hex (K : PySem.W.Frag) : Bool := excOk K "BadStrands" && (excOk K "BadSizes" && (decide (PySem.W.kitOne K (.ref (He.ga K "BadStrands")) (.ref (He.ga K "BadStrands")) = some true) &&
  (decide (PySem.W.kitOne K (.ref (He.ga K "BadSizes")) (.ref (He.ga K "BadStrands")) = some false) && decide (PySem.W.kitOne K (.ref (He.ga K "BadSizes")) (.ref (He.ga K "BadSizes")) = some true))))
abbrev hR : PySem.W.OpenRow := PySem.W.OpenLaw.row PySem.Challenge.rw_straightleast_k79_whole_joined_by_least
abbrev hhk : PySem.W.Hook := He.hookX 4 hfa hfn [] [] hex
def hob (s : PySem.W.SharedT) : He.AlX := He.obsX 4 hfa hfn [] [] hex (HandSHeadRun.getT s)
theorem hob_eq (s : PySem.W.SharedT) : hob s = hhk.obs s.abs := He.obsX_eq (HandSHeadRun.getT_eq s)
def hl0 : List Str := [("__name__" : Str), ("LeastError" : Str), ("BadTable" : Str), ("BadSizes" : Str), ("BadStrands" : Str), ("BadCounts" : Str), ("is_integer" : Str), ("is_row_of" : Str), ("are_integers" : Str), ("MOST_STRANDS" : Str)]
def hl1 : List Str := [("are_strands" : Str), ("counts_of" : Str), ("are_counts_rows" : Str), ("ends_of" : Str), ("strands_from" : Str), ("least_sum" : Str), ("join" : Str), ("need_strands" : Str), ("need_like" : Str), ("counts_table" : Str)]
def hl2 : List Str := [("strands_of" : Str), ("joined" : Str), ("columns_of" : Str), ("sums_by" : Str), ("least_sums" : Str), ("width" : Str), ("gain_of" : Str), ("gain_at" : Str), ("gains_of" : Str), ("first_paying" : Str)]
def hl3 : List Str := [("is_straight_table" : Str), ("MOST_ROWS" : Str), ("is_table_form" : Str), ("need_table" : Str), ("need_two" : Str), ("product" : Str), ("is_straight" : Str), ("_law_feed" : Str), ("_law_draw" : Str), ("_law_one" : Str)]
def hl4 : List Str := [("_law_mixed" : Str), ("_law_strands" : Str), ("_law_word" : Str), ("_law_comb" : Str), ("_law_counts" : Str), ("_law_product" : Str), ("_law_bad_strands" : Str), ("_law_unlike" : Str), ("_law_wide" : Str), ("_law_word_of" : Str)]
def hloose : List Str := hl0 ++ hl1 ++ hl2 ++ hl3 ++ hl4
theorem hrun (w : World) : HandSHeadRun.RunEq hR (PySem.W.view hR.prog [59]) hhk hob 3500 hloose w := by
  intro os
  kernel_rfl
end Jn
set_option maxHeartbeats 8000000
namespace Jn
open PySem
open PySem.Spec PyProof.Rows
open L2
open Ma
/-! ### what is shown fits -/
def Small (ns : List Int) : Prop := ns.length ≤ 13 ∧ ∀ n ∈ ns, 0 ≤ n ∧ n < 13
theorem small_int {n : Int} (h : 0 ≤ n ∧ n < 13) : (PyData.int n).showable = true ∧ (PyData.int n).leavesShort 13 = true ∧ (PyData.int n).weight ≤ 10 := by
  have l : n.natAbs.log2 < 10 := PySem.Flt.log2_lt_of (k := 10) (by decide) (by omega)
  refine ⟨?_, ?_, ?_⟩
  · simp only [PyData.showable, decide_eq_true_eq]
    omega
  · simp only [PyData.leavesShort, decide_eq_true_eq]
    exact PyData.shown_int_le (by omega)
  · simp only [PyData.weight]
    split <;> omega
theorem small_all : ∀ {ns : List Int}, (∀ n ∈ ns, 0 ≤ n ∧ n < 13) → PyData.showableAll (ns.map .int) = true ∧ PyData.leavesShortAll 13 (ns.map .int) = true ∧ PyData.weightAll (ns.map .int) ≤ 11 * ns.length
  | [], _ => by simp [PyData.showableAll, PyData.leavesShortAll, PyData.weightAll]
  | n :: r, h => by
    obtain ⟨a1, a2, a3⟩ := small_int (h n List.mem_cons_self)
    obtain ⟨b1, b2, b3⟩ := small_all (ns := r) fun m hm => h m (List.mem_cons_of_mem _ hm)
    simp only [List.map_cons, PyData.showableAll, PyData.leavesShortAll, PyData.weightAll, a1, a2, b1, b2, Bool.and_self, List.length_cons]
    exact ⟨trivial, trivial, by omega⟩
theorem rows_all : ∀ {t : List (List Int)}, (∀ r ∈ t, Small r) → PyData.showableAll (t.map dR) = true ∧ PyData.leavesShortAll 13 (t.map dR) = true ∧ PyData.weightAll (t.map dR) ≤ 200 * t.length
  | [], _ => by simp [PyData.showableAll, PyData.leavesShortAll, PyData.weightAll]
  | n :: r, h => by
    obtain ⟨s1, s2⟩ := h n List.mem_cons_self
    obtain ⟨a1, a2, a3⟩ := small_all s2
    obtain ⟨b1, b2, b3⟩ := rows_all (t := r) fun m hm => h m (List.mem_cons_of_mem _ hm)
    rw [List.map_cons]
    simp only [dR, PyData.showableAll, PyData.leavesShortAll, PyData.weightAll, PyData.showable, PyData.leavesShort, PyData.weight, a1, a2] at b1 b2 b3 ⊢
    refine ⟨by simpa using b1, by simpa using b2, ?_⟩
    rw [List.length_cons]
    have : PyData.weightAll (List.map (fun ns => PyData.tuple (List.map PyData.int ns)) r) ≤ 200 * r.length := b3
    omega
theorem cn_small {n : Nat} {p : List Nat} (hp : p.Perm (List.range n)) (hn : n ≤ 12) (i j : Nat) : 0 ≤ cn p i j ∧ cn p i j < 13 := by
  unfold cn
  have h1 : (p.drop i).countP (fun x => decide (x < j)) ≤ (p.drop i).length := List.countP_le_length
  rw [List.length_drop, perm_len hp] at h1
  omega
theorem strands_small {n : Nat} {p : List Nat} (hp : p.Perm (List.range n)) (hn : n ≤ 12) : Small (nats p) := by
  refine ⟨by rw [nats_len, perm_len hp]; omega, fun x hx => ?_⟩
  unfold nats at hx
  obtain ⟨v, hv, rfl⟩ := List.mem_map.mp hx
  have := perm_lt hp v hv
  omega
theorem table_small {n : Nat} {p : List Nat} (hp : p.Perm (List.range n)) (hn : n ≤ 12) : ∀ r ∈ tab n (cn p), Small r := by
  intro r hr
  unfold tab at hr
  obtain ⟨i, _, rfl⟩ := List.mem_map.mp hr
  refine ⟨by rw [rowOf_len]; omega, fun x hx => ?_⟩
  unfold rowOf at hx
  obtain ⟨j, _, rfl⟩ := List.mem_map.mp hx
  exact cn_small hp hn i j
section
variable {K : PySem.W.Frag} {ρ : Rho} {te ta tb : TE}
theorem ev_reprS {n : Nat} {p : List Nat} (hp : p.Perm (List.range n)) (hn : n ≤ 12) (h : Ev K te ρ (dS p)) : Ev K (tCB (rRepr K) (tCons te tNil)) ρ (.str (dS p).shown) := by
  obtain ⟨s1, s2⟩ := strands_small hp hn
  obtain ⟨a1, a2, a3⟩ := small_all s2
  refine ev_repr h (by simpa [PyData.showable] using a1) (dict_row _) (by have := deep_ints (nats p); simp only [PyData.depth]; omega) (PyData.shown_fits (B := 13) (by decide) (by decide) (by simpa [PyData.leavesShort] using a2) ?_)
  simp only [PyData.weight]
  omega
theorem ev_reprT {n : Nat} {p : List Nat} (hp : p.Perm (List.range n)) (hn : n ≤ 12) (h : Ev K te ρ (dT (tab n (cn p)))) : Ev K (tCB (rRepr K) (tCons te tNil)) ρ (.str (dT (tab n (cn p))).shown) := by
  obtain ⟨a1, a2, a3⟩ := rows_all (table_small hp hn)
  have := deep_rows (tab n (cn p))
  have lt := tab_len (n := n) (f := cn p)
  refine ev_repr h (by simpa [PyData.showable] using a1) (dict_tab _) (by simp only [PyData.depth]; omega) (PyData.shown_fits (B := 13) (by decide) (by decide) (by simpa [PyData.leavesShort] using a2) ?_)
  simp only [PyData.weight]
  omega
theorem rv_neS {x y : Str} : RvD K rNe (.str x) (.str y) (.bool (!decide (x = y))) := fun u v G H Q e h1 h2 q => by
  cases h1
  cases h2
  refine ⟨rfl, ?_⟩
  have e1 : decide (V.str x = V.str y) = decide (x = y) := decide_eq_decide.mpr ⟨fun h => V.str.inj h, fun h => by rw [h]⟩
  rw [e1]
  exact q _ G H (.refl e) (.bl _)
theorem et_sameS {x : Str} (ha : Ev K ta ρ (.str x)) (hb : Ev K tb ρ (.str x)) : EvT K (tTest (tOp rNe ta tb)) ρ false := (et_test (ev_op ha hb rv_neS)).is (by simp)
theorem rv_notB {a b : Bool} : RvD K rNotB (.bool a) (.bool b) (.bool (!decide (a = b))) := fun u v G H Q e h1 h2 q => by
  cases h1
  cases h2
  exact ⟨a, b, rfl, rfl, q _ G H (.refl e) (.bl _)⟩
theorem em_bad {i n m : Nat} {o : Bool} {a : Addr} {fd : List PyData} {p : List Nat} {E E' : XK} (hi : ρ[i]? = some (.ml o a fd)) (hf : FeedD n fd) (hn : n + 1 ≤ 1000) (hp : p.Perm (List.range m)) (h1 : 1 ≤ m) (h2 : m ≤ 12) (h : Ev K ta ρ (dS p)) :
    Em K (tCall (spF K 1 R_one) [] E (tCons (tVar i) (tCons (tCall (spQ K R_bad) [] E' (tCons ta tNil)) tNil))) ρ fun d r => isStr d = false ∧ ∃ fd', FeedD (n + 1) fd' ∧ r = ρ.set i (.ml o a fd') := by
  refine em_callF (o := o) (p := a) (fd := fd) (n := n) (RF := R_one) (RA := fun ds r => ∃ bs : List PyData, bs.length ≤ 1000 ∧ bs ≠ [] ∧ AllBad bs ∧ ds = [.list bs] ∧ r = ρ) hi (ema_cons (R1 := fun d r => ∃ bs : List PyData, bs.length ≤ 1000 ∧ bs ≠ [] ∧ AllBad bs ∧ d = .list bs ∧ r = ρ) (RB := fun d ds r => ds = [] ∧ ∃ bs : List PyData, bs.length ≤ 1000 ∧ bs ≠ [] ∧ AllBad bs ∧ d = .list bs ∧ r = ρ) (em_callQ (RF := R_bad) ((ea_cons h ea_nil).em) ?_ ?_) (fun a r h => ema_nil ⟨rfl, h⟩) ?_) ?_ hn ?_
  · rintro _ _ ⟨rfl, rfl⟩
    exact ⟨.list [.none], m, p, [.none], hp, h1, h2, by simp, by simp, (fun b hb => by rw [List.mem_singleton.mp hb]; rfl), rfl, rfl⟩
  · rintro _ _ _ ⟨rfl, rfl⟩ ⟨_, _, bs, _, _, _, g1, g2, g3, _, rfl⟩
    exact ⟨bs, g1, g2, g3, rfl, rfl⟩
  · rintro _ _ _ _ _ ⟨rfl, bs, g1, g2, g3, rfl, rfl⟩
    exact ⟨bs, g1, g2, g3, rfl, rfl⟩
  · rintro _ _ ⟨bs, g1, g2, g3, rfl, rfl⟩
    exact ⟨fd, hi, hf, bs.head g2, bs, g1, List.head_mem g2, rfl⟩
  · rintro _ _ _ fd' ⟨bs, g1, g2, g3, rfl, rfl⟩ ⟨xs, _, hd, e⟩ hf'
    simp only [List.cons.injEq, PyData.list.injEq, and_true] at e
    rw [← e] at hd
    exact ⟨g3 _ hd, fd', hf', rfl⟩
/-- a call by keywords alone, of two -/
theorem ev_kw {R : List PyData → PyData → Prop} {a b d : PyData} {E : L2.St → XK} (ho : Ev K ta ρ b) (hs : Ev K tb ρ a) (hR : R [a, b] d) : Ev K (tKwS (spP (K := K) R) gK E (tCons ta (tCons tb tNil))) ρ d := fun σ G H Q e s q =>
  (ea_cons ho (ea_cons hs ea_nil)) σ G H _ e s fun vs G1 H1 g1 d1 => by
    cases d1 with
    | cons q1 d1 =>
      cases d1 with
      | cons q2 d1 =>
        cases d1
        exact ⟨G1, [a, b], d, g1.i, .cons q2 (.cons q1 .nil), hR, fun v G2 H2 g2 dq => q v G2 H2 (g1.trans g2) dq⟩
end
section
variable {P : Program} {w : World} {K : PySem.W.Frag} {mg : Str → Option Value} {base : Heap}
abbrev s_law : Stmt := topS 59
theorem sc_law : FnScope ["_law_script", "_law_k", "_law_feed_here", "_law_one_here", "_law_other", "_law_told", "_law_due", "_law_bad", "_law_worse", "_law_unlike_here", "_law_words"] ["_law_script"] (defScope s_law) := ⟨rfl, rfl, rfl, by decide +kernel, rfl, by decide +kernel, by decide +kernel⟩
theorem bad_word {a b : PyData} (h : (isStr a && isStr b) = false) : wordOf a b = "strands" := by unfold wordOf; rw [h, if_neg Bool.false_ne_true]
theorem law_body (T : Tx mg) (DJ : Dfn K mg "joined" s_joined)
    (C__law_feed : Cal P w K mg base CX0 1 "_law_feed" ["_law_script", "_law_k"] (spNew K R_feed)) (C__law_draw : Cal P w K mg base CX0 1 "_law_draw" ["_law_feed_here", "_law_many"] (spF K 1 R_draw))
    (C__law_one : Cal P w K mg base CX0 2 "_law_one" ["_law_feed_here", "_law_things"] (spF K 1 R_one)) (C__law_mixed : Cal P w K mg base CX0 2 "_law_mixed" ["_law_feed_here", "_law_things"] (spF K 12 R_mixed))
    (C__law_word : Cal P w K mg base CX0 2 "_law_word" ["_law_feed_here", "_law_places", "_law_many"] (spF K 13 R_word)) (C__law_comb : Cal P w K mg base CX0 1 "_law_comb" ["_law_places", "_law_word_here"] (spQ K R_comb))
    (C__law_wide : Cal P w K mg base CX0 4 "_law_wide" ["_law_feed_here", "_law_many"] (spF K 17 R_strandsN)) (C__law_unlike : Cal P w K mg base CX0 3 "_law_unlike" ["_law_feed_here", "_law_strands_here"] (spF K 13 R_unlike))
    (C__law_bad_strands : Cal P w K mg base CX0 1 "_law_bad_strands" ["_law_strands_here"] (spQ K R_bad)) (C__law_counts : Cal P w K mg base CX0 1 "_law_counts" ["_law_strands_here"] (spP (K := K) R_counts_of))
    (C__law_product : Cal P w K mg base CX0 1 "_law_product" ["_law_one_here", "_law_other"] (spP (K := K) R_least_sums)) (C__law_word_of : Cal P w K mg base CX0 6 "_law_word_of" ["_law_one_here", "_law_other"] (spP (K := K) R_word_of))
    (C_joined : Cal P w K mg base CX0 5 "joined" ["strands", "other"] (spP (K := K) R_join)) (C_counts_table : Cal P w K mg base CX0 4 "counts_table" ["strands"] (spP (K := K) R_counts_table))
    (C_strands_of : Cal P w K mg base CX0 4 "strands_of" ["counts"] (spP (K := K) R_strands_of)) (C_product : Cal P w K mg base CX0 6 "product" ["table", "other"] (spP (K := K) R_product)) (C_is_straight : Cal P w K mg base CX0 6 "is_straight" ["table"] (spP (K := K) R_is_straight))
    (f : Addr) (cdv : Value) (A : Around) (outer : List Env) (s : Shared) (H : Hp) (E : XK) (hgd : A.guards = some []) (hr : Room 6 (A.deeper (envOfC "law" (defScope s_law) s.heap.objs.size f cdv))) :
    ∃ t, PSs (cxOf CX0 P w K mg base ["_law_script", "_law_k", "_law_feed_here", "_law_one_here", "_law_other", "_law_told", "_law_due", "_law_bad", "_law_worse", "_law_unlike_here", "_law_words"] "law" (defScope s_law) f cdv A outer s H E).nox (defBody s_law) t ∧ ∀ ns : List Int, Ss K t (.im (.list (ns.map .int)) :: List.replicate 10 .no) (fun _ => False) (fun a _ => a = .bool true) := by
  have nd := sc_law.nd
  obtain ⟨jf, jd, JF, jm, jk, jb, jst, JFn⟩ := C_joined.ex
  have KB := kb_joined DJ jm JFn
  refine ⟨_, (pss_cons (ps_for PassesOwn.never rfl (pi_range1 rfl T.range (pa_cons (pe_callB (id := "max") (call_max2 rfl) rfl T.max (by decide +kernel) (pa_cons pe_int (pa_cons (pe_callB (id := "min") (call_min2 rfl) rfl T.min (by decide +kernel) (pa_cons (pe_callB (id := "len") (r := rLenS K) call_len_seq rfl T.len (by decide +kernel) (pa_cons (pv 0) pa_nil)) (pa_cons pe_int pa_nil))) pa_nil))) pa_nil)) (pg_name (i := 1) nd rfl (.inl rfl) (.inl rfl)) (pss_cons (ps_set (i := 2) nd rfl (.inl rfl) (pe_cal C__law_feed hr pass0 (pa_cons (pv 0) (pa_cons (pv 1) pa_nil))))
      (pss_cons (ps_set (i := 3) nd rfl (.inl rfl) (pe_cal C__law_wide hr pass0 (pa_cons (pv 2) (pa_cons pe_int pa_nil))))
      (pss_cons (ps_set (i := 4) nd rfl (.inl rfl) (pe_ifExp (pt_cmpR op_eq (pe_cal C__law_draw hr pass0 (pa_cons (pv 2) (pa_cons pe_int pa_nil))) pe_int (nomark _)) (pe_callTy (T := "tuple") (r := rTupS K) call_tuple_of rfl T.tuple (by decide +kernel) (pa_cons (pe_cal C__law_mixed hr pass0 (pa_cons (pv 2) (pa_cons (pv 3) pa_nil))) pa_nil)) (pe_cal C__law_comb hr pass0 (pa_cons (pe_callB (id := "len") (r := rLenS K) call_len_seq rfl T.len (by decide +kernel) (pa_cons (pv 3) pa_nil)) (pa_cons (pe_cal C__law_word hr pass0 (pa_cons (pv 2) (pa_cons (pe_callB (id := "len") (r := rLenS K) call_len_seq rfl T.len (by decide +kernel) (pa_cons (pv 3) pa_nil)) (pa_cons pe_int pa_nil)))) pa_nil)))))
      (pss_cons (ps_set (i := 5) nd rfl (.inl rfl) (pe_cal C_joined hr pass0 (pa_cons (pv 3) (pa_cons (pv 4) pa_nil))))
      (pss_cons (ps_set (i := 6) nd rfl (.inl rfl) (pe_cal C__law_product hr pass0 (pa_cons (pe_cal C__law_counts hr pass0 (pa_cons (pv 3) pa_nil)) (pa_cons (pe_cal C__law_counts hr pass0 (pa_cons (pv 4) pa_nil)) pa_nil))))
      (pss_cons (ps_if (PW.pt (pw_or (pt_cmpR op_ne (pe_callB (id := "repr") (r := rRepr K) (cr_repr hgd hr.units) rfl T.repr (by decide +kernel) (pa_cons (pe_cal C_counts_table hr pass0 (pa_cons (pv 5) pa_nil)) pa_nil)) (pe_callB (id := "repr") (r := rRepr K) (cr_repr hgd hr.units) rfl T.repr (by decide +kernel) (pa_cons (pv 6) pa_nil)) (nomark _)) (pw_or (pt_cmpR op_ne (pe_callB (id := "repr") (r := rRepr K) (cr_repr hgd hr.units) rfl T.repr (by decide +kernel) (pa_cons (pe_cal C__law_counts hr pass0 (pa_cons (pv 5) pa_nil)) pa_nil)) (pe_callB (id := "repr") (r := rRepr K) (cr_repr hgd hr.units) rfl T.repr (by decide +kernel) (pa_cons (pv 6) pa_nil)) (nomark _)) (pw_or1 (pt_cmpR op_ne (pe_callB (id := "repr") (r := rRepr K) (cr_repr hgd hr.units) rfl T.repr (by decide +kernel) (pa_cons (pe_cal C_strands_of hr pass0 (pa_cons (pv 6) pa_nil)) pa_nil)) (pe_callB (id := "repr") (r := rRepr K) (cr_repr hgd hr.units) rfl T.repr (by decide +kernel) (pa_cons (pv 5) pa_nil)) (nomark _)))))) (pss_one (ps_ret pe_bl)) pss_nil)
      (pss_cons (ps_if (pt_cmpR op_ne (pe_callB (id := "repr") (r := rRepr K) (cr_repr hgd hr.units) rfl T.repr (by decide +kernel) (pa_cons (pe_kwS (E := fun _ => E0) JF (hr.mono (by decide)) rfl jm jk KB (fun _ _ _ _ _ _ _ z => z.elim) (pk_cons (pv 4) (pk_cons (pv 3) pk_nil))) pa_nil)) (pe_callB (id := "repr") (r := rRepr K) (cr_repr hgd hr.units) rfl T.repr (by decide +kernel) (pa_cons (pv 5) pa_nil)) (nomark _)) (pss_one (ps_ret pe_bl)) pss_nil)
      (pss_cons (ps_if (pt_cmpR op_lt (pe_callB (id := "len") (r := rLenS K) call_len_seq rfl T.len (by decide +kernel) (pa_cons (pv 3) pa_nil)) pe_int (nomark _)) (pss_one (ps_if (PW.pt (pw_or (pt_cmpR op_ne (pe_callB (id := "repr") (r := rRepr K) (cr_repr hgd hr.units) rfl T.repr (by decide +kernel) (pa_cons (pe_cal C_product hr pass0 (pa_cons (pe_cal C_counts_table hr pass0 (pa_cons (pv 3) pa_nil)) (pa_cons (pe_cal C_counts_table hr pass0 (pa_cons (pv 4) pa_nil)) pa_nil))) pa_nil)) (pe_callB (id := "repr") (r := rRepr K) (cr_repr hgd hr.units) rfl T.repr (by decide +kernel) (pa_cons (pv 6) pa_nil)) (nomark _)) (pw_or1 (pt_cmpR op_notBl (pe_cal C_is_straight hr pass0 (pa_cons (pv 6) pa_nil)) pe_bl (nomark _))))) (pss_one (ps_ret pe_bl)) pss_nil)) pss_nil)
      (pss_cons (ps_par3 (i := 7) (j := 8) (l := 9) rfl nd rfl rfl rfl (by decide) (by decide) (by decide) rfl rfl rfl (pa_cons (pe_cal C__law_one hr pass0 (pa_cons (pv 2) (pa_cons (pe_cal C__law_bad_strands hr pass0 (pa_cons (pv 3) pa_nil)) pa_nil))) (pa_cons (pe_cal C__law_one hr pass0 (pa_cons (pv 2) (pa_cons (pe_cal C__law_bad_strands hr pass0 (pa_cons (pv 4) pa_nil)) pa_nil))) (pa_cons (pe_cal C__law_unlike hr pass0 (pa_cons (pv 2) (pa_cons (pv 3) pa_nil))) pa_nil))) rfl)
      (pss_cons (ps_set (i := 10) nd rfl (.inl rfl) (pe_lst (pa_cons (pe_cal C__law_word_of hr pass0 (pa_cons (pv 7) (pa_cons (pv 8) pa_nil))) (pa_cons (pe_cal C__law_word_of hr pass0 (pa_cons (pv 7) (pa_cons (pv 4) pa_nil))) (pa_cons (pe_cal C__law_word_of hr pass0 (pa_cons (pv 3) (pa_cons (pv 8) pa_nil))) (pa_cons (pe_cal C__law_word_of hr pass0 (pa_cons (pv 3) (pa_cons (pv 9) pa_nil))) (pa_cons (pe_cal C__law_word_of hr pass0 (pa_cons (pv 7) (pa_cons (pv 9) pa_nil))) pa_nil)))))))
      (pss_one (ps_if (pt_cmpR (r := rNeD K) (op_neD hr.units) (pv 10) (pe_lst (pa_cons pe_str (pa_cons pe_str (pa_cons pe_str (pa_cons pe_str (pa_cons pe_str pa_nil)))))) (nomark _)) (pss_one (ps_ret pe_bl)) pss_nil)))))))))))))
      (pss_one (ps_ret pe_bl))), ?_⟩
  intro ns
  obtain ⟨c, hc3, hc⟩ : ∃ c : Nat, c ≤ 3 ∧ (if (if (3 : Int) < (ns.map PyData.int).length then (3 : Int) else (ns.map PyData.int).length) > 1 then (if (3 : Int) < (ns.map PyData.int).length then (3 : Int) else (ns.map PyData.int).length) else 1) = (c : Int) := by
    refine ⟨(if (if (3 : Int) < (ns.map PyData.int).length then (3 : Int) else (ns.map PyData.int).length) > 1 then (if (3 : Int) < (ns.map PyData.int).length then (3 : Int) else (ns.map PyData.int).length) else 1).toNat, ?_, ?_⟩
    · split <;> split <;> omega
    · split <;> split <;> omega
  refine ss_seq (N1 := fun r => ∃ e2 e3 e4 e5 e6 e7 e8 e9 e10, r = [.im (.list (ns.map .int)), .no, e2, e3, e4, e5, e6, e7, e8, e9, e10])
    (ss_for (I := fun _ r => ∃ e2 e3 e4 e5 e6 e7 e8 e9 e10, r = [.im (.list (ns.map .int)), .no, e2, e3, e4, e5, e6, e7, e8, e9, e10]) (ew_rngN (n := c) (Ev.is (ev_max2 ev_int (ev_min2 (ev_lenL ev_var) ev_int)) (by rw [hc])) (by omega)) ⟨.no, .no, .no, .no, .no, .no, .no, .no, .no, rfl⟩ (by rintro i _ ⟨_, _, _, _, _, _, _, _, _, rfl⟩; rfl) ?_ (fun r h => h)) ?_
  case refine_2 =>
    rintro _ ⟨_, _, _, _, _, _, _, _, _, rfl⟩
    exact ss_ret ev_bl rfl
  rintro i hi _ ⟨e2, e3, e4, e5, e6, e7, e8, e9, e10, rfl⟩
  have hi' : i < c := by simpa using hi
  rw [List.getElem_map, List.getElem_range]
  let scr : PyData := .list (ns.map .int)
  let kk : PyData := .int (i : Int)
  refine ss_seq (N1 := fun r => ∃ a fd, FeedD 0 fd ∧ r = [.im scr, .im kk, .ml true a fd, e3, e4, e5, e6, e7, e8, e9, e10]) (en_callN (RN := R_feed) (ea_cons ev_var (ea_cons ev_var ea_nil)) ⟨[.int 0, .int 0, .int 0], ns, i, by omega, rfl, 0, 0, 0, rfl, by decide, by decide, by decide, by decide⟩ rfl ?_) ?_
  · rintro es a ⟨_, _, _, _, hf⟩
    exact ⟨a, es, hf, rfl⟩
  rintro _ ⟨a, fd0, f0, rfl⟩
  refine ss_seq (N1 := fun r => ∃ (n : Nat) (p : List Nat) (fd : List PyData), 1 ≤ n ∧ n ≤ 12 ∧ p.Perm (List.range n) ∧ FeedD 17 fd ∧ r = [.im scr, .im kk, .ml true a fd, .im (dS p), e4, e5, e6, e7, e8, e9, e10])
    (ss_asgE (R1 := fun d r => ∃ (n : Nat) (p : List Nat) (fd : List PyData), 1 ≤ n ∧ n ≤ 12 ∧ p.Perm (List.range n) ∧ d = dS p ∧ FeedD 17 fd ∧ r = [.im scr, .im kk, .ml true a fd, e3, e4, e5, e6, e7, e8, e9, e10]) (em_callF (o := true) (p := a) (fd := fd0) (n := 0) (RF := R_strandsN) (RA := fun ds r => ds = [.int ((12 : Nat) : Int)] ∧ r = [.im scr, .im kk, .ml true a fd0, e3, e4, e5, e6, e7, e8, e9, e10]) rfl ?_ ?_ (by omega) ?_) ?_) ?_
  · exact (ea_cons (ev_int (i := ((12 : Nat) : Int))) ea_nil).em
  · rintro _ _ ⟨rfl, rfl⟩
    exact ⟨fd0, rfl, f0, _, 12, 1, _, by decide, by decide, by decide, by decide, List.Perm.refl _, rfl, rfl⟩
  · rintro _ _ _ fd ⟨rfl, rfl⟩ ⟨_, n, p, _, _, n1, n2, hp, _, rfl⟩ hf
    exact ⟨n, p, fd, n1, n2, hp, rfl, hf, rfl⟩
  · rintro _ _ ⟨n, p, fd, n1, n2, hp, rfl, hf, rfl⟩
    exact ⟨rfl, n, p, fd, n1, n2, hp, hf, rfl⟩
  rintro _ ⟨n, p, fd1, n1, n2, hp, f1, rfl⟩
  have lp := perm_len hp
  have lenP : ∀ {ρ : Rho} {te : TE}, Ev K te ρ (dS p) → Ev K (tCB (rLenS K) (tCons te tNil)) ρ (.int (n : Int)) := fun h => (ev_lenT h).is (by rw [List.length_map, nats_len, lp])
  let s3 := fun (fd : List PyData) => ([.im scr, .im kk, .ml true a fd, .im (dS p), e4, e5, e6, e7, e8, e9, e10] : Rho)
  refine ss_seq (N1 := fun r => ∃ (q : List Nat) (fd : List PyData), q.Perm (List.range n) ∧ FeedD 31 fd ∧ r = [.im scr, .im kk, .ml true a fd, .im (dS p), .im (dS q), e5, e6, e7, e8, e9, e10])
    (ss_asgE (R1 := fun d r => ∃ (q : List Nat) (fd : List PyData), q.Perm (List.range n) ∧ d = dS q ∧ FeedD 31 fd ∧ r = s3 fd) (em_if (R1 := fun _ r => ∃ fd, FeedD 18 fd ∧ r = s3 fd) (emt_test (R1 := fun d r => (∃ b, d = .bool b) ∧ ∃ fd, FeedD 18 fd ∧ r = s3 fd) (em_op (R1 := fun d r => ∃ (x : Nat) (fd : List PyData), x < 2 ∧ d = .int (x : Int) ∧ FeedD (17 + 1) fd ∧ r = s3 fd) (R2' := fun _ d r => d = .int 0 ∧ ∃ fd, FeedD 18 fd ∧ r = s3 fd) (em_draw (o := true) (p := a) (fd := fd1) (n := 17) (m := 2) rfl f1 (by omega) ev_int (by omega) (by omega)) ?_ ?_) ?_) ?_ ?_) ?_) ?_
  · rintro _ _ ⟨x, fd, _, rfl, hf, rfl⟩
    refine (ev_int (i := 0)).em.imp ?_
    rintro _ _ ⟨rfl, rfl⟩
    exact ⟨rfl, fd, hf, rfl⟩
  · rintro _ _ _ _ ⟨x, _, _, rfl, _, _⟩ ⟨rfl, h⟩
    exact ⟨_, rv_eqI, ⟨_, rfl⟩, h⟩
  · rintro _ _ ⟨⟨b, rfl⟩, h⟩
    exact ⟨b, rfl, h⟩
  · rintro _ ⟨fd, hf, rfl⟩
    refine (em_tmix (o := true) (p := a) (fd := fd) (n := 18) (q := p) (m := n) rfl hf (by omega) (.inr rfl) hp ev_var n2).imp ?_
    rintro _ _ ⟨q, fd', hq, rfl, hf', rfl⟩
    exact ⟨q, fd', hq, rfl, hf'.mono (by omega), rfl⟩
  · rintro _ ⟨fd, hf, rfl⟩
    refine em_callQ (RF := R_comb) (RA := fun ds r => ∃ (ws : List Nat) (fd' : List PyData), ws.length ≤ 12 ∧ (∀ z ∈ ws, z + 1 < n) ∧ ds = [.int (n : Int), dS ws] ∧ FeedD 31 fd' ∧ r = s3 fd') ?_ ?_ ?_
    · refine ema_cons (R1 := fun d r => d = .int (n : Int) ∧ r = s3 fd) (RB := fun _ ds r => ∃ (ws : List Nat) (fd' : List PyData), ws.length ≤ 12 ∧ (∀ z ∈ ws, z + 1 < n) ∧ ds = [dS ws] ∧ FeedD 31 fd' ∧ r = s3 fd') (lenP ev_var).em ?_ ?_
      · rintro _ _ ⟨rfl, rfl⟩
        refine ema_cons (R1 := fun d r => ∃ (ws : List Nat) (fd' : List PyData), ws.length ≤ 12 ∧ (∀ z ∈ ws, z + 1 < n) ∧ d = dS ws ∧ FeedD 31 fd' ∧ r = s3 fd') (RB := fun d ds r => ds = [] ∧ ∃ (ws : List Nat) (fd' : List PyData), ws.length ≤ 12 ∧ (∀ z ∈ ws, z + 1 < n) ∧ d = dS ws ∧ FeedD 31 fd' ∧ r = s3 fd') ?_ (fun a r h => ema_nil ⟨rfl, h⟩) ?_
        · refine em_callF (o := true) (p := a) (fd := fd) (n := 18) (RF := R_word) rfl ((ea_cons (lenP ev_var) (ea_cons (ev_int (i := ((12 : Nat) : Int))) ea_nil)).em) ?_ (by omega) ?_
          · rintro _ _ ⟨rfl, rfl⟩
            exact ⟨fd, rfl, hf, dS [], n, 12, [], n1, n2, by decide, by decide, (fun z h => by cases h), rfl, rfl⟩
          · rintro _ _ _ fd' ⟨rfl, rfl⟩ ⟨n', m', ws, _, _, _, w1, w2, w3, rfl⟩ hf'
            simp only [List.cons.injEq, PyData.int.injEq, and_true] at w3
            have en : n = n' := by omega
            subst en
            exact ⟨ws, fd', w1, w2, rfl, hf', rfl⟩
        · rintro _ _ _ _ _ ⟨rfl, ws, fd', w1, w2, rfl, w3, rfl⟩
          exact ⟨ws, fd', w1, w2, rfl, w3, rfl⟩
      · rintro _ _ _ _ ⟨rfl, _⟩ ⟨ws, fd', w1, w2, rfl, w3, rfl⟩
        exact ⟨ws, fd', w1, w2, rfl, w3, rfl⟩
    · rintro _ _ ⟨ws, fd', w1, w2, rfl, w3, rfl⟩
      exact ⟨dS (List.range n), n, ws, _, n1, n2, by omega, w2, List.Perm.refl _, rfl, rfl⟩
    · rintro _ _ _ ⟨ws, fd', w1, w2, rfl, w3, rfl⟩ ⟨n', ws', q, _, _, _, _, hq, e, rfl⟩
      simp only [List.cons.injEq, PyData.int.injEq, and_true] at e
      have en : n' = n := by omega
      subst en
      exact ⟨q, fd', hq, rfl, w3, rfl⟩
  · rintro _ _ ⟨q, fd', hq, rfl, hf', rfl⟩
    exact ⟨rfl, q, fd', hq, hf', rfl⟩
  rintro _ ⟨q, fd2, hq, f2, rfl⟩
  have lq := perm_len hq
  obtain ⟨r, hrp, hrc⟩ := join_ok hp hq
  have hj : R_join [dS p, dS q] (dS r) := ⟨n, p, q, r, hp, hq, hrp, n1, n2, hrc, rfl, rfl⟩
  have due_is : tab n (mp (cn p) (cn q) n) = tab n (cn r) := tab_congr fun i j hi hj => (hrc i j hi hj).symm
  refine ss_seq (N1 := fun x => x = [.im scr, .im kk, .ml true a fd2, .im (dS p), .im (dS q), .im (dS r), e6, e7, e8, e9, e10]) (ss_asg (ev_call (R := R_join) (ea_cons ev_var (ea_cons ev_var ea_nil)) hj) rfl) ?_
  rintro _ rfl
  let due : PyData := dT (tab n (cn r))
  refine ss_seq (N1 := fun x => x = [.im scr, .im kk, .ml true a fd2, .im (dS p), .im (dS q), .im (dS r), .im due, e7, e8, e9, e10]) (ss_asg (ev_call (R := R_least_sums) (ea_cons (ev_call (R := R_counts_of) (d := dT (tab n (cn p))) (ea_cons ev_var ea_nil) ⟨p, by omega, by omega, rfl, by rw [lp]⟩) (ea_cons (ev_call (R := R_counts_of) (d := dT (tab n (cn q))) (ea_cons ev_var ea_nil) ⟨q, by omega, by omega, rfl, by rw [lq]⟩) ea_nil)) ⟨n, cn p, cn q, n2, rfl, by rw [due_is]⟩) rfl) ?_
  rintro _ rfl
  have lr := perm_len hrp
  let s7 : Rho := [.im scr, .im kk, .ml true a fd2, .im (dS p), .im (dS q), .im (dS r), .im due, e7, e8, e9, e10]
  refine ss_seq (N1 := fun x => x = s7) (ss_if (b := false || (false || false)) (et_or (et_sameS (ev_reprT hrp n2 (ev_call (R := R_counts_table) (ea_cons ev_var ea_nil) ⟨n, r, hrp, n1, n2, rfl, rfl⟩)) (ev_reprT hrp n2 ev_var)) fun _ => et_or (et_sameS (ev_reprT hrp n2 (ev_call (R := R_counts_of) (ea_cons ev_var ea_nil) ⟨r, by omega, by omega, rfl, by rw [lr]⟩)) (ev_reprT hrp n2 ev_var)) fun _ => et_sameS (ev_reprS hrp n2 (ev_call (R := R_strands_of) (ea_cons ev_var ea_nil) ⟨n, r, hrp, n1, n2, rfl, rfl⟩)) (ev_reprS hrp n2 ev_var)) (fun h => by cases h) (fun _ => ss_next rfl)) ?_
  rintro _ rfl
  refine ss_seq (N1 := fun x => x = s7) (ss_if (b := false) (et_sameS (ev_reprS hrp n2 (ev_kw ev_var ev_var hj)) (ev_reprS hrp n2 ev_var)) (fun h => by cases h) (fun _ => ss_next rfl)) ?_
  rintro _ rfl
  refine ss_seq (N1 := fun x => x = s7) (ss_if (b := decide ((n : Int) < 8)) (et_test (ev_cmpI (p := fun i j => decide (i < j)) (lenP ev_var) ev_int)) (fun h => ?_) (fun _ => ss_next rfl)) ?_
  · have h8 : n ≤ 7 := by
      have := of_decide_eq_true h
      omega
    refine ss_if (b := false || false) (et_or (et_sameS (ev_reprT hrp n2 (ev_call (R := R_product) (ea_cons (ev_call (R := R_counts_table) (ea_cons ev_var ea_nil) ⟨n, p, hp, n1, n2, rfl, rfl⟩) (ea_cons (ev_call (R := R_counts_table) (ea_cons ev_var ea_nil) ⟨n, q, hq, n1, n2, rfl, rfl⟩) ea_nil)) ⟨n, cn p, cn q, h8, rfl, by rw [due_is]⟩)) (ev_reprT hrp n2 ev_var)) fun _ => (et_test (ev_op (ev_call (R := R_is_straight) (d := .bool true) (ea_cons ev_var ea_nil) ⟨n, cn r, h8, un_straight (unit_of_perm hrp), rfl, rfl⟩) ev_bl rv_notB)).is rfl) (fun h => by cases h) (fun _ => ss_next rfl)
  rintro _ rfl
  let s7' := fun (fd : List PyData) => ([.im scr, .im kk, .ml true a fd, .im (dS p), .im (dS q), .im (dS r), .im due, e7, e8, e9, e10] : Rho)
  refine ss_seq (N1 := fun x => ∃ (b b2 u : PyData) (fd : List PyData), isStr b = false ∧ isStr b2 = false ∧ isStr u = true ∧ lenT u ≠ n ∧ x = [.im scr, .im kk, .ml true a fd, .im (dS p), .im (dS q), .im (dS r), .im due, .im b, .im b2, .im u, e10])
    (ss_par3E (RA := fun ds x => ∃ (b b2 u : PyData) (fd : List PyData), isStr b = false ∧ isStr b2 = false ∧ isStr u = true ∧ lenT u ≠ n ∧ ds = [b, b2, u] ∧ x = s7' fd) (ema_cons (R1 := fun d x => isStr d = false ∧ ∃ fd, FeedD (31 + 1) fd ∧ x = s7' fd) (RB := fun _ ds x => ∃ (b2 u : PyData) (fd : List PyData), isStr b2 = false ∧ isStr u = true ∧ lenT u ≠ n ∧ ds = [b2, u] ∧ x = s7' fd) (em_bad (o := true) (a := a) (fd := fd2) (n := 31) (m := n) (p := p) rfl f2 (by omega) hp n1 n2 ev_var) ?_ ?_) (by decide) (by decide) (by decide) ?_) ?_
  · rintro _ _ ⟨_, fd, hf, rfl⟩
    refine ema_cons (R1 := fun d x => isStr d = false ∧ ∃ fd, FeedD (31 + 1 + 1) fd ∧ x = s7' fd) (RB := fun _ ds x => ∃ (u : PyData) (fd : List PyData), isStr u = true ∧ lenT u ≠ n ∧ ds = [u] ∧ x = s7' fd) (em_bad (o := true) (a := a) (fd := fd) (n := 31 + 1) (m := n) (p := q) rfl hf (by omega) hq n1 n2 ev_var) ?_ ?_
    · rintro _ _ ⟨_, fd, hf, rfl⟩
      refine ema_cons (R1 := fun d x => isStr d = true ∧ lenT d ≠ n ∧ ∃ fd, x = s7' fd) (RB := fun d ds x => ds = [] ∧ isStr d = true ∧ lenT d ≠ n ∧ ∃ fd, x = s7' fd) ?_ (fun a r h => ema_nil ⟨rfl, h⟩) ?_
      · refine em_callF (o := true) (p := a) (fd := fd) (n := 33) (RF := R_unlike) rfl ((ea_cons ev_var ea_nil).em) ?_ (by omega) ?_
        · rintro _ _ ⟨rfl, rfl⟩
          obtain ⟨m, m1, m2, m3⟩ : ∃ m : Nat, 1 ≤ m ∧ m ≤ 12 ∧ m ≠ n := by
            by_cases c : n = 1
            · exact ⟨2, by omega, by omega, by omega⟩
            · exact ⟨1, by omega, by omega, by omega⟩
          exact ⟨fd, rfl, hf, _, n, m, p, List.range m, lp, n2, m1, m2, m3, List.Perm.refl _, rfl, rfl⟩
        · rintro _ _ _ fd' ⟨rfl, rfl⟩ ⟨n', m, p', u, l', _, m1, m2, m3, hu, e, rfl⟩ hf'
          have en : n' = n := by
            have z := congrArg (fun l : List PyData => (l.map lenT)) e
            simp only [List.map_cons, List.map_nil, List.cons.injEq, and_true, lenT, dS, dR, List.length_map, nats_len] at z
            omega
          refine ⟨isStr_perm hu m1 m2, ?_, fd', rfl⟩
          show ((nats u).map PyData.int).length ≠ n
          rw [List.length_map, nats_len, perm_len hu]
          omega
      · rintro _ _ _ _ _ ⟨rfl, g1, g2, fd, rfl⟩
        exact ⟨_, fd, g1, g2, rfl, rfl⟩
    · rintro _ _ _ _ ⟨g0, _⟩ ⟨u, fd, g1, g2, rfl, rfl⟩
      exact ⟨_, u, fd, g0, g1, g2, rfl, rfl⟩
  · rintro _ _ _ _ ⟨g0, _⟩ ⟨b2, u, fd, g1, g2, g3, rfl, rfl⟩
    exact ⟨_, b2, u, fd, g0, g1, g2, g3, rfl, rfl⟩
  · rintro _ _ ⟨b, b2, u, fd, g0, g1, g2, g3, rfl, rfl⟩
    exact ⟨b, b2, u, rfl, rfl, rfl, rfl, b, b2, u, fd, g0, g1, g2, g3, rfl⟩
  rintro _ ⟨b, b2, u, fd3, g0, g1, g2, g3, rfl⟩
  have ip : isStr (dS p) = true := isStr_perm hp n1 n2
  have iq : isStr (dS q) = true := isStr_perm hq n1 n2
  have lenp : lenT (dS p) = n := by
    show ((nats p).map PyData.int).length = n
    rw [List.length_map, nats_len, lp]
  let due5 : List PyData := [.str "strands", .str "strands", .str "strands", .str "sizes", .str "strands"]
  have wd : ∀ {x y : PyData}, (isStr x && isStr y) = false → R_word_of [x, y] (.str "strands") := fun h => ⟨_, _, (fun h' => by rw [h] at h'; cases h'), rfl, by rw [bad_word h]⟩
  refine ss_seq (N1 := fun x => x = [.im scr, .im kk, .ml true a fd3, .im (dS p), .im (dS q), .im (dS r), .im due, .im b, .im b2, .im u, .im (.list due5)])
    (ss_asg (ev_lst (ea_cons (ev_call (R := R_word_of) (ea_cons ev_var (ea_cons ev_var ea_nil)) (wd (by rw [g0]; rfl))) (ea_cons (ev_call (R := R_word_of) (ea_cons ev_var (ea_cons ev_var ea_nil)) (wd (by rw [g0]; rfl))) (ea_cons (ev_call (R := R_word_of) (ea_cons ev_var (ea_cons ev_var ea_nil)) (wd (by rw [g1, Bool.and_false])))
      (ea_cons (ev_call (R := R_word_of) (d := .str "sizes") (ea_cons ev_var (ea_cons ev_var ea_nil)) ⟨_, _, (fun _ => by rw [lenp]; exact fun z => g3 z.symm), rfl, by unfold wordOf; rw [ip, g2]; rfl⟩) (ea_cons (ev_call (R := R_word_of) (ea_cons ev_var (ea_cons ev_var ea_nil)) (wd (by rw [g0]; rfl))) ea_nil))))) (show 5 ≤ 100000 by decide)) rfl) ?_
  rintro _ rfl
  refine ss_if (b := false) ((et_test (ev_op ev_var (ev_lst (ea_cons ev_str (ea_cons ev_str (ea_cons ev_str (ea_cons ev_str (ea_cons ev_str ea_nil))))) (show 5 ≤ 100000 by decide)) (rv_neD (a := .list due5) (b := .list due5) (by decide +kernel) (by decide +kernel) (by decide +kernel) (by decide +kernel)))).is (by decide +kernel)) (fun h => by cases h) (fun _ => ss_next ⟨_, _, _, _, _, _, _, _, _, rfl⟩)
end
end Jn
set_option maxHeartbeats 8000000
/-! the law's call, told at its one caller: there nothing is under repr yet -/
namespace Jn
open PySem
open PySem.Spec PyProof.Rows
open L2
open Ma
/-- what is tracked at the call: the script, unless the module has it -/
def scriptHp (K : PySem.W.Frag) (a : Addr) (ob : Obj) (xs : List V) : Hp := fun c => if c = a ∧ K.lookup a = none then some (.frz ob (.lst xs)) else none
theorem scriptHp_some {K : PySem.W.Frag} {a c : Addr} {ob : Obj} {xs : List V} {u : HO} (h : scriptHp K a ob xs c = some u) : c = a ∧ K.lookup a = none ∧ u = .frz ob (.lst xs) := by
  unfold scriptHp at h
  split at h
  · rename_i hc
    cases h
    exact ⟨hc.1, hc.2, rfl⟩
  · cases h
section
variable {P : Program} {w : World} {K : PySem.W.Frag} {mg mb : Str → Option Value} {fa a : Addr} {st : Shared} {us : List Value} {ns : List Int}
theorem law_goes (inK : K.In st.heap) (glob : st.heap.Ns mainGlobals mg) (blt : st.heap.Ns builtinsNs mb) (boot : ∀ y : Str, y ≠ "__name__" → mb y = bootBuiltins y) (nolim : st.heap.NoLimit) (nogen : st.gens = #[])
    (obj : st.heap.get? a = some { cls := .type "list", data := .seq us.toArray }) (intsA : IntsAre us ns) (few : ns.length ≤ sizeLine)
    (F : ∀ (base : Heap) (H : Hp), Env0 P w K mg base callerA [] st H → SqL K H a (ns.map V.int) → codeAny (model P w) callerA (.call (.ref fa) ⟨[.ref a], []⟩) (CR CX0 [] P w H st (fun v _ => v = .bl true) (fun _ _ _ => False)) st) :
    codeAny (model P w) callerA (.call (.ref fa) ⟨[.ref a], []⟩) (fun r z => r = .ok (.ret (.bool true)) ∧ OldK st.heap z.heap ∧ z.os = st.os ∧ AllBare z.gens) st := by
  have vals := vals_ints intsA
  have cnt := intsA.length
  generalize hob : ({ cls := .type "list", data := .seq us.toArray } : Obj) = ob at obj
  let H : Hp := scriptHp K a ob (ns.map V.int)
  have only : ∀ {c : Addr} {u : HO}, H c = some u → c = a ∧ K.lookup a = none ∧ u = .frz ob (.lst (ns.map V.int)) := fun h => scriptHp_some h
  have hS : SqL K H a (ns.map V.int) := by
    cases e : K.lookup a with
    | none => exact .inl (.inr ⟨ob, if_pos ⟨rfl, e⟩⟩)
    | some o2 =>
      have z := inK a o2 e
      rw [obj] at z
      cases z
      subst hob
      exact .inr ⟨_, us.toArray, _, e, rfl, rfl, rfl, by rw [List.size_toArray, cnt]; exact few, by simpa using vals⟩
  have tracked : HOk P w H st.heap := fun c u h => by
    obtain ⟨e1, _, e3⟩ := only h
    subst e1 e3
    subst hob
    exact ⟨obj, by rw [List.length_map]; exact few, us, _, vals, obj⟩
  have plain : ∀ {c : Addr} {o2 : Obj} {es : Array DictEntry} {ep : Nat}, st.heap.get? c = some o2 → o2.data = .dict es ep → H c = none := fun {c o2 es ep} e d => by
    cases h : H c with
    | none => rfl
    | some u =>
      obtain ⟨e1, _, _⟩ := only h
      subst e1
      rw [obj] at e
      cases e
      subst hob
      cases d
  have hidNs : ∀ {c : Addr} {m : Str → Option Value}, st.heap.Ns c m → (hidT st.heap H).Ns c m := fun {c m} ⟨o2, es, ep, e, d, rest⟩ => ⟨o2, es, ep, hidT_get e (plain e d), d, rest⟩
  have hidK : K.In (hidT st.heap H) := fun c o2 e => by
    refine hidT_get (inK c o2 e) ?_
    cases h : H c with
    | none => rfl
    | some u =>
      obtain ⟨e1, e2, _⟩ := only h
      rw [e1, e2] at e
      cases e
  have md : Mod K mg (hidT st.heap H) := by
    obtain ⟨mc, q1, q2⟩ := nolim
    exact ⟨hidK, hidNs glob, ⟨mb, hidNs blt, boot⟩, ⟨mc, hidNs q1, q2⟩⟩
  have entry : Env0 P w K mg (hidT st.heap H) callerA [] st H :=
    ⟨rfl, md, fun c o2 e => of_hidT e, by rw [hidT_size]; exact Nat.le_refl _, trivial, fun c hc => (List.not_mem_nil hc).elim, tracked, AllBare.of_eq nogen⟩
  refine codeAny_mono (F _ H entry hS) fun fin z got => ?_
  match fin, got with
  | .error e, got => exact got.elim
  | .ok (.ret u), ⟨v, H2, os, bare, un, hok2, rel, isT⟩ =>
    have isT' : v = .bl true := isT
    subst isT'
    have ru : u = Value.bool true := rel
    subst ru
    refine ⟨rfl, OldK.of_keep fun c o2 e => ?_, os, bare⟩
    cases h : H c with
    | none => exact un.keep c o2 e h (fun hc => (List.not_mem_nil hc).elim) (by simp)
    | some u2 =>
      obtain ⟨_, _, e3⟩ := only h
      rw [e3] at h
      obtain ⟨z1, _⟩ := tracked c _ h
      obtain ⟨z2, _⟩ := hok2 c _ (un.frzs c ob _ h)
      rw [e] at z1
      cases z1
      exact z2
/-- the def itself, at that caller -/
theorem law_def {base : Heap} {fd : FuncData} {H : Hp} (D : FnP K "law" s_law fa fd) (room : Room 7 callerA) (e0 : Env0 P w K mg base callerA [] st H) (hS : SqL K H a (ns.map V.int))
    (body : ∀ (cdv : Value), ∃ t, PSs (cxOf CX0 P w K mg base ["_law_script", "_law_k", "_law_feed_here", "_law_one_here", "_law_other", "_law_told", "_law_due", "_law_bad", "_law_worse", "_law_unlike_here", "_law_words"] "law" (defScope s_law) fa cdv callerA [] st H (fun _ _ _ => False)).nox (defBody s_law) t ∧ ∀ ns : List Int, Ss K t (.im (.list (ns.map .int)) :: List.replicate 10 .no) (fun _ => False) (fun d _ => d = .bool true)) :
    codeAny (model P w) callerA (.call (.ref fa) ⟨[.ref a], []⟩) (CR CX0 [] P w H st (fun v _ => v = .bl true) (fun _ _ _ => False)) st := by
  have bt : BindsTo st fd ⟨[.ref a], []⟩ ((["_law_script"] : List Str).zip [.ref a]) := FunD.bindsA (ps := ["_law_script"]) D (fun _ _ _ _ _ _ us hl => match us, hl with | [_], _ => rfl) st [.ref a] rfl
  obtain ⟨oc, od, dV, kV, doc, pm, an, cdv, ct, osl, rfl, look, isCode, _, _⟩ := D.ex
  have inK : K.In st.heap := e0.mod.kin.keeps fun c o e => (e0.bs c o e).1
  have nolim : st.heap.NoLimit := e0.mod.nolimit.keeps fun c o e => (e0.bs c o e).1
  refine codeAny_call_function room.depth (inK _ _ look) rfl sc_law.co sc_law.gen rfl (PySem.W.codeRec_of inK isCode) (bt _ _ _ _ ?_)
  have kinds : ∀ y ∈ (["_law_script"] : List Str).zip [Value.ref a], (defScope s_law).names.lookup y.1 = some .local ∨ ((defScope s_law).names.lookup y.1 = some .cell ∧ ((cellsFrom (st.heap.objs.size + 1) (defScope s_law).names []).lookup y.1).isSome = true) := fun ⟨y, v⟩ hy =>
    (sc_law.par y (List.of_mem_zip hy).1).imp id fun q => ⟨q, PySem.W.cellsFrom_some _ _ _ (.inl q)⟩
  refine wpAny_newFunctionEnv_cells sc_law.kind kinds fun env isEnv s1 x => ?_
  subst isEnv
  refine ⟨nolim.keeps x.toInCall.keep, codeAny_func ?_⟩
  obtain ⟨t, derived, reads⟩ := body cdv
  have start0 : Inv (cxOf CX0 P w K mg base ["_law_script", "_law_k", "_law_feed_here", "_law_one_here", "_law_other", "_law_told", "_law_due", "_law_bad", "_law_worse", "_law_unlike_here", "_law_words"] "law" (defScope s_law) fa cdv callerA [] st H (fun _ _ _ => False)) [] (L2.start ["_law_script", "_law_k", "_law_feed_here", "_law_one_here", "_law_other", "_law_told", "_law_due", "_law_bad", "_law_worse", "_law_unlike_here", "_law_words"] [.ref a]) H s1 := inv_start sc_law room.hd e0 rfl (.cons rfl .nil) x
  have okS : Ok K (fun _ => False) H H H H (L2.start ["_law_script", "_law_k", "_law_feed_here", "_law_one_here", "_law_other", "_law_told", "_law_due", "_law_bad", "_law_worse", "_law_unlike_here", "_law_words"] [.ref a]) (.im (.list (ns.map .int)) :: List.replicate 10 .no) :=
    ⟨Fx.refl (Same.refl _), sd_start (ds := [.list (ns.map .int)]) (.cons (.lst hS (dq_ints K H ns)) .nil) (show 1 ≤ 11 by decide), fun i o p es h => absurd h (no_ml (ds := [.list (ns.map .int)])), fun i j o p es o' es' h => absurd h (no_ml (ds := [.list (ns.map .int)]))⟩
  refine wpAny_mono ((PSs.nox derived).run [] s1 _ H { nx := fun _ _ => False, rt := fun v _ => v = .bl true } start0 (reads ns (fun _ => False) H H _ H H _ okS (fun _ _ _ _ z _ => z) fun v d _ _ _ _ z _ dq => ?_)) (fun fl z got => ?_) fun e z got => got
  · subst z
    cases dq
    rfl
  · match fl, got with
    | .ret u, ⟨v, _, H', J, rv, q⟩ => exact ⟨v, H', J.os, J.bare, J.base, J.hok, rv, q⟩
    | .next, ⟨_, _, _, q⟩ => exact q.elim
    | .brk, ⟨_, _, _, q⟩ => exact q.elim
    | .cont, ⟨_, _, _, q⟩ => exact q.elim
end
end Jn
set_option maxHeartbeats 8000000
/-! all together -/
namespace Jn
open PySem
open PySem.Spec PyProof.Rows
open L2
structure Ds (K : PySem.W.Frag) (mg : Str → Option Value) : Prop where
  d_is_integer : Dfn K mg "is_integer" (topS 7)
  d_is_row_of : Dfn K mg "is_row_of" (topS 8)
  d_are_integers : Dfn K mg "are_integers" (topS 9)
  d_are_strands : Dfn K mg "are_strands" (topS 12)
  d_counts_of : Dfn K mg "counts_of" (topS 13)
  d_are_counts_rows : Dfn K mg "are_counts_rows" (topS 14)
  d_ends_of : Dfn K mg "ends_of" (topS 15)
  d_strands_from : Dfn K mg "strands_from" (topS 16)
  d_least_sum : Dfn K mg "least_sum" (topS 17)
  d_join : Dfn K mg "join" (topS 18)
  d_need_strands : Dfn K mg "need_strands" (topS 20)
  d_need_like : Dfn K mg "need_like" (topS 21)
  d_counts_table : Dfn K mg "counts_table" (topS 22)
  d_strands_of : Dfn K mg "strands_of" (topS 23)
  d_joined : Dfn K mg "joined" (topS 24)
  d_columns_of : Dfn K mg "columns_of" (topS 26)
  d_sums_by : Dfn K mg "sums_by" (topS 27)
  d_least_sums : Dfn K mg "least_sums" (topS 28)
  d_width : Dfn K mg "width" (topS 30)
  d_gain_of : Dfn K mg "gain_of" (topS 31)
  d_gain_at : Dfn K mg "gain_at" (topS 32)
  d_gains_of : Dfn K mg "gains_of" (topS 33)
  d_first_paying : Dfn K mg "first_paying" (topS 34)
  d_is_straight_table : Dfn K mg "is_straight_table" (topS 35)
  d_is_table_form : Dfn K mg "is_table_form" (topS 38)
  d_need_table : Dfn K mg "need_table" (topS 39)
  d_need_two : Dfn K mg "need_two" (topS 41)
  d_product : Dfn K mg "product" (topS 42)
  d_is_straight : Dfn K mg "is_straight" (topS 44)
  d__law_feed : Dfn K mg "_law_feed" (topS 46)
  d__law_draw : Dfn K mg "_law_draw" (topS 47)
  d__law_one : Dfn K mg "_law_one" (topS 48)
  d__law_mixed : Dfn K mg "_law_mixed" (topS 49)
  d__law_strands : Dfn K mg "_law_strands" (topS 50)
  d__law_word : Dfn K mg "_law_word" (topS 51)
  d__law_comb : Dfn K mg "_law_comb" (topS 52)
  d__law_counts : Dfn K mg "_law_counts" (topS 53)
  d__law_product : Dfn K mg "_law_product" (topS 54)
  d__law_bad_strands : Dfn K mg "_law_bad_strands" (topS 55)
  d__law_unlike : Dfn K mg "_law_unlike" (topS 56)
  d__law_wide : Dfn K mg "_law_wide" (topS 57)
  d__law_word_of : Dfn K mg "_law_word_of" (topS 58)
section
variable {w : World} {K : PySem.W.Frag} {h : Heap} {mg : Str → Option Value}
theorem dfn_of (X : K.In h) (G : h.Ns mainGlobals mg) (c : He.SaysD hfa hfn K) {x : Str} {n : Nat} (i j : Nat) (hi : hfa[i]? = some (.glo x)) (hj : hfn[j]? = some (mkD x n)) : Dfn K mg x (topS n) := by
  obtain ⟨fd, F⟩ := c.def_ j hj
  exact ⟨_, fd, F, He.glo_ok X G (c.fact i hi)⟩
theorem ds_of (X : K.In h) (G : h.Ns mainGlobals mg) (c : He.SaysD hfa hfn K) : Ds K mg where
  d_is_integer := dfn_of X G c 0 0 rfl rfl
  d_is_row_of := dfn_of X G c 1 1 rfl rfl
  d_are_integers := dfn_of X G c 2 2 rfl rfl
  d_are_strands := dfn_of X G c 3 3 rfl rfl
  d_counts_of := dfn_of X G c 4 4 rfl rfl
  d_are_counts_rows := dfn_of X G c 5 5 rfl rfl
  d_ends_of := dfn_of X G c 6 6 rfl rfl
  d_strands_from := dfn_of X G c 7 7 rfl rfl
  d_least_sum := dfn_of X G c 8 8 rfl rfl
  d_join := dfn_of X G c 9 9 rfl rfl
  d_need_strands := dfn_of X G c 10 10 rfl rfl
  d_need_like := dfn_of X G c 11 11 rfl rfl
  d_counts_table := dfn_of X G c 12 12 rfl rfl
  d_strands_of := dfn_of X G c 13 13 rfl rfl
  d_joined := dfn_of X G c 14 14 rfl rfl
  d_columns_of := dfn_of X G c 15 15 rfl rfl
  d_sums_by := dfn_of X G c 16 16 rfl rfl
  d_least_sums := dfn_of X G c 17 17 rfl rfl
  d_width := dfn_of X G c 18 18 rfl rfl
  d_gain_of := dfn_of X G c 19 19 rfl rfl
  d_gain_at := dfn_of X G c 20 20 rfl rfl
  d_gains_of := dfn_of X G c 21 21 rfl rfl
  d_first_paying := dfn_of X G c 22 22 rfl rfl
  d_is_straight_table := dfn_of X G c 23 23 rfl rfl
  d_is_table_form := dfn_of X G c 24 24 rfl rfl
  d_need_table := dfn_of X G c 25 25 rfl rfl
  d_need_two := dfn_of X G c 26 26 rfl rfl
  d_product := dfn_of X G c 27 27 rfl rfl
  d_is_straight := dfn_of X G c 28 28 rfl rfl
  d__law_feed := dfn_of X G c 29 29 rfl rfl
  d__law_draw := dfn_of X G c 30 30 rfl rfl
  d__law_one := dfn_of X G c 31 31 rfl rfl
  d__law_mixed := dfn_of X G c 32 32 rfl rfl
  d__law_strands := dfn_of X G c 33 33 rfl rfl
  d__law_word := dfn_of X G c 34 34 rfl rfl
  d__law_comb := dfn_of X G c 35 35 rfl rfl
  d__law_counts := dfn_of X G c 36 36 rfl rfl
  d__law_product := dfn_of X G c 37 37 rfl rfl
  d__law_bad_strands := dfn_of X G c 38 38 rfl rfl
  d__law_unlike := dfn_of X G c 39 39 rfl rfl
  d__law_wide := dfn_of X G c 40 40 rfl rfl
  d__law_word_of := dfn_of X G c 41 41 rfl rfl
theorem tx_of (X : K.In h) (G : h.Ns mainGlobals mg) (c : He.SaysD hfa hfn K) : Tx mg where
  all := He.free_ok X G (c.fact 43 (f := .free "all") rfl)
  any := He.free_ok X G (c.fact 44 (f := .free "any") rfl)
  bool := He.free_ok X G (c.fact 45 (f := .free "bool") rfl)
  enumerate := He.free_ok X G (c.fact 46 (f := .free "enumerate") rfl)
  int := He.free_ok X G (c.fact 47 (f := .free "int") rfl)
  isinstance := He.free_ok X G (c.fact 48 (f := .free "isinstance") rfl)
  len := He.free_ok X G (c.fact 49 (f := .free "len") rfl)
  list := He.free_ok X G (c.fact 50 (f := .free "list") rfl)
  max := He.free_ok X G (c.fact 51 (f := .free "max") rfl)
  min := He.free_ok X G (c.fact 52 (f := .free "min") rfl)
  range := He.free_ok X G (c.fact 53 (f := .free "range") rfl)
  repr := He.free_ok X G (c.fact 54 (f := .free "repr") rfl)
  set := He.free_ok X G (c.fact 55 (f := .free "set") rfl)
  sorted := He.free_ok X G (c.fact 56 (f := .free "sorted") rfl)
  str := He.free_ok X G (c.fact 57 (f := .free "str") rfl)
  sum := He.free_ok X G (c.fact 58 (f := .free "sum") rfl)
  tuple := He.free_ok X G (c.fact 59 (f := .free "tuple") rfl)
  zip := He.free_ok X G (c.fact 60 (f := .free "zip") rfl)
  ms := He.int_ok X G (c.fact 61 (f := .int "MOST_STRANDS" 12) rfl)
  mr := He.int_ok X G (c.fact 62 (f := .int "MOST_ROWS" 8) rfl)
theorem exsS_of (X : K.In h) (G : h.Ns mainGlobals mg) (c : He.SaysD hfa hfn K) : Exs K mg "BadStrands" (He.ga K "BadStrands") := by
  obtain ⟨x1, x2, x3, x4⟩ := He.exc_ok (c.fact 66 (f := .exc "BadStrands") rfl)
  exact ⟨He.glo_ok X G (c.fact 64 (f := .glo "BadStrands") rfl), x1, x2, x3, x4⟩
theorem exsZ_of (X : K.In h) (G : h.Ns mainGlobals mg) (c : He.SaysD hfa hfn K) : Exs K mg "BadSizes" (He.ga K "BadSizes") := by
  obtain ⟨x1, x2, x3, x4⟩ := He.exc_ok (c.fact 67 (f := .exc "BadSizes") rfl)
  exact ⟨He.glo_ok X G (c.fact 65 (f := .glo "BadSizes") rfl), x1, x2, x3, x4⟩
theorem excC_of {C : Str} (e : excOk K C = true) (hs : PySem.W.subIn K (.ref (He.ga K C)) (.type "BaseException") = some true) : ExcC K (He.ga K C) := by
  obtain ⟨e1, e⟩ := He.ba e
  obtain ⟨e2, e⟩ := He.ba e
  obtain ⟨e3, e⟩ := He.ba e
  obtain ⟨e4, e⟩ := He.ba e
  obtain ⟨e5, e⟩ := He.ba e
  obtain ⟨e6, e7⟩ := He.ba e
  exact ⟨of_decide_eq_true e1, of_decide_eq_true e2, hs, of_decide_eq_true e3, of_decide_eq_true e4, of_decide_eq_true e5, of_decide_eq_true e6, of_decide_eq_true e7⟩
theorem exk_of (c : He.SaysD hfa hfn K) (e : hex K = true) (hS : PySem.W.subIn K (.ref (He.ga K "BadStrands")) (.type "BaseException") = some true) (hZ : PySem.W.subIn K (.ref (He.ga K "BadSizes")) (.type "BaseException") = some true) :
    Exk K (He.ga K "LeastError") (He.ga K "BadStrands") (He.ga K "BadSizes") := by
  obtain ⟨e1, e⟩ := He.ba e
  obtain ⟨e2, e⟩ := He.ba e
  obtain ⟨e3, e⟩ := He.ba e
  obtain ⟨e4, e5⟩ := He.ba e
  exact ⟨excC_of e1 hS, excC_of e2 hZ, He.exm_ok (c.fact 68 (f := .exm "BadStrands" "LeastError" true) rfl), He.exm_ok (c.fact 69 (f := .exm "BadSizes" "LeastError" true) rfl), of_decide_eq_true e3, of_decide_eq_true e4, of_decide_eq_true e5⟩
end
theorem law_all {P : Program} {w : World} {K : PySem.W.Frag} {mg : Str → Option Value} {base : Heap} {CL CS CZ : Addr} (T : Tx mg) (D : Ds K mg) (gL : mg "LeastError" = some (.ref CL)) (XS : Exs K mg "BadStrands" CS) (XZ : Exs K mg "BadSizes" CZ) (X : Exk K CL CS CZ)
    (f : Addr) (cdv : Value) (A : Around) (outer : List Env) (s : Shared) (H : Hp) (E : XK) (hgd : A.guards = some []) (hr : Room 6 (A.deeper (envOfC "law" (defScope s_law) s.heap.objs.size f cdv))) :
    ∃ t, PSs (cxOf CX0 P w K mg base ["_law_script", "_law_k", "_law_feed_here", "_law_one_here", "_law_other", "_law_told", "_law_due", "_law_bad", "_law_worse", "_law_unlike_here", "_law_words"] "law" (defScope s_law) f cdv A outer s H E).nox (defBody s_law) t ∧ ∀ ns : List Int, Ss K t (.im (.list (ns.map .int)) :: List.replicate 10 .no) (fun _ => False) (fun a _ => a = .bool true) := by
  have C_is_integer := ok_is_integer (P := P) (w := w) (base := base) T D.d_is_integer 
  have C_is_row_of := ok_is_row_of (P := P) (w := w) (base := base) T D.d_is_row_of 
  have C_are_integers := ok_are_integers (P := P) (w := w) (base := base) T D.d_are_integers C_is_integer C_is_row_of
  have C_are_strands := ok_are_strands (P := P) (w := w) (base := base) T D.d_are_strands C_is_integer
  have C_counts_of := ok_counts_of (P := P) (w := w) (base := base) T D.d_counts_of 
  have C_are_counts_rows := ok_are_counts_rows (P := P) (w := w) (base := base) T D.d_are_counts_rows C_is_integer
  have C_ends_of := ok_ends_of (P := P) (w := w) (base := base) T D.d_ends_of 
  have C_least_sum := ok_least_sum (P := P) (w := w) (base := base) T D.d_least_sum 
  have C_strands_from := ok_strands_from (P := P) (w := w) (base := base) T D.d_strands_from C_are_counts_rows C_ends_of C_are_strands C_counts_of
  have C_join := ok_join (P := P) (w := w) (base := base) T D.d_join C_counts_of C_least_sum C_strands_from
  have C_need_strands := ok_need_strands (P := P) (w := w) (base := base) T D.d_need_strands C_are_strands
  have C_need_like := ok_need_like (P := P) (w := w) (base := base) T D.d_need_like C_need_strands
  have C_counts_table := ok_counts_table (P := P) (w := w) (base := base) T D.d_counts_table C_need_strands C_counts_of
  have C_strands_of := ok_strands_of (P := P) (w := w) (base := base) T D.d_strands_of C_strands_from
  have C_joined := ok_joined (P := P) (w := w) (base := base) T D.d_joined C_need_like C_join
  have C_columns_of := ok_columns_of (P := P) (w := w) (base := base) T D.d_columns_of 
  have C_sums_by := ok_sums_by (P := P) (w := w) (base := base) T D.d_sums_by 
  have C_least_sums := ok_least_sums (P := P) (w := w) (base := base) T D.d_least_sums C_columns_of C_sums_by
  have C_width := ok_width (P := P) (w := w) (base := base) T D.d_width 
  have C_gain_of := ok_gain_of (P := P) (w := w) (base := base) T D.d_gain_of 
  have C_gain_at := ok_gain_at (P := P) (w := w) (base := base) T D.d_gain_at C_gain_of
  have C_gains_of := ok_gains_of (P := P) (w := w) (base := base) T D.d_gains_of C_gain_at C_width
  have C_first_paying := ok_first_paying (P := P) (w := w) (base := base) T D.d_first_paying C_gains_of
  have C_is_straight_table := ok_is_straight_table (P := P) (w := w) (base := base) T D.d_is_straight_table C_first_paying
  have C_is_table_form := ok_is_table_form (P := P) (w := w) (base := base) T D.d_is_table_form C_is_row_of C_are_integers
  have C_need_table := ok_need_table (P := P) (w := w) (base := base) T D.d_need_table C_is_table_form
  have C_need_two := ok_need_two (P := P) (w := w) (base := base) T D.d_need_two C_need_table
  have C_product := ok_product (P := P) (w := w) (base := base) T D.d_product C_need_two C_least_sums
  have C_is_straight := ok_is_straight (P := P) (w := w) (base := base) T D.d_is_straight C_need_table C_is_straight_table
  have C__law_feed := ok_law_feed (P := P) (w := w) (base := base) T D.d__law_feed 
  have C__law_draw := ok_law_draw (P := P) (w := w) (base := base) T D.d__law_draw 
  have C__law_one := ok_law_one (P := P) (w := w) (base := base) T D.d__law_one C__law_draw
  have C__law_mixed := ok_law_mixed (P := P) (w := w) (base := base) T D.d__law_mixed C__law_draw
  have C__law_comb := ok_law_comb (P := P) (w := w) (base := base) T D.d__law_comb 
  have C__law_word := ok_law_word (P := P) (w := w) (base := base) T D.d__law_word C__law_draw
  have C__law_strands := ok_law_strands (P := P) (w := w) (base := base) T D.d__law_strands C__law_draw C__law_mixed C__law_word C__law_comb
  have C__law_counts := ok_law_counts (P := P) (w := w) (base := base) T D.d__law_counts 
  have C__law_product := ok_law_product (P := P) (w := w) (base := base) T D.d__law_product 
  have C__law_bad_strands := ok_law_bad_strands (P := P) (w := w) (base := base) T D.d__law_bad_strands 
  have C__law_unlike := ok_law_unlike (P := P) (w := w) (base := base) T D.d__law_unlike C__law_one C__law_mixed
  have C__law_wide := ok_law_wide (P := P) (w := w) (base := base) T D.d__law_wide C__law_draw C__law_strands
  have Q_need_strands := ox_need_strands (P := P) (w := w) (base := base) T XS D.d_need_strands C_are_strands
  have Q_need_like := ox_need_like (P := P) (w := w) (base := base) T XZ D.d_need_like Q_need_strands
  have Q_joined := ox_joined (P := P) (w := w) (base := base) T D.d_joined C_join Q_need_like
  have C__law_word_of := ok_law_word_of (P := P) (w := w) (base := base) T gL XS XZ X D.d__law_word_of D.d_joined Q_joined
  exact law_body T D.d_joined C__law_feed C__law_draw C__law_one C__law_mixed C__law_word C__law_comb C__law_wide C__law_unlike C__law_bad_strands C__law_counts C__law_product C__law_word_of C_joined C_counts_table C_strands_of C_product C_is_straight f cdv A outer s H E hgd hr
/-- the walk of the law from the head's facts -/
theorem law_walk {q : Program} {loose : List Str} {XP : (Str → Option Value) → Heap → Prop} {d : DefRec} (hdf : d.params.defaults = []) (hnm : d.name = ("law" : Str)) :
    PySem.W.WalkO q loose XP (hhk.says) (PySem.Challenge.rw_straightleast_k79_whole_joined_by_least).row.toRowW d [] (fun f vs => PySem.call f vs) := by
  refine Att.attach_call (l := PySem.Challenge.rw_straightleast_k79_whole_joined_by_least) (n := 63) rfl hdf fun w s₀ s₁ mg mb fa o pm cd doc a vs ns G Y ho hd hcd hmg hobj hin hlen hg => ?_
  obtain ⟨K, KX, c⟩ := Y
  have cd2 := c.t.d
  have gm : mg ("law" : Str) = some (.ref fa) := by rw [← hnm]; exact hmg
  obtain ⟨fa2, fd, D, gm2⟩ := dfn_of KX G.T.g cd2 (x := "law") (n := 59) 42 42 rfl rfl
  have ef : fa2 = fa := Value.ref.inj (Option.some.inj (gm2.symm.trans gm))
  subst ef
  have XS := exsS_of KX G.T.g cd2
  have XZ := exsZ_of KX G.T.g cd2
  have room : Room 7 callerA := ⟨rfl, by decide, by decide⟩
  exact law_goes KX G.T.g G.T.b G.T.builtins G.T.nolimit hg hobj hin (Nat.le_trans hlen (by decide)) fun base H e0 hS => law_def D room e0 hS fun cdv =>
    law_all (tx_of KX G.T.g cd2) (ds_of KX G.T.g cd2) (He.glo_ok KX G.T.g (cd2.fact 63 (f := .glo "LeastError") rfl)) XS XZ (exk_of cd2 c.more XS.b XZ.b) fa2 cdv callerA [] s₁ H _ rfl (room.deeper _)
end Jn
open PySem PySem.W PySem.Calls PyProof.Rows
set_option maxHeartbeats 0 in
theorem PySem.Challenge.cw_straightleast_k79_whole_joined_by_least_holds : PySem.Challenge.rw_straightleast_k79_whole_joined_by_least.Holds := by
  w_on; o_law
  refine HandSHeadRun.head_any (r := OpenLaw.row PySem.Challenge.rw_straightleast_k79_whole_joined_by_least) (q := view (OpenLaw.row PySem.Challenge.rw_straightleast_k79_whole_joined_by_least).prog [59]) (H := Jn.hhk) (ob := Jn.hob) (M := 3500) (loose := Jn.hloose) (d := HandSHeadRun.topDef (OpenLaw.row PySem.Challenge.rw_straightleast_k79_whole_joined_by_least).prog 59) (kwd := []) Jn.hob_eq
    (by kernel_rfl) (fun s => by kernel_rfl) Jn.hrun (by kernel_rfl) (by kernel_rfl) (by kernel_rfl) (by rfl) (by first | assumption | decide +kernel) (by decide +kernel) ⟨rfl, rfl, rfl, rfl, rfl, by decide +kernel⟩ ?hw ?hc
  case hw => w_witness2
  case hc => exact Jn.law_walk (by kernel_rfl) (by kernel_rfl)
