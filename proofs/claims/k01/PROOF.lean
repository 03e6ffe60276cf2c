import PyProof.Rows.All
import Wide.All
import OpenK.AllK
import Wide.FinOn
import PySem.Challenge.RW_tillcoins_k01_systems
import HandS.Text
import HandS.ForMost
import HandS.ForExc
import HandS.Evl
import HandS.IsInst
import HandS.TupAny
import HandS.SortInts
import HandS.Strs
import HandS.Conv
import HandS.Style
import HandS.Zip
import HandS.SetFor
import HandS.SortKw
import KE.KTupSum
import KE.KMinBuiltin
import HandS.TupMul
import HandS.ExcIs
import HandS.SuiteRaise
import HandS.HotCalls
import HandS.ExcCtx
set_option Elab.async false
set_option linter.all false
set_option maxRecDepth 100000
set_option maxHeartbeats 4000000
/-! The mathematics of coins, in plain Lean: the fewest coins, the greatest first, first faults. -/
namespace Coin
/-! ### a least one -/
theorem least {p : Nat → Prop} : ∀ n, p n → ∃ m, p m ∧ ∀ k, p k → m ≤ k := by
  intro n
  induction n using Nat.strongRecOn with
  | ind n ih =>
    intro h
    by_cases q : ∃ k, k < n ∧ p k
    · obtain ⟨k, hk, pk⟩ := q
      exact ih k hk pk
    · exact ⟨n, h, fun k pk => by
        by_cases hk : k < n
        · exact absurd ⟨k, hk, pk⟩ q
        · omega⟩
/-- k coins of cs come to n -/
inductive Pay (cs : List Nat) : Nat → Nat → Prop
  | zero : Pay cs 0 0
  | step {k n c : Nat} : c ∈ cs → Pay cs k n → Pay cs (k + 1) (n + c)
theorem Pay.add {cs : List Nat} {k n j m : Nat} (h : Pay cs k n) (h' : Pay cs j m) : Pay cs (k + j) (n + m) := by
  induction h with
  | zero => simpa using h'
  | @step k n c hc _ ih =>
    have e1 : k + 1 + j = k + j + 1 := by omega
    have e2 : n + c + m = n + m + c := by omega
    rw [e1, e2]
    exact .step hc ih
theorem Pay.one {cs : List Nat} {c : Nat} (h : c ∈ cs) : Pay cs 1 c := by
  have := Pay.step h Pay.zero
  simpa using this
theorem Pay.ones {cs : List Nat} (h : 1 ∈ cs) : ∀ n, Pay cs n n
  | 0 => .zero
  | n + 1 => .step h (Pay.ones h n)
theorem Pay.times {cs : List Nat} {c : Nat} (h : c ∈ cs) : ∀ n, Pay cs n (n * c)
  | 0 => by simpa using Pay.zero
  | n + 1 => by
    have := Pay.step h (Pay.times h n)
    rw [Nat.succ_mul]
    exact this
theorem Pay.mono {cs ds : List Nat} (h : ∀ c ∈ cs, c ∈ ds) {k n : Nat} (p : Pay cs k n) : Pay ds k n := by
  induction p with
  | zero => exact .zero
  | step hc _ ih => exact .step (h _ hc) ih
/-- coins no greater than n do -/
theorem Pay.small {cs ds : List Nat} {k n : Nat} (h : ∀ c ∈ cs, c ≤ n → c ∈ ds) (p : Pay cs k n) : Pay ds k n := by
  have : ∀ m, n ≤ m → (∀ c ∈ cs, c ≤ m → c ∈ ds) → Pay ds k n := by
    clear h
    induction p with
    | zero => intro _ _ _; exact .zero
    | step hc _ ih =>
      intro m hm h
      exact .step (h _ hc (by omega)) (ih m (by omega) h)
  exact this n (Nat.le_refl _) h
theorem Pay.pos {cs : List Nat} {k n : Nat} (p : Pay cs k n) (h : 0 < n) : 0 < k := by
  cases p with
  | zero => omega
  | step _ _ => omega
/-- a coin is the last one -/
theorem Pay.cases {cs : List Nat} {k n : Nat} (p : Pay cs (k + 1) n) : ∃ c, c ∈ cs ∧ c ≤ n ∧ Pay cs k (n - c) := by
  cases p with
  | step hc q => exact ⟨_, hc, by omega, by rwa [Nat.add_sub_cancel]⟩
/-! ### the fewest -/
open Classical in
noncomputable def fw (cs : List Nat) (n : Nat) : Nat := if h : ∃ k, Pay cs k n then choose (least (p := fun k => Pay cs k n) _ (choose_spec h)) else 0
section
variable {cs : List Nat}
theorem fw_spec {n : Nat} (h : ∃ k, Pay cs k n) : Pay cs (fw cs n) n ∧ ∀ k, Pay cs k n → fw cs n ≤ k := by
  unfold fw
  rw [dif_pos h]
  exact Classical.choose_spec (least (p := fun k => Pay cs k n) _ (Classical.choose_spec h))
theorem fw_pay (h1 : 1 ∈ cs) (n : Nat) : Pay cs (fw cs n) n := (fw_spec ⟨n, Pay.ones h1 n⟩).1
theorem fw_le {k n : Nat} (p : Pay cs k n) : fw cs n ≤ k := (fw_spec ⟨k, p⟩).2 k p
theorem fw_zero : fw cs 0 = 0 := Nat.le_zero.mp (fw_le .zero)
theorem fw_add (h1 : 1 ∈ cs) (n m : Nat) : fw cs (n + m) ≤ fw cs n + fw cs m := fw_le ((fw_pay h1 n).add (fw_pay h1 m))
theorem fw_coin {c : Nat} (h : c ∈ cs) : fw cs c ≤ 1 := fw_le (.one h)
theorem fw_self (h1 : 1 ∈ cs) (n : Nat) : fw cs n ≤ n := fw_le (Pay.ones h1 n)
theorem fw_pos (h1 : 1 ∈ cs) {n : Nat} (h : 0 < n) : 0 < fw cs n := (fw_pay h1 n).pos h
/-- one coin less -/
theorem fw_step (h1 : 1 ∈ cs) {n c : Nat} (hc : c ∈ cs) (h : c ≤ n) : fw cs n ≤ fw cs (n - c) + 1 := by
  have := fw_le ((fw_pay h1 (n - c)).add (Pay.one hc))
  rwa [Nat.sub_add_cancel h] at this
/-- the last coin of a best way -/
theorem fw_ex (h1 : 1 ∈ cs) {n : Nat} (h : 0 < n) : ∃ c, c ∈ cs ∧ c ≤ n ∧ fw cs n = fw cs (n - c) + 1 := by
  have p := fw_pay h1 n
  have hp := p.pos h
  obtain ⟨k, e⟩ : ∃ k, fw cs n = k + 1 := ⟨fw cs n - 1, by omega⟩
  rw [e] at p
  obtain ⟨c, hc, hn, q⟩ := p.cases
  have a := fw_le q
  have b := fw_step h1 hc hn
  exact ⟨c, hc, hn, by omega⟩
/-- it is the minimum that the rows take -/
theorem fw_min (h1 : 1 ∈ cs) {n m : Nat} (h : 0 < n) (hm : ∃ c, c ∈ cs ∧ c ≤ n ∧ m = fw cs (n - c)) (hl : ∀ c, c ∈ cs → c ≤ n → m ≤ fw cs (n - c)) : m + 1 = fw cs n := by
  obtain ⟨c, hc, hn, e⟩ := hm
  obtain ⟨d, hd, hdn, e2⟩ := fw_ex h1 h
  have a := fw_step h1 hc hn
  have b := hl d hd hdn
  omega
theorem fw_small {ds : List Nat} (h1 : 1 ∈ cs) (h2 : 1 ∈ ds) {n : Nat} (h : ∀ c ∈ cs, c ≤ n → c ∈ ds) (h' : ∀ c ∈ ds, c ≤ n → c ∈ cs) : fw cs n = fw ds n := by
  have a := fw_le ((fw_pay h1 n).small h)
  have b := fw_le ((fw_pay h2 n).small h')
  omega
end
/-! ### the greatest first: coins from the greatest on -/
def gr : List Nat → Nat → List Nat
  | [], _ => []
  | d :: ds, n => n / d :: gr ds (n % d)
def dot : List Nat → List Nat → Nat
  | v :: vs, d :: ds => v * d + dot vs ds
  | _, _ => 0
/-- the way, as the coins rise -/
def taken (cs : List Nat) (n : Nat) : List Nat := (gr cs.reverse n).reverse
/-- how many coins -/
def gs (cs : List Nat) (n : Nat) : Nat := (taken cs n).sum
theorem gr_len : ∀ (ds : List Nat) (n : Nat), (gr ds n).length = ds.length
  | [], _ => rfl
  | d :: ds, n => by
    show (gr ds (n % d)).length + 1 = ds.length + 1
    rw [gr_len]
theorem taken_len (cs : List Nat) (n : Nat) : (taken cs n).length = cs.length := by
  unfold taken
  rw [List.length_reverse, gr_len, List.length_reverse]
theorem sum_rev : ∀ l : List Nat, l.reverse.sum = l.sum
  | [] => rfl
  | x :: r => by
    rw [List.reverse_cons, List.sum_append, sum_rev r, List.sum_cons, List.sum_cons, List.sum_nil]
    omega
theorem gs_eq (cs : List Nat) (n : Nat) : gs cs n = (gr cs.reverse n).sum := by
  unfold gs taken
  exact sum_rev _
/-- coins that fall to 1 -/
structure Fall (ds : List Nat) : Prop where
  fall : ds.Pairwise (fun a b => b < a)
  pos : ∀ d ∈ ds, 0 < d
theorem Fall.tail {d : Nat} {ds : List Nat} (h : Fall (d :: ds)) : Fall ds := ⟨(List.pairwise_cons.mp h.fall).2, fun x hx => h.pos x (List.mem_cons_of_mem _ hx)⟩
theorem Fall.lt {d : Nat} {ds : List Nat} (h : Fall (d :: ds)) : ∀ x ∈ ds, x < d := (List.pairwise_cons.mp h.fall).1
theorem gr_zero : ∀ ds : List Nat, gr ds 0 = List.replicate ds.length 0
  | [] => rfl
  | d :: ds => by
    show 0 / d :: gr ds (0 % d) = List.replicate (ds.length + 1) 0
    rw [Nat.zero_div, Nat.zero_mod, gr_zero ds]
    rfl
theorem dot_gr : ∀ (ds : List Nat), ds.getLast? = some 1 → ∀ n, dot (gr ds n) ds = n
  | [], h, _ => by cases h
  | [d], h, n => by
    have e : d = 1 := Option.some.inj h
    subst e
    show n / 1 * 1 + 0 = n
    omega
  | d :: e :: ds, h, n => by
    have h' : (e :: ds).getLast? = some 1 := by rwa [List.getLast?_cons_cons] at h
    show n / d * d + dot (gr (e :: ds) (n % d)) (e :: ds) = n
    rw [dot_gr (e :: ds) h']
    exact Nat.div_add_mod' n d
/-- a way pays -/
theorem pay_way {cs : List Nat} : ∀ (vs ds : List Nat), vs.length = ds.length → (∀ d ∈ ds, d ∈ cs) → Pay cs vs.sum (dot vs ds)
  | [], [], _, _ => .zero
  | v :: vs, d :: ds, h, hd => by
    have ih := pay_way (cs := cs) vs ds (by simpa using h) fun x hx => hd x (List.mem_cons_of_mem _ hx)
    rw [List.sum_cons]
    exact (Pay.times (hd d List.mem_cons_self) v).add ih
  | [], _ :: _, h, _ => by simp at h
  | _ :: _, [], h, _ => by simp at h
/-! ### a system -/
structure Sys (cs : List Nat) : Prop where
  one : cs.head? = some 1
  rise : cs.Pairwise (· < ·)
section
variable {cs : List Nat}
theorem Sys.mem1 (h : Sys cs) : 1 ∈ cs := List.mem_of_mem_head? (by rw [h.one]; rfl)
theorem Sys.ne (h : Sys cs) : cs ≠ [] := fun e => by
  have := h.one
  rw [e] at this
  cases this
theorem Sys.pos (h : Sys cs) : ∀ c ∈ cs, 0 < c := fun c hc => by
  obtain ⟨a, r, e⟩ := List.exists_cons_of_ne_nil h.ne
  have h1 := h.one
  have h2 := h.rise
  subst e
  have : a = 1 := Option.some.inj h1
  subst this
  rcases List.mem_cons.mp hc with e | q
  · omega
  · have := (List.pairwise_cons.mp h2).1 c q
    omega
theorem Sys.fall (h : Sys cs) : Fall cs.reverse := ⟨List.pairwise_reverse.mpr h.rise, fun d hd => h.pos d (List.mem_reverse.mp hd)⟩
theorem Sys.last1 (h : Sys cs) : cs.reverse.getLast? = some 1 := by
  rw [List.getLast?_reverse]
  exact h.one
theorem dot_taken (h : Sys cs) (n : Nat) : dot (gr cs.reverse n) cs.reverse = n := dot_gr _ h.last1 n
theorem gs_pay (h : Sys cs) (n : Nat) : Pay cs (gs cs n) n := by
  have := pay_way (cs := cs) (gr cs.reverse n) cs.reverse (gr_len _ _) fun d hd => List.mem_reverse.mp hd
  rwa [← gs_eq, dot_taken h] at this
theorem fw_le_gs (h : Sys cs) (n : Nat) : fw cs n ≤ gs cs n := fw_le (gs_pay h n)
end
/-! ### what the greatest first does, coin by coin -/
theorem gr_small : ∀ (as ds : List Nat) (n : Nat), (∀ a ∈ as, n < a) → gr (as ++ ds) n = List.replicate as.length 0 ++ gr ds n
  | [], _, _, _ => rfl
  | a :: as, ds, n, h => by
    have ha := h a List.mem_cons_self
    show n / a :: gr (as ++ ds) (n % a) = 0 :: (List.replicate as.length 0 ++ gr ds n)
    rw [Nat.div_eq_of_lt ha, Nat.mod_eq_of_lt ha, gr_small as ds n fun x hx => h x (List.mem_cons_of_mem _ hx)]
theorem sum_zeros (k : Nat) : (List.replicate k 0).sum = 0 := by
  induction k with
  | zero => rfl
  | succ k ih => rw [List.replicate_succ, List.sum_cons, ih]
/-- the greatest coin that is no greater is taken, then the rest is paid so -/
theorem gr_step {ds : List Nat} {d n : Nat} (f : Fall ds) (hd : d ∈ ds) (hn : d ≤ n) (hm : ∀ e ∈ ds, e ≤ n → e ≤ d) : (gr ds n).sum = (gr ds (n - d)).sum + 1 := by
  induction ds generalizing n with
  | nil => cases hd
  | cons a r ih =>
    have ha := f.pos a List.mem_cons_self
    by_cases q : a ≤ n
    · have e : a = d := by
        have h1 := hm a List.mem_cons_self q
        rcases List.mem_cons.mp hd with z | z
        · exact z.symm
        · have := f.lt d z
          omega
      subst e
      show n / a + (gr r (n % a)).sum = (n - a) / a + (gr r ((n - a) % a)).sum + 1
      have e1 : n / a = (n - a) / a + 1 := Nat.div_eq_sub_div ha hn
      have e2 : n % a = (n - a) % a := Nat.mod_eq_sub_mod hn
      rw [e1, e2]
      omega
    · have hd' : d ∈ r := by
        rcases List.mem_cons.mp hd with z | z
        · omega
        · exact z
      have := ih f.tail hd' hn fun e he hen => hm e (List.mem_cons_of_mem _ he) hen
      show n / a + (gr r (n % a)).sum = (n - d) / a + (gr r ((n - d) % a)).sum + 1
      rw [Nat.div_eq_of_lt (by omega), Nat.mod_eq_of_lt (by omega), Nat.div_eq_of_lt (show n - d < a by omega), Nat.mod_eq_of_lt (show n - d < a by omega)]
      omega
theorem gs_step {cs : List Nat} (h : Sys cs) {d n : Nat} (hd : d ∈ cs) (hn : d ≤ n) (hm : ∀ e ∈ cs, e ≤ n → e ≤ d) : gs cs n = gs cs (n - d) + 1 := by
  rw [gs_eq, gs_eq]
  exact gr_step h.fall (List.mem_reverse.mpr hd) hn fun e he => hm e (List.mem_reverse.mp he)
theorem gs_zero (cs : List Nat) : gs cs 0 = 0 := by
  rw [gs_eq, gr_zero]
  exact sum_zeros _
/-- some greatest coin -/
theorem big {cs : List Nat} (h1 : 1 ∈ cs) {n : Nat} (hn : 0 < n) : ∃ d, d ∈ cs ∧ d ≤ n ∧ ∀ e ∈ cs, e ≤ n → e ≤ d := by
  obtain ⟨m, ⟨hm, hmn⟩, hl⟩ := least (p := fun j => n - j ∈ cs ∧ j ≤ n) (n - 1) ⟨by rwa [show n - (n - 1) = 1 by omega], by omega⟩
  refine ⟨n - m, hm, by omega, fun e he hen => ?_⟩
  have := hl (n - e) ⟨by rwa [show n - (n - e) = e by omega], by omega⟩
  omega
theorem gs_small {cs ds : List Nat} (h : Sys cs) (h' : Sys ds) : ∀ n, (∀ c ∈ cs, c ≤ n → c ∈ ds) → (∀ c ∈ ds, c ≤ n → c ∈ cs) → gs cs n = gs ds n := by
  intro n
  induction n using Nat.strongRecOn with
  | ind n ih =>
    intro a b
    by_cases hn : n = 0
    · subst hn
      rw [gs_zero, gs_zero]
    · obtain ⟨d, hd, hdn, hm⟩ := big h.mem1 (Nat.pos_of_ne_zero hn)
      have hp := h.pos d hd
      rw [gs_step h hd hdn hm, gs_step h' (a d hd hdn) hdn fun e he hen => hm e (b e he hen) hen, ih (n - d) (by omega) (fun c hc q => a c hc (by omega)) fun c hc q => b c hc (by omega)]
theorem gs_coin {cs : List Nat} (h : Sys cs) {c : Nat} (hc : c ∈ cs) : gs cs c = 1 := by
  rw [gs_step h hc (Nat.le_refl _) fun e _ q => q, Nat.sub_self, gs_zero]
/-- below the greatest coin's next multiple -/
theorem gs_mul {cs : List Nat} (h : Sys cs) {c : Nat} (hc : c ∈ cs) (hm : ∀ e ∈ cs, e ≤ c) : ∀ (q r : Nat), r < c → gs cs (q * c + r) = q + gs cs r
  | 0, r, _ => by simp
  | q + 1, r, hr => by
    rw [gs_step h hc (by rw [Nat.succ_mul]; omega) fun e he _ => hm e he, show (q + 1) * c + r - c = q * c + r by rw [Nat.succ_mul]; omega, gs_mul h hc hm q r hr]
    omega
/-! ### faults -/
def Fault (cs : List Nat) (n : Nat) : Prop := fw cs n < gs cs n
structure First (cs : List Nat) (n : Nat) : Prop where
  fault : Fault cs n
  least : ∀ m, Fault cs m → n ≤ m
def Orderly (cs : List Nat) : Prop := ∀ n, ¬ Fault cs n
theorem first_ex {cs : List Nat} {n : Nat} (h : Fault cs n) : ∃ m, First cs m := by
  obtain ⟨m, a, b⟩ := least (p := Fault cs) n h
  exact ⟨m, a, b⟩
theorem ok_of {cs : List Nat} (h : Sys cs) {n : Nat} (q : ¬ Fault cs n) : fw cs n = gs cs n := by
  have := fw_le_gs h n
  unfold Fault at q
  omega
/-- the first fault is below the sum of the two greatest coins: c the greatest, b at least every other -/
theorem first_lt {cs : List Nat} (h : Sys cs) {n b c : Nat} (f : First cs n) (hc : c ∈ cs) (hm : ∀ e ∈ cs, e ≤ c) (hb : ∀ e ∈ cs, e ≠ c → e ≤ b) : n < b + c := by
  by_cases q : n < b + c
  · exact q
  · have q : b + c ≤ n := Nat.le_of_not_lt q
    exfalso
    have cp := h.pos c hc
    have no : ∀ m, m < n → fw cs m = gs cs m := fun m hm' => ok_of h fun z => absurd (f.least m z) (by omega)
    have hg := gs_step h hc (show c ≤ n by omega) fun e he _ => hm e he
    obtain ⟨e, he, hen, e1⟩ := fw_ex h.mem1 (show 0 < n by omega)
    have ep := h.pos e he
    have ft := f.fault
    unfold Fault at ft
    by_cases ec : e = c
    · subst ec
      have := no (n - e) (by omega)
      omega
    · have hb' := hb e he ec
      have e2 := no (n - e) (by omega)
      have e3 := gs_step h hc (show c ≤ n - e by omega) fun x hx _ => hm x hx
      have e4 := no (n - e - c) (by omega)
      have e5 := no (n - c) (by omega)
      have e6 := fw_step h.mem1 he (show e ≤ n - c by omega)
      rw [show n - c - e = n - e - c by omega] at e6
      omega
end Coin
namespace Coin
/-- the fewest coins of each sum to n -/
noncomputable def row (cs : List Nat) (n : Nat) : List Nat := (List.range (n + 1)).map (fw cs)
theorem row_zero (cs : List Nat) : row cs 0 = [0] := by
  show [fw cs 0] = [0]
  rw [fw_zero]
theorem row_succ (cs : List Nat) (n : Nat) : row cs (n + 1) = row cs n ++ [fw cs (n + 1)] := by
  unfold row
  rw [List.range_succ (n := n + 1), List.map_append]
  rfl
theorem row_len (cs : List Nat) (n : Nat) : (row cs n).length = n + 1 := by
  unfold row
  rw [List.length_map, List.length_range]
theorem row_get {cs : List Nat} {n i : Nat} (h : i ≤ n) : (row cs n)[i]? = some (fw cs i) := by
  unfold row
  rw [List.getElem?_map, List.getElem?_range (by omega)]
  rfl
/-- one turn of the greatest first: the way so far -/
theorem gr_append : ∀ (as bs : List Nat) (n : Nat), gr (as ++ bs) n = gr as n ++ gr bs (as.foldl (fun r d => r % d) n)
  | [], _, _ => rfl
  | a :: as, bs, n => by
    show n / a :: gr (as ++ bs) (n % a) = n / a :: (gr as (n % a) ++ gr bs (as.foldl (fun r d => r % d) (n % a)))
    rw [gr_append as bs]
end Coin
namespace Coin
/-- behind i turns: the way so far, what is left -/
def tkF (cs : List Nat) (n i : Nat) : List Nat := List.replicate (cs.length - i) 0 ++ (gr (cs.reverse.take i) n).reverse
def tkR (cs : List Nat) (n i : Nat) : Nat := (cs.reverse.take i).foldl (fun r d => r % d) n
theorem tkF_zero (cs : List Nat) (n : Nat) : tkF cs n 0 = cs.map fun _ => 0 := by
  unfold tkF
  rw [List.take_zero, Nat.sub_zero]
  show List.replicate cs.length 0 ++ [] = _
  rw [List.append_nil, List.map_const']
theorem tkF_end (cs : List Nat) (n : Nat) : tkF cs n cs.length = taken cs n := by
  unfold tkF taken
  rw [Nat.sub_self, List.take_of_length_le (by rw [List.length_reverse]; exact Nat.le_refl _)]
  rfl
theorem tkF_len {cs : List Nat} {n i : Nat} (h : i ≤ cs.length) : (tkF cs n i).length = cs.length := by
  unfold tkF
  rw [List.length_append, List.length_replicate, List.length_reverse, gr_len, List.length_take, List.length_reverse]
  omega
theorem rev_at {cs : List Nat} {i : Nat} (h : i < cs.length) : cs.reverse[i]? = cs[cs.length - 1 - i]? := by
  rw [List.getElem?_reverse h]
theorem tk_take {cs : List Nat} {i c : Nat} (h : i < cs.length) (hc : cs[cs.length - 1 - i]? = some c) : cs.reverse.take (i + 1) = cs.reverse.take i ++ [c] := by
  rw [List.take_add_one, rev_at h, hc]
  rfl
theorem tkR_succ {cs : List Nat} {n i c : Nat} (h : i < cs.length) (hc : cs[cs.length - 1 - i]? = some c) : tkR cs n (i + 1) = tkR cs n i % c := by
  unfold tkR
  rw [tk_take h hc, List.foldl_append]
  rfl
theorem tkF_succ {cs : List Nat} {n i c : Nat} (h : i < cs.length) (hc : cs[cs.length - 1 - i]? = some c) : tkF cs n (i + 1) = (tkF cs n i).set (cs.length - 1 - i) (tkR cs n i / c) := by
  unfold tkF
  rw [tk_take h hc, gr_append, List.reverse_append, show cs.length - i = cs.length - (i + 1) + 1 by omega, List.replicate_succ', List.append_assoc]
  rw [List.set_append_right _ _ (by rw [List.length_replicate]; omega), List.length_replicate, show cs.length - 1 - i - (cs.length - (i + 1)) = 0 by omega]
  rfl
end Coin
namespace Coin
/-- one coin of the greatest kind less: by the coins' places -/
theorem gr_at {ds : List Nat} (f : Fall ds) {n d j : Nat} (hj : ds[j]? = some d) (hn : d ≤ n) (hm : ∀ e ∈ ds, e ≤ n → e ≤ d) (k : Nat) : (gr ds n).getD k 0 = (gr ds (n - d)).getD k 0 + if k = j then 1 else 0 := by
  induction ds generalizing n j k with
  | nil => simp at hj
  | cons a r ih =>
    have ha := f.pos a List.mem_cons_self
    have hd := List.mem_of_getElem? hj
    by_cases q : a ≤ n
    · have h1 := hm a List.mem_cons_self q
      have e : a = d := by
        rcases List.mem_cons.mp hd with z | z
        · exact z.symm
        · have := f.lt d z
          omega
      subst e
      have hj0 : j = 0 := by
        cases j with
        | zero => rfl
        | succ j =>
          have : a ∈ r := List.mem_of_getElem? (by simpa using hj)
          have := f.lt a this
          omega
      subst hj0
      have e1 : n / a = (n - a) / a + 1 := Nat.div_eq_sub_div ha hn
      have e2 : n % a = (n - a) % a := Nat.mod_eq_sub_mod hn
      show (n / a :: gr r (n % a)).getD k 0 = ((n - a) / a :: gr r ((n - a) % a)).getD k 0 + _
      rw [e1, e2]
      cases k with
      | zero => rfl
      | succ k => rfl
    · cases j with
      | zero =>
        have : a = d := by simpa using hj
        omega
      | succ j =>
        have hj' : r[j]? = some d := by simpa using hj
        show (n / a :: gr r (n % a)).getD k 0 = ((n - d) / a :: gr r ((n - d) % a)).getD k 0 + _
        rw [Nat.div_eq_of_lt (by omega), Nat.mod_eq_of_lt (by omega), Nat.div_eq_of_lt (show n - d < a by omega), Nat.mod_eq_of_lt (show n - d < a by omega)]
        cases k with
        | zero => simp
        | succ k =>
          have := ih f.tail hj' hn (fun e he hen => hm e (List.mem_cons_of_mem _ he) hen) k
          simpa using this
theorem getD_rev {l : List Nat} {k : Nat} (h : k < l.length) : l.reverse.getD k 0 = l.getD (l.length - 1 - k) 0 := by
  rw [List.getD_eq_getElem?_getD, List.getElem?_reverse h, List.getD_eq_getElem?_getD]
theorem taken_at {cs : List Nat} (h : Sys cs) {n c j : Nat} (hj : cs[j]? = some c) (hn : c ≤ n) (hm : ∀ e ∈ cs, e ≤ n → e ≤ c) {k : Nat} (hk : k < cs.length) : (taken cs n).getD k 0 = (taken cs (n - c)).getD k 0 + if k = j then 1 else 0 := by
  have hl := fun m => gr_len cs.reverse m
  have hl2 := List.length_reverse (as := cs)
  have hjl : j < cs.length := (List.getElem?_eq_some_iff.mp hj).1
  unfold taken
  rw [getD_rev (by rw [hl, hl2]; exact hk), getD_rev (by rw [hl, hl2]; exact hk), hl, hl, hl2]
  have hr : cs.reverse[cs.length - 1 - j]? = some c := by
    rw [List.getElem?_reverse (by omega), show cs.length - 1 - (cs.length - 1 - j) = j by omega, hj]
  rw [gr_at h.fall hr hn (fun e he => hm e (List.mem_reverse.mp he))]
  congr 1
  by_cases e : k = j
  · subst e; simp
  · rw [if_neg e, if_neg (by omega)]
theorem taken_zero (cs : List Nat) : taken cs 0 = List.replicate cs.length 0 := by
  unfold taken
  rw [gr_zero, List.length_reverse, List.reverse_replicate]
end Coin
namespace Coin
/-! ### the way by the fewest -/
/-- how often the coin c is taken of n, while the fewest fall by one -/
noncomputable def bfK (cs : List Nat) (c n : Nat) : Nat :=
  if h : 0 < c ∧ c ≤ n ∧ fw cs (n - c) + 1 = fw cs n then bfK cs c (n - c) + 1 else 0
termination_by n
decreasing_by omega
theorem bfK_yes {cs : List Nat} {c n : Nat} (h0 : 0 < c) (h1 : c ≤ n) (h2 : fw cs (n - c) + 1 = fw cs n) : bfK cs c n = bfK cs c (n - c) + 1 := by
  rw [bfK, dif_pos ⟨h0, h1, h2⟩]
theorem bfK_no {cs : List Nat} {c n : Nat} (h : ¬ (c ≤ n ∧ fw cs (n - c) + 1 = fw cs n)) : bfK cs c n = 0 := by
  rw [bfK, dif_neg fun z => h z.2]
/-- behind it the coin does not lessen the fewest -/
theorem bfK_end {cs : List Nat} {c : Nat} (h0 : 0 < c) : ∀ n, bfK cs c n * c ≤ n ∧ fw cs (n - bfK cs c n * c) + bfK cs c n = fw cs n ∧ ¬ (c ≤ n - bfK cs c n * c ∧ fw cs (n - bfK cs c n * c - c) + 1 = fw cs (n - bfK cs c n * c)) := by
  intro n
  induction n using Nat.strongRecOn with
  | ind n ih =>
    by_cases h : c ≤ n ∧ fw cs (n - c) + 1 = fw cs n
    · obtain ⟨a, b, d⟩ := ih (n - c) (by omega)
      rw [bfK_yes h0 h.1 h.2, Nat.succ_mul]
      rw [show n - (bfK cs c (n - c) * c + c) = n - c - bfK cs c (n - c) * c by omega]
      exact ⟨by omega, by omega, d⟩
    · rw [bfK_no h, Nat.zero_mul, Nat.sub_zero]
      exact ⟨Nat.zero_le _, rfl, h⟩
noncomputable def bf (cs : List Nat) : List Nat → Nat → List Nat
  | [], _ => []
  | d :: ds, n => bfK cs d n :: bf cs ds (n - bfK cs d n * d)
noncomputable def bfLeft (cs : List Nat) (as : List Nat) (n : Nat) : Nat := as.foldl (fun r d => r - bfK cs d r * d) n
noncomputable def byFew (cs : List Nat) (n : Nat) : List Nat := (bf cs cs.reverse n).reverse
theorem bf_len (cs : List Nat) : ∀ (ds : List Nat) (n : Nat), (bf cs ds n).length = ds.length
  | [], _ => rfl
  | d :: ds, n => by
    show (bf cs ds _).length + 1 = ds.length + 1
    rw [bf_len cs ds]
theorem byFew_len (cs : List Nat) (n : Nat) : (byFew cs n).length = cs.length := by
  unfold byFew
  rw [List.length_reverse, bf_len, List.length_reverse]
theorem bf_append (cs : List Nat) : ∀ (as bs : List Nat) (n : Nat), bf cs (as ++ bs) n = bf cs as n ++ bf cs bs (bfLeft cs as n)
  | [], _, _ => rfl
  | a :: as, bs, n => by
    show bfK cs a n :: bf cs (as ++ bs) (n - bfK cs a n * a) = bfK cs a n :: (bf cs as (n - bfK cs a n * a) ++ bf cs bs (bfLeft cs as (n - bfK cs a n * a)))
    rw [bf_append cs as bs]
/-- what is left of n behind coins: what is paid, how many, and none of these coins lessens it -/
theorem bfLeft_spec {cs : List Nat} (h1 : 1 ∈ cs) : ∀ (as : List Nat), (∀ a ∈ as, 0 < a ∧ a ∈ cs) → ∀ n, dot (bf cs as n) as + bfLeft cs as n = n ∧ (bf cs as n).sum + fw cs (bfLeft cs as n) = fw cs n ∧ ∀ a ∈ as, ¬ (a ≤ bfLeft cs as n ∧ fw cs (bfLeft cs as n - a) + 1 = fw cs (bfLeft cs as n))
  | [], _, n => ⟨Nat.zero_add _, Nat.zero_add _, fun _ h => by cases h⟩
  | a :: as, h, n => by
    obtain ⟨a0, ac⟩ := h a List.mem_cons_self
    obtain ⟨e1, e2, e3⟩ := bfK_end (cs := cs) a0 n
    obtain ⟨i1, i2, i3⟩ := bfLeft_spec h1 as (fun x hx => h x (List.mem_cons_of_mem _ hx)) (n - bfK cs a n * a)
    show bfK cs a n * a + dot (bf cs as (n - bfK cs a n * a)) as + bfLeft cs as (n - bfK cs a n * a) = n ∧ (bfK cs a n :: bf cs as (n - bfK cs a n * a)).sum + fw cs (bfLeft cs as (n - bfK cs a n * a)) = fw cs n ∧ _
    rw [List.sum_cons]
    refine ⟨by omega, by omega, fun x hx => ?_⟩
    rcases List.mem_cons.mp hx with e | hx
    · subst e
      rintro ⟨q1, q2⟩
      -- the coin would have lessened what was left ahead of the smaller coins, too
      generalize hL0 : n - bfK cs x n * x = L0 at *
      have hL : bfLeft cs (x :: as) n = bfLeft cs as L0 := by
        show bfLeft cs as (n - bfK cs x n * x) = _
        rw [hL0]
      rw [hL] at q1 q2
      have hle : bfLeft cs as L0 ≤ L0 := by omega
      have hp : Pay cs (bf cs as L0).sum (dot (bf cs as L0) as) := pay_way _ _ (bf_len _ _ _) fun d hd => (h d (List.mem_cons_of_mem _ hd)).2
      have s1 : fw cs (L0 - x) ≤ fw cs (bfLeft cs as L0 - x) + (bf cs as L0).sum := by
        have := fw_le ((fw_pay h1 (bfLeft cs as L0 - x)).add hp)
        rwa [show bfLeft cs as L0 - x + dot (bf cs as L0) as = L0 - x by omega] at this
      have s2 := fw_step h1 ac (show x ≤ L0 by omega)
      exact e3 ⟨by omega, by omega⟩
    · exact i3 x hx
theorem bfLeft_zero {cs : List Nat} (h : Sys cs) (n : Nat) : bfLeft cs cs.reverse n = 0 := by
  obtain ⟨_, _, c⟩ := bfLeft_spec h.mem1 cs.reverse (fun a ha => ⟨h.pos a (List.mem_reverse.mp ha), List.mem_reverse.mp ha⟩) n
  by_cases e : bfLeft cs cs.reverse n = 0
  · exact e
  · obtain ⟨d, hd, hdn, he⟩ := fw_ex h.mem1 (Nat.pos_of_ne_zero e)
    exact absurd ⟨hdn, he.symm⟩ (c d (List.mem_reverse.mpr hd))
theorem byFew_dot {cs : List Nat} (h : Sys cs) (n : Nat) : dot (bf cs cs.reverse n) cs.reverse = n := by
  have := (bfLeft_spec h.mem1 cs.reverse (fun a ha => ⟨h.pos a (List.mem_reverse.mp ha), List.mem_reverse.mp ha⟩) n).1
  rw [bfLeft_zero h] at this
  exact this
theorem byFew_sum {cs : List Nat} (h : Sys cs) (n : Nat) : (byFew cs n).sum = fw cs n := by
  have := (bfLeft_spec h.mem1 cs.reverse (fun a ha => ⟨h.pos a (List.mem_reverse.mp ha), List.mem_reverse.mp ha⟩) n).2.1
  rw [bfLeft_zero h, fw_zero] at this
  unfold byFew
  rw [sum_rev]
  exact this
/-- behind i turns -/
noncomputable def bfF (cs : List Nat) (n i : Nat) : List Nat := List.replicate (cs.length - i) 0 ++ (bf cs (cs.reverse.take i) n).reverse
noncomputable def bfR (cs : List Nat) (n i : Nat) : Nat := bfLeft cs (cs.reverse.take i) n
theorem bfF_zero (cs : List Nat) (n : Nat) : bfF cs n 0 = cs.map fun _ => 0 := by
  unfold bfF
  rw [List.take_zero, Nat.sub_zero]
  show List.replicate cs.length 0 ++ [] = _
  rw [List.append_nil, List.map_const']
theorem bfF_end (cs : List Nat) (n : Nat) : bfF cs n cs.length = byFew cs n := by
  unfold bfF byFew
  rw [Nat.sub_self, List.take_of_length_le (by rw [List.length_reverse]; exact Nat.le_refl _)]
  rfl
theorem bfF_len {cs : List Nat} {n i : Nat} (h : i ≤ cs.length) : (bfF cs n i).length = cs.length := by
  unfold bfF
  rw [List.length_append, List.length_replicate, List.length_reverse, bf_len, List.length_take, List.length_reverse]
  omega
theorem bfR_zero (cs : List Nat) (n : Nat) : bfR cs n 0 = n := rfl
theorem bfR_succ {cs : List Nat} {n i c : Nat} (h : i < cs.length) (hc : cs[cs.length - 1 - i]? = some c) : bfR cs n (i + 1) = bfR cs n i - bfK cs c (bfR cs n i) * c := by
  unfold bfR bfLeft
  rw [tk_take h hc, List.foldl_append]
  rfl
theorem bfF_succ {cs : List Nat} {n i c : Nat} (h : i < cs.length) (hc : cs[cs.length - 1 - i]? = some c) : bfF cs n (i + 1) = (bfF cs n i).set (cs.length - 1 - i) (bfK cs c (bfR cs n i)) := by
  unfold bfF
  rw [tk_take h hc, bf_append, List.reverse_append, show cs.length - i = cs.length - (i + 1) + 1 by omega, List.replicate_succ', List.append_assoc]
  rw [List.set_append_right _ _ (by rw [List.length_replicate]; omega), List.length_replicate, show cs.length - 1 - i - (cs.length - (i + 1)) = 0 by omega]
  rfl
theorem bfF_at {cs : List Nat} {n i : Nat} (h : i < cs.length) : (bfF cs n i)[cs.length - 1 - i]? = some 0 := by
  unfold bfF
  rw [List.getElem?_append_left (by rw [List.length_replicate]; omega), List.getElem?_replicate, if_pos (by omega)]
/-- the place of a coin in the whole way -/
theorem byFew_at {cs : List Nat} {n i c : Nat} (h : i < cs.length) (hc : cs[cs.length - 1 - i]? = some c) : (byFew cs n)[cs.length - 1 - i]? = some (bfK cs c (bfR cs n i)) := by
  unfold byFew bfR
  have hl := bf_len cs cs.reverse n
  rw [List.length_reverse] at hl
  rw [List.getElem?_reverse (by omega), hl, show cs.length - 1 - (cs.length - 1 - i) = i by omega]
  have e : cs.reverse = cs.reverse.take i ++ (c :: cs.reverse.drop (i + 1)) := by
    have := List.take_append_drop (i + 1) cs.reverse
    rw [tk_take h hc, List.append_assoc] at this
    exact this.symm
  have e2 : (cs.reverse.take i).length = i := by rw [List.length_take, List.length_reverse]; omega
  have e3 : bf cs cs.reverse n = bf cs (cs.reverse.take i ++ (c :: cs.reverse.drop (i + 1))) n := congrArg (fun z => bf cs z n) e
  rw [e3, bf_append, List.getElem?_append_right (by rw [bf_len, e2]; exact Nat.le_refl _), bf_len, e2, Nat.sub_self]
  rfl
/-- the sum that a way pays, as the coins rise -/
theorem dot_append : ∀ (as bs cs ds : List Nat), as.length = cs.length → dot (as ++ bs) (cs ++ ds) = dot as cs + dot bs ds
  | [], _, [], _, _ => (Nat.zero_add _).symm
  | a :: as, bs, c :: cs, ds, h => by
    show a * c + dot (as ++ bs) (cs ++ ds) = a * c + dot as cs + dot bs ds
    rw [dot_append as bs cs ds (by simpa using h)]
    omega
  | [], _, _ :: _, _, h => by simp at h
  | _ :: _, _, [], _, h => by simp at h
theorem dot_rev : ∀ (as cs : List Nat), as.length = cs.length → dot as.reverse cs.reverse = dot as cs
  | [], [], _ => rfl
  | a :: as, c :: cs, h => by
    rw [List.reverse_cons, List.reverse_cons, dot_append _ _ _ _ (by simpa using h), dot_rev as cs (by simpa using h)]
    show dot as cs + (a * c + 0) = a * c + dot as cs
    omega
  | [], _ :: _, h => by simp at h
  | _ :: _, [], h => by simp at h
theorem dot_zip : ∀ (as cs : List Nat), (List.zipWith (fun a c => a * c) as cs).sum = dot as cs
  | [], _ => by simp [dot]
  | _ :: _, [] => by simp [dot]
  | a :: as, c :: cs => by
    rw [List.zipWith_cons_cons, List.sum_cons, dot_zip as cs]
    rfl
theorem byFew_pays {cs : List Nat} (h : Sys cs) (n : Nat) : dot (byFew cs n) cs = n := by
  rw [← dot_rev _ _ (byFew_len cs n)]
  unfold byFew
  rw [List.reverse_reverse, byFew_dot h]
theorem taken_pays {cs : List Nat} (h : Sys cs) (n : Nat) : dot (taken cs n) cs = n := by
  rw [← dot_rev _ _ (taken_len cs n)]
  unfold taken
  rw [List.reverse_reverse, dot_taken h]
end Coin

namespace Coin
/-! ### one coin more -/
theorem one_orderly : Orderly [1] := fun n h => by
  have s : Sys [1] := ⟨rfl, List.pairwise_singleton _ _⟩
  have p := fw_pay s.mem1 n
  have : ∀ k m, Pay [1] k m → k = m := by
    intro k m p
    induction p with
    | zero => rfl
    | step hc _ ih =>
      have := List.mem_singleton.mp hc
      omega
  have e := this _ _ p
  have g := gs_pay s n
  have e2 := this _ _ g
  unfold Fault at h
  omega
theorem orderly_eq {cs : List Nat} (h : Sys cs) (o : Orderly cs) (n : Nat) : fw cs n = gs cs n := ok_of h (o n)
theorem sys_snoc {cs : List Nat} {c : Nat} (h : Sys cs) (hc : ∀ e ∈ cs, e < c) : Sys (cs ++ [c]) := ⟨by
  obtain ⟨a, r, e⟩ := List.exists_cons_of_ne_nil h.ne
  have := h.one
  subst e
  exact this, List.pairwise_append.mpr ⟨h.rise, List.pairwise_singleton _ _, fun a ha b hb => by rw [List.mem_singleton.mp hb]; exact hc a ha⟩⟩
/-- how often the greatest coin m comes to c or more; what it is beyond -/
def upT (m c : Nat) : Nat := (c + m - 1) / m
def upD (m c : Nat) : Nat := upT m c * m - c
theorem up_spec {m c : Nat} (hm : 0 < m) (hc : 0 < c) : c ≤ upT m c * m ∧ upD m c < m ∧ upT m c * m = c + upD m c := by
  unfold upD upT
  have h1 := Nat.div_add_mod (c + m - 1) m
  have h2 := Nat.mod_lt (c + m - 1) hm
  rw [Nat.mul_comm] at h1
  omega
def Fits (cs : List Nat) (m c : Nat) : Prop := 1 + gs cs (upD m c) ≤ upT m c
section
variable {cs : List Nat} {m c : Nat}
theorem gs_below (h : Sys cs) (hc : ∀ e ∈ cs, e < c) {n : Nat} (hn : n < c) : gs (cs ++ [c]) n = gs cs n :=
  gs_small (sys_snoc h hc) h n (fun e he hen => by
    rcases List.mem_append.mp he with z | z
    · exact z
    · have := List.mem_singleton.mp z
      omega) fun e he _ => List.mem_append_left _ he
theorem fw_below (h : Sys cs) (hc : ∀ e ∈ cs, e < c) {n : Nat} (hn : n < c) : fw (cs ++ [c]) n = fw cs n :=
  fw_small (sys_snoc h hc).mem1 h.mem1 (fun e he hen => by
    rcases List.mem_append.mp he with z | z
    · exact z
    · have := List.mem_singleton.mp z
      omega) fun e he _ => List.mem_append_left _ he
/-- a best way without the last coin is one of the others -/
theorem fw_without (h : Sys cs) (hc : ∀ e ∈ cs, e < c) {n : Nat} (hn : c ≤ n → fw (cs ++ [c]) n < fw (cs ++ [c]) (n - c) + 1) : fw (cs ++ [c]) n = fw cs n := by
  have h1 := (sys_snoc h hc).mem1
  have key : ∀ k m, Pay (cs ++ [c]) k m → k = fw (cs ++ [c]) m → (c ≤ m → fw (cs ++ [c]) m < fw (cs ++ [c]) (m - c) + 1) → Pay cs k m := by
    intro k m p
    induction p with
    | zero => intro _ _; exact .zero
    | @step k m d hd q ih =>
      intro hk hm
      have hkm : k = fw (cs ++ [c]) m := by
        have a := fw_le q
        have b := fw_step h1 hd (show d ≤ m + d by omega)
        rw [Nat.add_sub_cancel] at b
        omega
      rcases List.mem_append.mp hd with z | z
      · refine .step z (ih hkm fun hcm => ?_)
        have a := hm (by omega)
        have b := fw_step h1 hd (show d ≤ m + d - c by omega)
        rw [show m + d - c - d = m - c by omega] at b
        omega
      · have : d = c := List.mem_singleton.mp z
        subst this
        have := hm (by omega)
        rw [Nat.add_sub_cancel] at this
        omega
  have a := fw_le (key _ _ (fw_pay h1 n) rfl hn)
  have b := fw_le ((fw_pay h.mem1 n).mono fun e he => List.mem_append_left [c] he)
  omega
theorem one_point (h : Sys cs) (o : Orderly cs) (hm : m ∈ cs) (hmm : ∀ e ∈ cs, e ≤ m) (hc : m < c) : Orderly (cs ++ [c]) ↔ Fits cs m c := by
  have hcc : ∀ e ∈ cs, e < c := fun e he => by have := hmm e he; omega
  have s := sys_snoc h hcc
  have m0 := h.pos m hm
  obtain ⟨u1, u2, u3⟩ := up_spec m0 (show 0 < c by omega)
  have cmem : c ∈ cs ++ [c] := List.mem_append_right _ List.mem_cons_self
  have cmax : ∀ e ∈ cs ++ [c], e ≤ c := fun e he => by
    rcases List.mem_append.mp he with z | z
    · have := hcc e z
      omega
    · have := List.mem_singleton.mp z
      omega
  constructor
  · intro o'
    have a := fw_le (Pay.times (List.mem_append_left [c] hm) (upT m c))
    have b := gs_step s cmem u1 fun e he _ => cmax e he
    rw [show upT m c * m - c = upD m c from rfl, gs_below h hcc (n := upD m c) (by omega)] at b
    have e := orderly_eq s o' (upT m c * m)
    unfold Fits
    omega
  · intro f n hn
    obtain ⟨n, fi⟩ := first_ex hn
    unfold Fits at f
    have no : ∀ k, k < n → fw (cs ++ [c]) k = gs (cs ++ [c]) k := fun k hk => ok_of s fun z => absurd (fi.least k z) (by omega)
    have hft := fi.fault
    unfold Fault at hft
    by_cases q : n < c
    · rw [fw_below h hcc q, gs_below h hcc q, orderly_eq h o] at hft
      omega
    · have q : c ≤ n := Nat.le_of_not_lt q
      have lt := first_lt s fi cmem cmax (b := m) fun e he hne => by
        rcases List.mem_append.mp he with z | z
        · exact hmm e z
        · exact absurd (List.mem_singleton.mp z) hne
      have e1 := gs_step s cmem q fun e he _ => cmax e he
      have e2 := no (n - c) (by omega)
      have e3 := gs_below h hcc (show n - c < c by omega)
      have e4 : fw (cs ++ [c]) n = fw cs n := fw_without h hcc fun _ => by omega
      have e5 := orderly_eq h o n
      -- n = q m + r
      have d1 := Nat.div_add_mod n m
      have d2 := Nat.mod_lt n m0
      have d3 := gs_mul h hm hmm (n / m) (n % m) d2
      rw [Nat.mul_comm, d1] at d3
      have d1' : n / m * m + n % m = n := by rw [Nat.mul_comm]; exact d1
      generalize n / m = Q at d3 d1'
      generalize n % m = r at d2 d3 d1'
      have a1 := fw_add h.mem1 r (upD m c)
      have o1 := orderly_eq h o r
      have o2 := orderly_eq h o (upD m c)
      have o3 := orderly_eq h o (r + upD m c)
      generalize hT : upT m c = T at u1 u3 f
      generalize hD : upD m c = D at u2 u3 f a1 o2 o3
      have QT : Q = T ∨ Q + 1 = T := by
        rcases Nat.lt_trichotomy Q T with z | z | z
        · by_cases z2 : Q + 1 = T
          · exact .inr z2
          · exfalso
            obtain ⟨j, rfl⟩ : ∃ j, T = Q + 2 + j := ⟨T - (Q + 2), by omega⟩
            have : (Q + 2 + j) * m = Q * m + m + m + j * m := by
              rw [Nat.add_mul, Nat.add_mul]
              omega
            omega
        · exact .inl z
        · exfalso
          obtain ⟨j, rfl⟩ : ∃ j, Q = T + 1 + j := ⟨Q - (T + 1), by omega⟩
          have : (T + 1 + j) * m = T * m + m + j * m := by
            rw [Nat.add_mul, Nat.add_mul]
            omega
          omega
      rcases QT with z | z
      · subst z
        have : n - c = r + D := by omega
        rw [this] at e1 e2 e3
        omega
      · subst z
        have hs : (Q + 1) * m = Q * m + m := by rw [Nat.succ_mul]
        have : n - c + m = r + D := by omega
        have e6 := gs_step h hm (show m ≤ r + D by omega) fun e he _ => hmm e he
        rw [show r + D - m = n - c by omega] at e6
        omega
theorem gs_le_self (h : Sys cs) (o : Orderly cs) (n : Nat) : gs cs n ≤ n := by
  rw [← orderly_eq h o]
  exact fw_self h.mem1 n
/-- far enough each coin fits -/
theorem fits_far (h : Sys cs) (o : Orderly cs) (hm : m ∈ cs) (hc : m * (m + 1) + 1 < c + m) : Fits cs m c := by
  have m0 := h.pos m hm
  have hmm : m * (m + 1) = m * m + m := Nat.mul_succ m m
  obtain ⟨u1, u2, u3⟩ := up_spec m0 (show 0 < c by
    have : m ≤ m * m := Nat.le_mul_of_pos_left m m0
    omega)
  have g := gs_le_self h o (upD m c)
  unfold Fits
  have : m ≤ upT m c := by
    by_cases q : m ≤ upT m c
    · exact q
    · exfalso
      obtain ⟨j, hj⟩ : ∃ j, m = upT m c + 1 + j := ⟨m - (upT m c + 1), by omega⟩
      have e : m * m = upT m c * m + m + j * m := by
        have : m * m = (upT m c + 1 + j) * m := congrArg (fun z => z * m) hj
        rw [Nat.add_mul, Nat.add_mul] at this
        omega
      omega
  omega
theorem fits_twice (h : Sys cs) (o : Orderly cs) (hm : m ∈ cs) : Fits cs m (2 * m) := by
  have m0 := h.pos m hm
  have e : upT m (2 * m) = 2 := by
    unfold upT
    rw [show 2 * m + m - 1 = (m - 1) + m * 2 by omega, Nat.add_mul_div_left _ _ m0, Nat.div_eq_of_lt (by omega)]
  unfold Fits upD
  rw [e, show 2 * m - 2 * m = 0 by omega, gs_zero]
  omega
theorem fits_twice1 (h : Sys cs) (o : Orderly cs) (hm : m ∈ cs) (h2 : 2 ≤ m) : Fits cs m (2 * m - 1) := by
  have m0 := h.pos m hm
  have e : upT m (2 * m - 1) = 2 := by
    unfold upT
    rw [show 2 * m - 1 + m - 1 = (m - 2) + m * 2 by omega, Nat.add_mul_div_left _ _ m0, Nat.div_eq_of_lt (by omega)]
  unfold Fits upD
  rw [e, show 2 * m - (2 * m - 1) = 1 by omega]
  have := gs_le_self h o 1
  omega
theorem fits_times (h : Sys cs) (o : Orderly cs) (hm : m ∈ cs) {t : Nat} (ht : 0 < t) : Fits cs m (m * t) := by
  have m0 := h.pos m hm
  have e : upT m (m * t) = t := by
    unfold upT
    rw [show m * t + m - 1 = (m - 1) + m * t by omega, Nat.add_mul_div_left _ _ m0, Nat.div_eq_of_lt (by omega), Nat.zero_add]
  unfold Fits upD
  rw [e, Nat.mul_comm t m, Nat.sub_self, gs_zero]
  omega
end
/-! ### two coins, three -/
theorem two_orderly {b : Nat} (h : 1 < b) : Orderly [1, b] := by
  have s : Sys [1] := ⟨rfl, List.pairwise_singleton _ _⟩
  refine (one_point s one_orderly (m := 1) List.mem_cons_self (fun e he => by rw [List.mem_singleton.mp he]; exact Nat.le_refl 1) h).mpr ?_
  have := fits_times s one_orderly (m := 1) List.mem_cons_self (t := b) (by omega)
  rwa [Nat.one_mul] at this
/-- a first fault is more than the third coin and one -/
theorem first_gt {a b c n : Nat} {r : List Nat} (h : Sys (a :: b :: c :: r)) (f : First (a :: b :: c :: r) n) : c + 1 < n := by
  have a1 : a = 1 := Option.some.inj h.one
  subst a1
  obtain ⟨p1, p2⟩ := List.pairwise_cons.mp h.rise
  obtain ⟨p3, p4⟩ := List.pairwise_cons.mp p2
  obtain ⟨p5, p6⟩ := List.pairwise_cons.mp p4
  have hb := p1 b List.mem_cons_self
  have hbc := p3 c List.mem_cons_self
  have hft := f.fault
  unfold Fault at hft
  have s2 : Sys [1, b] := ⟨rfl, by simpa using hb⟩
  have h1 := h.mem1
  by_cases q : c + 1 < n
  · exact q
  · exfalso
    by_cases q1 : n < c
    · have hs : ∀ e ∈ 1 :: b :: c :: r, e ≤ n → e ∈ [1, b] := fun e he hen => by
        rcases List.mem_cons.mp he with z | z
        · rw [z]; exact List.mem_cons_self
        · rcases List.mem_cons.mp z with z | z
          · rw [z]; exact List.mem_cons_of_mem _ List.mem_cons_self
          · rcases List.mem_cons.mp z with z | z
            · omega
            · have := p5 e z
              omega
      have hs' : ∀ e ∈ [1, b], e ≤ n → e ∈ 1 :: b :: c :: r := fun e he _ => by
        rcases List.mem_cons.mp he with z | z
        · rw [z]; exact List.mem_cons_self
        · rw [List.mem_singleton.mp z]; exact List.mem_cons_of_mem _ List.mem_cons_self
      rw [fw_small h1 s2.mem1 hs hs', gs_small h s2 n hs hs', orderly_eq s2 (two_orderly hb)] at hft
      omega
    · have cm : c ∈ 1 :: b :: c :: r := List.mem_cons_of_mem _ (List.mem_cons_of_mem _ List.mem_cons_self)
      by_cases q2 : n = c
      · subst q2
        rw [gs_coin h cm] at hft
        have := fw_pos h1 (show 0 < n by omega)
        omega
      · have q3 : n = c + 1 := by omega
        subst q3
        by_cases q4 : c + 1 ∈ 1 :: b :: c :: r
        · rw [gs_coin h q4] at hft
          have := fw_pos h1 (show 0 < c + 1 by omega)
          omega
        · have e := gs_step h cm (show c ≤ c + 1 by omega) fun e he hen => by
            by_cases z : e = c + 1
            · subst z
              exact absurd he q4
            · omega
          rw [show c + 1 - c = 1 by omega, gs_coin h h1] at e
          -- one coin alone is a coin
          have p := fw_pay h1 (c + 1)
          have fp := fw_pos h1 (show 0 < c + 1 by omega)
          have f1 : fw (1 :: b :: c :: r) (c + 1) = 0 + 1 := by omega
          rw [f1] at p
          obtain ⟨d, hd, hd2, p'⟩ := p.cases
          have hz : ∀ z, Pay (1 :: b :: c :: r) 0 z → z = 0 := fun z pz => by cases pz; rfl
          have := hz _ p'
          have : d = c + 1 := by omega
          exact q4 (this ▸ hd)
/-- fewer than three coins -/
theorem short_orderly {cs : List Nat} (h : Sys cs) (hl : cs.length < 3) : Orderly cs := by
  have h1 := h.one
  have h2 := h.rise
  match cs, h1, h2, hl with
  | [], h1, _, _ => cases h1
  | [a], h1, _, _ =>
    have : a = 1 := Option.some.inj h1
    subst this
    exact one_orderly
  | [a, b], h1, h2, _ =>
    have : a = 1 := Option.some.inj h1
    subst this
    exact two_orderly ((List.pairwise_cons.mp h2).1 b List.mem_cons_self)
  | _ :: _ :: _ :: _, _, _, hl => simp only [List.length_cons] at hl; omega
open Classical in
/-- the first fault, or none -/
noncomputable def ff (cs : List Nat) : Option Nat := if h : ∃ n, First cs n then some (choose h) else none
theorem First.same {cs : List Nat} {n m : Nat} (a : First cs n) (b : First cs m) : n = m := by
  have := a.least m b.fault
  have := b.least n a.fault
  omega
theorem ff_some {cs : List Nat} {n : Nat} : ff cs = some n ↔ First cs n := by
  unfold ff
  constructor
  · intro h
    split at h
    · rename_i e
      cases h
      exact Classical.choose_spec e
    · cases h
  · intro h
    have e : ∃ n, First cs n := ⟨n, h⟩
    rw [dif_pos e]
    exact congrArg some ((Classical.choose_spec e).same h)
theorem ff_none {cs : List Nat} : ff cs = none ↔ Orderly cs := by
  unfold ff
  constructor
  · intro h n hn
    split at h
    · cases h
    · rename_i e
      obtain ⟨m, hm⟩ := first_ex hn
      exact e ⟨m, hm⟩
  · intro h
    rw [dif_neg]
    rintro ⟨n, hn⟩
    exact h n hn.fault
end Coin

namespace Coin
/-! ### how the first fault is made (two of its coins tell it) -/
theorem bfK_of {cs : List Nat} {c n : Nat} (h0 : 0 < c) (h1 : c ≤ n) (h2 : fw cs (n - c) + 1 = fw cs n) : 0 < bfK cs c n := by
  rw [bfK_yes h0 h1 h2]
  omega
theorem bfK_pos {cs : List Nat} {c n : Nat} (h : 0 < bfK cs c n) : c ≤ n ∧ fw cs (n - c) + 1 = fw cs n := by
  by_cases q : c ≤ n ∧ fw cs (n - c) + 1 = fw cs n
  · exact q
  · rw [bfK_no q] at h
    omega


/-- where no sum to m is a fault, the way by the fewest is the greatest first -/
theorem bfK_gr {cs : List Nat} (h : Sys cs) {d : Nat} (hd : d ∈ cs) : ∀ n, (∀ k, k ≤ n → fw cs k = gs cs k) → (∀ e ∈ cs, e ≤ n → e ≤ d) → bfK cs d n = n / d ∧ n - bfK cs d n * d = n % d := by
  have d0 := h.pos d hd
  intro n
  induction n using Nat.strongRecOn with
  | ind n ih =>
    intro no hm
    by_cases q : d ≤ n
    · obtain ⟨i1, i2⟩ := ih (n - d) (by omega) (fun k hk => no k (by omega)) fun e he hen => hm e he (by omega)
      have e1 := gs_step h hd q hm
      have e2 := no n (Nat.le_refl _)
      have e3 := no (n - d) (by omega)
      rw [bfK_yes d0 q (by omega), Nat.succ_mul, Nat.div_eq_sub_div d0 q, Nat.mod_eq_sub_mod q, ← i2, i1]
      exact ⟨rfl, by omega⟩
    · rw [bfK_no (fun z => q z.1), Nat.div_eq_of_lt (by omega), Nat.mod_eq_of_lt (by omega)]
      exact ⟨rfl, by omega⟩
theorem bf_gr {cs : List Nat} (h : Sys cs) : ∀ (as bs : List Nat), as ++ bs = cs.reverse → ∀ n, (∀ k, k ≤ n → fw cs k = gs cs k) → (∀ e ∈ as, n < e) → bf cs bs n = gr bs n
  | _, [], _, _, _, _ => rfl
  | as, d :: bs, e, n, no, hl => by
    have hd : d ∈ cs := List.mem_reverse.mp (by rw [← e]; exact List.mem_append_right _ List.mem_cons_self)
    have f := h.fall
    rw [← e] at f
    have f2 := (List.pairwise_append.mp f.fall).2.1
    obtain ⟨k1, k2⟩ := bfK_gr h hd n no fun x hx hxn => by
      have : x ∈ as ++ d :: bs := by rw [e]; exact List.mem_reverse.mpr hx
      rcases List.mem_append.mp this with z | z
      · have := hl x z
        omega
      · rcases List.mem_cons.mp z with z | z
        · omega
        · have := (List.pairwise_cons.mp f2).1 x z
          omega
    show bfK cs d n :: bf cs bs (n - bfK cs d n * d) = n / d :: gr bs (n % d)
    have hlt := Nat.mod_lt n (h.pos d hd)
    have hle := Nat.mod_le n d
    rw [k2, k1, bf_gr h (as ++ [d]) bs (by rw [List.append_assoc]; exact e) (n % d) (fun k hk => no k (by omega)) fun x hx => by
      rcases List.mem_append.mp hx with z | z
      · have := hl x z
        omega
      · rw [List.mem_singleton.mp z]
        exact hlt]
/-- the rest behind coins -/
def grR (as : List Nat) (n : Nat) : Nat := as.foldl (fun r d => r % d) n
theorem grR_le : ∀ (as : List Nat) (n : Nat), grR as n ≤ n
  | [], _ => Nat.le_refl _
  | a :: as, n => Nat.le_trans (grR_le as (n % a)) (Nat.mod_le n a)
/-- less by no more than the rest: the same coins -/
theorem gr_less : ∀ (as : List Nat) (n z : Nat), (∀ a ∈ as, 0 < a) → z ≤ grR as n → gr as (n - z) = gr as n ∧ grR as (n - z) = grR as n - z
  | [], _, _, _, _ => ⟨rfl, rfl⟩
  | a :: as, n, z, hp, hz => by
    have hz : z ≤ grR as (n % a) := hz
    have a0 := hp a List.mem_cons_self
    have h1 : z ≤ n % a := Nat.le_trans hz (grR_le as _)
    have d1 := Nat.div_add_mod n a
    have d2 := Nat.mod_lt n a0
    have e1 : (n - z) / a = n / a := by
      have : n - z = (n % a - z) + a * (n / a) := by omega
      rw [this, Nat.add_mul_div_left _ _ a0, Nat.div_eq_of_lt (by omega), Nat.zero_add]
    have e2 : (n - z) % a = n % a - z := by
      have : n - z = (n % a - z) + a * (n / a) := by omega
      rw [this, Nat.add_mul_mod_self_left, Nat.mod_eq_of_lt (by omega)]
    obtain ⟨i1, i2⟩ := gr_less as (n % a) z (fun x hx => hp x (List.mem_cons_of_mem _ hx)) hz
    show (n - z) / a :: gr as ((n - z) % a) = n / a :: gr as (n % a) ∧ grR as ((n - z) % a) = grR as (n % a) - z
    rw [e1, e2, i1, i2]
    exact ⟨rfl, rfl⟩
/-- the last coin of the way that is taken at all -/
theorem gr_last : ∀ (bs : List Nat) (r : Nat), bs.getLast? = some 1 → (∀ b ∈ bs, 0 < b) → 0 < r → ∃ b1 b b2 q, bs = b1 ++ b :: b2 ∧ gr bs r = gr b1 r ++ (q + 1) :: List.replicate b2.length 0 ∧ grR b1 r = (q + 1) * b
  | [], _, h, _, _ => by cases h
  | a :: as, r, h, hp, hr => by
    have a0 := hp a List.mem_cons_self
    have d1 := Nat.div_add_mod r a
    by_cases q : r % a = 0
    · refine ⟨[], a, as, r / a - 1, rfl, ?_, ?_⟩
      · have : 0 < r / a := by
          rcases Nat.eq_zero_or_pos (r / a) with z | z
          · rw [z, Nat.mul_zero] at d1
            omega
          · exact z
        show r / a :: gr as (r % a) = (r / a - 1 + 1) :: _
        rw [q, gr_zero, show r / a - 1 + 1 = r / a by omega]
      · have : 0 < r / a := by
          rcases Nat.eq_zero_or_pos (r / a) with z | z
          · rw [z, Nat.mul_zero] at d1
            omega
          · exact z
        show r = (r / a - 1 + 1) * a
        rw [show r / a - 1 + 1 = r / a by omega, Nat.mul_comm]
        omega
    · cases as with
      | nil =>
        have : a = 1 := Option.some.inj h
        subst this
        omega
      | cons b as =>
        obtain ⟨b1, c, b2, p, e1, e2, e3⟩ := gr_last (b :: as) (r % a) (by rwa [List.getLast?_cons_cons] at h) (fun x hx => hp x (List.mem_cons_of_mem _ hx)) (by omega)
        refine ⟨a :: b1, c, b2, p, by rw [e1]; rfl, ?_, e3⟩
        show r / a :: gr (b :: as) (r % a) = r / a :: (gr b1 (r % a) ++ _)
        rw [e2]
theorem bf_zero_of {cs : List Nat} : ∀ (as : List Nat) (bs : List Nat) (n : Nat), (∀ a ∈ as, bfK cs a n = 0) → bf cs (as ++ bs) n = List.replicate as.length 0 ++ bf cs bs n
  | [], _, _, _ => rfl
  | a :: as, bs, n, h => by
    have h0 := h a List.mem_cons_self
    show bfK cs a n :: bf cs (as ++ bs) (n - bfK cs a n * a) = 0 :: (List.replicate as.length 0 ++ bf cs bs n)
    rw [h0, Nat.zero_mul, Nat.sub_zero, bf_zero_of as bs n fun x hx => h x (List.mem_cons_of_mem _ hx)]
/-- the greatest coin of the way by the fewest -/
theorem bf_first {cs : List Nat} : ∀ (ds : List Nat) (n : Nat), (∃ d ∈ ds, 0 < bfK cs d n) → ∃ as a bs, ds = as ++ a :: bs ∧ (∀ x ∈ as, bfK cs x n = 0) ∧ 0 < bfK cs a n
  | [], _, ⟨_, h, _⟩ => by cases h
  | d :: ds, n, h => by
    by_cases q : bfK cs d n = 0
    · obtain ⟨x, hx, hk⟩ := h
      obtain ⟨as, a, bs, e, h1, h2⟩ := bf_first ds n ⟨x, by
        rcases List.mem_cons.mp hx with z | z
        · subst z
          omega
        · exact z, hk⟩
      exact ⟨d :: as, a, bs, by rw [e]; rfl, fun y hy => by
        rcases List.mem_cons.mp hy with z | z
        · rw [z]; exact q
        · exact h1 y z, h2⟩
    · exact ⟨[], d, ds, rfl, fun _ z => (by cases z), Nat.pos_of_ne_zero q⟩
/-- the first fault's way by the fewest, the coins as they fall: over its greatest coin stands c;
    ahead of its least one it has just the coins of the greatest first for c - 1, of the least one more, behind none -/
theorem pearson {cs : List Nat} (h : Sys cs) {w : Nat} (f : First cs w) : ∃ (as : List Nat) (c : Nat) (P : List Nat) (b : Nat) (bs V : List Nat) (q y : Nat), cs.reverse = as ++ c :: (P ++ b :: bs) ∧ V.length = P.length ∧ y < b ∧
    bf cs cs.reverse w = List.replicate (as.length + 1) 0 ++ (V ++ (q + 1) :: List.replicate bs.length 0) ∧
    gr cs.reverse (c - 1) = List.replicate (as.length + 1) 0 ++ (V ++ q :: gr bs y) ∧ (∀ v r, V = v :: r → 0 < v) := by
  have h1 := h.mem1
  have hft := f.fault
  unfold Fault at hft
  have no : ∀ k, k < w → fw cs k = gs cs k := fun k hk => ok_of h fun z => absurd (f.least k z) (by omega)
  have w0 : 0 < w := by
    rcases Nat.eq_zero_or_pos w with z | z
    · subst z
      rw [fw_zero, gs_zero] at hft
      omega
    · exact z
  -- the greatest coin a that is used
  obtain ⟨d, hd, hdw, hde⟩ := fw_ex h1 w0
  obtain ⟨as0, a, bs0, e0, hz, ha⟩ := bf_first (cs := cs) cs.reverse w ⟨d, List.mem_reverse.mpr hd, bfK_of (h.pos d hd) hdw hde.symm⟩
  obtain ⟨haw, hae⟩ := bfK_pos ha
  have am : a ∈ cs := List.mem_reverse.mp (by rw [e0]; exact List.mem_append_right _ List.mem_cons_self)
  have a0 := h.pos a am
  have fl := h.fall
  rw [e0] at fl
  obtain ⟨fa, fb, fab⟩ := List.pairwise_append.mp fl.fall
  have hafirst : ∀ x ∈ as0, a < x := fun x hx => fab x hx a List.mem_cons_self
  have hrest : ∀ x ∈ bs0, x < a := (List.pairwise_cons.mp fb).1
  have asm : ∀ x ∈ as0, x ∈ cs := fun x hx => List.mem_reverse.mp (by rw [e0]; exact List.mem_append_left _ hx)
  have bsm : ∀ x ∈ bs0, x ∈ cs := fun x hx => List.mem_reverse.mp (by rw [e0]; exact List.mem_append_right _ (List.mem_cons_of_mem _ hx))
  have cases3 : ∀ e ∈ cs, e ∈ as0 ∨ e = a ∨ e ∈ bs0 := fun e he => by
    have : e ∈ as0 ++ a :: bs0 := by rw [← e0]; exact List.mem_reverse.mpr he
    rcases List.mem_append.mp this with z | z
    · exact .inl z
    · rcases List.mem_cons.mp z with z | z
      · exact .inr (.inl z)
      · exact .inr (.inr z)
  -- a greater coin no greater than w
  have big : ∃ x ∈ as0, x ≤ w := by
    by_cases q : ∃ x ∈ as0, x ≤ w
    · exact q
    · exfalso
      have := gs_step h am haw fun e he hew => by
        rcases cases3 e he with z | z | z
        · exact absurd ⟨e, z, hew⟩ q
        · omega
        · have := hrest e z
          omega
      have := no (w - a) (by omega)
      omega
  -- the coin behind a: the last of as0
  obtain ⟨as, c, ec⟩ : ∃ as c, as0 = as ++ [c] := by
    obtain ⟨x, hx, _⟩ := big
    exact ⟨as0.dropLast, as0.getLast (List.ne_nil_of_mem hx), (List.dropLast_concat_getLast _).symm⟩
  subst ec
  have cm : c ∈ cs := asm c (List.mem_append_right _ List.mem_cons_self)
  have hac : a < c := hafirst c (List.mem_append_right _ List.mem_cons_self)
  have hcas : ∀ x ∈ as, c < x := fun x hx => (List.pairwise_append.mp fa).2.2 x hx c List.mem_cons_self
  have hcle : ∀ x ∈ as ++ [c], c ≤ x := fun x hx => by
    rcases List.mem_append.mp hx with z | z
    · have := hcas x z
      omega
    · rw [List.mem_singleton.mp z]
      exact Nat.le_refl _
  have hcw : c ≤ w := by
    obtain ⟨x, hx, hxw⟩ := big
    have := hcle x hx
    omega
  -- without a used coin it is less than c
  have less : ∀ b, b ∈ cs → b ≤ w → fw cs (w - b) + 1 = fw cs w → w - b < c := fun b bm hbw hbe => by
    by_cases q : w - b < c
    · exact q
    · exfalso
      have b0 := h.pos b bm
      obtain ⟨d, dm, hdn, hdm⟩ := Coin.big h1 (show 0 < w - b by omega)
      have hcd := hdm c cm (by omega)
      have d0 := h.pos d dm
      have g1 := gs_step h dm hdn hdm
      have n1 := no (w - b) (by omega)
      have n2 := no (w - b - d) (by omega)
      have s1 := fw_step h1 bm (show b ≤ w - d by omega)
      rw [show w - d - b = w - b - d by omega] at s1
      have s2 := fw_step h1 dm (show d ≤ w by omega)
      have k := bfK_of d0 (show d ≤ w by omega) (show fw cs (w - d) + 1 = fw cs w by omega)
      rcases cases3 d dm with z | z | z
      · have := hz d z
        omega
      · omega
      · have := hrest d z
        omega
  have hwa := less a am haw hae
  -- the way of w - a is the greatest first
  have noa : ∀ k, k ≤ w - a → fw cs k = gs cs k := fun k hk => no k (by omega)
  have fallrest := bf_gr h ((as ++ [c]) ++ [a]) bs0 (by rw [e0, List.append_assoc]; rfl)
  have hKa : bfK cs a w = bfK cs a (w - a) + 1 := bfK_yes a0 haw hae
  obtain ⟨k1, k2⟩ := bfK_gr h am (w - a) noa fun e he hen => by
    rcases cases3 e he with z | z | z
    · have := hcle e z
      omega
    · omega
    · have := hrest e z
      omega
  have hrem : w - bfK cs a w * a = (w - a) % a := by
    rw [hKa, Nat.succ_mul, ← k2]
    omega
  have hlt := Nat.mod_lt (w - a) a0
  have hle := Nat.mod_le (w - a) a
  have hbf : bf cs cs.reverse w = List.replicate (as.length + 1) 0 ++ ((w - a) / a + 1) :: gr bs0 ((w - a) % a) := by
    rw [e0, bf_zero_of _ _ _ hz]
    show List.replicate (as ++ [c]).length 0 ++ bfK cs a w :: bf cs bs0 (w - bfK cs a w * a) = _
    rw [hrem, fallrest ((w - a) % a) (fun k hk => no k (by omega)) fun e he => by
      rcases List.mem_append.mp he with z | z
      · have := hcle e z
        omega
      · rw [List.mem_singleton.mp z]
        exact hlt, hKa, k1, List.length_append]
    rfl
  -- the greatest first for c - 1, its first coin
  have hgr : ∀ x, x < c → gr cs.reverse x = List.replicate (as.length + 1) 0 ++ x / a :: gr bs0 (x % a) := fun x hx => by
    rw [e0, gr_small _ _ _ fun e he => by
      have := hcle e he
      omega]
    rw [List.length_append]
    rfl
  by_cases hr : (w - a) % a = 0
  · -- the greatest coin is the least one
    have d1 := Nat.div_add_mod (w - a) a
    have hx : c - 1 = (c - 1 - (w - a)) + a * ((w - a) / a) := by omega
    have hy : c - 1 - (w - a) < a := by omega
    refine ⟨as, c, [], a, bs0, [], (w - a) / a, c - 1 - (w - a), by rw [e0, List.append_assoc]; rfl, rfl, hy, ?_, ?_, fun v r z => by cases z⟩
    · rw [hbf, hr, gr_zero]
      rfl
    · rw [hgr (c - 1) (by omega)]
      have e1 : (c - 1) / a = (w - a) / a := by rw [hx, Nat.add_mul_div_left _ _ a0, Nat.div_eq_of_lt hy, Nat.zero_add]
      have e2 : (c - 1) % a = c - 1 - (w - a) := by
        have : (c - 1) % a = ((c - 1 - (w - a)) + a * ((w - a) / a)) % a := congrArg (fun z => z % a) hx
        rw [this, Nat.add_mul_mod_self_left, Nat.mod_eq_of_lt hy]
      rw [e1, e2]
      rfl
  · have bpos : ∀ b ∈ bs0, 0 < b := fun b hb => h.pos b (bsm b hb)
    have hlast : bs0.getLast? = some 1 := by
      have := h.last1
      cases bs0 with
      | nil =>
        rw [e0, List.getLast?_append] at this
        have : a = 1 := by simpa using this
        subst this
        omega
      | cons x r =>
        have hx : ∀ (l : List Nat) (y : Nat) (m : List Nat), (l ++ y :: m).getLast? = (y :: m).getLast? := by
          intro l
          induction l with
          | nil => intro y m; rfl
          | cons z l ih =>
            intro y m
            cases l with
            | nil => exact List.getLast?_cons_cons
            | cons z' l =>
              have := ih y m
              rw [← this]
              exact List.getLast?_cons_cons
        rw [e0, hx, List.getLast?_cons_cons] at this
        exact this
    obtain ⟨b1, b, b2, q, eb, hg, hR⟩ := gr_last bs0 ((w - a) % a) hlast bpos (by omega)
    have b0 := bpos b (by rw [eb]; exact List.mem_append_right _ List.mem_cons_self)
    have bm := bsm b (by rw [eb]; exact List.mem_append_right _ List.mem_cons_self)
    have hba := hrest b (by rw [eb]; exact List.mem_append_right _ List.mem_cons_self)
    have b1pos : ∀ x ∈ b1, 0 < x := fun x hx => bpos x (by rw [eb]; exact List.mem_append_left _ hx)
    have hRle := grR_le b1 ((w - a) % a)
    have hbR : b ≤ grR b1 ((w - a) % a) := by
      rw [hR, Nat.succ_mul]
      omega
    have d1 := Nat.div_add_mod (w - a) a
    -- the coin b lessens the fewest, too
    have hbe : fw cs (w - b) + 1 = fw cs w := by
      have t1 := byFew_sum h w
      unfold byFew at t1
      rw [sum_rev, hbf] at t1
      obtain ⟨g1, g2⟩ := gr_less b1 ((w - a) % a) b b1pos hbR
      -- a way of w - b with one coin less
      have hp : Pay cs ((w - a) / a + 1 + (gr bs0 ((w - a) % a - b)).sum) (((w - a) / a + 1) * a + ((w - a) % a - b)) := by
        have p1 := Pay.times am ((w - a) / a + 1)
        have p2 := pay_way (cs := cs) (gr bs0 ((w - a) % a - b)) bs0 (gr_len _ _) bsm
        rw [dot_gr bs0 hlast] at p2
        exact p1.add p2
      have hsum : (gr bs0 ((w - a) % a - b)).sum + 1 = (gr bs0 ((w - a) % a)).sum := by
        have hb2 : gr bs0 ((w - a) % a - b) = gr b1 ((w - a) % a) ++ q :: List.replicate b2.length 0 := by
          rw [eb, gr_append, g1]
          show gr b1 _ ++ (grR b1 ((w - a) % a - b) / b :: gr b2 (grR b1 ((w - a) % a - b) % b)) = _
          rw [g2, hR, Nat.succ_mul, Nat.add_sub_cancel, Nat.mul_div_cancel _ b0, Nat.mul_mod_left, gr_zero]
        rw [hb2, hg, List.sum_append, List.sum_append, List.sum_cons, List.sum_cons]
        omega
      have e1 : ((w - a) / a + 1) * a + ((w - a) % a - b) = w - b := by
        rw [Nat.succ_mul, Nat.mul_comm ((w - a) / a) a]
        omega
      rw [e1] at hp
      have l1 := fw_le hp
      have l2 := fw_step h1 bm (show b ≤ w by omega)
      rw [List.sum_append, sum_zeros, List.sum_cons] at t1
      omega
    have hwb := less b bm (by omega) hbe
    -- y: what is left of c - 1 behind them
    obtain ⟨y, hy⟩ : ∃ y, c - 1 = w - b + y := ⟨c - 1 - (w - b), by omega⟩
    have hyb : y < b := by omega
    obtain ⟨g1, g2⟩ := gr_less b1 ((w - a) % a) (b - y) b1pos (by omega)
    refine ⟨as, c, a :: b1, b, b2, ((w - a) / a + 1) :: gr b1 ((w - a) % a), q, y, by rw [e0, eb, List.append_assoc]; rfl, by rw [List.length_cons, List.length_cons, gr_len], hyb, ?_, ?_, fun v r z => by cases z; omega⟩
    · rw [hbf, hg]
      rfl
    · rw [hgr (c - 1) (by omega)]
      have hx : c - 1 = ((w - a) % a - (b - y)) + a * ((w - a) / a + 1) := by
        rw [Nat.mul_succ]
        omega
      have e1 : (c - 1) / a = (w - a) / a + 1 := by
        have : (c - 1) / a = (((w - a) % a - (b - y)) + a * ((w - a) / a + 1)) / a := congrArg (fun z => z / a) hx
        rw [this, Nat.add_mul_div_left _ _ a0, Nat.div_eq_of_lt (by omega), Nat.zero_add]
      have e2 : (c - 1) % a = (w - a) % a - (b - y) := by
        have : (c - 1) % a = (((w - a) % a - (b - y)) + a * ((w - a) / a + 1)) % a := congrArg (fun z => z % a) hx
        rw [this, Nat.add_mul_mod_self_left, Nat.mod_eq_of_lt (by omega)]
      have e3 : gr bs0 ((w - a) % a - (b - y)) = gr b1 ((w - a) % a) ++ q :: gr b2 y := by
        rw [eb, gr_append, g1]
        show gr b1 _ ++ (grR b1 ((w - a) % a - (b - y)) / b :: gr b2 (grR b1 ((w - a) % a - (b - y)) % b)) = _
        have e4 : (q + 1) * b - (b - y) = y + b * q := by
          rw [Nat.succ_mul, Nat.mul_comm q b]
          omega
        rw [g2, hR, e4, Nat.add_mul_div_left _ _ b0, Nat.div_eq_of_lt hyb, Nat.zero_add, Nat.add_mul_mod_self_left, Nat.mod_eq_of_lt hyb]
      rw [e1, e2, e3]
      rfl
end Coin

/-! coins given and coins given back -/
namespace Coin
/-- k coins, given or given back, come to n -/
inductive Hand (cs : List Nat) : Nat → Int → Prop
  | zero : Hand cs 0 0
  | add {k : Nat} {n : Int} {c : Nat} : c ∈ cs → Hand cs k n → Hand cs (k + 1) (n + c)
  | sub {k : Nat} {n : Int} {c : Nat} : c ∈ cs → Hand cs k n → Hand cs (k + 1) (n - c)
def Adj (cs : List Nat) (x y : Int) : Prop := ∃ c ∈ cs, y = x + (c : Int) ∨ y = x - (c : Int)
/-- .. by amounts from lo to hi -/
inductive HandB (cs : List Nat) (lo hi : Int) : Nat → Int → Prop
  | zero : HandB cs lo hi 0 0
  | step {k : Nat} {x y : Int} : Adj cs x y → lo ≤ y → y ≤ hi → HandB cs lo hi k x → HandB cs lo hi (k + 1) y
section
variable {cs : List Nat} {lo hi : Int}
theorem HandB.hand {k : Nat} {n : Int} (h : HandB cs lo hi k n) : Hand cs k n := by
  induction h with
  | zero => exact .zero
  | step a _ _ _ ih =>
    obtain ⟨c, hc, e | e⟩ := a
    · rw [e]; exact .add hc ih
    · rw [e]; exact .sub hc ih
theorem HandB.inb {k : Nat} {n : Int} (h0 : lo ≤ 0 ∧ 0 ≤ hi) (h : HandB cs lo hi k n) : lo ≤ n ∧ n ≤ hi := by
  cases h with
  | zero => exact h0
  | step _ a b _ => exact ⟨a, b⟩

/-- as two lists of coins -/
theorem Hand.lists {k : Nat} {n : Int} (h : Hand cs k n) : ∃ ps ms : List Nat, (∀ c ∈ ps, c ∈ cs) ∧ (∀ c ∈ ms, c ∈ cs) ∧ ps.length + ms.length = k ∧ (ps.sum : Int) - (ms.sum : Int) = n := by
  induction h with
  | zero => exact ⟨[], [], fun _ h => (by cases h), fun _ h => (by cases h), rfl, rfl⟩
  | @add k n c hc _ ih =>
    obtain ⟨ps, ms, a, b, l, s⟩ := ih
    refine ⟨c :: ps, ms, fun x hx => ?_, b, by rw [List.length_cons]; omega, by rw [List.sum_cons]; omega⟩
    rcases List.mem_cons.mp hx with z | z
    · rw [z]; exact hc
    · exact a x z
  | @sub k n c hc _ ih =>
    obtain ⟨ps, ms, a, b, l, s⟩ := ih
    refine ⟨ps, c :: ms, a, fun x hx => ?_, by rw [List.length_cons]; omega, by rw [List.sum_cons]; omega⟩
    rcases List.mem_cons.mp hx with z | z
    · rw [z]; exact hc
    · exact b x z
theorem hand_of_lists : ∀ (ps ms : List Nat), (∀ c ∈ ps, c ∈ cs) → (∀ c ∈ ms, c ∈ cs) → Hand cs (ps.length + ms.length) ((ps.sum : Int) - (ms.sum : Int))
  | [], [], _, _ => .zero
  | [], c :: ms, a, b => by
    have := Hand.sub (b c List.mem_cons_self) (hand_of_lists [] ms a fun x hx => b x (List.mem_cons_of_mem _ hx))
    rw [List.length_cons, List.sum_cons, ← Nat.add_assoc]
    have e : (([] : List Nat).sum : Int) - ((c + ms.sum : Nat) : Int) = (([] : List Nat).sum : Int) - (ms.sum : Int) - (c : Int) := by omega
    rw [e]
    exact this
  | c :: ps, ms, a, b => by
    have := Hand.add (a c List.mem_cons_self) (hand_of_lists ps ms (fun x hx => a x (List.mem_cons_of_mem _ hx)) b)
    rw [List.length_cons, List.sum_cons, show ps.length + 1 + ms.length = ps.length + ms.length + 1 by omega]
    have e : ((c + ps.sum : Nat) : Int) - (ms.sum : Int) = (ps.sum : Int) - (ms.sum : Int) + (c : Int) := by omega
    rw [e]
    exact this
/-- the coins may be turned so that all amounts stay within the greatest coin beyond -/
theorem hand_within {N : Int} {m : Nat} (hN : 0 ≤ N) (hm : ∀ c ∈ cs, 0 < c ∧ c ≤ m) (hl : lo ≤ -(m : Int)) (hh : N + m ≤ hi) : ∀ (j : Nat) (ps ms : List Nat) (i : Nat) (s : Int), ps.length + ms.length = j → (∀ c ∈ ps, c ∈ cs) → (∀ c ∈ ms, c ∈ cs) → HandB cs lo hi i s → s + ps.sum - ms.sum = N → HandB cs lo hi (i + j) N
  | 0, ps, ms, i, s, l, _, _, h, e => by
    have e1 : ps = [] := List.eq_nil_of_length_eq_zero (by omega)
    have e2 : ms = [] := List.eq_nil_of_length_eq_zero (by omega)
    subst e1 e2
    have : s = N := by
      simp only [List.sum_nil] at e
      omega
    rwa [← this]
  | j + 1, ps, ms, i, s, l, a, b, h, e => by
    by_cases q : s ≤ N
    · cases ps with
      | nil =>
        exfalso
        cases ms with
        | nil => simp at l
        | cons c ms =>
          have := hm c (b c List.mem_cons_self)
          simp only [List.sum_nil, List.sum_cons] at e
          omega
      | cons c ps =>
        have hc := hm c (a c List.mem_cons_self)
        have hs : lo ≤ s + c := by
          cases h with
          | zero => omega
          | step _ h1 _ _ => omega
        have := hand_within hN hm hl hh j ps ms (i + 1) (s + c) (by rw [List.length_cons] at l; omega) (fun x hx => a x (List.mem_cons_of_mem _ hx)) b (.step ⟨c, a c List.mem_cons_self, .inl rfl⟩ hs (by omega) h) (by rw [List.sum_cons] at e; omega)
        rwa [show i + (j + 1) = i + 1 + j by omega]
    · cases ms with
      | nil =>
        exfalso
        simp only [List.sum_nil] at e
        omega
      | cons c ms =>
        have hc := hm c (b c List.mem_cons_self)
        have hs : s - c ≤ hi := by
          cases h with
          | zero => omega
          | step _ _ h1 _ => omega
        have := hand_within hN hm hl hh j ps ms (i + 1) (s - c) (by rw [List.length_cons] at l; omega) a (fun x hx => b x (List.mem_cons_of_mem _ hx)) (.step ⟨c, b c List.mem_cons_self, .inr rfl⟩ (by omega) hs h) (by rw [List.sum_cons] at e; omega)
        rwa [show i + (j + 1) = i + 1 + j by omega]
theorem Hand.within {N : Int} {m k : Nat} (hN : 0 ≤ N) (hm : ∀ c ∈ cs, 0 < c ∧ c ≤ m) (hl : lo ≤ -(m : Int)) (hh : N + m ≤ hi) (h : Hand cs k N) : HandB cs lo hi k N := by
  obtain ⟨ps, ms, a, b, l, s⟩ := h.lists
  have := hand_within (lo := lo) (hi := hi) hN hm hl hh k ps ms 0 0 l a b .zero (by omega)
  rwa [Nat.zero_add] at this
theorem Pay.hand {k n : Nat} (p : Pay cs k n) : Hand cs k (n : Int) := by
  induction p with
  | zero => exact .zero
  | @step k n c hc _ ih =>
    have := Hand.add hc ih
    rwa [show ((n + c : Nat) : Int) = (n : Int) + (c : Int) by omega]
/-! ### how far an amount is -/
def Rch (cs : List Nat) (lo hi : Int) (x : Int) : Prop := ∃ k, HandB cs lo hi k x
open Classical in
noncomputable def dB (cs : List Nat) (lo hi : Int) (x : Int) : Nat := if h : ∃ k, HandB cs lo hi k x then choose (least (p := fun k => HandB cs lo hi k x) _ (choose_spec h)) else 0
theorem dB_spec {x : Int} (h : Rch cs lo hi x) : HandB cs lo hi (dB cs lo hi x) x ∧ ∀ k, HandB cs lo hi k x → dB cs lo hi x ≤ k := by
  have h : ∃ k, HandB cs lo hi k x := h
  unfold dB
  rw [dif_pos h]
  exact Classical.choose_spec (least (p := fun k => HandB cs lo hi k x) _ (Classical.choose_spec h))
theorem rch_zero : Rch cs lo hi 0 := ⟨0, .zero⟩
theorem dB_zero : dB cs lo hi 0 = 0 := Nat.le_zero.mp ((dB_spec rch_zero).2 0 .zero)
theorem rch_step {x y : Int} (a : Adj cs x y) (h1 : lo ≤ y) (h2 : y ≤ hi) (h : Rch cs lo hi x) : Rch cs lo hi y ∧ dB cs lo hi y ≤ dB cs lo hi x + 1 := by
  have := HandB.step a h1 h2 (dB_spec h).1
  exact ⟨⟨_, this⟩, (dB_spec ⟨_, this⟩).2 _ this⟩
theorem rch_pred {y : Int} {k : Nat} (h : Rch cs lo hi y) (e : dB cs lo hi y = k + 1) : ∃ x, Adj cs x y ∧ Rch cs lo hi x ∧ dB cs lo hi x = k ∧ lo ≤ y ∧ y ≤ hi := by
  have p := (dB_spec h).1
  rw [e] at p
  cases p with
  | @step _ x _ a h1 h2 q =>
    refine ⟨x, a, ⟨k, q⟩, ?_, h1, h2⟩
    have l1 := (dB_spec ⟨k, q⟩).2 k q
    have l2 := (rch_step a h1 h2 ⟨k, q⟩).2
    omega
theorem rch_zero_of {y : Int} (h : Rch cs lo hi y) (e : dB cs lo hi y = 0) : y = 0 := by
  have p := (dB_spec h).1
  rw [e] at p
  cases p
  rfl
/-- fewest coins to and fro -/
noncomputable def hw (cs : List Nat) (n : Nat) : Nat := dB cs (-((n : Int) + cs.sum)) ((n : Int) + cs.sum) n
theorem mem_le_sum : ∀ {l : List Nat} {c : Nat}, c ∈ l → c ≤ l.sum
  | [], _, h => by cases h
  | a :: r, c, h => by
    rw [List.sum_cons]
    rcases List.mem_cons.mp h with z | z
    · omega
    · have := mem_le_sum z
      omega
theorem hw_spec (h : Sys cs) (n : Nat) : Hand cs (hw cs n) n ∧ ∀ k, Hand cs k n → hw cs n ≤ k := by
  have w := fun {k : Nat} (p : Hand cs k (n : Int)) => p.within (lo := -((n : Int) + cs.sum)) (hi := (n : Int) + cs.sum) (m := cs.sum) (by omega) (fun c hc => ⟨h.pos c hc, mem_le_sum hc⟩) (by omega) (Int.le_refl _)
  have r : Rch cs (-((n : Int) + cs.sum)) ((n : Int) + cs.sum) n := ⟨_, w (Pay.ones h.mem1 n).hand⟩
  exact ⟨(dB_spec r).1.hand, fun k p => (dB_spec r).2 k (w p)⟩
/-- it is how far the sum is within any such bounds -/
theorem hw_dB {n m : Nat} (h : Sys cs) (hm : ∀ c ∈ cs, c ≤ m) (hl : lo ≤ -(m : Int)) (hh : (n : Int) + m ≤ hi) : Rch cs lo hi n ∧ dB cs lo hi n = hw cs n := by
  have w := fun {k : Nat} (p : Hand cs k (n : Int)) => p.within (lo := lo) (hi := hi) (m := m) (by omega) (fun c hc => ⟨h.pos c hc, hm c hc⟩) hl hh
  have s := hw_spec h n
  have r : Rch cs lo hi n := ⟨_, w s.1⟩
  refine ⟨r, ?_⟩
  have a := (dB_spec r).2 _ (w s.1)
  have b := s.2 _ (dB_spec r).1.hand
  omega
theorem hw_le_fw (h : Sys cs) (n : Nat) : hw cs n ≤ fw cs n := (hw_spec h n).2 _ (fw_pay h.mem1 n).hand
/-! ### ring by ring, one amount after the other -/
structure Bf (cs : List Nat) (lo hi : Int) (at_ : Nat) (L : List (Int × Option Int)) : Prop where
  zero : L[0]? = some (0, none)
  nodup : (L.map (·.1)).Nodup
  reach : ∀ x ∈ L.map (·.1), Rch cs lo hi x
  par : ∀ x p, (x, some p) ∈ L → p ∈ L.map (·.1) ∧ dB cs lo hi x = dB cs lo hi p + 1 ∧ Adj cs p x
  root : ∀ x, (x, none) ∈ L → x = 0
  mono : (L.map (·.1)).Pairwise fun a b => dB cs lo hi a ≤ dB cs lo hi b
  done : ∀ i x, i < at_ → (L.map (·.1))[i]? = some x → ∀ y, Adj cs x y → lo ≤ y → y ≤ hi → y ∈ L.map (·.1)
  top : ∀ x, (L.map (·.1))[at_]? = some x → ∀ y ∈ L.map (·.1), dB cs lo hi y ≤ dB cs lo hi x + 1
theorem Bf.start : Bf cs lo hi 0 [(0, none)] where
  zero := rfl
  nodup := List.nodup_cons.mpr ⟨fun h => (by cases h), List.nodup_nil⟩
  reach := fun x hx => by
    rw [List.mem_singleton.mp hx]
    exact rch_zero
  par := fun x p hx => by
    have := List.mem_singleton.mp hx
    cases this
  root := fun x hx => by
    have := List.mem_singleton.mp hx
    cases this
    rfl
  mono := List.pairwise_singleton _ _
  done := fun i x hi => absurd hi (Nat.not_lt_zero i)
  top := fun x hx y hy => by
    rw [List.mem_singleton.mp hy]
    show dB cs lo hi 0 ≤ _
    rw [dB_zero]
    exact Nat.zero_le _
variable {at_ : Nat} {L : List (Int × Option Int)}
theorem Bf.mem0 (b : Bf cs lo hi at_ L) : (0 : Int) ∈ L.map (·.1) := List.mem_map.mpr ⟨_, List.mem_of_getElem? b.zero, rfl⟩
/-- what is no farther than the one in turn is there -/
theorem Bf.there (b : Bf cs lo hi at_ L) {h : Int} (hh : (L.map (·.1))[at_]? = some h) : ∀ (k : Nat) (y : Int), Rch cs lo hi y → dB cs lo hi y = k → k ≤ dB cs lo hi h → y ∈ L.map (·.1) := by
  intro k
  induction k with
  | zero =>
    intro y r e _
    rw [rch_zero_of r e]
    exact b.mem0
  | succ k ih =>
    intro y r e hk
    obtain ⟨x, a, rx, ex, h1, h2⟩ := rch_pred r e
    have hx := ih x rx ex (by omega)
    obtain ⟨i, hi, he⟩ := List.mem_iff_getElem.mp hx
    have hi' : (L.map (·.1))[i]? = some x := by rw [List.getElem?_eq_getElem hi, he]
    have : i < at_ := by
      by_cases q : i < at_
      · exact q
      · exfalso
        by_cases q2 : i = at_
        · subst q2
          rw [hi'] at hh
          cases hh
          omega
        · obtain ⟨h3, h4⟩ := List.getElem?_eq_some_iff.mp hh
          have := List.pairwise_iff_getElem.mp b.mono at_ i h3 hi (by omega)
          rw [h4, he] at this
          omega
    exact b.done i x this hi' y a h1 h2
theorem Bf.all (b : Bf cs lo hi at_ L) (hh : L.length ≤ at_) : ∀ (k : Nat) (y : Int), Rch cs lo hi y → dB cs lo hi y = k → y ∈ L.map (·.1) := by
  intro k
  induction k with
  | zero =>
    intro y r e
    rw [rch_zero_of r e]
    exact b.mem0
  | succ k ih =>
    intro y r e
    obtain ⟨x, a, rx, ex, h1, h2⟩ := rch_pred r e
    have hx := ih x rx ex
    obtain ⟨i, hi, he⟩ := List.mem_iff_getElem.mp hx
    have hi' : (L.map (·.1))[i]? = some x := by rw [List.getElem?_eq_getElem hi, he]
    rw [List.length_map] at hi
    exact b.done i x (by omega) hi' y a h1 h2
theorem Bf.put (b : Bf cs lo hi at_ L) {h y : Int} (hh : (L.map (·.1))[at_]? = some h) (a : Adj cs h y) (h1 : lo ≤ y) (h2 : y ≤ hi) (hn : y ∉ L.map (·.1)) : Bf cs lo hi at_ (L ++ [(y, some h)]) := by
  have hm : h ∈ L.map (·.1) := List.mem_of_getElem? hh
  have rh := b.reach h hm
  obtain ⟨ry, le⟩ := rch_step a h1 h2 rh
  have ed : dB cs lo hi y = dB cs lo hi h + 1 := by
    by_cases q : dB cs lo hi y ≤ dB cs lo hi h
    · exact absurd (b.there hh _ y ry rfl q) hn
    · omega
  have hlt : at_ < (L.map (·.1)).length := (List.getElem?_eq_some_iff.mp hh).1
  have em : (L ++ [(y, some h)]).map (·.1) = L.map (·.1) ++ [y] := List.map_append ..
  have sub : ∀ x, x ∈ L.map (·.1) → x ∈ (L ++ [(y, some h)]).map (·.1) := fun x hx => by
    rw [em]
    exact List.mem_append_left _ hx
  constructor
  · obtain ⟨l, _⟩ := List.getElem?_eq_some_iff.mp b.zero
    rw [List.getElem?_append_left l]
    exact b.zero
  · rw [em]
    refine List.nodup_append.mpr ⟨b.nodup, List.nodup_cons.mpr ⟨fun z => (by cases z), List.nodup_nil⟩, fun x hx z hz e => ?_⟩
    rw [List.mem_singleton.mp hz] at e
    exact hn (e ▸ hx)
  · intro x hx
    rw [em] at hx
    rcases List.mem_append.mp hx with z | z
    · exact b.reach x z
    · rw [List.mem_singleton.mp z]
      exact ry
  · intro x p hx
    rcases List.mem_append.mp hx with z | z
    · obtain ⟨u1, u2, u3⟩ := b.par x p z
      exact ⟨sub _ u1, u2, u3⟩
    · have := List.mem_singleton.mp z
      cases this
      exact ⟨sub _ hm, ed, a⟩
  · intro x hx
    rcases List.mem_append.mp hx with z | z
    · exact b.root x z
    · have := List.mem_singleton.mp z
      cases this
  · rw [em]
    refine List.pairwise_append.mpr ⟨b.mono, List.pairwise_singleton _ _, fun x hx z hz => ?_⟩
    rw [List.mem_singleton.mp hz, ed]
    exact b.top h hh x hx
  · intro i x hi hx z az z1 z2
    rw [em, List.getElem?_append_left (by omega)] at hx
    exact sub _ (b.done i x hi hx z az z1 z2)
  · intro x hx z hz
    rw [em, List.getElem?_append_left hlt, hh] at hx
    cases hx
    rw [em] at hz
    rcases List.mem_append.mp hz with u | u
    · exact b.top h hh z u
    · rw [List.mem_singleton.mp u, ed]
      exact Nat.le_refl _
theorem Bf.next (b : Bf cs lo hi at_ L) {h : Int} (hh : (L.map (·.1))[at_]? = some h) (all : ∀ y, Adj cs h y → lo ≤ y → y ≤ hi → y ∈ L.map (·.1)) : Bf cs lo hi (at_ + 1) L where
  zero := b.zero
  nodup := b.nodup
  reach := b.reach
  par := b.par
  root := b.root
  mono := b.mono
  done := fun i x hi hx y a h1 h2 => by
    by_cases q : i = at_
    · subst q
      rw [hh] at hx
      cases hx
      exact all y a h1 h2
    · exact b.done i x (by omega) hx y a h1 h2
  top := fun x hx y hy => by
    have := b.top h hh y hy
    obtain ⟨h3, h4⟩ := List.getElem?_eq_some_iff.mp hh
    obtain ⟨h5, h6⟩ := List.getElem?_eq_some_iff.mp hx
    have := List.pairwise_iff_getElem.mp b.mono at_ (at_ + 1) h3 h5 (by omega)
    rw [h4, h6] at this
    omega
end
/-- no more amounts than places -/
theorem nodup_range : ∀ (n : Nat) (l : List Int) (lo : Int), l.Nodup → (∀ x ∈ l, lo ≤ x ∧ x < lo + n) → l.length ≤ n
  | 0, [], _, _, _ => Nat.le_refl _
  | 0, x :: _, lo, _, h => by
    have := h x List.mem_cons_self
    omega
  | n + 1, l, lo, nd, h => by
    have h1 : (l.filter fun x => decide (x ≠ lo)).length ≤ n := by
      refine nodup_range n _ (lo + 1) (nd.sublist (List.filter_sublist ..)) fun x hx => ?_
      obtain ⟨a, b⟩ := List.mem_filter.mp hx
      have := h x a
      have := of_decide_eq_true b
      omega
    have h2 : ∀ l : List Int, l.Nodup → l.length ≤ (l.filter fun x => decide (x ≠ lo)).length + 1 := by
      intro l
      induction l with
      | nil => intro _; exact Nat.zero_le _
      | cons x r ih =>
        intro nd
        obtain ⟨n1, n2⟩ := List.nodup_cons.mp nd
        by_cases q : x = lo
        · subst q
          have : r.filter (fun y => decide (y ≠ x)) = r := List.filter_eq_self.mpr fun y hy => decide_eq_true fun e => n1 (e ▸ hy)
          rw [List.filter_cons, if_neg (by simp), this, List.length_cons]
          exact Nat.le_refl _
        · rw [List.filter_cons, if_pos (decide_eq_true q), List.length_cons, List.length_cons]
          have := ih n2
          omega
    have := h2 l nd
    omega
theorem Bf.len {cs : List Nat} {lo hi : Int} {at_ n : Nat} {L : List (Int × Option Int)} (b : Bf cs lo hi at_ L) (h0 : lo ≤ 0 ∧ 0 ≤ hi) (hn : hi < lo + n) : L.length ≤ n := by
  have := nodup_range n _ lo b.nodup fun x hx => by
    obtain ⟨k, hk⟩ := b.reach x hx
    have := hk.inb h0
    omega
  rwa [List.length_map] at this
/-! ### laws of hands -/
section
variable {cs : List Nat}
theorem Hand.neg {k : Nat} {n : Int} (h : Hand cs k n) : Hand cs k (-n) := by
  induction h with
  | zero => exact .zero
  | @add k n c hc _ ih =>
    rw [show -(n + (c : Int)) = -n - (c : Int) by omega]
    exact .sub hc ih
  | @sub k n c hc _ ih =>
    rw [show -(n - (c : Int)) = -n + (c : Int) by omega]
    exact .add hc ih
theorem Hand.plus {k j : Nat} {n m : Int} (h : Hand cs k n) (h' : Hand cs j m) : Hand cs (k + j) (n + m) := by
  induction h with
  | zero => simpa using h'
  | @add k n c hc _ ih =>
    rw [show k + 1 + j = k + j + 1 by omega, show n + (c : Int) + m = n + m + (c : Int) by omega]
    exact .add hc ih
  | @sub k n c hc _ ih =>
    rw [show k + 1 + j = k + j + 1 by omega, show n - (c : Int) + m = n + m - (c : Int) by omega]
    exact .sub hc ih
theorem hw_add (h : Sys cs) (a b : Nat) : hw cs (a + b) ≤ hw cs a + hw cs b := (hw_spec h _).2 _ (by
  have := (hw_spec h a).1.plus (hw_spec h b).1
  rwa [show ((a + b : Nat) : Int) = (a : Int) + (b : Int) by omega])
theorem hw_sub (h : Sys cs) {a b c : Nat} (e : c + b = a) : hw cs c ≤ hw cs a + hw cs b := (hw_spec h _).2 _ (by
  have := (hw_spec h a).1.plus (hw_spec h b).1.neg
  rwa [show ((c : Nat) : Int) = (a : Int) + -(b : Int) by omega])
theorem hw_zero (h : Sys cs) : hw cs 0 = 0 := Nat.le_zero.mp ((hw_spec h 0).2 0 .zero)
theorem hw_pos (h : Sys cs) {n : Nat} (hn : 0 < n) : 0 < hw cs n := by
  have s := (hw_spec h n).1
  rcases Nat.eq_zero_or_pos (hw cs n) with z | z
  · rw [z] at s
    generalize hx : (n : Int) = x at s
    cases s
    omega
  · exact z
theorem hw_coin (h : Sys cs) {c : Nat} (hc : c ∈ cs) : hw cs c = 1 := by
  have a := (hw_spec h c).2 _ (Pay.one hc).hand
  have b := hw_pos h (h.pos c hc)
  omega
/-- lists of coins that come to a sum, as few as can be -/
structure Hands (cs : List Nat) (n : Nat) (g b : List Nat) : Prop where
  gm : ∀ c ∈ g, c ∈ cs
  bm : ∀ c ∈ b, c ∈ cs
  sum : g.sum = n + b.sum
  few : g.length + b.length = hw cs n
theorem perm_sum {l l' : List Nat} (h : l.Perm l') : l.sum = l'.sum := by
  induction h with
  | nil => rfl
  | cons x _ ih => rw [List.sum_cons, List.sum_cons, ih]
  | swap x y l => rw [List.sum_cons, List.sum_cons, List.sum_cons, List.sum_cons]; omega
  | trans _ _ a b => rw [a, b]
theorem Hands.perm {n : Nat} {g b g' b' : List Nat} (h : Hands cs n g b) (p : g.Perm g') (q : b.Perm b') : Hands cs n g' b' where
  gm := fun c hc => h.gm c (p.mem_iff.mpr hc)
  bm := fun c hc => h.bm c (q.mem_iff.mpr hc)
  sum := by rw [← perm_sum p, ← perm_sum q]; exact h.sum
  few := by rw [← p.length_eq, ← q.length_eq]; exact h.few
/-- no coin goes both ways -/
theorem Hands.apart {n : Nat} {g b : List Nat} (s : Sys cs) (h : Hands cs n g b) {c : Nat} (hg : c ∈ g) (hb : c ∈ b) : False := by
  have p := List.perm_cons_erase hg
  have q := List.perm_cons_erase hb
  have h' := h.perm p q
  have a := hand_of_lists (cs := cs) (g.erase c) (b.erase c) (fun x hx => h'.gm x (List.mem_cons_of_mem _ hx)) fun x hx => h'.bm x (List.mem_cons_of_mem _ hx)
  have e := h'.sum
  rw [List.sum_cons, List.sum_cons] at e
  have f := h'.few
  rw [List.length_cons, List.length_cons] at f
  rw [show ((g.erase c).sum : Int) - ((b.erase c).sum : Int) = (n : Int) by omega] at a
  have := (hw_spec s n).2 _ a
  omega
theorem pay_list : ∀ {l : List Nat}, (∀ c ∈ l, c ∈ cs) → Pay cs l.length l.sum
  | [], _ => .zero
  | c :: r, h => by
    have := Pay.step (h c List.mem_cons_self) (pay_list (l := r) fun x hx => h x (List.mem_cons_of_mem _ hx))
    rw [List.length_cons, List.sum_cons, Nat.add_comm c]
    exact this
theorem pay_as : ∀ {k n : Nat}, Pay cs k n → ∃ l : List Nat, (∀ c ∈ l, c ∈ cs) ∧ l.length = k ∧ l.sum = n := by
  intro k n p
  induction p with
  | zero => exact ⟨[], fun _ h => (by cases h), rfl, rfl⟩
  | @step k n c hc _ ih =>
    obtain ⟨l, a, b, d⟩ := ih
    refine ⟨c :: l, fun x hx => ?_, by rw [List.length_cons, b], by rw [List.sum_cons, d]; omega⟩
    rcases List.mem_cons.mp hx with z | z
    · rw [z]; exact hc
    · exact a x z
/-- each of the two lists is a best way of what it comes to -/
theorem Hands.fwg {n : Nat} {g b : List Nat} (s : Sys cs) (h : Hands cs n g b) : fw cs g.sum = g.length := by
  have a := fw_le (pay_list h.gm)
  obtain ⟨l, l1, l2, l3⟩ := pay_as (fw_pay s.mem1 g.sum)
  have q := hand_of_lists (cs := cs) l b l1 h.bm
  have e := h.sum
  rw [show (l.sum : Int) - (b.sum : Int) = (n : Int) by omega] at q
  have := (hw_spec s n).2 _ q
  have := h.few
  omega
theorem Hands.fwb {n : Nat} {g b : List Nat} (s : Sys cs) (h : Hands cs n g b) : fw cs b.sum = b.length := by
  have a := fw_le (pay_list h.bm)
  obtain ⟨l, l1, l2, l3⟩ := pay_as (fw_pay s.mem1 b.sum)
  have q := hand_of_lists (cs := cs) g l h.gm l1
  have e := h.sum
  rw [show (g.sum : Int) - (l.sum : Int) = (n : Int) by omega] at q
  have := (hw_spec s n).2 _ q
  have := h.few
  omega
end
end Coin

namespace Coin
/-! ### the two ways of a first fault share no coin -/
theorem dot_dec : ∀ (vs cs : List Nat) (k v c : Nat), vs[k]? = some (v + 1) → cs[k]? = some c → ∃ ws : List Nat, ws.length = vs.length ∧ ws.sum + 1 = vs.sum ∧ dot ws cs + c = dot vs cs
  | [], _, k, v, c, h, _ => by simp at h
  | _, [], k, v, c, _, h => by simp at h
  | a :: vs, d :: cs, 0, v, c, h, h' => by
    have e1 : a = v + 1 := by simpa using h
    have e2 : d = c := by simpa using h'
    subst e1 e2
    refine ⟨v :: vs, rfl, by rw [List.sum_cons, List.sum_cons]; omega, ?_⟩
    show v * d + dot vs cs + d = (v + 1) * d + dot vs cs
    rw [Nat.succ_mul]
    omega
  | a :: vs, d :: cs, k + 1, v, c, h, h' => by
    obtain ⟨ws, e1, e2, e3⟩ := dot_dec vs cs k v c (by simpa using h) (by simpa using h')
    refine ⟨a :: ws, by rw [List.length_cons, List.length_cons, e1], by rw [List.sum_cons, List.sum_cons]; omega, ?_⟩
    show a * d + dot ws cs + c = a * d + dot vs cs
    omega
/-- a way has a coin: without it one coin less pays the rest -/
theorem way_less {cs vs : List Nat} {n k v c : Nat} (hl : vs.length = cs.length) (hd : dot vs cs = n) (hv : vs[k]? = some (v + 1)) (hc : cs[k]? = some c) : c ≤ n ∧ fw cs (n - c) + 1 ≤ vs.sum := by
  obtain ⟨ws, e1, e2, e3⟩ := dot_dec vs cs k v c hv hc
  have p := pay_way (cs := cs) ws cs (e1.trans hl) fun _ h => h
  have := fw_le p
  rw [show dot ws cs = n - c by omega] at this
  exact ⟨by omega, by omega⟩
/-- the greatest first has a coin: without it it is the greatest first -/
theorem gr_has (as : List Nat) (c : Nat) (bs : List Nat) (n : Nat) (hp : ∀ a ∈ as, 0 < a) (c0 : 0 < c) (h : 0 < grR as n / c) : c ≤ n ∧ (gr (as ++ c :: bs) n).sum = (gr (as ++ c :: bs) (n - c)).sum + 1 := by
  have hc : c ≤ grR as n := by
    by_cases q : c ≤ grR as n
    · exact q
    · rw [Nat.div_eq_of_lt (by omega)] at h
      omega
  obtain ⟨g1, g2⟩ := gr_less as n c hp hc
  have := grR_le as n
  refine ⟨by omega, ?_⟩
  rw [gr_append, gr_append, g1, List.sum_append, List.sum_append]
  show _ + (grR as n / c :: gr bs (grR as n % c)).sum = _ + (grR as (n - c) / c :: gr bs (grR as (n - c) % c)).sum + 1
  rw [g2, List.sum_cons, List.sum_cons, Nat.div_eq_sub_div c0 hc, Nat.mod_eq_sub_mod hc]
  omega
theorem rev_split {cs : List Nat} {k c : Nat} (h : cs[k]? = some c) : cs.reverse = (cs.drop (k + 1)).reverse ++ c :: (cs.take k).reverse := by
  have e : cs = cs.take k ++ c :: cs.drop (k + 1) := by
    obtain ⟨h1, h2⟩ := List.getElem?_eq_some_iff.mp h
    rw [← h2, List.getElem_cons_drop, List.take_append_drop]
  have e2 : cs.reverse = (cs.take k ++ c :: cs.drop (k + 1)).reverse := congrArg List.reverse e
  rw [e2, List.reverse_append, List.reverse_cons, List.append_assoc]
  rfl
theorem taken_has {cs : List Nat} (h : Sys cs) {n k v c : Nat} (hv : (taken cs n)[k]? = some (v + 1)) (hc : cs[k]? = some c) : c ≤ n ∧ gs cs n = gs cs (n - c) + 1 := by
  have hk : k < cs.length := (List.getElem?_eq_some_iff.mp hc).1
  have e := rev_split hc
  have hp : ∀ a ∈ (cs.drop (k + 1)).reverse, 0 < a := fun a ha => h.pos a (List.mem_of_mem_drop (List.mem_reverse.mp ha))
  have c0 := h.pos c (List.mem_of_getElem? hc)
  have hl : (gr cs.reverse n).length = cs.length := by rw [gr_len, List.length_reverse]
  unfold taken at hv
  rw [List.getElem?_reverse (by omega), hl, e, gr_append, List.getElem?_append_right (by rw [gr_len, List.length_reverse, List.length_drop]; omega), gr_len, List.length_reverse, List.length_drop, show cs.length - 1 - k - (cs.length - (k + 1)) = 0 by omega] at hv
  have hv : grR (cs.drop (k + 1)).reverse n / c = v + 1 := Option.some.inj hv
  have := gr_has (cs.drop (k + 1)).reverse c (cs.take k).reverse n hp c0 (by omega)
  rw [← e, ← gs_eq, ← gs_eq] at this
  exact this
theorem first_apart {cs : List Nat} (h : Sys cs) {n k : Nat} (f : First cs n) (h1 : 0 < (taken cs n).getD k 0) (h2 : 0 < (byFew cs n).getD k 0) : False := by
  have hk : k < cs.length := by
    by_cases q : k < cs.length
    · exact q
    · rw [List.getD_eq_getElem?_getD, List.getElem?_eq_none (by rw [taken_len]; omega)] at h1
      cases h1
  have g : ∀ l : List Nat, k < l.length → 0 < l.getD k 0 → ∃ v, l[k]? = some (v + 1) := fun l hl hp => by
    rw [List.getD_eq_getElem?_getD, List.getElem?_eq_getElem hl] at hp
    refine ⟨l[k] - 1, ?_⟩
    rw [List.getElem?_eq_getElem hl]
    have : 0 < l[k] := hp
    congr 1
    omega
  obtain ⟨v, hv⟩ := g _ (by rw [taken_len]; exact hk) h1
  obtain ⟨u, hu⟩ := g _ (by rw [byFew_len]; exact hk) h2
  have hc := List.getElem?_eq_getElem hk
  obtain ⟨a1, a2⟩ := taken_has h hv hc
  obtain ⟨b1, b2⟩ := way_less (byFew_len cs n) (byFew_pays h n) hu hc
  rw [byFew_sum h] at b2
  have c0 := h.pos _ (List.mem_of_getElem? hc)
  have no : fw cs (n - cs[k]) = gs cs (n - cs[k]) := ok_of h fun z => absurd (f.least _ z) (by omega)
  have := f.fault
  unfold Fault at this
  omega
/-! ### beginnings -/
theorem Sys.take {cs : List Nat} (h : Sys cs) {k : Nat} (hk : 0 < k) : Sys (cs.take k) := ⟨by
  have := h.one
  cases cs with
  | nil => cases this
  | cons a r =>
    obtain ⟨j, rfl⟩ : ∃ j, k = j + 1 := ⟨k - 1, by omega⟩
    exact this, h.rise.sublist (List.take_sublist _ _)⟩
/-- the system's beginnings -/
def begs (cs : List Nat) : List (List Nat) := (List.range cs.length).map fun i => cs.take (i + 1)
/-- how many coins all orderly ones have -/
noncomputable def obeg (cs : List Nat) : List Nat := ((begs cs).filter fun c => decide (ff c = none)).map List.length
theorem obeg_eq (cs : List Nat) : obeg cs = ((List.range cs.length).filter fun i => decide (ff (cs.take (i + 1)) = none)).map (· + 1) := by
  unfold obeg begs
  rw [List.filter_map, List.map_map]
  refine List.map_congr_left fun i hi => ?_
  have := List.mem_range.mp (List.mem_filter.mp hi).1
  show (cs.take (i + 1)).length = i + 1
  rw [List.length_take]
  omega
theorem obeg_last {cs : List Nat} (h : Sys cs) (o : ff cs = none) : ∃ l, obeg cs = l ++ [cs.length] := by
  have hl : 0 < cs.length := List.length_pos_iff.mpr h.ne
  obtain ⟨j, hj⟩ : ∃ j, cs.length = j + 1 := ⟨cs.length - 1, by omega⟩
  rw [obeg_eq, hj, List.range_succ, List.filter_append, List.map_append]
  refine ⟨((List.range j).filter fun i => decide (ff (cs.take (i + 1)) = none)).map (· + 1), ?_⟩
  congr 1
  have : (decide (ff (cs.take (j + 1)) = none)) = true := by
    rw [← hj, List.take_length, decide_eq_true_iff]
    exact o
  rw [List.filter_cons, if_pos this]
  rfl
/-- 1 and 2 are always among them -/
theorem obeg_two {cs : List Nat} (h : Sys cs) : (obeg cs).take 2 = [1, 2].take cs.length := by
  rw [obeg_eq]
  have f1 : 0 < cs.length → decide (ff (cs.take 1) = none) = true := fun hl => by
    rw [decide_eq_true_iff, ff_none]
    exact short_orderly (h.take (by decide)) (by rw [List.length_take]; omega)
  have f2 : decide (ff (cs.take 2) = none) = true := by
    rw [decide_eq_true_iff, ff_none]
    exact short_orderly (h.take (by decide)) (by rw [List.length_take]; omega)
  have hl : 0 < cs.length := List.length_pos_iff.mpr h.ne
  obtain ⟨j, hj⟩ : ∃ j, cs.length = j + 1 := ⟨cs.length - 1, by omega⟩
  cases j with
  | zero =>
    rw [hj]
    show (([0].filter fun i => decide (ff (cs.take (i + 1)) = none)).map (· + 1)).take 2 = _
    rw [List.filter_cons, if_pos (f1 hl)]
    rfl
  | succ j =>
    rw [hj, show j + 1 + 1 = 2 + j by omega, List.range_add, List.filter_append, List.map_append]
    have : ((List.range 2).filter fun i => decide (ff (cs.take (i + 1)) = none)) = [0, 1] := by
      show [0, 1].filter _ = _
      rw [List.filter_cons, if_pos (f1 hl), List.filter_cons, if_pos f2]
      rfl
    rw [this]
    show ([1, 2] ++ _).take 2 = [1, 2].take (2 + j)
    rw [List.take_append_of_le_length (by decide), List.take_of_length_le (by decide), List.take_of_length_le (by show 2 ≤ 2 + j; omega)]
/-! ### all faults -/
noncomputable def faults (cs : List Nat) (n : Nat) : List Nat := (List.range (n + 1)).filter fun k => decide (fw cs k < gs cs k)
theorem faults_first {cs : List Nat} {n k : Nat} {r : List Nat} (h : faults cs n = k :: r) : ff cs = some k := by
  have hk : k ∈ faults cs n := by rw [h]; exact List.mem_cons_self
  obtain ⟨h1, h2⟩ := List.mem_filter.mp hk
  have h1 := List.mem_range.mp h1
  have h2 := of_decide_eq_true (p := fw cs k < gs cs k) h2
  refine ff_some.mpr ⟨h2, fun m hm => ?_⟩
  by_cases q : m < k
  · exfalso
    have hm' : m ∈ faults cs n := List.mem_filter.mpr ⟨List.mem_range.mpr (by omega), decide_eq_true hm⟩
    have p : (faults cs n).Pairwise (· < ·) := (List.pairwise_lt_range).sublist List.filter_sublist
    rw [h] at hm' p
    rcases List.mem_cons.mp hm' with z | z
    · omega
    · have := (List.pairwise_cons.mp p).1 m z
      omega
  · omega
/-! ### how many ways there are -/
def ways : List Nat → Nat → Nat
  | [], n => if n = 0 then 1 else 0
  | c :: cs, n => ways cs n + if h : 0 < c ∧ c ≤ n then ways (c :: cs) (n - c) else 0
termination_by cs n => (cs.length, n)
decreasing_by
  · exact Prod.Lex.left _ _ (by simp)
  · exact Prod.Lex.right _ (by omega)
theorem ways_nil (n : Nat) : ways [] n = if n = 0 then 1 else 0 := by rw [ways]
theorem ways_lt {c : Nat} (cs : List Nat) {n : Nat} (h : n < c) : ways (c :: cs) n = ways cs n := by
  rw [ways, dif_neg (by omega), Nat.add_zero]
theorem ways_ge {c : Nat} (cs : List Nat) {n : Nat} (h0 : 0 < c) (h : c ≤ n) : ways (c :: cs) n = ways cs n + ways (c :: cs) (n - c) := by
  rw [ways, dif_pos ⟨h0, h⟩]
theorem ways_zero : ∀ {cs : List Nat}, (∀ c ∈ cs, 0 < c) → ways cs 0 = 1
  | [], _ => by rw [ways_nil, if_pos rfl]
  | c :: cs, h => by
    rw [ways_lt cs (h c List.mem_cons_self)]
    exact ways_zero fun x hx => h x (List.mem_cons_of_mem _ hx)
theorem ways_swap (c d : Nat) (cs : List Nat) (hc : 0 < c) (hd : 0 < d) : ∀ n, ways (c :: d :: cs) n = ways (d :: c :: cs) n := by
  intro n
  induction n using Nat.strongRecOn with
  | ind n ih =>
    by_cases h1 : c ≤ n <;> by_cases h2 : d ≤ n
    · rw [ways_ge _ hc h1, ways_ge _ hd h2, ways_ge _ hd h2, ways_ge _ hc h1, ih (n - c) (by omega)]
      by_cases h3 : d ≤ n - c
      · rw [ways_ge _ hd h3, ← ih (n - d) (by omega), ways_ge (c := c) (d :: cs) hc (show c ≤ n - d by omega), show n - d - c = n - c - d by omega, ih (n - c - d) (by omega)]
        omega
      · rw [ways_lt _ (show n - c < d by omega), ← ih (n - d) (by omega), ways_lt (d :: cs) (show n - d < c by omega)]
        omega
    · rw [ways_ge _ hc h1, ways_lt _ (show n < d by omega), ways_lt _ (show n < d by omega), ways_ge _ hc h1, ih (n - c) (by omega), ways_lt _ (show n - c < d by omega)]
    · rw [ways_lt _ (show n < c by omega), ways_ge _ hd h2, ways_ge _ hd h2, ways_lt _ (show n < c by omega), ← ih (n - d) (by omega), ways_lt _ (show n - d < c by omega)]
    · rw [ways_lt _ (show n < c by omega), ways_lt _ (show n < d by omega), ways_lt _ (show n < d by omega), ways_lt _ (show n < c by omega)]
theorem ways_congr {as bs : List Nat} (h : ∀ n, ways as n = ways bs n) (c : Nat) : ∀ n, ways (c :: as) n = ways (c :: bs) n := by
  intro n
  induction n using Nat.strongRecOn with
  | ind n ih =>
    by_cases q : 0 < c ∧ c ≤ n
    · rw [ways_ge _ q.1 q.2, ways_ge _ q.1 q.2, h, ih (n - c) (by omega)]
    · rw [ways, dif_neg q, ways, dif_neg q, h]
theorem ways_perm {as bs : List Nat} (p : as.Perm bs) : (∀ c ∈ as, 0 < c) → ∀ n, ways as n = ways bs n := by
  induction p with
  | nil => intro _ _; rfl
  | cons x _ ih => intro h; exact ways_congr (ih fun c hc => h c (List.mem_cons_of_mem _ hc)) x
  | swap x y l => intro h; exact ways_swap y x l (h y List.mem_cons_self) (h x (List.mem_cons_of_mem _ List.mem_cons_self))
  | trans p q a b =>
    intro h n
    rw [a h n]
    exact b (fun c hc => h c (p.mem_iff.mpr hc)) n
theorem ways_one (n : Nat) : ways [1] n = 1 := by
  induction n with
  | zero => exact ways_zero (by simp)
  | succ n ih =>
    rw [ways_ge _ (by decide) (by omega), Nat.add_sub_cancel, ih, ways_nil, if_neg (by omega)]
theorem ways_pos {cs : List Nat} (h1 : 1 ∈ cs) (h : ∀ c ∈ cs, 0 < c) (n : Nat) : 1 ≤ ways cs n := by
  have key : ∀ (l : List Nat) n, ways [1] n ≤ ways (1 :: l) n := by
    intro l n
    rw [ways_one]
    induction n with
    | zero =>
      rw [ways_lt _ (by decide)]
      induction l with
      | nil => rw [ways_nil, if_pos rfl]; exact Nat.le_refl _
      | cons c l ih =>
        rw [ways]
        omega
    | succ n ih =>
      rw [ways_ge _ (by decide) (by omega), Nat.add_sub_cancel]
      omega
  have p := List.perm_cons_erase h1
  rw [ways_perm p h]
  have := key (cs.erase 1) n
  rwa [ways_one] at this
/-- a coin left out, and one of it taken -/
theorem ways_mid (as : List Nat) (c : Nat) (bs : List Nat) (h : ∀ x ∈ as ++ c :: bs, 0 < x) (n : Nat) : ways (as ++ c :: bs) n = ways (as ++ bs) n + if c ≤ n then ways (as ++ c :: bs) (n - c) else 0 := by
  have p : (as ++ c :: bs).Perm (c :: (as ++ bs)) := List.perm_middle
  have c0 := h c (List.mem_append_right _ List.mem_cons_self)
  rw [ways_perm p h n]
  by_cases q : c ≤ n
  · rw [if_pos q, ways_ge _ c0 q, ways_perm p h]
  · rw [if_neg q, ways_lt _ (by omega), Nat.add_zero]
/-- the coin c as often as it goes -/
theorem ways_sum {c : Nat} (cs : List Nat) (hc : 0 < c) : ∀ n, ways (c :: cs) n = ((List.range (n / c + 1)).map fun k => ways cs (n - k * c)).sum := by
  intro n
  induction n using Nat.strongRecOn with
  | ind n ih =>
    by_cases q : c ≤ n
    · rw [ways_ge _ hc q, ih (n - c) (by omega), Nat.div_eq_sub_div hc q, show (n - c) / c + 1 + 1 = 1 + ((n - c) / c + 1) by omega]
      generalize (n - c) / c + 1 = Q
      rw [show List.range (1 + Q) = List.range 1 ++ (List.range Q).map (1 + ·) from List.range_add, List.map_append, List.sum_append, List.map_map]
      have : ((fun k => ways cs (n - k * c)) ∘ (1 + ·)) = fun k => ways cs (n - c - k * c) := by
        funext k
        show ways cs (n - (1 + k) * c) = _
        congr 1
        rw [Nat.add_mul]
        omega
      rw [this]
      show ways cs n + _ = ([0].map fun k => ways cs (n - k * c)).sum + _
      simp
    · rw [ways_lt _ (by omega), Nat.div_eq_of_lt (by omega)]
      show _ = ([0].map fun k => ways cs (n - k * c)).sum
      simp
end Coin

namespace Coin
theorem filter_head {p : Nat → Bool} {n lo : Nat} (h : lo < n) (hp : p lo = true) (hl : ∀ k, k < lo → p k = false) : ∃ r, (List.range n).filter p = lo :: r := by
  obtain ⟨m, rfl⟩ : ∃ m, n = lo + (1 + m) := ⟨n - lo - 1, by omega⟩
  rw [List.range_add, List.filter_append, List.filter_eq_nil_iff.mpr fun k hk => by rw [hl k (List.mem_range.mp hk)]; decide, List.nil_append, List.range_add, List.map_append, List.filter_append]
  refine ⟨List.filter p (List.map (fun x => lo + x) (List.map (fun x => 1 + x) (List.range m))), ?_⟩
  show [lo + 0].filter p ++ List.filter p (List.map (fun x => lo + x) (List.map (fun x => 1 + x) (List.range m))) = _
  rw [Nat.add_zero, List.filter_cons, if_pos hp]
  rfl
theorem filter_last {p : Nat → Bool} {n hi : Nat} (h : hi < n) (hp : p hi = true) (hl : ∀ k, hi < k → k < n → p k = false) : ∃ r, (List.range n).filter p = r ++ [hi] := by
  obtain ⟨m, rfl⟩ : ∃ m, n = hi + 1 + m := ⟨n - hi - 1, by omega⟩
  refine ⟨(List.range hi).filter p, ?_⟩
  rw [List.range_add, List.filter_append, List.range_succ, List.filter_append, List.filter_cons, if_pos hp]
  have : ((List.range m).map (hi + 1 + ·)).filter p = [] := List.filter_eq_nil_iff.mpr fun k hk => by
    obtain ⟨j, hj, rfl⟩ := List.mem_map.mp hk
    have := List.mem_range.mp hj
    rw [hl _ (by omega) (by omega)]
    decide
  rw [this, List.append_nil]
  rfl
/-- how the first fault is made, the coins as they rise -/
theorem pearson_rise {cs : List Nat} (h : Sys cs) {w : Nat} (f : First cs w) : ∃ (lo hi c q : Nat) (g T : List Nat), hi + 1 < cs.length ∧ lo ≤ hi ∧ cs[hi + 1]? = some c ∧ 1 < c ∧ g.length = lo ∧
    byFew cs w = List.replicate lo 0 ++ (q + 1) :: T ∧ taken cs (c - 1) = g ++ q :: T ∧
    (∃ r, (List.range cs.length).filter (fun k => decide (0 < (byFew cs w).getD k 0)) = lo :: r) ∧ (∃ r, (List.range cs.length).filter (fun k => decide (0 < (byFew cs w).getD k 0)) = r ++ [hi]) := by
  obtain ⟨as, c, P, b, bs, V, q, y, e1, e2, e3, e4, e5, e6⟩ := pearson h f
  have hm : byFew cs w = List.replicate bs.length 0 ++ (q + 1) :: (V.reverse ++ List.replicate (as.length + 1) 0) := by
    unfold byFew
    rw [e4]
    simp only [List.reverse_append, List.reverse_cons, List.reverse_replicate, List.append_assoc]
    rfl
  have hg : taken cs (c - 1) = (gr bs y).reverse ++ q :: (V.reverse ++ List.replicate (as.length + 1) 0) := by
    unfold taken
    rw [e5]
    simp only [List.reverse_append, List.reverse_cons, List.reverse_replicate, List.append_assoc]
    rfl
  have hc : cs = bs.reverse ++ (b :: P.reverse ++ c :: as.reverse) := by
    have := congrArg List.reverse e1
    rw [List.reverse_reverse] at this
    rw [this]
    simp only [List.reverse_append, List.reverse_cons, List.append_assoc]
    rfl
  have hlen : cs.length = bs.length + (P.length + 1 + (as.length + 1)) := by
    have := congrArg List.length hc
    simp only [List.length_append, List.length_cons, List.length_reverse] at this
    omega
  have hcat : cs[bs.length + V.length + 1]? = some c := by
    rw [hc, List.getElem?_append_right (by rw [List.length_reverse]; omega), List.length_reverse, List.getElem?_append_right (by rw [List.length_cons, List.length_reverse]; omega), List.length_cons, List.length_reverse, e2, show bs.length + P.length + 1 - bs.length - (P.length + 1) = 0 by omega]
    rfl
  have cm : c ∈ cs := List.mem_of_getElem? hcat
  have bm : b ∈ cs := by
    rw [hc]
    exact List.mem_append_right _ (List.mem_append_left _ List.mem_cons_self)
  have b0 := h.pos b bm
  have hbc : b < c := by
    have p := h.rise
    rw [hc] at p
    exact (List.pairwise_append.mp (List.pairwise_append.mp p).2.1).2.2 b List.mem_cons_self c List.mem_cons_self
  have gd : ∀ k, (byFew cs w).getD k 0 = if k < bs.length then 0 else ((q + 1) :: (V.reverse ++ List.replicate (as.length + 1) 0)).getD (k - bs.length) 0 := fun k => by
    rw [hm, List.getD_eq_getElem?_getD, List.getD_eq_getElem?_getD]
    by_cases z : k < bs.length
    · rw [if_pos z, List.getElem?_append_left (by rw [List.length_replicate]; exact z), List.getElem?_replicate, if_pos z]
      rfl
    · rw [if_neg z, List.getElem?_append_right (by rw [List.length_replicate]; omega), List.length_replicate]
  refine ⟨bs.length, bs.length + V.length, c, q, (gr bs y).reverse, V.reverse ++ List.replicate (as.length + 1) 0, by omega, by omega, hcat, by omega, by rw [List.length_reverse, gr_len], hm, hg, filter_head (by omega) ?_ fun k hk => ?_, filter_last (by omega) ?_ fun k hk hkn => ?_⟩
  · rw [gd, if_neg (by omega), Nat.sub_self]
    exact decide_eq_true (Nat.succ_pos q)
  · rw [gd, if_pos hk]
    rfl
  · rw [gd, if_neg (by omega), show bs.length + V.length - bs.length = V.length by omega]
    cases V with
    | nil => exact decide_eq_true (Nat.succ_pos q)
    | cons v r =>
      have v0 := e6 v r rfl
      rw [List.length_cons, List.getD_cons_succ, List.getD_eq_getElem?_getD, List.reverse_cons, List.append_assoc, List.getElem?_append_right (by rw [List.length_reverse]; exact Nat.le_refl _), List.length_reverse, Nat.sub_self]
      exact decide_eq_true v0
  · rw [gd, if_neg (by omega)]
    obtain ⟨j, hj⟩ : ∃ j, k - bs.length = V.length + j + 1 := ⟨k - bs.length - V.length - 1, by omega⟩
    rw [hj, List.getD_cons_succ, List.getD_eq_getElem?_getD, List.getElem?_append_right (by rw [List.length_reverse]; omega), List.length_reverse, List.getElem?_replicate]
    split <;> rfl
end Coin
namespace Coin
/-! ### chains of coins -/
theorem gs_one (n : Nat) : gs [1] n = n := by
  rw [gs_eq]
  show n / 1 + 0 = n
  omega
theorem sys_two {b : Nat} (h : 1 < b) : Sys [1, b] := ⟨rfl, by simpa using h⟩
theorem sys_three {b c : Nat} (h : 1 < b) (hc : b < c) : Sys [1, b, c] := sys_snoc (sys_two h) (fun e he => by
  rcases List.mem_cons.mp he with z | z
  · omega
  · rw [List.mem_singleton.mp z]
    exact hc)
theorem three_orderly {b c : Nat} (h : 1 < b) (hc : b < c) : ff [1, b, c] = none ↔ upT b c * b - c < upT b c := by
  have s1 : Sys [1] := ⟨rfl, List.pairwise_singleton _ _⟩
  have op := one_point (sys_two h) (two_orderly h) (m := b) (List.mem_cons_of_mem _ List.mem_cons_self) (fun e he => by
    rcases List.mem_cons.mp he with z | z
    · omega
    · rw [List.mem_singleton.mp z]
      exact Nat.le_refl b) hc
  rw [ff_none]
  have e : [1, b] ++ [c] = [1, b, c] := rfl
  rw [e] at op
  rw [op]
  unfold Fits
  obtain ⟨u1, u2, u3⟩ := up_spec (show 0 < b by omega) (show 0 < c by omega)
  have g : gs [1, b] (upD b c) = upD b c := by
    have := gs_below (cs := [1]) (c := b) s1 (fun e he => by rw [List.mem_singleton.mp he]; exact h) u2
    rw [gs_one] at this
    exact this
  rw [g]
  unfold upD
  omega
structure Chain (xs r : List Nat) (m : Nat) : Prop where
  eq : xs = r ++ [m]
  sys : Sys xs
  ok : ff xs = none
theorem Chain.mem {xs r : List Nat} {m : Nat} (h : Chain xs r m) : m ∈ xs := by
  rw [h.eq]
  exact List.mem_append_right _ List.mem_cons_self
theorem Chain.max {xs r : List Nat} {m : Nat} (h : Chain xs r m) : ∀ e ∈ xs, e ≤ m := fun e he => by
  have p := h.sys.rise
  rw [h.eq] at p he
  rcases List.mem_append.mp he with z | z
  · have := (List.pairwise_append.mp p).2.2 e z m List.mem_cons_self
    omega
  · rw [List.mem_singleton.mp z]
    exact Nat.le_refl m
theorem Chain.next {xs r : List Nat} {m c : Nat} (h : Chain xs r m) (hc : m < c) (f : Fits xs m c) : Chain (xs ++ [c]) xs c := ⟨rfl, sys_snoc h.sys fun e he => by have := h.max e he; omega, ff_none.mpr ((one_point h.sys (ff_none.mp h.ok) h.mem h.max hc).mpr f)⟩
theorem Chain.times {xs r : List Nat} {m t : Nat} (h : Chain xs r m) (ht : 2 ≤ t) : Chain (xs ++ [m * t]) xs (m * t) := by
  have m0 := h.sys.pos m h.mem
  have : m * 2 ≤ m * t := Nat.mul_le_mul_left m ht
  exact h.next (by omega) (fits_times h.sys (ff_none.mp h.ok) h.mem (by omega))
theorem Chain.one : Chain [1] [] 1 := ⟨rfl, ⟨rfl, List.pairwise_singleton _ _⟩, ff_none.mpr one_orderly⟩
theorem Chain.two : Chain [1, 2] [1] 2 := ⟨rfl, sys_two (by decide), ff_none.mpr (two_orderly (by decide))⟩
/-- the sum of the two last ones may follow, where their difference is a coin -/
theorem Chain.fib {xs r : List Nat} {a b : Nat} (h : Chain xs (r ++ [a]) b) (hd : b - a ∈ xs) (hab : a < b) : Chain (xs ++ [a + b]) ((r ++ [a]) ++ [b]) (a + b) ∧ a + b - b ∈ xs ++ [a + b] := by
  have am : a ∈ xs := by
    rw [h.eq]
    exact List.mem_append_left _ (List.mem_append_right _ List.mem_cons_self)
  have a0 := h.sys.pos a am
  have b0 := h.sys.pos b h.mem
  have t : upT b (a + b) = 2 := by
    unfold upT
    rw [show a + b + b - 1 = (a - 1) + b * 2 by omega, Nat.add_mul_div_left _ _ b0, Nat.div_eq_of_lt (by omega)]
  have f : Fits xs b (a + b) := by
    unfold Fits upD
    rw [t, show 2 * b - (a + b) = b - a by omega, gs_coin h.sys hd]
    exact Nat.le_refl 2
  have n := h.next (show b < a + b by omega) f
  refine ⟨⟨?_, n.sys, n.ok⟩, ?_⟩
  · rw [h.eq]
  · rw [Nat.add_sub_cancel]
    exact List.mem_append_left _ am
end Coin

namespace Coin
/-! ### coins that may follow -/
def lst (cs : List Nat) : Nat := cs.getLast?.getD 0
theorem Sys.lst {cs : List Nat} (h : Sys cs) : ∃ r, cs = r ++ [lst cs] ∧ Coin.lst cs ∈ cs ∧ ∀ e ∈ cs, e ≤ Coin.lst cs := by
  have e := (List.dropLast_concat_getLast h.ne).symm
  have el : Coin.lst cs = cs.getLast h.ne := by
    unfold Coin.lst
    rw [List.getLast?_eq_some_getLast h.ne]
    rfl
  rw [el]
  refine ⟨cs.dropLast, e, List.getLast_mem _, fun x hx => ?_⟩
  have hr := h.rise
  rw [e] at hr hx
  rcases List.mem_append.mp hx with z | z
  · have := (List.pairwise_append.mp hr).2.2 x z _ List.mem_cons_self
    omega
  · rw [List.mem_singleton.mp z]
    exact Nat.le_refl _
def fitB (cs : List Nat) (c : Nat) : Bool := decide (1 + gs cs (upD (lst cs) c) ≤ upT (lst cs) c)
theorem fitB_iff {cs : List Nat} {c : Nat} : fitB cs c = true ↔ Fits cs (lst cs) c := decide_eq_true_iff
theorem fit_ff {cs : List Nat} {c : Nat} (h : Sys cs) (o : ff cs = none) (hc : lst cs < c) : fitB cs c = decide (ff (cs ++ [c]) = none) := by
  obtain ⟨r, e, hm, hx⟩ := h.lst
  have := one_point h (ff_none.mp o) hm hx hc
  rw [← ff_none] at this
  unfold fitB
  exact decide_eq_decide.mpr this.symm
/-- those up to n -/
def folls (cs : List Nat) (n : Nat) : List Nat := ((List.range (n + 1 - (lst cs + 1))).filter fun i => fitB cs (lst cs + 1 + i)).map (lst cs + 1 + ·)
theorem mem_folls {cs : List Nat} {n c : Nat} : c ∈ folls cs n ↔ lst cs < c ∧ c ≤ n ∧ fitB cs c = true := by
  unfold folls
  rw [List.mem_map]
  constructor
  · rintro ⟨i, hi, rfl⟩
    obtain ⟨h1, h2⟩ := List.mem_filter.mp hi
    have h1 := List.mem_range.mp h1
    exact ⟨by omega, by omega, h2⟩
  · rintro ⟨h1, h2, h3⟩
    have e : lst cs + 1 + (c - (lst cs + 1)) = c := by omega
    exact ⟨c - (lst cs + 1), List.mem_filter.mpr ⟨List.mem_range.mpr (by omega), by rw [e]; exact h3⟩, e⟩
/-- those that may not, as far as there are any -/
def nofit (cs : List Nat) : List Nat := ((List.range (lst cs * (lst cs + 1) + 2 - (lst cs + 1))).filter fun i => !fitB cs (lst cs + 1 + i)).map (lst cs + 1 + ·)
theorem mem_nofit {cs : List Nat} {c : Nat} : c ∈ nofit cs ↔ lst cs < c ∧ c < lst cs * (lst cs + 1) + 2 ∧ fitB cs c = false := by
  unfold nofit
  rw [List.mem_map]
  constructor
  · rintro ⟨i, hi, rfl⟩
    obtain ⟨h1, h2⟩ := List.mem_filter.mp hi
    have h1 := List.mem_range.mp h1
    exact ⟨by omega, by omega, by simpa using h2⟩
  · rintro ⟨h1, h2, h3⟩
    have e : lst cs + 1 + (c - (lst cs + 1)) = c := by omega
    exact ⟨c - (lst cs + 1), List.mem_filter.mpr ⟨List.mem_range.mpr (by omega), by rw [e, h3]; rfl⟩, e⟩
theorem top_of : ∀ l : List Nat, l ≠ [] → ∃ m, m ∈ l ∧ ∀ y ∈ l, y ≤ m
  | [], h => absurd rfl h
  | [a], _ => ⟨a, List.mem_cons_self, fun y hy => by rw [List.mem_singleton.mp hy]; exact Nat.le_refl a⟩
  | a :: b :: r, _ => by
    obtain ⟨m, hm, hl⟩ := top_of (b :: r) (fun z => by cases z)
    by_cases h : a ≤ m
    · exact ⟨m, List.mem_cons_of_mem _ hm, fun y hy => by
        rcases List.mem_cons.mp hy with z | z
        · omega
        · exact hl y z⟩
    · exact ⟨a, List.mem_cons_self, fun y hy => by
        rcases List.mem_cons.mp hy with z | z
        · omega
        · have := hl y z
          omega⟩
open Classical in
/-- the last one that may not, or the greatest coin -/
noncomputable def lastNo (cs : List Nat) : Nat := if h : nofit cs ≠ [] then choose (top_of _ h) else lst cs
theorem lastNo_nil {cs : List Nat} (h : nofit cs = []) : lastNo cs = lst cs := by
  unfold lastNo
  rw [dif_neg (fun z => z h)]
theorem lastNo_max {cs : List Nat} (h : nofit cs ≠ []) : lastNo cs ∈ nofit cs ∧ ∀ y ∈ nofit cs, y ≤ lastNo cs := by
  unfold lastNo
  rw [dif_pos h]
  exact Classical.choose_spec (top_of _ h)
theorem lastNo_ge (cs : List Nat) : lst cs ≤ lastNo cs := by
  by_cases h : nofit cs = []
  · rw [lastNo_nil h]
    exact Nat.le_refl _
  · have := (mem_nofit.mp (lastNo_max h).1).1
    omega
theorem lastNo_no {cs : List Nat} (h : lst cs < lastNo cs) : fitB cs (lastNo cs) = false := by
  by_cases q : nofit cs = []
  · rw [lastNo_nil q] at h
    omega
  · exact (mem_nofit.mp (lastNo_max q).1).2.2
theorem lastNo_fit {cs : List Nat} (h : Sys cs) (o : ff cs = none) {c : Nat} (hc : lastNo cs < c) : fitB cs c = true := by
  have g := lastNo_ge cs
  obtain ⟨r, e, hm, hx⟩ := h.lst
  have m0 := h.pos _ hm
  by_cases q : c < lst cs * (lst cs + 1) + 2
  · by_cases f : fitB cs c = true
    · exact f
    · exfalso
      have hn : c ∈ nofit cs := mem_nofit.mpr ⟨by omega, q, by simpa using f⟩
      have := (lastNo_max (List.ne_nil_of_mem hn)).2 c hn
      omega
  · exact fitB_iff.mpr (fits_far h (ff_none.mp o) hm (by omega))
/-- twice the greatest one, and one less -/
theorem fitB_twice {cs : List Nat} (h : Sys cs) (o : ff cs = none) : fitB cs (2 * lst cs) = true ∧ (2 ≤ lst cs → fitB cs (2 * lst cs - 1) = true) := by
  obtain ⟨r, e, hm, hx⟩ := h.lst
  exact ⟨fitB_iff.mpr (fits_twice h (ff_none.mp o) hm), fun h2 => fitB_iff.mpr (fits_twice1 h (ff_none.mp o) hm h2)⟩
/-- one to the seventh power of two -/
theorem eight_ok : ff [1, 2, 4, 8, 16, 32, 64, 128] = none ∧ Sys [1, 2, 4, 8, 16, 32, 64, 128] := by
  have c := ((((((Chain.two.times (t := 2) (by decide)).times (t := 2) (by decide)).times (t := 2) (by decide)).times (t := 2) (by decide)).times (t := 2) (by decide)).times (t := 2) (by decide))
  exact ⟨c.ok, c.sys⟩
theorem folls_eq {cs : List Nat} (h : Sys cs) (o : ff cs = none) (n : Nat) : folls cs n = ((List.range (n + 1 - (lst cs + 1))).filter fun i => decide (ff (cs ++ [lst cs + 1 + i]) = none)).map (lst cs + 1 + ·) := by
  unfold folls
  congr 1
  refine List.filter_congr fun i _ => ?_
  exact fit_ff h o (by omega)
theorem lastNo_le (cs : List Nat) : lastNo cs ≤ lst cs * (lst cs + 1) + 1 := by
  have : lst cs ≤ lst cs * (lst cs + 1) := Nat.le_mul_of_pos_right _ (Nat.succ_pos _)
  by_cases h : nofit cs = []
  · rw [lastNo_nil h]
    omega
  · have := (mem_nofit.mp (lastNo_max h).1).2.1
    omega
end Coin

namespace Coin
/-! ### all systems of so many coins -/
def nexts (n : Nat) (r : List Nat) : List (List Nat) := (List.range (n + 1 - (lst r + 1))).map fun i => r ++ [lst r + 1 + i]
def grow (n : Nat) (rows : List (List Nat)) : List (List Nat) := rows.flatMap (nexts n)
def rowsK (n : Nat) : Nat → List (List Nat)
  | 0 => [[1]]
  | k + 1 => grow n (rowsK n k)
theorem nexts_len (n : Nat) (r : List Nat) : (nexts n r).length = n - lst r := by
  unfold nexts
  rw [List.length_map, List.length_range]
  omega
theorem grow_len {n m : Nat} : ∀ (rows : List (List Nat)), (∀ r ∈ rows, n - lst r ≤ m) → (grow n rows).length ≤ rows.length * m
  | [], _ => Nat.zero_le _
  | r :: rows, h => by
    show ((nexts n r) ++ grow n rows).length ≤ (rows.length + 1) * m
    rw [List.length_append, nexts_len, Nat.succ_mul]
    have := h r List.mem_cons_self
    have := grow_len rows fun x hx => h x (List.mem_cons_of_mem _ hx)
    omega
theorem grow_take {n i : Nat} {rows : List (List Nat)} {r : List Nat} (h : rows[i]? = some r) : grow n (rows.take (i + 1)) = grow n (rows.take i) ++ nexts n r := by
  rw [List.take_add_one, h]
  unfold grow
  rw [List.flatMap_append]
  show _ ++ (nexts n r ++ []) = _
  rw [List.append_nil]
theorem lst_snoc (r : List Nat) (c : Nat) : lst (r ++ [c]) = c := by
  unfold lst
  rw [List.getLast?_append]
  rfl
structure RowOk (n k : Nat) (r : List Nat) : Prop where
  sys : Sys r
  le : ∀ c ∈ r, c ≤ n
  len : r.length = k + 1
theorem rowsK_ok {n : Nat} (hn : 1 ≤ n) : ∀ k, ∀ r ∈ rowsK n k, RowOk n k r
  | 0, r, h => by
    rw [List.mem_singleton.mp h]
    exact ⟨⟨rfl, List.pairwise_singleton _ _⟩, fun c hc => by rw [List.mem_singleton.mp hc]; exact hn, rfl⟩
  | k + 1, r, h => by
    obtain ⟨s, hs, hr⟩ := List.mem_flatMap.mp h
    obtain ⟨i, hi, rfl⟩ := List.mem_map.mp hr
    have hi := List.mem_range.mp hi
    have o := rowsK_ok hn k s hs
    obtain ⟨_, _, _, hmx⟩ := o.sys.lst
    refine ⟨sys_snoc o.sys fun e he => by have := hmx e he; omega, fun c hc => ?_, by rw [List.length_append, o.len]; rfl⟩
    rcases List.mem_append.mp hc with z | z
    · exact o.le c z
    · rw [List.mem_singleton.mp z]
      omega
theorem rowsK_len {n : Nat} (hn : 1 ≤ n) (h14 : n ≤ 14) : ∀ k, (rowsK n k).length ≤ 13 ^ k
  | 0 => Nat.le_refl _
  | k + 1 => by
    have ih := rowsK_len hn h14 k
    have := grow_len (n := n) (m := 13) (rowsK n k) fun r hr => by
      have o := rowsK_ok hn k r hr
      obtain ⟨_, _, hm, _⟩ := o.sys.lst
      have := o.sys.pos _ hm
      omega
    rw [Nat.pow_succ]
    exact Nat.le_trans this (Nat.mul_le_mul_right 13 ih)
end Coin

namespace Coin
/-! ### ways, counted row by row -/
theorem ways_snoc (cs : List Nat) (c : Nat) (h : ∀ x ∈ cs, 0 < x) (hc : 0 < c) (n : Nat) : ways (cs ++ [c]) n = ways (c :: cs) n := ways_perm (List.perm_append_singleton c cs) (fun x hx => by
  rcases List.mem_append.mp hx with z | z
  · exact h x z
  · rw [List.mem_singleton.mp z]
    exact hc) n
def wrow (cs : List Nat) (n : Nat) : List Nat := (List.range (n + 1)).map (ways cs)
def wmid (pre : List Nat) (c n m : Nat) : List Nat := (List.range (n + 1)).map fun k => if k < m then ways (pre ++ [c]) k else ways pre k
theorem wrow_nil (n : Nat) : wrow [] n = 1 :: List.replicate n 0 := by
  unfold wrow
  rw [List.range_succ_eq_map, List.map_cons, List.map_map, ways_nil, if_pos rfl]
  congr 1
  refine List.ext_getElem? fun i => ?_
  rw [List.getElem?_map, List.getElem?_replicate]
  by_cases h : i < n
  · rw [List.getElem?_range h, if_pos h]
    show some (ways [] (i + 1)) = _
    rw [ways_nil, if_neg (by omega)]
  · rw [List.getElem?_eq_none (by rw [List.length_range]; omega), if_neg h]
    rfl
theorem wmid_start {pre : List Nat} {c : Nat} (h : ∀ x ∈ pre, 0 < x) (hc : 0 < c) (n : Nat) : wmid pre c n c = wrow pre n := by
  unfold wmid wrow
  refine List.map_congr_left fun k _ => ?_
  by_cases q : k < c
  · rw [if_pos q, ways_snoc pre c h hc, ways_lt _ q]
  · rw [if_neg q]
theorem wmid_end {pre : List Nat} {c n m : Nat} (hm : n < m) : wmid pre c n m = wrow (pre ++ [c]) n := by
  unfold wmid wrow
  refine List.map_congr_left fun k hk => ?_
  have := List.mem_range.mp hk
  rw [if_pos (by omega)]
theorem wmid_small {pre : List Nat} {c n : Nat} (h : ∀ x ∈ pre, 0 < x) (hc : 0 < c) (hn : n < c) : wrow (pre ++ [c]) n = wrow pre n := by
  unfold wrow
  refine List.map_congr_left fun k hk => ?_
  have := List.mem_range.mp hk
  rw [ways_snoc pre c h hc, ways_lt _ (by omega)]
theorem wmid_len (pre : List Nat) (c n m : Nat) : (wmid pre c n m).length = n + 1 := by
  unfold wmid
  rw [List.length_map, List.length_range]
theorem wmid_get {pre : List Nat} {c n m k : Nat} (h : k ≤ n) : (wmid pre c n m)[k]? = some (if k < m then ways (pre ++ [c]) k else ways pre k) := by
  unfold wmid
  rw [List.getElem?_map, List.getElem?_range (by omega)]
  rfl
theorem wmid_step {pre : List Nat} {c n i : Nat} (h : ∀ x ∈ pre, 0 < x) (hc : 0 < c) (hi : c + i ≤ n) : (wmid pre c n (c + i)).set (c + i) (ways pre (c + i) + ways (pre ++ [c]) i) = wmid pre c n (c + (i + 1)) := by
  have e : ways (pre ++ [c]) (c + i) = ways pre (c + i) + ways (pre ++ [c]) i := by
    rw [ways_snoc pre c h hc, ways_ge _ hc (by omega), ways_snoc pre c h hc, show c + i - c = i by omega]
  refine List.ext_getElem? fun k => ?_
  rw [List.getElem?_set, wmid_len]
  by_cases hk : k ≤ n
  · rw [wmid_get hk, wmid_get hk]
    by_cases q : c + i = k
    · rw [if_pos q, if_pos (by omega), if_pos (by omega), ← q, e]
    · rw [if_neg q]
      by_cases q2 : k < c + i
      · rw [if_pos q2, if_pos (by omega)]
      · rw [if_neg q2, if_neg (by omega)]
  · rw [if_neg (by omega), List.getElem?_eq_none (by rw [wmid_len]; omega), List.getElem?_eq_none (by rw [wmid_len]; omega)]
theorem ways_last {cs : List Nat} {c : Nat} (h : ∀ x ∈ cs, 0 < x) (hc : 0 < c) (n : Nat) : ways (cs ++ [c]) n = ((List.range (n / c + 1)).map fun k => ways cs (n - k * c)).sum := by
  rw [ways_snoc cs c h hc, ways_sum cs hc]
end Coin

namespace Coin
/-! ### ring by ring -/
structure Ring (cs : List Nat) (lo hi : Int) (r : Nat) (S R : List Int) : Prop where
  nodup : S.Nodup
  seen : ∀ x, x ∈ S ↔ Rch cs lo hi x ∧ dB cs lo hi x ≤ r
  here : ∀ x, x ∈ R ↔ Rch cs lo hi x ∧ dB cs lo hi x = r
structure Mid (cs : List Nat) (lo hi : Int) (r : Nat) (S M : List Int) : Prop where
  nodup : (S ++ M).Nodup
  new : ∀ x ∈ M, Rch cs lo hi x ∧ dB cs lo hi x = r + 1
section
variable {cs : List Nat} {lo hi : Int} {r : Nat} {S R M : List Int}
theorem Ring.start : Ring cs lo hi 0 [0] [0] where
  nodup := List.nodup_cons.mpr ⟨fun h => (by cases h), List.nodup_nil⟩
  seen := fun x => ⟨fun h => by
    rw [List.mem_singleton.mp h]
    exact ⟨rch_zero, by rw [dB_zero]; exact Nat.le_refl _⟩, fun h => by
    rw [rch_zero_of h.1 (Nat.le_zero.mp h.2)]
    exact List.mem_cons_self⟩
  here := fun x => ⟨fun h => by
    rw [List.mem_singleton.mp h]
    exact ⟨rch_zero, dB_zero⟩, fun h => by
    rw [rch_zero_of h.1 h.2]
    exact List.mem_cons_self⟩
theorem Mid.start (h : Ring cs lo hi r S R) : Mid cs lo hi r S [] where
  nodup := by rw [List.append_nil]; exact h.nodup
  new := fun _ h => by cases h
theorem Mid.put (h : Ring cs lo hi r S R) (m : Mid cs lo hi r S M) {x y : Int} (hx : x ∈ R) (a : Adj cs x y) (h1 : lo ≤ y) (h2 : y ≤ hi) (hn : y ∉ S ++ M) : Mid cs lo hi r S (M ++ [y]) := by
  obtain ⟨rx, dx⟩ := (h.here x).mp hx
  obtain ⟨ry, dy⟩ := rch_step a h1 h2 rx
  have ny : ¬ y ∈ S := fun z => hn (List.mem_append_left _ z)
  have : ¬ dB cs lo hi y ≤ r := fun z => ny ((h.seen y).mpr ⟨ry, z⟩)
  refine ⟨?_, fun z hz => ?_⟩
  · rw [← List.append_assoc]
    refine List.nodup_append.mpr ⟨m.nodup, List.nodup_cons.mpr ⟨fun h => (by cases h), List.nodup_nil⟩, fun u hu v hv e => ?_⟩
    rw [List.mem_singleton.mp hv] at e
    exact hn (e ▸ hu)
  · rcases List.mem_append.mp hz with q | q
    · exact m.new z q
    · rw [List.mem_singleton.mp q]
      exact ⟨ry, by omega⟩
theorem Mid.next (h : Ring cs lo hi r S R) (m : Mid cs lo hi r S M) (all : ∀ x ∈ R, ∀ y, Adj cs x y → lo ≤ y → y ≤ hi → y ∈ S ++ M) : Ring cs lo hi (r + 1) (S ++ M) M where
  nodup := m.nodup
  seen := fun x => by
    constructor
    · intro hx
      rcases List.mem_append.mp hx with z | z
      · have := (h.seen x).mp z
        exact ⟨this.1, by omega⟩
      · have := m.new x z
        exact ⟨this.1, by omega⟩
    · rintro ⟨rx, dx⟩
      by_cases q : dB cs lo hi x ≤ r
      · exact List.mem_append_left _ ((h.seen x).mpr ⟨rx, q⟩)
      · obtain ⟨w, aw, rw', dw, h1, h2⟩ := rch_pred rx (show dB cs lo hi x = r + 1 by omega)
        exact all w ((h.here w).mpr ⟨rw', dw⟩) x aw h1 h2
  here := fun x => by
    constructor
    · exact m.new x
    · rintro ⟨rx, dx⟩
      obtain ⟨w, aw, rw', dw, h1, h2⟩ := rch_pred rx dx
      rcases List.mem_append.mp (all w ((h.here w).mpr ⟨rw', dw⟩) x aw h1 h2) with z | z
      · have := (h.seen x).mp z
        omega
      · exact z
end
theorem reach_len {cs : List Nat} {lo hi : Int} {S : List Int} {n : Nat} (nd : S.Nodup) (h : ∀ x ∈ S, Rch cs lo hi x) (h0 : lo ≤ 0 ∧ 0 ≤ hi) (hn : hi < lo + n) : S.length ≤ n :=
  nodup_range n _ lo nd fun x hx => by
    obtain ⟨k, hk⟩ := h x hx
    have := hk.inb h0
    omega
theorem Mid.len {cs : List Nat} {lo hi : Int} {r n : Nat} {S R M : List Int} (h : Ring cs lo hi r S R) (m : Mid cs lo hi r S M) (h0 : lo ≤ 0 ∧ 0 ≤ hi) (hn : hi < lo + n) : (S ++ M).length ≤ n := reach_len m.nodup (fun x hx => by
  rcases List.mem_append.mp hx with z | z
  · exact ((h.seen x).mp z).1
  · exact (m.new x z).1) h0 hn
end Coin

/-! systems as texts -/
namespace Coin
open PySem PySem.Spec PyProof.Rows L2 TL
/-! ### rising lists -/
theorem rise_same : ∀ {l l' : List Nat}, l.Pairwise (· < ·) → l'.Pairwise (· < ·) → (∀ x, x ∈ l ↔ x ∈ l') → l = l'
  | [], [], _, _, _ => rfl
  | [], b :: r, _, _, h => absurd ((h b).mpr List.mem_cons_self) (by simp)
  | a :: r, [], _, _, h => absurd ((h a).mp List.mem_cons_self) (by simp)
  | a :: l, b :: l', p, q, h => by
    obtain ⟨p1, p2⟩ := List.pairwise_cons.mp p
    obtain ⟨q1, q2⟩ := List.pairwise_cons.mp q
    have e : a = b := by
      rcases List.mem_cons.mp ((h a).mp List.mem_cons_self) with z | z
      · exact z
      · rcases List.mem_cons.mp ((h b).mpr List.mem_cons_self) with y | y
        · exact y.symm
        · have := p1 b y
          have := q1 a z
          omega
    subst e
    congr 1
    refine rise_same p2 q2 fun x => ⟨fun hx => ?_, fun hx => ?_⟩
    · rcases List.mem_cons.mp ((h x).mp (List.mem_cons_of_mem _ hx)) with z | z
      · have := p1 x hx
        omega
      · exact z
    · rcases List.mem_cons.mp ((h x).mpr (List.mem_cons_of_mem _ hx)) with z | z
      · have := q1 x hx
        omega
      · exact z
/-- the members, rising -/
def ssort (ns : List Nat) : List Nat := (List.range (ns.sum + 1)).filter fun x => decide (x ∈ ns)
theorem le_sum : ∀ {ns : List Nat} {x : Nat}, x ∈ ns → x ≤ ns.sum
  | a :: r, x, h => by
    rw [List.sum_cons]
    rcases List.mem_cons.mp h with z | z
    · omega
    · have := le_sum z
      omega
theorem ssort_rise (ns : List Nat) : (ssort ns).Pairwise (· < ·) := List.pairwise_lt_range.filter _
theorem mem_ssort {ns : List Nat} {x : Nat} : x ∈ ssort ns ↔ x ∈ ns := by
  unfold ssort
  rw [List.mem_filter, List.mem_range, decide_eq_true_iff]
  exact ⟨fun h => h.2, fun h => ⟨by have := le_sum h; omega, h⟩⟩
theorem ssort_eq {ns : List Nat} : ns = ssort ns ↔ ns.Pairwise (· < ·) := ⟨fun h => by rw [h]; exact ssort_rise ns, fun h => rise_same h (ssort_rise ns) fun x => mem_ssort.symm⟩
/-! ### a system, tested -/
def goodB (cs : List Nat) : Bool := decide (cs.head? = some 1) && (decide (cs.length ≤ 8) && (cs.all (fun c => decide (c ≤ 200)) && decide (cs.Pairwise (· < ·))))
theorem goodB_iff {cs : List Nat} : goodB cs = true ↔ Sys cs ∧ (∀ c ∈ cs, c ≤ 200) ∧ cs.length ≤ 8 := by
  unfold goodB
  rw [Bool.and_eq_true, Bool.and_eq_true, Bool.and_eq_true, decide_eq_true_iff, decide_eq_true_iff, decide_eq_true_iff, List.all_eq_true]
  exact ⟨fun ⟨a, b, c, d⟩ => ⟨⟨a, d⟩, fun x hx => of_decide_eq_true (c x hx), b⟩, fun ⟨⟨a, d⟩, c, b⟩ => ⟨a, b, fun x hx => decide_eq_true (c x hx), d⟩⟩
/-! ### words -/
def fig (c : Nat) : Bool := decide (48 ≤ c) && decide (c ≤ 57)
def wordOk (w : List Nat) : Bool := (decide (1 ≤ w.length) && decide (w.length ≤ 3)) && (!decide (w.head? = some 48) && w.all fig)
def numOf (w : List Nat) : Nat := if wordOk w = true then NumText.digitsVal w else 0
theorem wordOk_iff {w : List Nat} : wordOk w = true ↔ (1 ≤ w.length ∧ w.length ≤ 3) ∧ w.head? ≠ some 48 ∧ NumText.AllDigits w := by
  unfold wordOk
  rw [Bool.and_eq_true, Bool.and_eq_true, Bool.and_eq_true, decide_eq_true_iff, decide_eq_true_iff, List.all_eq_true, Bool.not_eq_true', decide_eq_false_iff_not]
  have : (∀ x ∈ w, fig x = true) ↔ NumText.AllDigits w := by
    unfold fig NumText.AllDigits
    simp only [Bool.and_eq_true, decide_eq_true_iff]
  rw [this]
theorem foldl_ge : ∀ (l : List Nat) (a : Nat), a ≤ l.foldl (fun acc c => acc * 10 + (c - 48)) a
  | [], a => Nat.le_refl a
  | c :: r, a => Nat.le_trans (by omega) (foldl_ge r (a * 10 + (c - 48)))
theorem numOf_pos {w : List Nat} (h : wordOk w = true) : 0 < numOf w := by
  unfold numOf
  rw [if_pos h]
  obtain ⟨⟨h1, _⟩, h2, h3⟩ := wordOk_iff.mp h
  cases w with
  | nil => exact absurd h1 (by decide)
  | cons c r =>
    have hc := h3.head
    have : c ≠ 48 := fun z => h2 (by rw [z]; rfl)
    have := foldl_ge r (0 * 10 + (c - 48))
    show 0 < r.foldl (fun acc c => acc * 10 + (c - 48)) (0 * 10 + (c - 48))
    omega
theorem numOf_no {w : List Nat} (h : wordOk w = false) : numOf w = 0 := by
  unfold numOf
  rw [if_neg (by rw [h]; exact Bool.false_ne_true)]
theorem numOf_le {w : List Nat} : numOf w ≤ 999 := by
  by_cases h : wordOk w = true
  · unfold numOf
    rw [if_pos h]
    obtain ⟨⟨h1, h4⟩, h2, h3⟩ := wordOk_iff.mp h
    match w, h1, h4, h3 with
    | [a], _, _, h3 =>
      have := h3.head
      show 0 * 10 + (a - 48) ≤ 999
      omega
    | [a, b], _, _, h3 =>
      have := h3.head
      have := h3.tail.head
      show (0 * 10 + (a - 48)) * 10 + (b - 48) ≤ 999
      omega
    | [a, b, c], _, _, h3 =>
      have := h3.head
      have := h3.tail.head
      have := h3.tail.tail.head
      show ((0 * 10 + (a - 48)) * 10 + (b - 48)) * 10 + (c - 48) ≤ 999
      omega
    | _ :: _ :: _ :: _ :: _, _, h4, _ => exact absurd h4 (by simp)
  · rw [numOf_no (by simpa using h)]
    decide
/-! ### a text's parts -/
def wordsOf (t : List Nat) : List (List Nat) := spl [47] 0 [] t
theorem spl_len (S : List Nat) : ∀ (t : List Nat) (k : Nat) (acc : List Nat), 1 ≤ (spl S k acc t).length ∧ (spl S k acc t).length ≤ t.length + 1
  | [], k, acc => by rw [spl_nil]; exact ⟨Nat.le_refl 1, Nat.le_refl 1⟩
  | c :: r, 0, acc => by
    by_cases h : pre S (c :: r) = true
    · rw [spl_hit h]
      have := spl_len S r (S.length - 1) []
      rw [List.length_cons, List.length_cons]
      omega
    · rw [spl_miss (by simpa using h)]
      have := spl_len S r 0 (acc ++ [c])
      rw [List.length_cons]
      omega
  | c :: r, k + 1, acc => by
    have := spl_len S r k acc
    show 1 ≤ (spl S k acc r).length ∧ (spl S k acc r).length ≤ (c :: r).length + 1
    rw [List.length_cons]
    omega
theorem wordsOf_len (t : List Nat) : 1 ≤ (wordsOf t).length ∧ (wordsOf t).length ≤ t.length + 1 := spl_len _ _ _ _
theorem spl_mem (S : List Nat) : ∀ (t : List Nat) (k : Nat) (acc : List Nat), ∀ w ∈ spl S k acc t, w.length ≤ acc.length + t.length
  | [], k, acc, w, h => by
    rw [spl_nil] at h
    rw [List.mem_singleton.mp h]
    exact Nat.le_refl _
  | c :: r, 0, acc, w, h => by
    rw [List.length_cons]
    by_cases hp : pre S (c :: r) = true
    · rw [spl_hit hp] at h
      rcases List.mem_cons.mp h with z | z
      · rw [z]; omega
      · have := spl_mem S r (S.length - 1) [] w z
        rw [List.length_nil] at this
        omega
    · rw [spl_miss (by simpa using hp)] at h
      have := spl_mem S r 0 (acc ++ [c]) w h
      rw [List.length_append, List.length_cons, List.length_nil] at this
      omega
  | c :: r, k + 1, acc, w, h => by
    have := spl_mem S r k acc w h
    rw [List.length_cons]
    omega
theorem word_len {t w : List Nat} (h : w ∈ wordsOf t) : w.length ≤ t.length := by
  have := spl_mem [47] t 0 [] w h
  rw [List.length_nil] at this
  omega
def coinsOf (t : List Nat) : List Nat := ((wordsOf t).map numOf).reverse
theorem coinsOf_len (t : List Nat) : 1 ≤ (coinsOf t).length ∧ (coinsOf t).length ≤ t.length + 1 := by
  unfold coinsOf
  rw [List.length_reverse, List.length_map]
  exact wordsOf_len t
/-- the system that a text tells -/
def readL (t : List Nat) : Option (List Nat) := if goodB (coinsOf t) = true then some (coinsOf t) else none
theorem good_words {t : List Nat} (h : goodB (coinsOf t) = true) : ∀ w ∈ wordsOf t, wordOk w = true := fun w hw => by
  obtain ⟨s, _, _⟩ := goodB_iff.mp h
  have hm : numOf w ∈ coinsOf t := List.mem_reverse.mpr (List.mem_map.mpr ⟨w, hw, rfl⟩)
  have h0 : 0 < numOf w := by
    obtain ⟨a, r, e⟩ := List.exists_cons_of_ne_nil s.ne
    have h1 := s.one
    have h2 := s.rise
    rw [e] at h1 h2 hm
    have : a = 1 := Option.some.inj h1
    rcases List.mem_cons.mp hm with z | z
    · omega
    · have := (List.pairwise_cons.mp h2).1 _ z
      omega
  cases e : wordOk w with
  | true => rfl
  | false =>
    rw [numOf_no e] at h0
    omega
theorem readL_some {t cs : List Nat} (h : readL t = some cs) : cs = coinsOf t ∧ goodB cs = true := by
  unfold readL at h
  by_cases g : goodB (coinsOf t) = true
  · rw [if_pos g] at h
    have := Option.some.inj h
    subst this
    exact ⟨rfl, g⟩
  · rw [if_neg g] at h
    cases h
/-! ### a system's text -/
def numS (n : Nat) : Str := Str.ofString (toString ((n : Nat) : Int))
def slash : Str := Str.ofString "/"
theorem tl_slash : tl slash = [47] := by decide +kernel
def shownS (cs : List Nat) : Str := Txt.join slash (cs.reverse.map numS)
theorem tl_shown (cs : List Nat) : tl (shownS cs) = joinL [47] (cs.reverse.map numL) := by
  unfold shownS
  rw [join_eq, tl_join, tl_slash, List.map_map]
  congr 1
  exact List.map_congr_left fun n _ => tl_num n
theorem wordOk_num {n : Nat} (h1 : 1 ≤ n) (h2 : n ≤ 999) : wordOk (numL n) = true := by
  refine wordOk_iff.mpr ⟨⟨List.length_pos_iff.mpr (numL_ne n), numL_len (by decide) (by omega)⟩, fun h => ?_, numL_digits n⟩
  by_cases a : n < 10
  · rw [numL_lt a] at h
    have := Option.some.inj h
    omega
  · by_cases b : n < 100
    · rw [numL_step (by omega), numL_lt (by omega)] at h
      have := Option.some.inj h
      omega
    · rw [numL_step (by omega), numL_step (by omega), numL_lt (by omega)] at h
      have := Option.some.inj h
      omega
theorem numOf_num {n : Nat} (h1 : 1 ≤ n) (h2 : n ≤ 999) : numOf (numL n) = n := by
  unfold numOf
  rw [if_pos (wordOk_num h1 h2)]
  exact numL_val n
theorem words_shown {cs : List Nat} (h : cs ≠ []) : wordsOf (tl (shownS cs)) = cs.reverse.map numL := by
  unfold wordsOf
  rw [tl_shown]
  refine spl_join (by simpa using h) fun p hp => ?_
  obtain ⟨n, _, rfl⟩ := List.mem_map.mp hp
  exact numL_free (.inl (by decide))
theorem read_shown {cs : List Nat} (g : goodB cs = true) : readL (tl (shownS cs)) = some cs := by
  obtain ⟨s, h2, _⟩ := goodB_iff.mp g
  have e : coinsOf (tl (shownS cs)) = cs := by
    unfold coinsOf
    rw [words_shown s.ne, List.map_map, ← List.map_reverse, List.reverse_reverse]
    refine (List.map_congr_left fun n hn => ?_).trans (List.map_id _)
    have := h2 n hn
    have h0 : 0 < n := by
      obtain ⟨a, r, e⟩ := List.exists_cons_of_ne_nil s.ne
      have h1 := s.one
      have h3 := s.rise
      rw [e] at h1 h3 hn
      have : a = 1 := Option.some.inj h1
      rcases List.mem_cons.mp hn with z | z
      · omega
      · have := (List.pairwise_cons.mp h3).1 _ z
        omega
    exact numOf_num h0 (by omega)
  unfold readL
  rw [e, if_pos g]
theorem joinL_flat : ∀ {ps : List (List Nat)}, ps ≠ [] → ((ps.map fun p => 47 :: p).flatten).drop 1 = joinL [47] ps
  | [], h => absurd rfl h
  | [p], _ => by simp [joinL]
  | p :: q :: r, _ => by
    have := joinL_flat (ps := q :: r) (by simp)
    rw [List.map_cons, List.flatten_cons]
    show p ++ ((q :: r).map fun p => 47 :: p).flatten = p ++ ([47] ++ joinL [47] (q :: r))
    rw [← this]
    rfl
theorem numL_len9 {n : Nat} (h : n ≤ 999) : (numL n).length ≤ 3 := numL_len (by decide) (by omega)
theorem joinL_len : ∀ {ps : List (List Nat)}, (∀ p ∈ ps, p.length ≤ 3) → (joinL [47] ps).length ≤ 4 * ps.length
  | [], _ => Nat.le_refl 0
  | [p], h => by
    have := h p List.mem_cons_self
    show p.length ≤ 4 * 1
    omega
  | p :: q :: r, h => by
    have h1 := h p List.mem_cons_self
    have h2 := joinL_len (ps := q :: r) fun z hz => h z (List.mem_cons_of_mem _ hz)
    show (p ++ ([47] ++ joinL [47] (q :: r))).length ≤ _
    rw [List.length_append, List.length_append, List.length_cons (a := p)]
    show p.length + (1 + _) ≤ _
    omega
theorem shown_len {cs : List Nat} (h : ∀ c ∈ cs, c ≤ 999) : (shownS cs).length ≤ 4 * cs.length := by
  rw [len_tl, tl_shown]
  have := joinL_len (ps := cs.reverse.map numL) fun p hp => by
    obtain ⟨n, hn, rfl⟩ := List.mem_map.mp hp
    exact numL_len9 (h n (List.mem_reverse.mp hn))
  rwa [List.length_map, List.length_reverse] at this
theorem numS_len {n : Nat} (h : n ≤ 999) : (numS n).length ≤ 3 := by
  rw [len_tl]
  show (tl (numS n)).length ≤ 3
  rw [show tl (numS n) = numL n from tl_num n]
  exact numL_len9 h
end Coin

namespace Coin
open PySem PySem.Spec PyProof.Rows L2 Evl
/-! ### what stands behind the top: a def by its promise, an int constant, the built-ins -/
structure Hs (P : Program) (w : World) (K : PySem.W.Frag) (mg : Str → Option Value) (base : Heap) (k : Nat) (x : Str) (sp : Sp) : Prop where
  ex : ∃ (f : Addr) (fd : FuncData) (ps : List Str), FnOk P w K mg base (L2.CX P w) k f fd ps sp ∧ mg x = some (.ref f) ∧ PySem.W.keepIn K (.ref f) = true ∧ Binds K fd ps []
structure Kc (mg : Str → Option Value) (x : Str) (n : Int) : Prop where
  ex : ∃ t, mg x = some (.int n t)
structure Bi (mg : Str → Option Value) : Prop where
  len : mg "len" = none
  range : mg "range" = none
  tuple : mg "tuple" = none
  sum : mg "sum" = none
  min : mg "min" = none
  max : mg "max" = none
  isinstance : mg "isinstance" = none
  int : mg "int" = none
  bool : mg "bool" = none
  str : mg "str" = none
  list : mg "list" = none
  set : mg "set" = none
  sorted : mg "sorted" = none
  zip : mg "zip" = none
  abs : mg "abs" = none
  ValueError : mg "ValueError" = none
section
variable {X : Cx} {k j : Nat} {x : Str} {sp : Sp} {E : XK} {t : TA} {p pos : Pos} {e : Expr} {es : List Expr}
theorem passF : Passes (L2.CX X.prog X.w) X (fun _ _ _ => False) := fun _ _ _ _ _ _ _ c => by
  obtain ⟨_, _, _, _, _, _, _, _, _, _, _, _, h⟩ := c
  exact h.elim
theorem passE {P : Program} {w : World} {K : PySem.W.Frag} {mg : Str → Option Value} {base : Heap} {N : List Str} {qual : Str} {scope : Scope} {f : Addr} {cd : Value} {A : Around} {outer : List Env} {s : Shared} {H : Hp} {E : XK} :
    Passes (L2.CX P w) (cxOf (L2.CX P w) P w K mg base N qual scope f cd A outer s H E) E := passes_call (takes_of rfl rfl rfl rfl) fun _ _ _ _ h => h
theorem pe_h (c : Hs X.prog X.w X.K X.mg X.base k x sp) (hr : Room j X.A) (hk : k ≤ j) (hg : Gl X x) (hx : Passes (L2.CX X.prog X.w) X E) (ha : PA X (e :: es) t)
    (hdb : (x == ("__debug__" : Str)) = false := by decide) (he : starEach (e :: es) X.env = (false, eval e X.env) :: starEach es X.env := by rfl) (hpl : (backTo pos (starEach es X.env)).any (·.1) = false := by rfl) :
    PE X (.Call (.Name x p) (e :: es) [] pos) (tCall sp [] E t) := by
  obtain ⟨f, fd, ps, F, hm, kp, b⟩ := c.ex
  exact pe_call F (hr.mono hk) hg hm kp b .nil hx ha hdb he hpl
theorem pe_hS {E : L2.St → XK} (c : Hs X.prog X.w X.K X.mg X.base k x sp) (hr : Room j X.A) (hk : k ≤ j) (hg : Gl X x) (hx : ∀ σ, PassesAt (L2.CX X.prog X.w) X σ (E σ)) (ha : PA X (e :: es) t)
    (hdb : (x == ("__debug__" : Str)) = false := by decide) (he : starEach (e :: es) X.env = (false, eval e X.env) :: starEach es X.env := by rfl) (hpl : (backTo pos (starEach es X.env)).any (·.1) = false := by rfl) :
    PE X (.Call (.Name x p) (e :: es) [] pos) (tCallS sp E t) := by
  obtain ⟨f, fd, ps, F, hm, kp, b⟩ := c.ex
  exact pe_callS F (hr.mono hk) hg hm kp b hx ha hdb he hpl
theorem pe_kc {n : Int} (hg : Gl X x) (c : Kc X.mg x n) (hdb : (x == ("__debug__" : Str)) = false := by decide) : PE X (.Name x pos) (tC (.int n)) := by
  obtain ⟨t, h⟩ := c.ex
  exact pe_glob hg h ⟨t, rfl⟩ hdb
end
/-! ### numbers as values -/
def iv (n : Nat) : V := .int (n : Int)
abbrev ivs (ns : List Nat) : List V := ns.map iv
/-- a thing: what these programs are handed -/
inductive Tg (H : Hp) : V → Prop where
  | non : Tg H .non
  | bl (b : Bool) : Tg H (.bl b)
  | int (i : Int) : Tg H (.int i)
  | str (x : Str) : Tg H (.str x)
  | lst {a : Addr} {xs : List V} (e : H a = some (.lst xs)) : Tg H (.ref a)
  | tup {a : Addr} {xs : List V} (e : H a = some (.tup xs)) : Tg H (.ref a)
def isI : V → Bool
  | .int _ => true
  | .bl _ => true
  | _ => false
def isB : V → Bool
  | .bl _ => true
  | _ => false
theorem Tg.ex {H H' : Hp} {x : V} (e : Ex H H') (h : Tg H x) : Tg H' x := by
  cases h with
  | non => exact .non
  | bl b => exact .bl b
  | int i => exact .int i
  | str x => exact .str x
  | lst h => exact .lst (e _ _ h)
  | tup h => exact .tup (e _ _ h)
theorem Tg.tyi {K : PySem.W.Frag} {H : Hp} {x : V} (h : Tg H x) : ∃ t, TyX K H x (.type t) ∧ PySem.W.kitOne K (.type t) (.type "int") = some (isI x) ∧ PySem.W.kitOne K (.type t) (.type "bool") = some (isB x) := by
  cases h with
  | non => exact ⟨"NoneType", .base .non, kit_ty (r := false) (by decide +kernel), kit_ty (r := false) (by decide +kernel)⟩
  | bl b => exact ⟨"bool", .base (.bl b), kit_ty (r := true) (by decide +kernel), kit_ty (r := true) (by decide +kernel)⟩
  | int i => exact ⟨"int", .base (.int i), kit_ty (r := true) (by decide +kernel), kit_ty (r := false) (by decide +kernel)⟩
  | str x => exact ⟨"str", .base (.str x), kit_ty (r := false) (by decide +kernel), kit_ty (r := false) (by decide +kernel)⟩
  | lst e => exact ⟨"list", .base (.lst e), kit_ty (r := false) (by decide +kernel), kit_ty (r := false) (by decide +kernel)⟩
  | tup e => exact ⟨"tuple", .base (.tup e), kit_ty (r := false) (by decide +kernel), kit_ty (r := false) (by decide +kernel)⟩
section
variable {K : PySem.W.Frag} {σ : L2.St} {H H' : Hp} {ta tb te tc : TE} {x y z v : V}
/-- isinstance(x, T) -/
theorem rc_isi {x : V} {t n : String} {b : Bool} (ty : ∀ H1, Ex H H1 → TyX K H1 x (.type t)) (k : PySem.W.kitOne K (.type t) (.type n) = some b) : RC (rIsi K) [x, .ty n] H (.bl b) :=
  fun H1 e Q q => ⟨x, .ty n, .type t, .type n, b, rfl, .ty n, ty H1 e, k, q H1 (Ex.refl _)⟩
theorem rc_isiI (h : Tg H x) : RC (rIsi K) [x, .ty "int"] H (.bl (isI x)) := fun H1 e Q q => by
  obtain ⟨t, a, b, _⟩ := (h.ex e).tyi (K := K)
  exact ⟨x, .ty "int", .type t, .type "int", _, rfl, .ty _, a, b, q H1 (Ex.refl _)⟩
theorem rc_isiB (h : Tg H x) : RC (rIsi K) [x, .ty "bool"] H (.bl (isB x)) := fun H1 e Q q => by
  obtain ⟨t, a, _, b⟩ := (h.ex e).tyi (K := K)
  exact ⟨x, .ty "bool", .type t, .type "bool", _, rfl, .ty _, a, b, q H1 (Ex.refl _)⟩
/-- a chain of two comparisons of ints -/
theorem ev_chain {f g : Int → Int → Bool} {a b c : Int} (ha : Ev ta σ H (.int a)) (hb : Ev tb σ H (.int b)) (hc : Ev tc σ H (.int c)) :
    Ev (tChain (rI0 fun i j => .bl (f i j)) (rI0 fun i j => .bl (g i j)) ta tb tc) σ H (.bl (f a b && g b c)) := fun H1 e Q q => by
  refine ha H1 e _ fun H2 e2 => hb H2 (e.trans e2) _ fun H3 e3 => ⟨a, b, rfl, rfl, f a b, rfl, ?_⟩
  cases h : f a b with
  | true =>
    rw [h] at q
    exact iteT (hc H3 ((e.trans e2).trans e3) _ fun H4 e4 => ⟨b, c, rfl, rfl, q H4 ((e2.trans e3).trans e4)⟩)
  | false =>
    rw [h] at q
    exact iteF (q H3 (e2.trans e3))
end
/-! ### exceptions of own classes -/
structure Ec (K : PySem.W.Frag) (mg : Str → Option Value) (nm : Str) (C : Addr) : Prop where
  g : mg nm = some (.ref C)
  x : PySem.W.excIn K C [.type "ValueError", .type "Exception", .type "BaseException", .type "object"] "ValueError.__new__" = true
  k : PySem.W.keepIn K (.ref C) = true
  b : PySem.W.subIn K (.ref C) (.type "BaseException") = some true
  t : PySem.W.typeIn K (.ref C) = some (.type "type")
theorem Ec.r {X : Cx} {nm : Str} {C : Addr} (h : Ec X.K X.mg nm C) : Raises X (.ref C) := raises_own h.b h.t
/-! ### heaps: tuples never change -/
def Tx (H H' : Hp) : Prop := ∀ a xs, H a = some (.tup xs) → H' a = some (.tup xs)
theorem Tx.of {H H' : Hp} (e : Ex H H') : Tx H H' := fun _ _ h => e _ _ h
theorem Tx.refl (H : Hp) : Tx H H := fun _ _ h => h
theorem Tx.trans {H H1 H2 : Hp} (a : Tx H H1) (b : Tx H1 H2) : Tx H H2 := fun _ _ h => b _ _ (a _ _ h)
theorem Tx.lst {H : Hp} {l : Addr} {xs ys : List V} (h : H l = some (.lst xs)) : Tx H (upd H l (.lst ys)) := fun a zs e => by
  have : a ≠ l := fun z => by
    rw [z, h] at e
    cases e
  rw [upd_ne this]
  exact e
section
variable {K : PySem.W.Frag} {σ : L2.St} {H H' : Hp} {ta tb te tc tl : TE} {t : TT} {x y z v : V} {D : Ends} {tu tz : TS}
/-- a value of which φ holds -/
def EvR (te : TE) (σ : L2.St) (H : Hp) (φ : V → Hp → Prop) : Prop := ∀ H1, Ex H H1 → ∀ Q : VK, (∀ y H2, Ex H1 H2 → φ y H2 → Q y H2) → te σ H1 Q
/-- a new list of which ψ holds -/
def EvN (te : TE) (σ : L2.St) (H : Hp) (ψ : List V → Hp → Prop) : Prop := ∀ H1, Ex H H1 → ∀ Q : VK, (∀ l ys H2, H1 l = none → Ex H1 H2 → H2 l = some (.lst ys) → ψ ys H2 → Q (.ref l) H2) → te σ H1 Q
/-- some tuple, some list (that is read) -/
def EvSt (te : TE) (σ : L2.St) (H : Hp) (xs : List V) : Prop := ∀ H1, Ex H H1 → ∀ Q : VK, (∀ a H2, Ex H1 H2 → H2 a = some (.tup xs) → Q (.ref a) H2) → te σ H1 Q
def EvSl (K : PySem.W.Frag) (te : TE) (σ : L2.St) (H : Hp) (xs : List V) : Prop := ∀ H1, Ex H H1 → ∀ Q : VK, (∀ a H2, Ex H1 H2 → SqL K H2 a xs → Q (.ref a) H2) → te σ H1 Q
theorem est_of {a : Addr} {xs : List V} (h : Ev te σ H (.ref a)) (hx : H a = some (.tup xs)) : EvSt te σ H xs := fun H1 e _ q => h H1 e _ fun H2 e2 => q a H2 e2 (e2 _ _ (e _ _ hx))
theorem est_u {xs : List V} (h : EvU te σ H xs) : EvSt te σ H xs := fun H1 e _ q => h H1 e _ fun p H2 _ e2 h2 => q p H2 e2 h2
theorem esl_of {a : Addr} {xs : List V} (h : Ev te σ H (.ref a)) (hx : SqL K H a xs) : EvSl K te σ H xs := fun H1 e _ q => h H1 e _ fun H2 e2 => q a H2 e2 (ex_l (e.trans e2) hx)
theorem esl_l {xs : List V} (h : EvL te σ H xs) : EvSl K te σ H xs := fun H1 e _ q => h H1 e _ fun p H2 _ e2 h2 => q p H2 e2 (sq_of h2)
theorem er_of (h : Ev te σ H v) : EvR te σ H (fun y _ => y = v) := fun H1 e Q q => h H1 e Q fun H2 e2 => q v H2 e2 rfl
theorem EvN.l {xs : List V} (h : EvN te σ H (fun ys _ => ys = xs)) : EvL te σ H xs := fun H1 e Q q => h H1 e Q fun l ys H2 hl e2 h2 eq => by
  subst eq
  exact q l H2 hl e2 h2
/-! ### comprehensions -/
structure Cp {α : Type} (H : Hp) (Dl : Addr) (φ : α → V → Hp → Prop) (done : List α) (H' : Hp) : Prop where
  new : H Dl = none
  ex : Ex H H'
  at_ : ∃ ys, H' Dl = some (.lst ys) ∧ Paired (fun c z => φ c z H') done ys
theorem paired_mono {α β : Type} {F G : α → β → Prop} : ∀ {l₁ : List α} {l₂ : List β}, Paired F l₁ l₂ → (∀ a b, F a b → G a b) → Paired G l₁ l₂
  | _, _, .nil, _ => .nil
  | _, _, .cons r t, f => .cons (f _ _ r) (paired_mono t f)
theorem paired_snoc {α β : Type} {F : α → β → Prop} {a : α} {b : β} (h : F a b) : ∀ {l₁ : List α} {l₂ : List β}, Paired F l₁ l₂ → Paired F (l₁ ++ [a]) (l₂ ++ [b])
  | _, _, .nil => .cons h .nil
  | _, _, .cons r t => .cons r (paired_snoc h t)
theorem paired_len {α β : Type} {F : α → β → Prop} : ∀ {l₁ : List α} {l₂ : List β}, Paired F l₁ l₂ → l₁.length = l₂.length
  | _, _, .nil => rfl
  | _, _, .cons _ t => by rw [List.length_cons, List.length_cons, paired_len t]
theorem paired_eq {α β : Type} {g : α → β} : ∀ {l₁ : List α} {l₂ : List β}, Paired (fun c z => z = g c) l₁ l₂ → l₂ = l₁.map g
  | _, _, .nil => rfl
  | _, _, .cons r t => by rw [List.map_cons, ← paired_eq t, r]
theorem cp_turn {α : Type} {Dl : Addr} {φ : α → V → Hp → Prop} {done : List α} {c : α} {b : Bool} {σ2 : L2.St} (mono : ∀ c y H1 H2, Tx H1 H2 → φ c y H1 → φ c y H2) (p : Cp H Dl φ done H') (hl : done.length ≤ 50000)
    (ht : EvT t σ2 H b) (he : b = true → EvR te σ2 H (φ c)) :
    t σ2 H' fun b' H3 => if b' = true then te σ2 H3 fun y H4 => ∃ acc, H4 Dl = some (.lst acc) ∧ acc.length < sizeLine ∧ Cp H Dl φ (if b = true then done ++ [c] else done) (upd H4 Dl (.lst (acc ++ [y]))) else Cp H Dl φ (if b = true then done ++ [c] else done) H3 := by
  obtain ⟨p1, p2, ys, p3, p4⟩ := p
  refine ht H' p2 _ fun H3 e3 => ?_
  cases hb : b with
  | true =>
    rw [if_pos rfl]
    refine he hb H3 (p2.trans e3) _ fun y H4 e4 hy => ⟨ys, e4 _ _ (e3 _ _ p3), sz_lt (by rw [← paired_len p4]; omega), p1, Ex.mut ((p2.trans e3).trans e4) p1, ys ++ [y], upd_same, ?_⟩
    have tx : Tx H4 (upd H4 Dl (.lst (ys ++ [y]))) := .lst (e4 _ _ (e3 _ _ p3))
    have p5 : Paired (fun c z => φ c z (upd H4 Dl (.lst (ys ++ [y])))) done ys := paired_mono p4 fun a z h => mono a z H' _ ((Tx.of (e3.trans e4)).trans tx) h
    exact paired_snoc (F := fun c z => φ c z (upd H4 Dl (.lst (ys ++ [y])))) (mono _ _ _ _ tx hy) p5
  | false =>
    rw [if_neg Bool.false_ne_true]
    exact ⟨p1, p2.trans e3, ys, e3 _ _ p3, paired_mono p4 fun a z h => mono a z H' _ (.of e3) h⟩
theorem filter_take {α : Type} {p : α → Bool} {cs : List α} {i : Nat} {c : α} (h : cs[i]? = some c) : (cs.take (i + 1)).filter p = if p c = true then (cs.take i).filter p ++ [c] else (cs.take i).filter p := by
  rw [List.take_add_one, h, List.filter_append]
  cases e : p c <;> simp [e]
theorem filter_len {α : Type} (p : α → Bool) (cs : List α) (i : Nat) : ((cs.take i).filter p).length ≤ cs.length := by
  have a := List.length_filter_le p (cs.take i)
  rw [List.length_take] at a
  omega
variable {α : Type} {cs : List α} {u : α → V} {j : Nat} {vs : List Nat}
/-- over a tuple -/
theorem en_lcT (p : α → Bool) (φ : α → V → Hp → Prop) (mono : ∀ c y H1 H2, Tx H1 H2 → φ c y H1 → φ c y H2) (h : EvSt tl σ H (cs.map u)) (hz : cs.length ≤ 40000) (hw : ∀ x, wipe ((wipe σ vs).set j (some x)) vs = wipe σ vs)
    (ht : ∀ c H1, Ex H H1 → c ∈ cs → EvT t ((wipe σ vs).set j (some (u c))) H1 (p c)) (he : ∀ c H1, Ex H H1 → c ∈ cs → p c = true → EvR te ((wipe σ vs).set j (some (u c))) H1 (φ c)) :
    EvN (tLc (iTup K tl) (gName j) t te vs) σ H (fun ys H2 => Paired (fun c z => φ c z H2) (cs.filter p) ys) := fun H0 e Q q => h H0 e _ fun a H1 e1 ha => ⟨a, rfl, ⟨_, st_of ha⟩, fun Dl hD =>
  lc_tup (xs := cs.map u) (fun i => Cp H1 Dl φ ((cs.take i).filter p)) ⟨hD, Ex.new hD, [], upd_same, .nil⟩ (fun i H' _ p => st_of (p.ex _ _ ha)) (fun i x H' hi cp => by
    rw [List.getElem?_map] at hi
    cases hc : cs[i]? with
    | none => rw [hc] at hi; cases hi
    | some c =>
      rw [hc] at hi
      cases hi
      have hm : c ∈ cs := List.mem_of_getElem? hc
      refine ⟨hw _, ?_⟩
      have := cp_turn (c := c) (b := p c) mono cp (by have := filter_len p cs i; omega) (ht c H1 (e.trans e1) hm) (he c H1 (e.trans e1) hm)
      rw [← filter_take hc] at this
      exact this)
    (fun H' cp => by
      obtain ⟨ys, h1, h2⟩ := cp.at_
      rw [List.length_map, List.take_length] at h2
      exact q Dl ys H' (fresh_back e1 cp.new) (e1.trans cp.ex) h1 h2)⟩
/-- over a list -/
theorem en_lcL (p : α → Bool) (φ : α → V → Hp → Prop) (mono : ∀ c y H1 H2, Tx H1 H2 → φ c y H1 → φ c y H2) (h : EvSl K tl σ H (cs.map u)) (hz : cs.length ≤ 40000) (hw : ∀ x, wipe ((wipe σ vs).set j (some x)) vs = wipe σ vs)
    (ht : ∀ c H1, Ex H H1 → c ∈ cs → EvT t ((wipe σ vs).set j (some (u c))) H1 (p c)) (he : ∀ c H1, Ex H H1 → c ∈ cs → p c = true → EvR te ((wipe σ vs).set j (some (u c))) H1 (φ c)) :
    EvN (tLc (iList K tl) (gName j) t te vs) σ H (fun ys H2 => Paired (fun c z => φ c z H2) (cs.filter p) ys) := fun H0 e Q q => h H0 e _ fun a H1 e1 ha => ⟨a, rfl, ⟨_, ha⟩, fun Dl hD =>
  lc_list (xs := cs.map u) (fun i => Cp H1 Dl φ ((cs.take i).filter p)) ⟨hD, Ex.new hD, [], upd_same, .nil⟩ (fun i H' _ p => ex_l p.ex ha) (fun i x H' hi cp => by
    rw [List.getElem?_map] at hi
    cases hc : cs[i]? with
    | none => rw [hc] at hi; cases hi
    | some c =>
      rw [hc] at hi
      cases hi
      have hm : c ∈ cs := List.mem_of_getElem? hc
      refine ⟨hw _, ?_⟩
      have := cp_turn (c := c) (b := p c) mono cp (by have := filter_len p cs i; omega) (ht c H1 (e.trans e1) hm) (he c H1 (e.trans e1) hm)
      rw [← filter_take hc] at this
      exact this)
    (fun H' cp => by
      obtain ⟨ys, h1, h2⟩ := cp.at_
      rw [List.length_map, List.take_length] at h2
      exact q Dl ys H' (fresh_back e1 cp.new) (e1.trans cp.ex) h1 h2)⟩
theorem range_at {n i : Nat} (h : i < n) : (List.range n)[i]? = some i := by rw [List.getElem?_range h]
/-- over range(lo, hi) -/
theorem en_lcR2 {ta : TA} {lo hi : Int} (p : Nat → Bool) (φ : Nat → V → Hp → Prop) (mono : ∀ c y H1 H2, Tx H1 H2 → φ c y H1 → φ c y H2) (h : EvA ta σ H [.int lo, .int hi]) (hn : -40000 ≤ lo ∧ lo ≤ 40000 ∧ -40000 ≤ hi ∧ hi ≤ 40000 ∧ hi ≤ lo + 40000) (hw : ∀ x, wipe ((wipe σ vs).set j (some x)) vs = wipe σ vs)
    (ht : ∀ (c : Nat) H1, Ex H H1 → lo + c < hi → EvT t ((wipe σ vs).set j (some (.int (lo + c)))) H1 (p c)) (he : ∀ (c : Nat) H1, Ex H H1 → lo + c < hi → p c = true → EvR te ((wipe σ vs).set j (some (.int (lo + c)))) H1 (φ c)) :
    EvN (tLc (iRng2 ta) (gName j) t te vs) σ H (fun ys H2 => Paired (fun c z => φ c z H2) ((List.range (hi - lo).toNat).filter p) ys) := fun H0 e Q q => h H0 e _ fun H1 e1 => ⟨lo, hi, rfl, ⟨by omega, by omega, by omega, by omega⟩, fun Dl hD =>
  lc_range (lo := lo) (n := (hi - lo).toNat) (fun i => Cp H1 Dl φ (((List.range (hi - lo).toNat).take i).filter p)) ⟨hD, Ex.new hD, [], upd_same, .nil⟩ (fun i H' hi' cp => by
    refine ⟨hw _, ?_⟩
    have := cp_turn (c := i) (b := p i) mono cp (by have := filter_len p (List.range (hi - lo).toNat) i; rw [List.length_range] at this; omega) (ht i H1 (e.trans e1) (by omega)) (he i H1 (e.trans e1) (by omega))
    rw [← filter_take (range_at hi')] at this
    exact this)
    (fun H' cp => by
      obtain ⟨ys, h1, h2⟩ := cp.at_
      rw [List.take_of_length_le (by rw [List.length_range]; exact Nat.le_refl _)] at h2
      exact q Dl ys H' (fresh_back e1 cp.new) (e1.trans cp.ex) h1 h2)⟩
/-- over range(n) -/
theorem en_lcR1 {ta : TA} {n : Nat} (p : Nat → Bool) (φ : Nat → V → Hp → Prop) (mono : ∀ c y H1 H2, Tx H1 H2 → φ c y H1 → φ c y H2) (h : EvA ta σ H [iv n]) (hn : n ≤ 40000) (hw : ∀ x, wipe ((wipe σ vs).set j (some x)) vs = wipe σ vs)
    (ht : ∀ (c : Nat) H1, Ex H H1 → c < n → EvT t ((wipe σ vs).set j (some (iv c))) H1 (p c)) (he : ∀ (c : Nat) H1, Ex H H1 → c < n → p c = true → EvR te ((wipe σ vs).set j (some (iv c))) H1 (φ c)) :
    EvN (tLc (iRng1 ta) (gName j) t te vs) σ H (fun ys H2 => Paired (fun c z => φ c z H2) ((List.range n).filter p) ys) := fun H0 e Q q => h H0 e _ fun H1 e1 => ⟨(n : Int), rfl, by omega, by omega, fun Dl hD =>
  lc_range (lo := 0) (n := (n : Int).toNat) (fun i => Cp H1 Dl φ (((List.range n).take i).filter p)) ⟨hD, Ex.new hD, [], upd_same, .nil⟩ (fun i H' hi' cp => by
    rw [show (V.int (0 + (i : Int))) = iv i by unfold iv; rw [Int.zero_add]]
    refine ⟨hw _, ?_⟩
    have := cp_turn (c := i) (b := p i) mono cp (by have := filter_len p (List.range n) i; rw [List.length_range] at this; omega) (ht i H1 (e.trans e1) (by omega)) (he i H1 (e.trans e1) (by omega))
    rw [← filter_take (range_at (show i < n by omega))] at this
    exact this)
    (fun H' cp => by
      obtain ⟨ys, h1, h2⟩ := cp.at_
      rw [Int.toNat_natCast, List.take_of_length_le (by rw [List.length_range]; exact Nat.le_refl _)] at h2
      exact q Dl ys H' (fresh_back e1 cp.new) (e1.trans cp.ex) h1 h2)⟩
/-- the elements are values: EvL -/
theorem EvN.vals {te : TE} {g : α → V} {ds : List α} (h : EvN te σ H (fun ys H2 => Paired (fun c z => z = g c) ds ys)) : EvL te σ H (ds.map g) := fun H1 e Q q => h H1 e Q fun l ys H2 hl e2 h2 pr => by
  rw [paired_eq pr] at h2
  exact q l H2 hl e2 h2
theorem el_tup (p : α → Bool) (g : α → V) (h : EvSt tl σ H (cs.map u)) (hz : cs.length ≤ 40000) (hw : ∀ x, wipe ((wipe σ vs).set j (some x)) vs = wipe σ vs)
    (ht : ∀ c H1, Ex H H1 → c ∈ cs → EvT t ((wipe σ vs).set j (some (u c))) H1 (p c)) (he : ∀ c H1, Ex H H1 → c ∈ cs → p c = true → Ev te ((wipe σ vs).set j (some (u c))) H1 (g c)) :
    EvL (tLc (iTup K tl) (gName j) t te vs) σ H ((cs.filter p).map g) := EvN.vals (en_lcT p (fun c z _ => z = g c) (fun _ _ _ _ _ h => h) h hz hw ht fun c H1 e hc hp => er_of (he c H1 e hc hp))
theorem el_lst' (p : α → Bool) (g : α → V) (h : EvSl K tl σ H (cs.map u)) (hz : cs.length ≤ 40000) (hw : ∀ x, wipe ((wipe σ vs).set j (some x)) vs = wipe σ vs)
    (ht : ∀ c H1, Ex H H1 → c ∈ cs → EvT t ((wipe σ vs).set j (some (u c))) H1 (p c)) (he : ∀ c H1, Ex H H1 → c ∈ cs → p c = true → Ev te ((wipe σ vs).set j (some (u c))) H1 (g c)) :
    EvL (tLc (iList K tl) (gName j) t te vs) σ H ((cs.filter p).map g) := EvN.vals (en_lcL p (fun c z _ => z = g c) (fun _ _ _ _ _ h => h) h hz hw ht fun c H1 e hc hp => er_of (he c H1 e hc hp))
theorem el_rng2 {ta : TA} {lo hi : Int} (p : Nat → Bool) (g : Nat → V) (h : EvA ta σ H [.int lo, .int hi]) (hn : -40000 ≤ lo ∧ lo ≤ 40000 ∧ -40000 ≤ hi ∧ hi ≤ 40000 ∧ hi ≤ lo + 40000) (hw : ∀ x, wipe ((wipe σ vs).set j (some x)) vs = wipe σ vs)
    (ht : ∀ (c : Nat) H1, Ex H H1 → lo + c < hi → EvT t ((wipe σ vs).set j (some (.int (lo + c)))) H1 (p c)) (he : ∀ (c : Nat) H1, Ex H H1 → lo + c < hi → p c = true → Ev te ((wipe σ vs).set j (some (.int (lo + c)))) H1 (g c)) :
    EvL (tLc (iRng2 ta) (gName j) t te vs) σ H (((List.range (hi - lo).toNat).filter p).map g) := EvN.vals (en_lcR2 p (fun c z _ => z = g c) (fun _ _ _ _ _ h => h) h hn hw ht fun c H1 e hc hp => er_of (he c H1 e hc hp))
theorem el_rng1 {ta : TA} {n : Nat} (p : Nat → Bool) (g : Nat → V) (h : EvA ta σ H [iv n]) (hn : n ≤ 40000) (hw : ∀ x, wipe ((wipe σ vs).set j (some x)) vs = wipe σ vs)
    (ht : ∀ (c : Nat) H1, Ex H H1 → c < n → EvT t ((wipe σ vs).set j (some (iv c))) H1 (p c)) (he : ∀ (c : Nat) H1, Ex H H1 → c < n → p c = true → Ev te ((wipe σ vs).set j (some (iv c))) H1 (g c)) :
    EvL (tLc (iRng1 ta) (gName j) t te vs) σ H (((List.range n).filter p).map g) := EvN.vals (en_lcR1 p (fun c z _ => z = g c) (fun _ _ _ _ _ h => h) h hn hw ht fun c H1 e hc hp => er_of (he c H1 e hc hp))
theorem et_yes : EvT tYes σ H true := fun H1 _ _ q => q H1 (Ex.refl _)
theorem filter_yes {α : Type} (l : List α) : l.filter (fun _ => true) = l := List.filter_eq_self.mpr fun _ _ => rfl
end
end Coin

/-! Rules of one's own: sum of a tuple, set of a list of ints, .. -/
namespace Coin
open PySem PySem.Spec PyProof.Rows L2
/-! ### sum(t), t a tuple of ints -/
def rSumT (K : PySem.W.Frag) : List V → Hp → VK → Prop := fun vs H Q => ∃ (a : Addr) (ns : List Int), vs = [V.ref a] ∧ SqT K H a (ns.map V.int) ∧ Q (.int ns.sum) H
theorem cr_sumT {X : Cx} (hc : X.calm = true) : CallR X (.builtin "sum") (rSumT X.K) := fun pins s σ H vs us Q I r h => by
  obtain ⟨a, ns, rfl, hs, q⟩ := h
  obtain ⟨its, rv, ht, _⟩ := I.tuple hs
  have hi := rv.ints
  rw [Vals.ref1 r]
  obtain ⟨xs, e⟩ := hi.allInts.items
  have hn : numsOf (intItems xs).toList = ns := e ▸ hi.numsOf
  rw [nums_intItems] at hn
  rw [e] at ht
  refine PySem.W.ktm_sumG (I.ok.hd hc) ht fun h' tk t' hk => ?_
  rw [preSum_eq, List.take_of_length_le (by simp), hn]
  exact ⟨.int _, H, I.kept hk, ⟨_, rfl⟩, q⟩
/-! ### set(xs), xs a list of ints -/
abbrev setO0 (w : World) : Obj := { cls := .type "set", dict := none, data := .set #[] 0 (.fresh 0 0 (!w.params.followText "set-order")) }
section
variable {P : Program} {w : World} {A : Around} {E : Value → Shared → Prop} {s : Shared}
set_option maxHeartbeats 8000000 in
theorem set_of_list {l : Addr} {items : Array Value} (ns : List Int) {Q : Value → Shared → Prop} (hh : A.handled = none) (hl : s.heap.IsList l items) (hit : IntsAre items.toList ns) (hb : ns.length + 1 < scanBound)
    (h : ∀ (h' : Heap) (tk c : Nat), SetR w h' s.heap.objs.size (fun j => decide (j ∈ ns)) c → c ≤ ns.length → (∀ b o, s.heap.get? b = some o → h'.get? b = some o) → Q (.ref s.heap.objs.size) { s with heap := h', toks := tk }) :
    wpAny (model P w) A (call (.type "set") [.ref l]) Q E s := by
  have hisz : items.size = ns.length := (Array.length_toList (xs := items)) ▸ hit.length
  obtain ⟨c, tl, hmro⟩ := PySem.F.called_set.mro
  have hmade := PySem.F.called_set.made
  have hsub := PySem.F.called_set.sub
  refine wpAny_call (codeAny_of_tree ?_)
  show wpAny _ _ (callAny (.type "set") _) _ _ _
  refine wpAny_pure ⟨Code.quiet_builtin _ (by decide +kernel), codeAny_builtin PySem.F.entry_type_call ?_⟩
  rw [Around.under_plain (weight_type_call_type "set" [.ref l] []) rfl]
  have a1 := PySem.F.called_set.notType
  have a2 := PySem.F.called_set.canCreate
  have a3 := PySem.F.typeCall_set_1 (.ref l)
  repeat (any_goals (first | assumption | wp_step))
  refine codeAny_mono (code_set_led1 (.ref l) (E := E) (Q₁ := fun obj s₁ => obj = .ref s.heap.objs.size ∧ s₁ = { s with heap := s.heap.push (setO0 w) }) ⟨rfl, rfl⟩) fun r s₁ hr => ?_
  cases r with
  | error e => exact hr
  | ok fl =>
    cases fl with
    | ret obj =>
      obtain ⟨rfl, rfl⟩ := hr
      have hS : (s.heap.push (setO0 w)).get? s.heap.objs.size = some (setO0 w) := Heap.get?_push_size _ rfl
      have hT : Shared.TypeIs { s with heap := s.heap.push (setO0 w) } (.ref s.heap.objs.size) "set" := ⟨_, hS, rfl⟩
      have b1 := PySem.F.called_set.init.lookup
      have b2 := PySem.F.called_set.init.bind (.ref s.heap.objs.size)
      repeat (any_goals (first | assumption | wp_step))
      refine codeAny_mono (codeAny_call_builtin (R := wants (fun r s₂ => r = .none ∧ ∃ h' tk c, s₂ = { s with heap := h', toks := tk } ∧ SetR w h' s.heap.objs.size (fun j => decide (j ∈ ns)) c ∧ c ≤ ns.length ∧
          ∀ b o, s.heap.get? b = some o → h'.get? b = some o) E) PySem.F.called_set.init.plain PySem.F.entry_set_init (check_set_init_1 hT ?_)) fun r₂ s₂ hr₂ => ?_
      · obtain ⟨⟨oc, od, odt, osl⟩, hol, hcl, nl, hdl⟩ := hl
        simp only at hcl hdl
        subst hcl hdl
        have c1 := Heap.get?_push_of_some (setO0 w) hol
        have c2 := PySem.F.sub_list_set
        have c3 := PySem.F.sub_list_frozenset
        have c4 : (Value.type "list" == Value.type "dict") = false := by decide
        have hl1 : (s.heap.push (setO0 w)).IsList l items := ⟨_, c1, rfl, nl, rfl⟩
        unfold Builtin.«set.__init__» noKeywords Builtin.Frozenset.updateFrom
        generalize hPI : pyIter = PI
        wp_walk
        subst hPI
        refine wpAny_pyIter_list hl1 (wpAny_bind (wpAny_runValue ?_))
        have hlS : l < s.heap.objs.size := Heap.lt_size hol
        have sz : (s.heap.push (setO0 w)).objs.size = s.heap.objs.size + 1 := Heap.size_push ..
        have d1 : A.in1.in1.in1.handled = none := by simp [hh]
        have d2 : l ≠ (s.heap.push (setO0 w)).objs.size := sz ▸ Nat.ne_of_lt (Nat.lt_succ_of_lt hlS)
        have d3 : s.heap.objs.size ∉ [(s.heap.push (setO0 w)).objs.size, l] := by
          rw [sz]
          simp only [List.mem_cons, List.not_mem_nil, or_false, not_or]
          exact ⟨Nat.ne_of_lt (Nat.lt_succ_self _), Nat.ne_of_gt hlS⟩
        have hval : ∀ (i : Nat) (v : Value), items[i]? = some v → ∃ k t, ns[i]? = some k ∧ v = .int k t := fun i v hv => by
          have hi : i < ns.length := hisz ▸ (Array.getElem?_eq_some_iff.mp hv).1
          obtain ⟨t, e⟩ := PyProof.Rows.IntsAre.int_at hit i v ((Array.getElem?_toList ..).trans hv)
          exact ⟨ns[i], t, List.getElem?_eq_getElem hi, by rw [e, List.getD_eq_getElem?_getD, List.getElem?_eq_getElem hi] <;> rfl⟩
        refine set_update_ints ((Walks.list d1 _ l d2 items).toS) s.heap.objs.size d3 ns hisz hb hval (items.size - 0) 0 _ (by omega) (Nat.zero_le _) ⟨⟨_, Heap.get?_push_size _ rfl, rfl, rfl⟩, hl1.push _⟩ ⟨0, Nat.le_refl 0, setR_new_at (Heap.get?_push_of_some _ hS)⟩ fun s' c' hm hc' hS' => ?_
        obtain ⟨h', g2, d', tk', os'⟩ := s'
        have eg : g2 = s.gens := hm.gens
        have ed : d' = s.drawn := hm.drawn
        have eo : os' = s.os := hm.os
        subst eg ed eo
        show wpAny _ _ _ _ _ _
        refine wpAny_pure ?_
        show wpAny _ _ (ret Value.none) _ _ _
        rw [hisz] at hc'
        refine wpAny_pure ⟨rfl, h', tk', c', rfl, hS', hc', fun b o e => ?_⟩
        have hb0 : b < s.heap.objs.size := Heap.lt_size e
        refine hm.heap b o ?_ (Heap.get?_push_of_some _ (Heap.get?_push_of_some _ e))
        rw [sz]
        simp only [List.mem_cons, List.not_mem_nil, or_false, not_or]
        exact ⟨Nat.ne_of_lt hb0, Nat.ne_of_lt (Nat.lt_succ_of_lt hb0)⟩
      · cases r₂ with
        | error e => exact hr₂
        | ok fl₂ =>
          cases fl₂ with
          | ret r =>
            obtain ⟨rfl, h', tk, c', rfl, hS', hc', hk'⟩ := hr₂
            repeat (any_goals (first | assumption | wp_step))
            exact h _ _ _ hS' hc' hk'
          | _ => exact hr₂.elim
    | _ => exact hr.elim
end
def rSetL (K : PySem.W.Frag) (w : World) : List V → Hp → VK → Prop := fun vs H Q => ∃ (l : Addr) (ns : List Int), vs = [V.ref l] ∧ SqL K H l (ns.map V.int) ∧ ns.length + 1 < scanBound ∧
  ∀ (a : Addr) (c : Nat), H a = none → c ≤ ns.length → Q (.ref a) (upd H a (SetO w a (fun j => decide (j ∈ ns)) c))
theorem cr_setL {X : Cx} (hc : X.calm = true) : CallR X (.type "set") (rSetL X.K X.w) := fun pins s σ H vs us Q I r h => by
  obtain ⟨l, ns, rfl, hs, hb, q⟩ := h
  obtain ⟨its, rv, hl, _⟩ := I.list hs
  rw [Vals.ref1 r]
  refine set_of_list ns (I.ok.hd hc) hl.isList rv.ints hb fun h' tk c R hc' hk => ?_
  exact ⟨.ref _, upd H s.heap.objs.size (SetO X.w s.heap.objs.size (fun j => decide (j ∈ ns)) c), I.laid (t' := tk) hk (Nat.le_refl _) (setO_new R), rfl, q _ c (I.hok.fresh (Nat.le_refl _)) hc'⟩
end Coin

namespace Coin
open PySem PySem.Spec PyProof.Rows L2
abbrev bestO (its : Array Value) (c : Nat) : Obj := { cls := .type "list", dict := none, data := .seq its c, slots := #[] }

/-! ### min(xs, default=d) -/
theorem min_args (a v : Value) : argsOk "min" ⟨[a], [(Str.ofString "default", v)]⟩ := by unfold argsOk; kernel_rfl
theorem min_bind (v : Value) : Builtin.Builtins.bindParams "min" ["key", "default"] 0 ⟨[], [(Str.ofString "default", v)]⟩ = pure [none, some v] := by kernel_rfl
section
variable {prog : Program} {w : World} {A : Around} {R : Result → Shared → Prop} {I : Addr} {fp wr : List Addr} {n : Nat} {P : Nat → Value → Prop} {St : Nat → Heap → Prop}
theorem min_loop (kw : List (Str × Value)) (W : Walks prog w A.in1 I fp wr n P St) (bt : Nat → Nat → Bool) (hcmp : CmpOf prog w A.in1 .Lt P bt) (S : Addr) (hSf : S ∉ fp) :
    ∀ (k j : Nat) (s : Shared) (vb : Value) (c : Nat), n - (j + 1) = k → j + 1 ≤ n → St (j + 1) s.heap → P (argBest bt j) vb → s.heap.get? S = some (bestO #[vb, vb] c) →
      (∀ v h' tk, P (argBest bt (n - 1)) v → (∀ b o, b ∉ wr → b ≠ S → s.heap.get? b = some o → h'.get? b = some o) → R (.ok (.ret v)) { s with heap := h', toks := tk }) →
      codeAny (model prog w) A (.builtin "min.loop" ⟨[.ref I, .none, .ref S], kw⟩) R s := by
  have nSw : S ∉ wr := fun h => hSf (W.sub _ h)
  have nm : (toString "min" ++ toString ".loop" : String) = "min.loop" := by decide
  intro k
  induction k with
  | zero =>
    intro j s vb c hk hj hst hPb hS hR
    have hin : j + 1 = n := by omega
    refine codeAny_builtin PySem.F.entry_min_loop ?_
    rw [Around.under_plainId PySem.F.plain_min_loop _]
    show wpAny _ A.in1 (seqItems? (.ref S) >>= _) _ _ s
    refine wpAny_bind (wpAny_seqItems hS rfl ?_)
    show wpAny _ A.in1 (tryCatch (pyNext (.ref I)) _ >>= _) _ _ s
    refine wpAny_bind (wpAny_tryCatch (W.done s _ _ (hin ▸ hst) fun h1 tk q => ?_))
    have hS1 := q S _ nSw hS
    show wpAny _ A.in1 (updateSeq S (fun _ => #[]) >>= _) _ _ _
    refine wpAny_bind (wpAny_updateSeq hS1 rfl (wpAny_bind (wpAny_letGo (wpAny_pure ?_))))
    exact hR vb _ tk (by rw [← hin]; exact hPb) fun b o hw hb e => (Heap.get?_update_other _ _ (Ne.symm hb)).trans (q b o hw e)
  | succ k ih =>
    intro j s vb c hk hj hst hPb hS hR
    have hlt : j + 1 < n := by omega
    refine codeAny_builtin PySem.F.entry_min_loop ?_
    rw [Around.under_plainId PySem.F.plain_min_loop _]
    show wpAny _ A.in1 (seqItems? (.ref S) >>= _) _ _ s
    refine wpAny_bind (wpAny_seqItems hS rfl ?_)
    show wpAny _ A.in1 (tryCatch (pyNext (.ref I)) _ >>= _) _ _ s
    refine wpAny_bind (wpAny_tryCatch (W.item (j + 1) s _ _ hlt hst fun v h1 tk hP hst1 q => ?_))
    have hS1 := q S _ nSw hS
    show wpAny _ A.in1 (tryCatch (holding [v, v] (richCompare .Lt v vb >>= _)) _ >>= _) _ _ _
    refine wpAny_bind (wpAny_tryCatch (wpAny_holding (wpAny_bind (hcmp (j + 1) (argBest bt j) v vb _ _ _ hP hPb (wpAny_bind (wpAny_holding (wpAny_truthy_bool (wpAny_bind (wpAny_letGo (wpAny_pure ?_)))))))))) 
    cases hb : bt (j + 1) (argBest bt j) with
    | true =>
      simp only [if_true]
      refine wpAny_bind (wpAny_updateSeq hS1 rfl (wpAny_bind (wpAny_letGo ?_)))
      rw [nm]
      refine wpAny_pure ⟨plainId_quiet PySem.F.plain_min_loop _, ih (j + 1) _ v _ (by omega) hlt (W.frame _ _ _ hst1 fun b hbf o e => ?_) (by simp only [argBest, hb, if_true]; exact hP) (Heap.get?_update_self _ hS1 rfl) fun v2 h2 tk2 hP2 q2 => ?_⟩
      · exact (Heap.get?_update_other _ _ (fun z : S = b => hSf (z ▸ hbf))).trans e
      · exact hR v2 h2 tk2 hP2 fun b o hw hn e => q2 b o hw hn ((Heap.get?_update_other _ _ (Ne.symm hn)).trans (q b o hw e))
    | false =>
      simp only [Bool.false_eq_true, if_false]
      refine wpAny_bind (wpAny_letGo ?_)
      rw [nm]
      exact wpAny_pure ⟨plainId_quiet PySem.F.plain_min_loop _, ih (j + 1) _ vb c (by omega) hlt hst1 (by simp only [argBest, hb, Bool.false_eq_true, if_false]; exact hPb) hS1 fun v2 h2 tk2 hP2 q2 => hR v2 h2 tk2 hP2 fun b o hw hn e => q2 b o hw hn (q b o hw e)⟩
/-- from no item on -/
theorem min_loop0 (d : Value) (W : Walks prog w A.in1 I fp wr n P St) (bt : Nat → Nat → Bool) (hcmp : CmpOf prog w A.in1 .Lt P bt) (S : Addr) (hSf : S ∉ fp) {s : Shared} {c : Nat} (hst : St 0 s.heap) (hS : s.heap.get? S = some (bestO #[] c))
    (hR0 : n = 0 → ∀ h' tk, (∀ b o, b ∉ wr → s.heap.get? b = some o → h'.get? b = some o) → R (.ok (.ret d)) { s with heap := h', toks := tk })
    (hR : 0 < n → ∀ v h' tk, P (argBest bt (n - 1)) v → (∀ b o, b ∉ wr → b ≠ S → s.heap.get? b = some o → h'.get? b = some o) → R (.ok (.ret v)) { s with heap := h', toks := tk }) :
    codeAny (model prog w) A (.builtin "min.loop" ⟨[.ref I, .none, .ref S], [(Str.ofString "default", d)]⟩) R s := by
  have nSw : S ∉ wr := fun h => hSf (W.sub _ h)
  have nm : (toString "min" ++ toString ".loop" : String) = "min.loop" := by decide
  refine codeAny_builtin PySem.F.entry_min_loop ?_
  rw [Around.under_plainId PySem.F.plain_min_loop _]
  show wpAny _ A.in1 (seqItems? (.ref S) >>= _) _ _ s
  refine wpAny_bind (wpAny_seqItems hS rfl ?_)
  show wpAny _ A.in1 (tryCatch (pyNext (.ref I)) _ >>= _) _ _ s
  by_cases hn : n = 0
  · refine wpAny_bind (wpAny_tryCatch (W.done s _ _ (by rw [hn]; exact hst) fun h1 tk q => ?_))
    show wpAny _ A.in1 (rule _ >>= _) _ _ _
    exact wpAny_bind (wpAny_rule (wpAny_pure (hR0 hn h1 tk q)))
  · have hn : 0 < n := Nat.pos_of_ne_zero hn
    refine wpAny_bind (wpAny_tryCatch (W.item 0 s _ _ hn hst fun v h1 tk hP hst1 q => ?_))
    have hS1 := q S _ nSw hS
    show wpAny _ A.in1 (updateSeq S (fun _ => #[v, v]) >>= _) _ _ _
    refine wpAny_bind (wpAny_updateSeq hS1 rfl ?_)
    rw [nm]
    refine wpAny_pure ⟨plainId_quiet PySem.F.plain_min_loop _, min_loop _ W bt hcmp S hSf _ 0 _ v _ rfl hn (W.frame _ _ _ hst1 fun b hbf o e => ?_) hP (Heap.get?_update_self _ hS1 rfl) fun v2 h2 tk2 hP2 q2 => ?_⟩
    · exact (Heap.get?_update_other _ _ (fun z : S = b => hSf (z ▸ hbf))).trans e
    · exact hR hn v2 h2 tk2 hP2 fun b o hw hb e => q2 b o hw hb ((Heap.get?_update_other _ _ (Ne.symm hb)).trans (q b o hw e))
end
section
variable {prog : Program} {w : World} {A : Around} {E : Value → Shared → Prop} {s : Shared} {l : Addr} {xs : Array (Int × Tok)}
theorem min_default (d : Value) {Q : Value → Shared → Prop} (hh : A.handled = none) (hl : s.heap.IsList l (intItems xs))
    (h0 : xs.size = 0 → ∀ h' tk, (∀ b o, s.heap.get? b = some o → h'.get? b = some o) → Q d { s with heap := h', toks := tk })
    (h : 0 < xs.size → ∀ v h' tk, (intItems xs)[argBest (fun i j => decide (numAt xs i < numAt xs j)) (xs.size - 1)]? = some v → (∀ b o, s.heap.get? b = some o → h'.get? b = some o) → Q v { s with heap := h', toks := tk }) :
    wpAny (model prog w) A (call (.builtin "min") [.ref l] [(Str.ofString "default", d)]) Q E s := by
  have nm : (toString "min" ++ toString ".loop" : String) = "min.loop" := by decide
  refine kmb_tree PySem.F.kind_min PySem.F.plain_min PySem.F.entry_min (min_args _ _) ?_
  show wpAny _ A.in1 (Builtin.Builtins.bindParams "min" ["key", "default"] 0 ⟨[], [(Str.ofString "default", d)]⟩ >>= _) _ _ s
  refine wpAny_bind (wpAny_of_eq (min_bind d) (wpAny_bind (wpAny_pure ?_)))
  refine wpAny_bind (iter_intList hl fun s₂ e st hfp hlI => ?_)
  subst e
  refine wpAny_bind (wpAny_newObj_type ?_)
  rw [nm]
  have W := Walks.list (prog := prog) (w := w) (A := A.in1) hh s.heap.objs.size l hlI (intItems xs)
  have hsz : (intItems xs).size = xs.size := by simp [intItems]
  rw [hsz] at W
  refine wpAny_pure ⟨plainId_quiet PySem.F.plain_min_loop _, min_loop0 d W (fun i j => decide (numAt xs i < numAt xs j)) (CmpOf.ints_lt (numAt xs) (fun _ _ => intItems_at)) _ (fun hm => Nat.lt_irrefl _ (hfp _ hm)) (W.frame _ _ _ st fun b _ o e => Heap.get?_push_of_some _ e) (Heap.get?_push_size _ rfl) (fun hn h' tk q => ?_) fun hn v h' tk hP q => ?_⟩
  · exact h0 hn h' tk (old_kept fun b o hb e => q b o hb (Heap.get?_push_of_some _ e))
  · exact h hn v h' tk (by simpa [intItems] using hP) (old_kept fun b o hb e => q b o hb (Nat.ne_of_lt (Heap.lt_size e)) (Heap.get?_push_of_some _ e))
theorem min_rawD (d : Value) {its : List Value} {ns : List Int} {Q : Value → Shared → Prop} (hh : A.handled = none) (hl : s.heap.IsList l its.toArray) (hi : IntsAre its ns)
    (h0 : ns = [] → ∀ h' tk, (∀ b o, s.heap.get? b = some o → h'.get? b = some o) → Q d { s with heap := h', toks := tk })
    (h : ∀ h' tk M t', (∀ b o, s.heap.get? b = some o → h'.get? b = some o) → M ∈ ns → (∀ a, a ∈ ns → M ≤ a) → Q (.int M t') { s with heap := h', toks := tk }) :
    wpAny (model prog w) A (call (.builtin "min") [.ref l] [(Str.ofString "default", d)]) Q E s := by
  obtain ⟨xs, e⟩ := hi.allInts.items
  have hn : numsOf (intItems xs).toList = ns := e ▸ hi.numsOf
  rw [nums_intItems] at hn
  subst hn
  rw [e] at hl
  refine min_default d hh hl (fun hz h' tk q => h0 (by have : xs.toList = [] := by rw [← List.length_eq_zero_iff, Array.length_toList]; exact hz
                                                       rw [this]; rfl) h' tk q) fun hz v h' tk hv q => ?_
  obtain ⟨t, rfl⟩ := intItems_at hv
  obtain ⟨g1, g2⟩ := argBest_lt (numAt xs) (xs.size - 1)
  refine h h' tk _ t q ?_ fun a ha => ?_
  · rw [numAt_eq]
    exact PySem.getD_mem (by rw [List.length_map, Array.length_toList]; omega)
  · obtain ⟨j, hj, rfl⟩ := mem_getD ha
    rw [List.length_map, Array.length_toList] at hj
    rw [← numAt_eq]
    exact g2 j (by omega)
end
def rMinD (K : PySem.W.Frag) : List V → List V → Hp → VK → Prop := fun vs zs H Q => ∃ (a : Addr) (ns : List Int) (d : V), vs = [V.ref a] ∧ zs = [d] ∧ SqL K H a (ns.map V.int) ∧ (ns = [] → Q d H) ∧ ∀ m, m ∈ ns → (∀ y, y ∈ ns → m ≤ y) → Q (.int m) H
theorem cr_minD {X : Cx} (hc : X.calm = true) : CallRK X (.builtin "min") ["default"] (rMinD X.K) := fun pins s σ H xs zs us ws Q I r rz h => by
  obtain ⟨a, ns, d, rfl, rfl, hs, q0, q⟩ := h
  obtain ⟨its, rv, hl, _⟩ := I.list hs
  rw [Vals.ref1 r]
  cases rz with
  | cons rd rn =>
    rename_i dv ws'
    cases rn
    exact min_rawD dv (I.ok.hd hc) hl.isList rv.ints (fun hn h' tk hk => ⟨d, H, I.kept hk, rd, q0 hn⟩) fun h' tk M t' hk h1 h2 => ⟨.int _, H, I.kept hk, ⟨_, rfl⟩, q M h1 h2⟩

/-! ### max(xs, default=d) -/
theorem max_args (a v : Value) : argsOk "max" ⟨[a], [(Str.ofString "default", v)]⟩ := by unfold argsOk; kernel_rfl
theorem max_bind (v : Value) : Builtin.Builtins.bindParams "max" ["key", "default"] 0 ⟨[], [(Str.ofString "default", v)]⟩ = pure [none, some v] := by kernel_rfl
section
variable {prog : Program} {w : World} {A : Around} {R : Result → Shared → Prop} {I : Addr} {fp wr : List Addr} {n : Nat} {P : Nat → Value → Prop} {St : Nat → Heap → Prop}
theorem max_loop (kw : List (Str × Value)) (W : Walks prog w A.in1 I fp wr n P St) (bt : Nat → Nat → Bool) (hcmp : CmpOf prog w A.in1 .Gt P bt) (S : Addr) (hSf : S ∉ fp) :
    ∀ (k j : Nat) (s : Shared) (vb : Value) (c : Nat), n - (j + 1) = k → j + 1 ≤ n → St (j + 1) s.heap → P (argBest bt j) vb → s.heap.get? S = some (bestO #[vb, vb] c) →
      (∀ v h' tk, P (argBest bt (n - 1)) v → (∀ b o, b ∉ wr → b ≠ S → s.heap.get? b = some o → h'.get? b = some o) → R (.ok (.ret v)) { s with heap := h', toks := tk }) →
      codeAny (model prog w) A (.builtin "max.loop" ⟨[.ref I, .none, .ref S], kw⟩) R s := by
  have nSw : S ∉ wr := fun h => hSf (W.sub _ h)
  have nm : (toString "max" ++ toString ".loop" : String) = "max.loop" := by decide
  intro k
  induction k with
  | zero =>
    intro j s vb c hk hj hst hPb hS hR
    have hin : j + 1 = n := by omega
    refine codeAny_builtin PySem.F.entry_max_loop ?_
    rw [Around.under_plainId PySem.F.plain_max_loop _]
    show wpAny _ A.in1 (seqItems? (.ref S) >>= _) _ _ s
    refine wpAny_bind (wpAny_seqItems hS rfl ?_)
    show wpAny _ A.in1 (tryCatch (pyNext (.ref I)) _ >>= _) _ _ s
    refine wpAny_bind (wpAny_tryCatch (W.done s _ _ (hin ▸ hst) fun h1 tk q => ?_))
    have hS1 := q S _ nSw hS
    show wpAny _ A.in1 (updateSeq S (fun _ => #[]) >>= _) _ _ _
    refine wpAny_bind (wpAny_updateSeq hS1 rfl (wpAny_bind (wpAny_letGo (wpAny_pure ?_))))
    exact hR vb _ tk (by rw [← hin]; exact hPb) fun b o hw hb e => (Heap.get?_update_other _ _ (Ne.symm hb)).trans (q b o hw e)
  | succ k ih =>
    intro j s vb c hk hj hst hPb hS hR
    have hlt : j + 1 < n := by omega
    refine codeAny_builtin PySem.F.entry_max_loop ?_
    rw [Around.under_plainId PySem.F.plain_max_loop _]
    show wpAny _ A.in1 (seqItems? (.ref S) >>= _) _ _ s
    refine wpAny_bind (wpAny_seqItems hS rfl ?_)
    show wpAny _ A.in1 (tryCatch (pyNext (.ref I)) _ >>= _) _ _ s
    refine wpAny_bind (wpAny_tryCatch (W.item (j + 1) s _ _ hlt hst fun v h1 tk hP hst1 q => ?_))
    have hS1 := q S _ nSw hS
    show wpAny _ A.in1 (tryCatch (holding [v, v] (richCompare .Gt v vb >>= _)) _ >>= _) _ _ _
    refine wpAny_bind (wpAny_tryCatch (wpAny_holding (wpAny_bind (hcmp (j + 1) (argBest bt j) v vb _ _ _ hP hPb (wpAny_bind (wpAny_holding (wpAny_truthy_bool (wpAny_bind (wpAny_letGo (wpAny_pure ?_)))))))))) 
    cases hb : bt (j + 1) (argBest bt j) with
    | true =>
      simp only [if_true]
      refine wpAny_bind (wpAny_updateSeq hS1 rfl (wpAny_bind (wpAny_letGo ?_)))
      rw [nm]
      refine wpAny_pure ⟨plainId_quiet PySem.F.plain_max_loop _, ih (j + 1) _ v _ (by omega) hlt (W.frame _ _ _ hst1 fun b hbf o e => ?_) (by simp only [argBest, hb, if_true]; exact hP) (Heap.get?_update_self _ hS1 rfl) fun v2 h2 tk2 hP2 q2 => ?_⟩
      · exact (Heap.get?_update_other _ _ (fun z : S = b => hSf (z ▸ hbf))).trans e
      · exact hR v2 h2 tk2 hP2 fun b o hw hn e => q2 b o hw hn ((Heap.get?_update_other _ _ (Ne.symm hn)).trans (q b o hw e))
    | false =>
      simp only [Bool.false_eq_true, if_false]
      refine wpAny_bind (wpAny_letGo ?_)
      rw [nm]
      exact wpAny_pure ⟨plainId_quiet PySem.F.plain_max_loop _, ih (j + 1) _ vb c (by omega) hlt hst1 (by simp only [argBest, hb, Bool.false_eq_true, if_false]; exact hPb) hS1 fun v2 h2 tk2 hP2 q2 => hR v2 h2 tk2 hP2 fun b o hw hn e => q2 b o hw hn (q b o hw e)⟩
/-- from no item on -/
theorem max_loop0 (d : Value) (W : Walks prog w A.in1 I fp wr n P St) (bt : Nat → Nat → Bool) (hcmp : CmpOf prog w A.in1 .Gt P bt) (S : Addr) (hSf : S ∉ fp) {s : Shared} {c : Nat} (hst : St 0 s.heap) (hS : s.heap.get? S = some (bestO #[] c))
    (hR0 : n = 0 → ∀ h' tk, (∀ b o, b ∉ wr → s.heap.get? b = some o → h'.get? b = some o) → R (.ok (.ret d)) { s with heap := h', toks := tk })
    (hR : 0 < n → ∀ v h' tk, P (argBest bt (n - 1)) v → (∀ b o, b ∉ wr → b ≠ S → s.heap.get? b = some o → h'.get? b = some o) → R (.ok (.ret v)) { s with heap := h', toks := tk }) :
    codeAny (model prog w) A (.builtin "max.loop" ⟨[.ref I, .none, .ref S], [(Str.ofString "default", d)]⟩) R s := by
  have nSw : S ∉ wr := fun h => hSf (W.sub _ h)
  have nm : (toString "max" ++ toString ".loop" : String) = "max.loop" := by decide
  refine codeAny_builtin PySem.F.entry_max_loop ?_
  rw [Around.under_plainId PySem.F.plain_max_loop _]
  show wpAny _ A.in1 (seqItems? (.ref S) >>= _) _ _ s
  refine wpAny_bind (wpAny_seqItems hS rfl ?_)
  show wpAny _ A.in1 (tryCatch (pyNext (.ref I)) _ >>= _) _ _ s
  by_cases hn : n = 0
  · refine wpAny_bind (wpAny_tryCatch (W.done s _ _ (by rw [hn]; exact hst) fun h1 tk q => ?_))
    show wpAny _ A.in1 (rule _ >>= _) _ _ _
    exact wpAny_bind (wpAny_rule (wpAny_pure (hR0 hn h1 tk q)))
  · have hn : 0 < n := Nat.pos_of_ne_zero hn
    refine wpAny_bind (wpAny_tryCatch (W.item 0 s _ _ hn hst fun v h1 tk hP hst1 q => ?_))
    have hS1 := q S _ nSw hS
    show wpAny _ A.in1 (updateSeq S (fun _ => #[v, v]) >>= _) _ _ _
    refine wpAny_bind (wpAny_updateSeq hS1 rfl ?_)
    rw [nm]
    refine wpAny_pure ⟨plainId_quiet PySem.F.plain_max_loop _, max_loop _ W bt hcmp S hSf _ 0 _ v _ rfl hn (W.frame _ _ _ hst1 fun b hbf o e => ?_) hP (Heap.get?_update_self _ hS1 rfl) fun v2 h2 tk2 hP2 q2 => ?_⟩
    · exact (Heap.get?_update_other _ _ (fun z : S = b => hSf (z ▸ hbf))).trans e
    · exact hR hn v2 h2 tk2 hP2 fun b o hw hb e => q2 b o hw hb ((Heap.get?_update_other _ _ (Ne.symm hb)).trans (q b o hw e))
end
section
variable {prog : Program} {w : World} {A : Around} {E : Value → Shared → Prop} {s : Shared} {l : Addr} {xs : Array (Int × Tok)}
theorem max_default (d : Value) {Q : Value → Shared → Prop} (hh : A.handled = none) (hl : s.heap.IsList l (intItems xs))
    (h0 : xs.size = 0 → ∀ h' tk, (∀ b o, s.heap.get? b = some o → h'.get? b = some o) → Q d { s with heap := h', toks := tk })
    (h : 0 < xs.size → ∀ v h' tk, (intItems xs)[argBest (fun i j => decide (numAt xs i > numAt xs j)) (xs.size - 1)]? = some v → (∀ b o, s.heap.get? b = some o → h'.get? b = some o) → Q v { s with heap := h', toks := tk }) :
    wpAny (model prog w) A (call (.builtin "max") [.ref l] [(Str.ofString "default", d)]) Q E s := by
  have nm : (toString "max" ++ toString ".loop" : String) = "max.loop" := by decide
  refine kmb_tree PySem.F.kind_max PySem.F.plain_max PySem.F.entry_max (max_args _ _) ?_
  show wpAny _ A.in1 (Builtin.Builtins.bindParams "max" ["key", "default"] 0 ⟨[], [(Str.ofString "default", d)]⟩ >>= _) _ _ s
  refine wpAny_bind (wpAny_of_eq (max_bind d) (wpAny_bind (wpAny_pure ?_)))
  refine wpAny_bind (iter_intList hl fun s₂ e st hfp hlI => ?_)
  subst e
  refine wpAny_bind (wpAny_newObj_type ?_)
  rw [nm]
  have W := Walks.list (prog := prog) (w := w) (A := A.in1) hh s.heap.objs.size l hlI (intItems xs)
  have hsz : (intItems xs).size = xs.size := by simp [intItems]
  rw [hsz] at W
  refine wpAny_pure ⟨plainId_quiet PySem.F.plain_max_loop _, max_loop0 d W (fun i j => decide (numAt xs i > numAt xs j)) (CmpOf.ints_gt (numAt xs) (fun _ _ => intItems_at)) _ (fun hm => Nat.lt_irrefl _ (hfp _ hm)) (W.frame _ _ _ st fun b _ o e => Heap.get?_push_of_some _ e) (Heap.get?_push_size _ rfl) (fun hn h' tk q => ?_) fun hn v h' tk hP q => ?_⟩
  · exact h0 hn h' tk (old_kept fun b o hb e => q b o hb (Heap.get?_push_of_some _ e))
  · exact h hn v h' tk (by simpa [intItems] using hP) (old_kept fun b o hb e => q b o hb (Nat.ne_of_lt (Heap.lt_size e)) (Heap.get?_push_of_some _ e))
theorem max_rawD (d : Value) {its : List Value} {ns : List Int} {Q : Value → Shared → Prop} (hh : A.handled = none) (hl : s.heap.IsList l its.toArray) (hi : IntsAre its ns)
    (h0 : ns = [] → ∀ h' tk, (∀ b o, s.heap.get? b = some o → h'.get? b = some o) → Q d { s with heap := h', toks := tk })
    (h : ∀ h' tk M t', (∀ b o, s.heap.get? b = some o → h'.get? b = some o) → M ∈ ns → (∀ a, a ∈ ns → a ≤ M) → Q (.int M t') { s with heap := h', toks := tk }) :
    wpAny (model prog w) A (call (.builtin "max") [.ref l] [(Str.ofString "default", d)]) Q E s := by
  obtain ⟨xs, e⟩ := hi.allInts.items
  have hn : numsOf (intItems xs).toList = ns := e ▸ hi.numsOf
  rw [nums_intItems] at hn
  subst hn
  rw [e] at hl
  refine max_default d hh hl (fun hz h' tk q => h0 (by have : xs.toList = [] := by rw [← List.length_eq_zero_iff, Array.length_toList]; exact hz
                                                       rw [this]; rfl) h' tk q) fun hz v h' tk hv q => ?_
  obtain ⟨t, rfl⟩ := intItems_at hv
  obtain ⟨g1, g2⟩ := argBest_gt (numAt xs) (xs.size - 1)
  refine h h' tk _ t q ?_ fun a ha => ?_
  · rw [numAt_eq]
    exact PySem.getD_mem (by rw [List.length_map, Array.length_toList]; omega)
  · obtain ⟨j, hj, rfl⟩ := mem_getD ha
    rw [List.length_map, Array.length_toList] at hj
    rw [← numAt_eq]
    exact g2 j (by omega)
end
def rMaxD (K : PySem.W.Frag) : List V → List V → Hp → VK → Prop := fun vs zs H Q => ∃ (a : Addr) (ns : List Int) (d : V), vs = [V.ref a] ∧ zs = [d] ∧ SqL K H a (ns.map V.int) ∧ (ns = [] → Q d H) ∧ ∀ m, m ∈ ns → (∀ y, y ∈ ns → y ≤ m) → Q (.int m) H
theorem cr_maxD {X : Cx} (hc : X.calm = true) : CallRK X (.builtin "max") ["default"] (rMaxD X.K) := fun pins s σ H xs zs us ws Q I r rz h => by
  obtain ⟨a, ns, d, rfl, rfl, hs, q0, q⟩ := h
  obtain ⟨its, rv, hl, _⟩ := I.list hs
  rw [Vals.ref1 r]
  cases rz with
  | cons rd rn =>
    rename_i dv ws'
    cases rn
    exact max_rawD dv (I.ok.hd hc) hl.isList rv.ints (fun hn h' tk hk => ⟨d, H, I.kept hk, rd, q0 hn⟩) fun h' tk M t' hk h1 h2 => ⟨.int _, H, I.kept hk, ⟨_, rfl⟩, q M h1 h2⟩
end Coin

/-! t[::-1], t a tuple; min and max with a default -/
namespace Coin
open PySem PySem.Spec PyProof.Rows L2 HT
section
variable {prog : Program} {w : World} {A : Around} {E : Value → Shared → Prop} {s : Shared}
theorem adjust_back (n : Nat) : Builtin.Slice.sliceAdjust none none (-1) (n : Int) = ((n : Int) - 1, -1) := by
  unfold Builtin.Slice.sliceAdjust
  simp
theorem places_back (n : Nat) : Builtin.Slice.slicePlaces ((n : Int) - 1) (-1) (-1) = n := by
  unfold Builtin.Slice.slicePlaces
  have h1 : ¬ ((-1 : Int) > 0) := by decide
  simp only [h1, if_false]
  by_cases h : (n : Int) - 1 > -1
  · rw [if_pos h, show (- -1 : Int) = 1 by decide, Int.ediv_one]
    omega
  · rw [if_neg h]
    omega
theorem pick_back (xs : Array Value) : ((List.range xs.size).filterMap fun (k : Nat) => xs[((xs.size : Int) - 1 + (k : Int) * (-1)).toNat]?).toArray = xs.toList.reverse.toArray := by
  have h1 : ((List.range xs.size).filterMap fun (k : Nat) => xs[((xs.size : Int) - 1 + (k : Int) * (-1)).toNat]?) = ((List.range xs.size).map fun k => xs.size - 1 - k).filterMap (xs[·]?) := by
    rw [List.filterMap_map]
    have hc : ∀ l : List Nat, (∀ k ∈ l, k < xs.size) → (l.filterMap fun (k : Nat) => xs[((xs.size : Int) - 1 + (k : Int) * (-1)).toNat]?) = l.filterMap ((xs[·]?) ∘ fun k => xs.size - 1 - k) := by
      intro l
      induction l with
      | nil => intro _; rfl
      | cons a r ih =>
        intro h
        have ha := h a List.mem_cons_self
        have e : ((xs.size : Int) - 1 + (a : Int) * (-1)).toNat = xs.size - 1 - a := by omega
        rw [List.filterMap_cons, List.filterMap_cons, e, ih fun k hk => h k (List.mem_cons_of_mem _ hk)]
        rfl
    exact hc _ fun k hk => List.mem_range.mp hk
  rw [h1, PySem.W.krv_range, List.filterMap_reverse, PySem.W.krv_all]
theorem sliceApplied_back {sl : Addr} {u : Tok} {n : Nat} {Q : Int × Int × Nat → Shared → Prop} (hs : s.heap.IsSliceOf sl .none .none (.int (-1) u))
    (h : Q ((n : Int) - 1, -1, n) s) : wpAny (model prog w) A (Builtin.Slice.sliceApplied (.ref sl) (pure (n : Int))) Q E s := by
  obtain ⟨os, hos, hcs, hds⟩ := id hs
  unfold Builtin.Slice.sliceApplied Builtin.Slice.sliceFields
  refine wpAny_bind (wpAny_bind (wpAny_field hos hds (x := .none) rfl (wpAny_bind (wpAny_field hos hds (x := .none) rfl (wpAny_bind (wpAny_field hos hds (x := .int (-1) u) rfl (wpAny_pure ?_)))))))
  refine wpAny_bind (slicePart_ (.int (-1) u) ?_)
  show wpAny _ _ (if ((-1 : Int) == 0) = true then _ else _) _ _ s
  rw [if_neg (by decide)]
  refine wpAny_bind (slicePart_none (wpAny_bind (slicePart_none (wpAny_bind (wpAny_pure ?_)))))
  show wpAny _ _ (match Builtin.Slice.sliceAdjust none none (-1) (n : Int) with | (lo, hi) => pure (lo, (-1 : Int), Builtin.Slice.slicePlaces lo hi (-1))) _ _ s
  rw [adjust_back n]
  show wpAny _ _ (pure ((n : Int) - 1, (-1 : Int), Builtin.Slice.slicePlaces ((n : Int) - 1) (-1) (-1))) _ _ s
  rw [places_back]
  exact wpAny_pure h
theorem getItem_tuple_back {t sl : Addr} {items : Array Value} {u : Tok} {Q : Value → Shared → Prop} (ht : IsTup s.heap t items) (hs : s.heap.IsSliceOf sl .none .none (.int (-1) u))
    (h : Q (.ref s.heap.objs.size) { s with heap := s.heap.push { cls := .type "tuple", data := .seq items.toList.reverse.toArray } })
    (hsz : items.size ≤ sizeLine) : wpAny (model prog w) A (getItem (.ref t) (.ref sl)) Q E s := by
  have htake : sizeOk (.seq items.toList.reverse.toArray) := by
    show items.toList.reverse.toArray.size ≤ sizeLine
    rw [List.size_toArray, List.length_reverse, Array.length_toList]
    exact hsz
  obtain ⟨os, hos, hcs, hds⟩ := id hs
  have hTs : s.TypeIs (.ref sl) "slice" := ⟨os, hos, hcs⟩
  unfold getItem
  try with_reducible refine wpAny_holding ?_
  first | refine wpAny_bind (wpAny_pure ?_) | skip
  refine wpAny_bind (wpAny_sequenceKey ht.typeIs (by decide) ?_)
  refine wpAny_bind (wpAny_callSpecial?_slot (name := Str.ofString "__getitem__") ht.typeIs PyProof.Rows.slot_tuple_getitem
    (wpAny_call_entry PyProof.Rows.slot_tuple_getitem ht.typeIs entry_tuple_getitem ?_ (args_tuple_getitem _ _)))
  show wpAny _ _ (Builtin.Tuple.tupleItemsOf (.ref t) >>= _) _ _ s
  refine wpAny_bind (tupleItemsOf_ ht ?_)
  refine wpAny_bind (wpAny_typeOf hTs ?_)
  rw [if_pos (by decide)]
  refine wpAny_bind (sliceApplied_back hs ?_)
  have hno : ¬ (((((items.size : Int) - 1) == 0 && (-1 : Int) == 1 && items.size == items.size)) = true) := by
    intro q
    rw [Bool.and_eq_true, Bool.and_eq_true] at q
    exact absurd (eq_of_beq q.1.2) (by decide)
  show wpAny _ _ (if ((((items.size : Int) - 1) == 0 && (-1 : Int) == 1 && items.size == items.size)) = true then _ else _) _ _ s
  rw [if_neg hno, pick_back]
  first
    | exact wpAny_bind (m := Builtin.Tuple.tupleExact _) (wpAny_newObj_type (wpAny_pure ⟨_, rfl, wpAny_pure h⟩) htake)
    | exact wpAny_bind (m := Builtin.Tuple.tupleExact _) (wpAny_newObj_type (wpAny_bind (wpAny_pure (wpAny_pure ⟨_, rfl, wpAny_pure h⟩))) htake)
    | exact wpAny_bind (wpAny_bind (m := Builtin.Tuple.tupleExact _) (wpAny_newObj_type (wpAny_pure (wpAny_pure ⟨_, rfl, wpAny_pure h⟩)) htake))
    | exact wpAny_bind (wpAny_bind (m := Builtin.Tuple.tupleExact _) (wpAny_newObj_type (wpAny_pure ⟨_, rfl, wpAny_pure h⟩) htake))
end
section
variable {X : Cx}
def tRevT (K : PySem.W.Frag) (te : TE) : TE := fun σ H Q => te σ H fun x H1 => ∃ a xs, x = .ref a ∧ SqT K H1 a xs ∧ ∀ p, H1 p = none → Q (.ref p) (upd H1 p (.tup xs.reverse))
theorem pe_revT {e : Expr} {te : TE} {k : Nat} {p1 p2 p3 pos : Pos} (he : PE X e te) : PE X (.Subscript e (.Slice none none (some (.UnaryOp .USub (.Constant (.int 1) k p1) p2)) p3) pos) (tRevT X.K te) := by
  refine ⟨fun pins s σ H Q I h => ?_⟩
  refine Subscript_ (thn (he.run pins s σ H _ I h) fun v s1 ⟨x, H1, I1, r1, q1⟩ => ?_)
  obtain ⟨a, xs, ex, hx, q⟩ := q1
  subst ex
  cases r1
  have hst : PO X (some (.UnaryOp .USub (.Constant (.int 1) k p1) p2)) (tPart (tUn (rU fun i => .int (-i)) (tC (.int 1)))) := po_some (pe_un un_neg pe_int)
  refine wpAny_Slice (thn (po_none.run pins s1 σ H1 (fun o H2 => o = none ∧ H2 = H1) I1 ⟨rfl, rfl⟩) fun vl s2 ⟨l, H2, I2, pl, el, e2⟩ => ?_)
  subst el e2
  refine thn (po_none.run pins s2 σ H2 (fun o H3 => o = none ∧ H3 = H2) I2 ⟨rfl, rfl⟩) fun vu s3 ⟨u, H3, I3, pu, eu, e3⟩ => ?_
  subst eu e3
  refine thn (hst.run pins s3 σ H3 (fun o H4 => o = some (-1) ∧ H4 = H3) I3 ⟨1, rfl, -1, rfl, rfl, rfl⟩) fun vs s4 ⟨o, H4, I4, ps, eo, e4⟩ => ?_
  subst eo e4
  have I5 : Inv X pins σ H4 { s4 with heap := s4.heap.push { cls := .type "slice", data := .fields #[vl, vu, vs] } } := I4.kept (t' := s4.toks) fun b ob q => Heap.get?_push_of_some _ q
  obtain ⟨its, r, ht, hz⟩ := I5.tuple hx
  have hlen := r.length
  show wpAny (model X.prog X.w) X.A (subscriptTail e (.Slice none none (some (.UnaryOp .USub (.Constant (.int 1) k p1) p2)) p3) (.ref a) (.ref s4.heap.objs.size)) (EP X pins σ Q) X.xe { s4 with heap := s4.heap.push { cls := .type "slice", data := .fields #[vl, vu, vs] } }
  refine tail_any (ops := [.ref a, .ref s4.heap.objs.size]) ht.typeIs (PyProof.Rows.slot_tuple_getitem.lookup) ?_ (by with_unfolding_all rfl)
  cases pl
  cases pu
  cases ps with
  | int i u =>
    refine getItem_tuple_back ht (Heap.IsSliceOf.new _ .none .none (.int (-1) u)) ?_ (by rw [List.size_toArray]; omega)
    refine ⟨.ref _, _, I5.laid (t' := s4.toks) (o := .tup xs.reverse) (fun b ob q => Heap.get?_push_of_some _ q) (Nat.le_refl _) ?_, rfl, q _ (I5.hok.fresh (Nat.le_refl _))⟩
    exact ⟨by rw [List.length_reverse]; exact hz, _, r.reverse, IsTup.new _ _⟩
theorem pe_minD {p pos : Pos} {e : Expr} {es : List Expr} {kws : List Keyword} {t tk : TA} (hg : Gl X "min") (hm : X.mg "min" = none) (ha : PA X (e :: es) t) (hk : PK X kws tk) (hc : X.calm = true := by rfl)
    (he : backTo pos (starEach (e :: es) X.env) = (false, eval e X.env) :: backTo pos (starEach es X.env) := by rfl) (hpl : (backTo pos (starEach (e :: es) X.env)).any (·.1) = false := by rfl)
    (hall : (backToKw pos (keywordEach kws X.env)).all (·.1.isSome) = true := by rfl) (hnone : (backToKw pos (keywordEach kws X.env)).any (·.1.isNone) = false := by rfl) (hks : (backToKw pos (keywordEach kws X.env)).filterMap (·.1) = [Str.ofString "default"] := by rfl) :
    PE X (.Call (.Name "min" p) (e :: es) kws pos) (tCKw (rMinD X.K) t tk) := pe_callBK (cr_minD hc) hg hm (by decide +kernel) ha hk (by decide) (by decide) he hpl hall hnone hks
theorem pe_maxD {p pos : Pos} {e : Expr} {es : List Expr} {kws : List Keyword} {t tk : TA} (hg : Gl X "max") (hm : X.mg "max" = none) (ha : PA X (e :: es) t) (hk : PK X kws tk) (hc : X.calm = true := by rfl)
    (he : backTo pos (starEach (e :: es) X.env) = (false, eval e X.env) :: backTo pos (starEach es X.env) := by rfl) (hpl : (backTo pos (starEach (e :: es) X.env)).any (·.1) = false := by rfl)
    (hall : (backToKw pos (keywordEach kws X.env)).all (·.1.isSome) = true := by rfl) (hnone : (backToKw pos (keywordEach kws X.env)).any (·.1.isNone) = false := by rfl) (hks : (backToKw pos (keywordEach kws X.env)).filterMap (·.1) = [Str.ofString "default"] := by rfl) :
    PE X (.Call (.Name "max" p) (e :: es) kws pos) (tCKw (rMaxD X.K) t tk) := pe_callBK (cr_maxD hc) hg hm (by decide +kernel) ha hk (by decide) (by decide) he hpl hall hnone hks
end
end Coin

namespace Coin
open PySem PySem.Spec PyProof.Rows L2
/-! ### a tuple times 1 -/
theorem tuple_mul1 (l : Addr) (items : Array Value) (n : Nat) (dd : Option Addr) (sl : Array (Option Value)) (u : Tok) :
    Meets (Builtin.«tuple.__mul__» ⟨[.ref l, .int 1 u], []⟩) (fun _ R s => s.heap.get? l = some { cls := .type "tuple", dict := dd, data := .seq items n, slots := sl } ∧ R (.ok (.ret (Value.ref l))) s) :=
  .of_wp fun prog w A R s h => by
    obtain ⟨hp, g, d, tk, os⟩ := s
    obtain ⟨hl, h⟩ := h
    have f1 := AutoSeq1.idx_int
    have c0 : (decide ((1 : Int) < -(2 ^ 63)) || decide ((1 : Int) ≥ 2 ^ 63)) = false := by decide
    have c1 : (items.isEmpty || (1 : Int) == 1) = true := by rw [show ((1 : Int) == 1) = true from rfl, Bool.or_true]
    wp_walk using wpAny_loadPart' hl
    repeat (first
      | (refine wpAny_ite_false (decide_eq_false (by rw [c0]; exact Bool.false_ne_true)) ?_; wp_walk using wpAny_loadPart' hl)
      | (refine wpAny_ite_true (decide_eq_true c1) ?_; wp_walk using wpAny_loadPart' hl))
    exact ⟨_, rfl, h⟩
def rRepX (K : PySem.W.Frag) : R2 := fun x y H Q => ∃ l k xs, x = .ref l ∧ y = .int k ∧ SqT K H l xs ∧ xs ≠ [] ∧ 1 ≤ k ∧ k ≤ 1000 ∧ xs.length ≤ 1000 ∧ (k = 1 → Q (.ref l) H) ∧ (2 ≤ k → ∀ p, H p = none → Q (.ref p) (upd H p (.tup (List.replicate k.toNat xs).flatten)))
section
variable {X : Cx}
theorem op_repX : OpR X (binaryOp .Mult) (rRepX X.K) := by
  intro pins s σ H x y v u Q I rx ry h
  obtain ⟨l, k, xs, rfl, rfl, hT, hne, h1, h2, hz, q1, q2⟩ := h
  by_cases hk : k = 1
  · subst hk
    have q := q1 rfl
    cases rx
    obtain ⟨t, rfl⟩ := ry
    obtain ⟨its, r, ⟨⟨cls, dd, data, sl⟩, ho, hc, n, hd⟩, hs⟩ := I.tuple hT
    simp only at hc hd
    subst hc hd
    refine wpAny_binaryOp_repeat_ref (T := "tuple") (U := "int") (by decide) ⟨_, ho, rfl⟩ (fun s' => typeIs_int s' 1 t) noFill_tuple_mul F.fills_int_mul F.slot_int_rmul repeat_tuple F.slot_int_index.lookup
      (call_meets F.slot_int_rmul (typeIs_int s 1 t) F.entry_int_rmul (F.args_int_rmul_2 _ _) (int_rmul_tuple 1 t l its.toArray n dd sl)
        ⟨ho, rfl, ⟨_, ho, rfl⟩, call_meets F.slot_tuple_mul ⟨_, ho, rfl⟩ F.entry_tuple_mul (F.args_tuple_mul_2 _ _) (tuple_mul1 l its.toArray n dd sl t) ⟨ho, ?_⟩⟩)
    exact ⟨.ref l, _, I, rfl, q⟩
  · exact op_repT pins s σ H _ _ v u Q I rx ry ⟨l, k, xs, rfl, rfl, hT, hne, by omega, h2, hz, q2 (by omega)⟩
theorem repXK (K : PySem.W.Frag) (h : X.K = K := by rfl) : OpR X (binaryOp .Mult) (rRepX K) := h ▸ op_repX
end
end Coin

namespace Coin
open PySem PySem.Spec PyProof.Rows L2 Evl
theorem ivs_int (ns : List Nat) : ivs ns = (ns.map fun n : Nat => (n : Int)).map V.int := by
  unfold ivs
  rw [List.map_map]
  rfl
theorem isum : ∀ ns : List Nat, (ns.map fun n : Nat => (n : Int)).sum = ((ns.sum : Nat) : Int)
  | [] => rfl
  | n :: r => by
    rw [List.map_cons, List.sum_cons, List.sum_cons, isum r]
    omega
theorem ivs_len (ns : List Nat) : (ivs ns).length = ns.length := List.length_map ..
theorem ivs_get {ns : List Nat} {i : Nat} {n : Nat} (h : ns[i]? = some n) : (ivs ns)[i]? = some (iv n) := by
  unfold ivs
  rw [List.getElem?_map, h]
  rfl
theorem at_ivs {ns : List Nat} {i n : Nat} (h : ns[i]? = some n) : atI (ivs ns) (i : Int) = some (iv n) := atI_nat (ivs_get h)
section
variable {K : PySem.W.Frag} {σ : L2.St} {H H' : Hp} {ta tb te tc tl : TE} {t : TT} {x y z v : V} {D : Ends} {tu tz : TS}
/-! ### built-ins of a tuple, a list -/
theorem ev_lenT {xs : List V} (h : EvSt te σ H xs) : Ev (tCB (rLenS K) (tCons te tNil)) σ H (iv xs.length) := fun H1 e Q q => h H1 e _ fun a H2 e2 ha => ⟨a, xs, rfl, .inr (st_of ha), q H2 e2⟩
theorem ev_lenL {xs : List V} (h : EvSl K te σ H xs) : Ev (tCB (rLenS K) (tCons te tNil)) σ H (iv xs.length) := fun H1 e Q q => h H1 e _ fun a H2 e2 ha => ⟨a, xs, rfl, .inl ha, q H2 e2⟩
theorem ev_sumT {ns : List Nat} (h : EvSt te σ H (ivs ns)) : Ev (tCB (rSumT K) (tCons te tNil)) σ H (iv ns.sum) := fun H1 e Q q => h H1 e _ fun a H2 e2 ha => ⟨a, ns.map fun n : Nat => (n : Int), rfl, by rw [← ivs_int]; exact st_of ha, by rw [isum]; exact q H2 e2⟩
theorem ev_sumL {ns : List Nat} (h : EvSl K te σ H (ivs ns)) : Ev (tCB (rSum K) (tCons te tNil)) σ H (iv ns.sum) := fun H1 e Q q => h H1 e _ fun a H2 e2 ha => ⟨a, ns.map fun n : Nat => (n : Int), rfl, by rw [← ivs_int]; exact ha, by rw [isum]; exact q H2 e2⟩
theorem ev_min {ns : List Nat} {m : Nat} (h : EvSl K te σ H (ivs ns)) (hm : m ∈ ns) (hl : ∀ y ∈ ns, m ≤ y) : Ev (tCB (rMin K) (tCons te tNil)) σ H (iv m) := fun H1 e Q q => h H1 e _ fun a H2 e2 ha =>
  ⟨a, ns.map fun n : Nat => (n : Int), rfl, by rw [← ivs_int]; exact ha, by rw [List.length_map]; exact List.length_pos_of_mem hm, fun j hj hjl => by
    obtain ⟨n, hn, rfl⟩ := List.mem_map.mp hj
    have h1 := hl n hn
    have h2 := hjl (m : Int) (List.mem_map.mpr ⟨m, hm, rfl⟩)
    have : n = m := by omega
    subst this
    exact q H2 e2⟩
theorem ev_max {ns : List Nat} {m : Nat} (h : EvSl K te σ H (ivs ns)) (hm : m ∈ ns) (hl : ∀ y ∈ ns, y ≤ m) : Ev (tCB (rMax K) (tCons te tNil)) σ H (iv m) := fun H1 e Q q => h H1 e _ fun a H2 e2 ha =>
  ⟨a, ns.map fun n : Nat => (n : Int), rfl, by rw [← ivs_int]; exact ha, by rw [List.length_map]; exact List.length_pos_of_mem hm, fun j hj hjl => by
    obtain ⟨n, hn, rfl⟩ := List.mem_map.mp hj
    have h1 := hl n hn
    have h2 := hjl (m : Int) (List.mem_map.mpr ⟨m, hm, rfl⟩)
    have : n = m := by omega
    subst this
    exact q H2 e2⟩
theorem ev_ixL {xs : List V} {i : Int} (ha : EvSl K ta σ H xs) (hb : Ev tb σ H (.int i)) (hi : atI xs i = some v) : Ev (tOp (rIxL K) ta tb) σ H v := fun H1 e Q q => ha H1 e _ fun a H2 e2 h2 =>
  hb H2 (e.trans e2) _ fun H3 e3 => ⟨a, xs, i, v, rfl, rfl, ex_l e3 h2, hi, q H3 (e2.trans e3)⟩
theorem ev_ixT {xs : List V} {i : Int} (ha : EvSt ta σ H xs) (hb : Ev tb σ H (.int i)) (hi : atI xs i = some v) : Ev (tOp (rIxT K) ta tb) σ H v := fun H1 e Q q => ha H1 e _ fun a H2 e2 h2 =>
  hb H2 (e.trans e2) _ fun H3 e3 => ⟨a, xs, i, v, rfl, rfl, st_of (e3 _ _ h2), hi, q H3 (e2.trans e3)⟩
/-- tuple(xs), list(t) -/
def rTupS (K : PySem.W.Frag) : List V → Hp → VK → Prop := fun xs H Q => ∃ p ys, xs = [.ref p] ∧ ((SqL K H p ys ∧ ∀ l, H l = none → Q (.ref l) (upd H l (.tup ys))) ∨ (SqT K H p ys ∧ Q (.ref p) H))
theorem est_tup {xs : List V} (h : EvSl K te σ H xs) : EvSt (tCB (rTupS K) (tCons te tNil)) σ H xs := fun H1 e Q q => h H1 e _ fun a H2 e2 ha => ⟨a, xs, rfl, .inl ⟨ha, fun l hl => q l _ (e2.trans (Ex.new hl)) upd_same⟩⟩
theorem el_ofT {xs : List V} (h : EvSt te σ H xs) : EvL (tCB (rListS K) (tCons te tNil)) σ H xs := fun H1 e Q q => h H1 e _ fun a H2 e2 ha => ⟨a, xs, rfl, .inr (st_of ha), fun l hl => q l _ (fresh_back e2 hl) (e2.trans (Ex.new hl)) upd_same⟩
/-- a tuple's slice, two tuples together -/
theorem est_slA {xs : List V} {lo hi : Option Int} {t1 t2 : TO} (h : EvSt te σ H xs) (h1 : EvO t1 σ H lo) (h2 : EvO t2 σ H hi) : EvSt (tSl (rSlA K) te t1 t2) σ H (cutV xs lo hi) := fun H1 e Q q => h H1 e _ fun a H2 e2 ha =>
  h1 H2 (e.trans e2) _ fun H3 e3 => h2 H3 ((e.trans e2).trans e3) _ fun H4 e4 => ⟨a, xs, rfl, st_of (e4 _ _ (e3 _ _ ha)), fun ⟨z1, z2⟩ => by
    refine q a H4 ((e2.trans e3).trans e4) ?_
    have : cutV xs lo hi = xs := by
      unfold cutV
      rw [z1, z2, List.drop_zero, Nat.sub_zero]
      exact List.take_length
    rw [this]
    exact e4 _ _ (e3 _ _ ha), fun _ p hp => q p _ ((e2.trans e3).trans (e4.trans (Ex.new hp))) upd_same⟩
theorem est_cat {xs ys : List V} (ha : EvSt ta σ H xs) (hb : EvSt tb σ H ys) (hz : xs.length + ys.length ≤ 100000) : EvSt (tOp (rCatA K) ta tb) σ H (xs ++ ys) := fun H1 e Q q => ha H1 e _ fun a H2 e2 h2 => hb H2 (e.trans e2) _ fun b H3 e3 h3 =>
  ⟨a, b, xs, ys, rfl, rfl, st_of (e3 _ _ h2), st_of h3, sz_of hz, fun z => q b H3 (e2.trans e3) (by rw [z]; exact h3), fun _ z => q a H3 (e2.trans e3) (by rw [z, List.append_nil]; exact e3 _ _ h2), fun _ _ p hp => q p _ ((e2.trans e3).trans (Ex.new hp)) upd_same⟩
theorem est_disp {ts : TA} {vs : List V} (h : EvA ts σ H vs) (hl : vs.length ≤ 100000) : EvSt (tTup ts) σ H vs := est_u (eu_tup h hl)
/-! ### calls -/
def SpSt (sp : Sp) (vs : List V) (H : Hp) (xs : List V) : Prop := ∀ H1, Ex H H1 → ∀ Q : VK, (∀ p H2, Ex H1 H2 → H2 p = some (.tup xs) → Q (.ref p) H2) → ∀ E : XK, sp vs H1 Q E
theorem est_call {sp : Sp} {vs xs : List V} {E : XK} {ts : TA} (h : EvA ts σ H vs) (hs : SpSt sp vs H xs) : EvSt (tCall sp [] E ts) σ H xs := fun H1 e Q q => h H1 e _ fun H2 e2 => by
  rw [List.append_nil]
  exact hs H2 (e.trans e2) Q (fun p H3 e3 h3 => q p H3 (e2.trans e3) h3) E
theorem evc {sp : Sp} {vs : List V} {E : XK} {ts : TA} (h : EvA ts σ H vs) (hs : SpV sp vs H z) : Ev (tCall sp [] E ts) σ H z := ev_call h (by rw [List.append_nil]; exact hs)
theorem elc {sp : Sp} {vs xs : List V} {E : XK} {ts : TA} (h : EvA ts σ H vs) (hs : SpL sp vs H xs) : EvL (tCall sp [] E ts) σ H xs := el_call h (by rw [List.append_nil]; exact hs)
/-- arguments, one of them some tuple, some list -/
def EvAr (ts : TA) (σ : L2.St) (H : Hp) (φ : List V → Hp → Prop) : Prop := ∀ H1, Ex H H1 → ∀ Q : List V → Hp → Prop, (∀ vs H2, Ex H1 H2 → φ vs H2 → Q vs H2) → ts σ H1 Q
theorem ear_of {ts : TA} {vs : List V} (h : EvA ts σ H vs) : EvAr ts σ H (fun ws _ => ws = vs) := fun H1 e Q q => h H1 e Q fun H2 e2 => q _ _ e2 rfl
theorem ear_tup {ts : TA} {xs : List V} {vs : List V} (h : EvSt te σ H xs) (hr : EvA ts σ H vs) : EvAr (tCons te ts) σ H (fun ws H2 => ∃ a, ws = .ref a :: vs ∧ H2 a = some (.tup xs)) := fun H1 e Q q => h H1 e _ fun a H2 e2 ha =>
  hr H2 (e.trans e2) _ fun H3 e3 => q _ H3 (e2.trans e3) ⟨a, rfl, e3 _ _ ha⟩
theorem ear_lst {ts : TA} {xs : List V} {vs : List V} (h : EvSl K te σ H xs) (hr : EvA ts σ H vs) : EvAr (tCons te ts) σ H (fun ws H2 => ∃ a, ws = .ref a :: vs ∧ SqL K H2 a xs) := fun H1 e Q q => h H1 e _ fun a H2 e2 ha =>
  hr H2 (e.trans e2) _ fun H3 e3 => q _ H3 (e2.trans e3) ⟨a, rfl, ex_l e3 ha⟩
theorem evcT {sp : Sp} {vs xs : List V} {E : XK} {ts : TA} (h : EvSt te σ H xs) (hr : EvA ts σ H vs) (hs : ∀ a H1, Ex H H1 → H1 a = some (.tup xs) → SpV sp (.ref a :: vs) H1 z) : Ev (tCall sp [] E (tCons te ts)) σ H z := fun H1 e Q q =>
  h H1 e _ fun a H2 e2 ha => hr H2 (e.trans e2) _ fun H3 e3 => by
    show sp ((.ref a :: vs) ++ []) H3 Q E
    rw [List.append_nil]
    exact hs a H3 ((e.trans e2).trans e3) (e3 _ _ ha) H3 (Ex.refl _) Q (fun H4 e4 => q H4 ((e2.trans e3).trans e4)) E
theorem estcT {sp : Sp} {vs xs ys : List V} {E : XK} {ts : TA} (h : EvSt te σ H xs) (hr : EvA ts σ H vs) (hs : ∀ a H1, Ex H H1 → H1 a = some (.tup xs) → SpSt sp (.ref a :: vs) H1 ys) : EvSt (tCall sp [] E (tCons te ts)) σ H ys := fun H1 e Q q =>
  h H1 e _ fun a H2 e2 ha => hr H2 (e.trans e2) _ fun H3 e3 => by
    show sp ((.ref a :: vs) ++ []) H3 Q E
    rw [List.append_nil]
    exact hs a H3 ((e.trans e2).trans e3) (e3 _ _ ha) H3 (Ex.refl _) Q (fun p H4 e4 h4 => q p H4 ((e2.trans e3).trans e4) h4) E
theorem elcT {sp : Sp} {vs xs ys : List V} {E : XK} {ts : TA} (h : EvSt te σ H xs) (hr : EvA ts σ H vs) (hs : ∀ a H1, Ex H H1 → H1 a = some (.tup xs) → SpL sp (.ref a :: vs) H1 ys) : EvL (tCall sp [] E (tCons te ts)) σ H ys := fun H1 e Q q =>
  h H1 e _ fun a H2 e2 ha => hr H2 (e.trans e2) _ fun H3 e3 => by
    show sp ((.ref a :: vs) ++ []) H3 Q E
    rw [List.append_nil]
    exact hs a H3 ((e.trans e2).trans e3) (e3 _ _ ha) H3 (Ex.refl _) Q (fun p H4 hp e4 h4 => q p H4 (fresh_back (e2.trans e3) hp) ((e2.trans e3).trans e4) h4) E
/-! ### statements -/
theorem s_asgT {i : Nat} {xs : List V} (h : EvSt te σ H xs) (k : ∀ a H1, Ex H H1 → H1 a = some (.tup xs) → D.nx (σ.set i (some (.ref a))) H1) : tAsg te (gName i) D σ H := h H (Ex.refl H) _ fun a H1 e ha => k a H1 e ha
theorem q_asgT {i : Nat} {xs : List V} (h : EvSt te σ H xs) (k : ∀ a H1, Ex H H1 → H1 a = some (.tup xs) → tz D (σ.set i (some (.ref a))) H1) : tSeq (tAsg te (gName i)) tz D σ H := s_asgT (D := { D with nx := tz D }) h k
theorem s_retT {xs : List V} (h : EvSt te σ H xs) (k : ∀ a H1, Ex H H1 → H1 a = some (.tup xs) → D.rt (.ref a) H1) : tRet te D σ H := h H (Ex.refl H) _ fun a H1 e ha => k a H1 e ha
/-- range(lo, hi, c) -/
theorem s_forRC {ts : TA} {j : Nat} {lo hi c : Int} {n : Nat} (h : EvA ts σ H [.int lo, .int hi, .int c]) (hn : RgC lo hi c n) (Pv : Nat → L2.St → Hp → Prop) (h0 : ∀ H1, Ex H H1 → Pv 0 σ H1)
    (hs : ∀ (i : Nat) σ' H', i < n → Pv i σ' H' → tu { D with nx := Pv (i + 1), ct := Pv (i + 1), bk := D.nx } (σ'.set j (some (.int (lo + (i : Int) * c)))) H') (hd : ∀ σ' H', Pv n σ' H' → D.nx σ' H') : tFor (iRng3 ts) (gName j) tu D σ H :=
  h H (Ex.refl H) _ fun H1 e => ⟨lo, hi, c, n, rfl, hn, for_rangeC Pv (h0 H1 e) (fun i σ' H' hi p => hs i σ' H' hi p) hd⟩
theorem q_forRC {ts : TA} {j : Nat} {lo hi c : Int} {n : Nat} (h : EvA ts σ H [.int lo, .int hi, .int c]) (hn : RgC lo hi c n) (Pv : Nat → L2.St → Hp → Prop) (h0 : ∀ H1, Ex H H1 → Pv 0 σ H1)
    (hs : ∀ (i : Nat) σ' H', i < n → Pv i σ' H' → tu { D with nx := Pv (i + 1), ct := Pv (i + 1), bk := tz D } (σ'.set j (some (.int (lo + (i : Int) * c)))) H') (hd : ∀ σ' H', Pv n σ' H' → tz D σ' H') : tSeq (tFor (iRng3 ts) (gName j) tu) tz D σ H :=
  s_forRC (D := { D with nx := tz D }) h hn Pv h0 hs hd
/-- downwards from n - 1 to 0 -/
theorem rg_down (n : Nat) (hn : n ≤ 100000) : RgC ((n : Int) - 1) (-1) (-1) n := by
  have := RgC.neg (i := (n : Int) - 1) (j := -1) (by omega) (by omega) (by decide) (by decide)
  rwa [show ((n : Int) - 1 - -1).toNat = n by omega] at this
/-- over a tuple made on the way -/
theorem s_forNT {g : TG} {xs : List V} (h : EvSt tl σ H xs) (Pv : Addr → Nat → L2.St → Hp → Prop) (h0 : ∀ p H1, Ex H H1 → H1 p = some (.tup xs) → Pv p 0 σ H1) (hl : ∀ p i σ' H', Pv p i σ' H' → H' p = some (.tup xs))
    (hs : ∀ p i x σ' H', xs[i]? = some x → Pv p i σ' H' → g x σ' H' fun σ2 H2 => tu { D with nx := Pv p (i + 1), ct := Pv p (i + 1), bk := D.nx } σ2 H2) (hd : ∀ p σ' H', Pv p xs.length σ' H' → D.nx σ' H') : tFor (iTup K tl) g tu D σ H :=
  h H (Ex.refl H) _ fun a H1 e ha => ⟨a, rfl, ⟨xs, st_of ha⟩, for_tup (xs := xs) (Pv a) (h0 a H1 e ha) (fun i σ' H' _ p => st_of (hl a i σ' H' p)) (hs a) (hd a)⟩
theorem q_forNT {g : TG} {xs : List V} (h : EvSt tl σ H xs) (Pv : Addr → Nat → L2.St → Hp → Prop) (h0 : ∀ p H1, Ex H H1 → H1 p = some (.tup xs) → Pv p 0 σ H1) (hl : ∀ p i σ' H', Pv p i σ' H' → H' p = some (.tup xs))
    (hs : ∀ p i x σ' H', xs[i]? = some x → Pv p i σ' H' → g x σ' H' fun σ2 H2 => tu { D with nx := Pv p (i + 1), ct := Pv p (i + 1), bk := tz D } σ2 H2) (hd : ∀ p σ' H', Pv p xs.length σ' H' → tz D σ' H') : tSeq (tFor (iTup K tl) g tu) tz D σ H :=
  s_forNT (D := { D with nx := tz D }) h Pv h0 hl hs hd
end
/-! ### systems among things -/
def okRest : Int → List V → Bool
  | _, [] => true
  | p, .int i :: r => decide (p + 1 ≤ i) && decide (i ≤ 200) && okRest i r
  | _, _ :: _ => false
def isSys : List V → Bool
  | .int i :: r => decide (i = 1) && (decide (r.length ≤ 7) && okRest i r)
  | _ => false
/-- a thing, and whether it is a tuple of which φ says so -/
inductive Fv (φ : List V → Bool) (H : Hp) : V → Bool → Prop where
  | tup {a : Addr} {xs : List V} {b : Bool} (e : H a = some (.tup xs)) (f : ∀ y ∈ xs, Tg H y) (q : φ xs = b) : Fv φ H (.ref a) b
  | lst {a : Addr} {xs : List V} (e : H a = some (.lst xs)) : Fv φ H (.ref a) false
  | non : Fv φ H .non false
  | bl (b : Bool) : Fv φ H (.bl b) false
  | int (i : Int) : Fv φ H (.int i) false
  | str (x : Str) : Fv φ H (.str x) false
/-- .. and whether it is a system -/
abbrev Sv : Hp → V → Bool → Prop := Fv isSys
theorem Fv.ex {φ : List V → Bool} {H H' : Hp} {x : V} {b : Bool} (e : Ex H H') (h : Fv φ H x b) : Fv φ H' x b := by
  cases h with
  | tup h f q => exact .tup (e _ _ h) (fun y hy => (f y hy).ex e) q
  | lst h => exact .lst (e _ _ h)
  | non => exact .non
  | bl b => exact .bl b
  | int i => exact .int i
  | str x => exact .str x
structure Good (cs : List Nat) : Prop extends Sys cs where
  le : ∀ c ∈ cs, c ≤ 200
  len : cs.length ≤ 8
theorem okRest_good : ∀ (p : Nat) (r : List Nat), (∀ c ∈ r, p < c) → r.Pairwise (· < ·) → (∀ c ∈ r, c ≤ 200) → okRest (p : Int) (ivs r) = true
  | _, [], _, _, _ => rfl
  | p, c :: r, h, hp, hl => by
    obtain ⟨h1, h2⟩ := List.pairwise_cons.mp hp
    have := h c List.mem_cons_self
    have := hl c List.mem_cons_self
    show (decide ((p : Int) + 1 ≤ (c : Int)) && decide ((c : Int) ≤ 200) && okRest (c : Int) (ivs r)) = true
    rw [decide_eq_true (by omega), decide_eq_true (by omega), okRest_good c r h1 h2 fun x hx => hl x (List.mem_cons_of_mem _ hx)]
    rfl
theorem Good.isSys {cs : List Nat} (g : Good cs) : isSys (ivs cs) = true := by
  obtain ⟨a, r, e⟩ := List.exists_cons_of_ne_nil g.ne
  have h1 := g.one
  have h2 := g.rise
  have h3 := g.le
  have h4 := g.len
  subst e
  have : a = 1 := Option.some.inj h1
  subst this
  obtain ⟨p1, p2⟩ := List.pairwise_cons.mp h2
  show (decide (((1 : Nat) : Int) = 1) && (decide ((ivs r).length ≤ 7) && okRest ((1 : Nat) : Int) (ivs r))) = true
  rw [okRest_good 1 r p1 p2 fun x hx => h3 x (List.mem_cons_of_mem _ hx), ivs_len, decide_eq_true (show r.length ≤ 7 by rw [List.length_cons] at h4; omega)]
  rfl
theorem tg_ivs {H : Hp} {ns : List Nat} : ∀ y ∈ ivs ns, Tg H y := fun y hy => by
  obtain ⟨n, _, rfl⟩ := List.mem_map.mp hy
  exact .int _
theorem Sv.good {H : Hp} {a : Addr} {cs : List Nat} (e : H a = some (.tup (ivs cs))) (g : Good cs) : Sv H (.ref a) true :=
  Fv.tup e tg_ivs g.isSys
theorem Tg.vals {H : Hp} {n : Nat} : Tg H (iv n) := .int _
theorem rc_isiT {K : PySem.W.Frag} {H : Hp} {a : Addr} {xs : List V} (e : H a = some (.tup xs)) : RC (rIsi K) [.ref a, .ty "tuple"] H (.bl true) := rc_isi (t := "tuple") (fun H1 e1 => .base (.tup (e1 _ _ e))) (kit_ty (r := true) (by decide +kernel))
theorem rc_isiL {K : PySem.W.Frag} {H : Hp} {a : Addr} {xs : List V} (e : H a = some (.lst xs)) : RC (rIsi K) [.ref a, .ty "list"] H (.bl true) := rc_isi (t := "list") (fun H1 e1 => .base (.lst (e1 _ _ e))) (kit_ty (r := true) (by decide +kernel))
theorem rc_isiN {φ : List V → Bool} {K : PySem.W.Frag} {H : Hp} {x : V} (h : Fv φ H x false) (n : ∀ a xs, x = .ref a → H a ≠ some (.tup xs)) : RC (rIsi K) [x, .ty "tuple"] H (.bl false) := by
  cases h with
  | tup e f q => exact absurd e (n _ _ rfl)
  | lst e => exact rc_isi (t := "list") (fun H1 e1 => .base (.lst (e1 _ _ e))) (kit_ty (r := false) (by decide +kernel))
  | non => exact rc_isi (t := "NoneType") (fun H1 _ => .base .non) (kit_ty (r := false) (by decide +kernel))
  | bl b => exact rc_isi (t := "bool") (fun H1 _ => .base (.bl b)) (kit_ty (r := false) (by decide +kernel))
  | int i => exact rc_isi (t := "int") (fun H1 _ => .base (.int i)) (kit_ty (r := false) (by decide +kernel))
  | str x => exact rc_isi (t := "str") (fun H1 _ => .base (.str x)) (kit_ty (r := false) (by decide +kernel))
/-! ### rules with the written part by name -/
section
variable {X : Cx} (K : PySem.W.Frag)
theorem ixLK (h : X.K = K := by rfl) : IxR X (rIxL K) := h ▸ ix_list
theorem ixTK (h : X.K = K := by rfl) : IxR X (rIxT K) := h ▸ ix_tup
theorem lenK (h : X.K = K := by rfl) : CallR X (.builtin "len") (rLenS K) := h ▸ call_len_seq
theorem sumK (hc : X.calm = true := by rfl) (h : X.K = K := by rfl) : CallR X (.builtin "sum") (rSum K) := h ▸ cr_sum hc
theorem sumTK (hc : X.calm = true := by rfl) (h : X.K = K := by rfl) : CallR X (.builtin "sum") (rSumT K) := h ▸ cr_sumT hc
theorem minK (hc : X.calm = true := by rfl) (h : X.K = K := by rfl) : CallR X (.builtin "min") (rMin K) := h ▸ cr_min hc
theorem maxK (hc : X.calm = true := by rfl) (h : X.K = K := by rfl) : CallR X (.builtin "max") (rMax K) := h ▸ cr_max hc
theorem isiK (h : X.K = K := by rfl) : CallR X (.builtin "isinstance") (rIsi K) := h ▸ call_isi
theorem tupK (h : X.K = K := by rfl) : CallR X (.type "tuple") (rTupS K) := h ▸ call_tuple_of
theorem listK (h : X.K = K := by rfl) : CallR X (.type "list") (rListS K) := h ▸ call_list_of
theorem setK (hc : X.calm = true := by rfl) (h : X.K = K := by rfl) : CallR X (.type "set") (rSetL K X.w) := h ▸ cr_setL hc
theorem sortK (h : X.K = K := by rfl) : CallR X (.builtin "sorted") (rSortedI K) := h ▸ cr_sortedI
theorem catK (h : X.K = K := by rfl) : OpR X (binaryOp .Add) (rCatA K) := h ▸ op_catA
theorem slAK (h : X.K = K := by rfl) : SlR X (rSlA K) := h ▸ sl_tupA
theorem slLK (h : X.K = K := by rfl) : SlR X (rSlL K) := h ▸ sl_list
theorem eqDK (hu : X.A.units + 64 < cLine) (h : X.K = K := by rfl) : OpR X (compareOp .Eq) (rEqD K) := h ▸ op_eqD hu
theorem neDK (hu : X.A.units + 64 < cLine) (h : X.K = K := by rfl) : OpR X (compareOp .NotEq) (rNeD K) := h ▸ op_neD hu
theorem inK (h : X.K = K := by rfl) : OpR X (compareOp .In) (rIn K false) := h ▸ op_in_seq
theorem notInK (h : X.K = K := by rfl) : OpR X (compareOp .NotIn) (rIn K true) := h ▸ op_notIn_seq
end
/-! ### operators of natural numbers -/
theorem ivs_snoc (ns : List Nat) (n : Nat) : ivs (ns ++ [n]) = ivs ns ++ [iv n] := List.map_append ..
section
variable {H : Hp} {a b : Nat}
theorem dec_eq {p q : Prop} [Decidable p] [Decidable q] (h : p ↔ q) : decide p = decide q := decide_eq_decide.mpr h
theorem rvn_add : RV (rI0 fun i j => .int (i + j)) (iv a) (iv b) H (iv (a + b)) := fun H1 e Q q => ⟨a, b, rfl, rfl, q H1 (Ex.refl _)⟩
theorem rvn_sub (h : b ≤ a) : RV (rI0 fun i j => .int (i - j)) (iv a) (iv b) H (iv (a - b)) := fun H1 e Q q => ⟨a, b, rfl, rfl, by
  have := q H1 (Ex.refl _)
  unfold iv at this
  rwa [show ((a - b : Nat) : Int) = (a : Int) - (b : Int) by omega] at this⟩
theorem rvn_mul (h : a ≤ 1000000000) : RV (rI CMul fun i j => .int (i * j)) (iv a) (iv b) H (iv (a * b)) := fun H1 e Q q => ⟨a, b, rfl, rfl, .inl ⟨by omega, by omega⟩, by
  have := q H1 (Ex.refl _)
  unfold iv at this
  rwa [Int.natCast_mul] at this⟩
theorem rvn_div (h : 0 < b) (h2 : b ≤ 1000000000) : RV (rI CDiv fun i j => .int (i / j)) (iv a) (iv b) H (iv (a / b)) := fun H1 e Q q => ⟨a, b, rfl, rfl, ⟨by omega, by omega⟩, by
  have := q H1 (Ex.refl _)
  unfold iv at this
  rwa [Int.natCast_ediv] at this⟩
theorem rvn_mod (h : 0 < b) : RV (rI (fun _ j => 0 < j) fun i j => .int (i % j)) (iv a) (iv b) H (iv (a % b)) := fun H1 e Q q => ⟨a, b, rfl, rfl, by omega, by
  have := q H1 (Ex.refl _)
  unfold iv at this
  rwa [Int.natCast_emod] at this⟩
theorem rvn_le : RV (rI0 fun i j => .bl (decide (i ≤ j))) (iv a) (iv b) H (.bl (decide (a ≤ b))) := fun H1 e Q q => ⟨a, b, rfl, rfl, by
  have := q H1 (Ex.refl _)
  rwa [dec_eq (show a ≤ b ↔ (a : Int) ≤ (b : Int) by omega)] at this⟩
theorem rvn_lt : RV (rI0 fun i j => .bl (decide (i < j))) (iv a) (iv b) H (.bl (decide (a < b))) := fun H1 e Q q => ⟨a, b, rfl, rfl, by
  have := q H1 (Ex.refl _)
  rwa [dec_eq (show a < b ↔ (a : Int) < (b : Int) by omega)] at this⟩
theorem rvn_ge : RV (rI0 fun i j => .bl (decide (j ≤ i))) (iv a) (iv b) H (.bl (decide (b ≤ a))) := fun H1 e Q q => ⟨a, b, rfl, rfl, by
  have := q H1 (Ex.refl _)
  rwa [dec_eq (show b ≤ a ↔ (b : Int) ≤ (a : Int) by omega)] at this⟩
theorem rvn_gt : RV (rI0 fun i j => .bl (decide (j < i))) (iv a) (iv b) H (.bl (decide (b < a))) := fun H1 e Q q => ⟨a, b, rfl, rfl, by
  have := q H1 (Ex.refl _)
  rwa [dec_eq (show b < a ↔ (b : Int) < (a : Int) by omega)] at this⟩
theorem iv_inj {a b : Nat} : iv a = iv b ↔ a = b := ⟨fun h => by
  have := V.int.inj h
  omega, fun h => by rw [h]⟩
theorem rvn_eq : RV rEq (iv a) (iv b) H (.bl (decide (a = b))) := fun H1 e Q q => ⟨rfl, by
  have := q H1 (Ex.refl _)
  rwa [dec_eq (iv_inj (a := a) (b := b)).symm] at this⟩
theorem rvn_ne : RV rNe (iv a) (iv b) H (.bl (!decide (a = b))) := fun H1 e Q q => ⟨rfl, by
  have := q H1 (Ex.refl _)
  rwa [dec_eq (iv_inj (a := a) (b := b)).symm] at this⟩
end
/-- a name's value by its slot -/
theorem vr {σ : L2.St} {H : Hp} {i : Nat} (v : V) (h : σ[i]? = some (some v) := by rfl) : Ev (tVar i) σ H v := ev_var h
theorem cn {σ : L2.St} {H : Hp} (n : Nat) : Ev (tC (.int (n : Int))) σ H (iv n) := ev_c
/-! ### the law's script, its numbers -/
def cell (ns : List Int) (k : Nat) : Int := ns.getD k 0
def mix (c : Int) (p m : Nat) : Nat := (c * 48271 % (p : Int) % (m : Int)).toNat
theorem mix_lt (c : Int) (p m : Nat) (h : 0 < m) : mix c p m < m := by
  unfold mix
  have := Int.emod_nonneg (c * 48271 % (p : Int)) (show (m : Int) ≠ 0 by omega)
  have := Int.emod_lt_of_pos (c * 48271 % (p : Int)) (show (0 : Int) < (m : Int) by omega)
  omega
theorem mix_eq (c : Int) (p m : Nat) (h : 0 < m) : c * 48271 % (p : Int) % (m : Int) = (mix c p m : Int) := by
  unfold mix
  have := Int.emod_nonneg (c * 48271 % (p : Int)) (show (m : Int) ≠ 0 by omega)
  omega
/-- what the laws take for a system -/
structure Nice (cs : List Nat) : Prop extends Sys cs where
  le : ∀ c ∈ cs, c ≤ 46
  len : cs.length ≤ 6
theorem Nice.good {cs : List Nat} (h : Nice cs) : Good cs := ⟨h.toSys, fun c hc => by have := h.le c hc; omega, by have := h.len; omega⟩
/-- some tuple of numbers of which φ holds -/
def EvRt (te : TE) (σ : L2.St) (H : Hp) (φ : List Nat → Prop) : Prop := ∀ H1, Ex H H1 → ∀ Q : VK, (∀ cs a H2, φ cs → Ex H1 H2 → H2 a = some (.tup (ivs cs)) → Q (.ref a) H2) → te σ H1 Q
theorem nat_of_int : ∀ {ns : List Int}, (∀ x ∈ ns, 0 ≤ x) → ∃ cs : List Nat, ns = cs.map fun n : Nat => (n : Int)
  | [], _ => ⟨[], rfl⟩
  | x :: r, h => by
    obtain ⟨cs, e⟩ := nat_of_int (ns := r) fun y hy => h y (List.mem_cons_of_mem _ hy)
    have := h x List.mem_cons_self
    exact ⟨x.toNat :: cs, by rw [List.map_cons, ← e, Int.toNat_of_nonneg this]⟩
/-- tuple(sorted(set(xs))) -/
theorem ert_sortset {K : PySem.W.Frag} {w : World} {σ : L2.St} {H : Hp} {te : TE} {ns : List Nat} (h : EvSl K te σ H (ivs ns)) (hl : ns.length < 60) :
    EvRt (tCB (rTupS K) (tCons (tCB (rSortedSet w) (tCons (tCB (rSetL K w) (tCons te tNil)) tNil)) tNil)) σ H (fun cs => cs.Pairwise (· < ·) ∧ (∀ x, x ∈ cs ↔ x ∈ ns) ∧ cs.length ≤ ns.length) := fun H1 e Q q =>
  h H1 e _ fun l H2 e2 hl2 => ⟨l, ns.map fun n : Nat => (n : Int), rfl, by rw [← ivs_int]; exact hl2, by rw [List.length_map]; exact Nat.lt_of_lt_of_le (Nat.succ_lt_succ hl) (by decide), fun a c ha hc =>
    ⟨a, _, c, rfl, upd_same, by rw [List.length_map] at hc; omega, fun ns' p hp hm hlen hp0 => by
      obtain ⟨cs, rfl⟩ := nat_of_int (ns := ns') fun x hx => by
        have := of_decide_eq_true ((hm x).mp hx)
        obtain ⟨n, _, rfl⟩ := List.mem_map.mp this
        omega
      refine ⟨p, _, rfl, .inl ⟨sq_of upd_same, fun t ht => ?_⟩⟩
      have e3 : Ex H2 (upd H2 a (SetO w a (fun j => decide (j ∈ ns.map fun n : Nat => (n : Int))) c)) := Ex.new ha
      refine q cs t _ ⟨?_, fun x => ?_, ?_⟩ (e2.trans ((e3.trans (Ex.new hp0)).trans (Ex.new ht))) (by rw [upd_same, ivs_int])
      · have := List.pairwise_map.mp hp
        exact this.imp fun h => by omega
      · have := hm (x : Int)
        rw [List.mem_map, decide_eq_true_iff, List.mem_map] at this
        exact ⟨fun hx => by
          obtain ⟨y, hy, e⟩ := this.mp ⟨x, hx, rfl⟩
          have : y = x := by omega
          exact this ▸ hy, fun hx => by
          obtain ⟨y, hy, e⟩ := this.mpr ⟨x, hx, rfl⟩
          have : y = x := by omega
          exact this ▸ hy⟩
      · rw [List.length_map] at hlen hc
        omega⟩⟩
/-- a set that rises from 1 on -/
theorem sys_of {cs ns : List Nat} (h1 : cs.Pairwise (· < ·)) (h2 : ∀ x, x ∈ cs ↔ x ∈ ns) (h3 : 1 ∈ ns) (h4 : ∀ x ∈ ns, 0 < x) : Sys cs := ⟨by
  have m := (h2 1).mpr h3
  cases cs with
  | nil => cases m
  | cons a r =>
    have ha := h4 a ((h2 a).mp List.mem_cons_self)
    rcases List.mem_cons.mp m with e | e
    · rw [← e]; rfl
    · have := (List.pairwise_cons.mp h1).1 1 e
      omega, h1⟩
/-! ### data: numbers, lists and tuples of them -/
def dn (n : Nat) : PyData := .int (n : Int)
def dl (ns : List Nat) : PyData := .list (ns.map dn)
def dt (ns : List Nat) : PyData := .tuple (ns.map dn)
def dlt (xss : List (List Nat)) : PyData := .list (xss.map dt)
theorem canAll {α : Type} {f : α → PyData} (h : ∀ a, (f a).canLay0 = true) : ∀ l : List α, PyData.canLayAll0 (l.map f) = true
  | [] => by simp only [List.map_nil, PyData.canLayAll0]
  | a :: r => by simp only [List.map_cons, PyData.canLayAll0, h a, canAll h r, Bool.and_self]
theorem depAll {α : Type} {f : α → PyData} {k : Nat} (h : ∀ a, (f a).depth ≤ k) : ∀ l : List α, PyData.depthAll (l.map f) ≤ k
  | [] => by simp only [List.map_nil, PyData.depthAll]; exact Nat.zero_le _
  | a :: r => by
    simp only [List.map_cons, PyData.depthAll]
    exact Nat.max_le.mpr ⟨h a, depAll h r⟩
theorem can_dn (n : Nat) : (dn n).canLay0 = true := by unfold dn; simp only [PyData.canLay0]
theorem dep_dn (n : Nat) : (dn n).depth ≤ 0 := by unfold dn; simp only [PyData.depth]; exact Nat.le_refl _
theorem can_dl (ns : List Nat) : (dl ns).canLay0 = true := by unfold dl; simp only [PyData.canLay0]; exact canAll can_dn ns
theorem can_dt (ns : List Nat) : (dt ns).canLay0 = true := by unfold dt; simp only [PyData.canLay0]; exact canAll can_dn ns
theorem dep_dl (ns : List Nat) : (dl ns).depth ≤ 1 := by unfold dl; simp only [PyData.depth]; exact Nat.succ_le_succ (depAll dep_dn ns)
theorem dep_dt (ns : List Nat) : (dt ns).depth ≤ 1 := by unfold dt; simp only [PyData.depth]; exact Nat.succ_le_succ (depAll dep_dn ns)
theorem can_dlt (ns : List (List Nat)) : (dlt ns).canLay0 = true := by unfold dlt; simp only [PyData.canLay0]; exact canAll can_dt ns
theorem dep_dlt (ns : List (List Nat)) : (dlt ns).depth ≤ 2 := by unfold dlt; simp only [PyData.depth]; exact Nat.succ_le_succ (depAll dep_dt ns)
theorem shaped_of {d : PyData} {k : Nat} (h1 : d.canLay0 = true) (h2 : d.depth ≤ k) (h3 : k ≤ 64) : SeqAt.shaped d = true := by
  unfold SeqAt.shaped
  rw [h1, decide_eq_true (Nat.le_trans h2 h3)]
  rfl
theorem eqvAll_map {α : Type} [DecidableEq α] {f : α → PyData} (h : ∀ a b, PyData.eqv (f a) (f b) = decide (a = b)) : ∀ xs ys : List α, PyData.eqvAll (xs.map f) (ys.map f) = decide (xs = ys)
  | [], [] => by simp [PyData.eqvAll]
  | [], _ :: _ => by simp [PyData.eqvAll]
  | _ :: _, [] => by simp [PyData.eqvAll]
  | a :: r, b :: t => by
    simp only [List.map_cons, PyData.eqvAll, h, eqvAll_map h r t]
    by_cases e1 : a = b <;> by_cases e2 : r = t <;> simp [e1, e2]
theorem eqv_dn (a b : Nat) : PyData.eqv (dn a) (dn b) = decide (a = b) := by
  unfold dn
  simp only [PyData.eqv]
  by_cases e : a = b
  · subst e; simp
  · have : ¬ ((a : Int) = (b : Int)) := by omega
    simp [e, this]
theorem eqv_dl (a b : List Nat) : PyData.eqv (dl a) (dl b) = decide (a = b) := by unfold dl; simp only [PyData.eqv]; exact eqvAll_map eqv_dn a b
theorem eqv_dt (a b : List Nat) : PyData.eqv (dt a) (dt b) = decide (a = b) := by unfold dt; simp only [PyData.eqv]; exact eqvAll_map eqv_dn a b
theorem eqv_dlt (a b : List (List Nat)) : PyData.eqv (dlt a) (dlt b) = decide (a = b) := by unfold dlt; simp only [PyData.eqv]; exact eqvAll_map eqv_dt a b
section
variable {K : PySem.W.Frag} {σ : L2.St} {H H' : Hp} {ta tb te : TE}
theorem dp_all : ∀ ns : List Nat, DpAll K H (ivs ns) (ns.map dn)
  | [] => .nil
  | n :: r => .cons (.int _) (dp_all r)
theorem dp_l {a : Addr} {ns : List Nat} (h : SqL K H a (ivs ns)) : Dp K H (.ref a) (dl ns) := .lst h (dp_all ns)
theorem dp_t {a : Addr} {ns : List Nat} (h : H a = some (.tup (ivs ns))) : Dp K H (.ref a) (dt ns) := .tup (st_of h) (dp_all ns)
/-- an address that holds such a tuple -/
def TupN (c : List Nat) (z : V) (H : Hp) : Prop := ∃ a, z = .ref a ∧ H a = some (.tup (ivs c))
theorem TupN.mono : ∀ (c : List Nat) (y : V) (H1 H2 : Hp), Tx H1 H2 → TupN c y H1 → TupN c y H2 := fun _ _ _ _ t ⟨a, e, h⟩ => ⟨a, e, t _ _ h⟩
theorem dp_allT : ∀ {xss : List (List Nat)} {ys : List V}, Paired (fun c z => TupN c z H) xss ys → DpAll K H ys (xss.map dt)
  | _, _, .nil => .nil
  | _, _, .cons ⟨_, e, h⟩ t => .cons (by rw [e]; exact dp_t h) (dp_allT t)
theorem dp_lt {a : Addr} {xss : List (List Nat)} {ys : List V} (h : SqL K H a ys) (p : Paired (fun c z => TupN c z H) xss ys) : Dp K H (.ref a) (dlt xss) := .lst h (dp_allT p)
theorem rv_eqD {x y : V} {d e : PyData} {b : Bool} (hx : ∀ H1, Ex H H1 → Dp K H1 x d) (hy : ∀ H1, Ex H H1 → Dp K H1 y e) (sd : SeqAt.shaped d = true) (se : SeqAt.shaped e = true) (hb : PyData.eqv d e = b) : RV (rEqD K) x y H (.bl b) :=
  fun H1 e1 Q q => ⟨d, e, hx H1 e1, hy H1 e1, sd, se, by rw [hb]; exact q H1 (Ex.refl _)⟩
theorem rv_neD {x y : V} {d e : PyData} {b : Bool} (hx : ∀ H1, Ex H H1 → Dp K H1 x d) (hy : ∀ H1, Ex H H1 → Dp K H1 y e) (sd : SeqAt.shaped d = true) (se : SeqAt.shaped e = true) (hb : PyData.eqv d e = b) : RV (rNeD K) x y H (.bl (!b)) :=
  fun H1 e1 Q q => ⟨d, e, hx H1 e1, hy H1 e1, sd, se, by rw [hb]; exact q H1 (Ex.refl _)⟩
/-- lists of numbers compared -/
theorem ev_eqL {a b : List Nat} (ha : EvSl K ta σ H (ivs a)) (hb : EvSl K tb σ H (ivs b)) : Ev (tOp (rEqD K) ta tb) σ H (.bl (decide (a = b))) := fun H1 e Q q => ha H1 e _ fun p H2 e2 h2 => hb H2 (e.trans e2) _ fun p' H3 e3 h3 =>
  ⟨dl a, dl b, dp_l (ex_l e3 h2), dp_l h3, shaped_of (can_dl a) (dep_dl a) (by decide), shaped_of (can_dl b) (dep_dl b) (by decide), by rw [eqv_dl]; exact q H3 (e2.trans e3)⟩
theorem ev_neL {a b : List Nat} (ha : EvSl K ta σ H (ivs a)) (hb : EvSl K tb σ H (ivs b)) : Ev (tOp (rNeD K) ta tb) σ H (.bl (!decide (a = b))) := fun H1 e Q q => ha H1 e _ fun p H2 e2 h2 => hb H2 (e.trans e2) _ fun p' H3 e3 h3 =>
  ⟨dl a, dl b, dp_l (ex_l e3 h2), dp_l h3, shaped_of (can_dl a) (dep_dl a) (by decide), shaped_of (can_dl b) (dep_dl b) (by decide), by rw [eqv_dl]; exact q H3 (e2.trans e3)⟩
theorem ev_eqT {a b : List Nat} (ha : EvSt ta σ H (ivs a)) (hb : EvSt tb σ H (ivs b)) : Ev (tOp (rEqD K) ta tb) σ H (.bl (decide (a = b))) := fun H1 e Q q => ha H1 e _ fun p H2 e2 h2 => hb H2 (e.trans e2) _ fun p' H3 e3 h3 =>
  ⟨dt a, dt b, dp_t (e3 _ _ h2), dp_t h3, shaped_of (can_dt a) (dep_dt a) (by decide), shaped_of (can_dt b) (dep_dt b) (by decide), by rw [eqv_dt]; exact q H3 (e2.trans e3)⟩
theorem ev_neT {a b : List Nat} (ha : EvSt ta σ H (ivs a)) (hb : EvSt tb σ H (ivs b)) : Ev (tOp (rNeD K) ta tb) σ H (.bl (!decide (a = b))) := fun H1 e Q q => ha H1 e _ fun p H2 e2 h2 => hb H2 (e.trans e2) _ fun p' H3 e3 h3 =>
  ⟨dt a, dt b, dp_t (e3 _ _ h2), dp_t h3, shaped_of (can_dt a) (dep_dt a) (by decide), shaped_of (can_dt b) (dep_dt b) (by decide), by rw [eqv_dt]; exact q H3 (e2.trans e3)⟩
end
/-! ### in the laws -/
def sp_law (K : PySem.W.Frag) : Sp := fun vs H Q _ => ∃ (a : Addr) (ns : List Int), vs = [.ref a] ∧ SqL K H a (ns.map V.int) ∧ ns.length ≤ 63 ∧ ∀ H', Q (.bl true) H'
def modc (c : Int) (m : Nat) : Nat := (c % (m : Int)).toNat
theorem modc_lt (c : Int) {m : Nat} (h : 0 < m) : modc c m < m := by
  unfold modc
  have := Int.emod_nonneg c (show (m : Int) ≠ 0 by omega)
  have := Int.emod_lt_of_pos c (show (0 : Int) < (m : Int) by omega)
  omega
section
variable {K : PySem.W.Frag} {σ : L2.St} {H H' : Hp} {ta tb te : TE}
theorem rv_modc {c : Int} {m : Nat} (h : 0 < m) : RV (rI (fun _ j => 0 < j) fun i j => .int (i % j)) (.int c) (iv m) H (iv (modc c m)) := fun H1 e Q q => ⟨c, m, rfl, rfl, by omega, by
  have := q H1 (Ex.refl _)
  unfold iv modc at this
  rwa [Int.toNat_of_nonneg (Int.emod_nonneg c (by omega))] at this⟩
/-- int(test) -/
theorem ev_intB {b : Bool} (h : Ev te σ H (.bl b)) : Ev (tCB (fun xs H Q => (∃ i, xs = [.int i] ∧ Q (.int i) H) ∨ ∃ k, xs = [.bl k] ∧ Q (.int (if k then 1 else 0)) H) (tCons te tNil)) σ H (iv (if b = true then 1 else 0)) :=
  ev_cb (ea_cons h ea_nil) fun H1 e Q q => .inr ⟨b, rfl, by
    have := q H1 (Ex.refl _)
    cases b <;> exact this⟩
end
section
variable {K : PySem.W.Frag} {σ : L2.St} {H H' : Hp} {ta tb te : TE}
theorem ev_lenN {ns : List Nat} (h : EvSt te σ H (ivs ns)) : Ev (tCB (rLenS K) (tCons te tNil)) σ H (iv ns.length) := by
  have := ev_lenT (K := K) h
  rwa [ivs_len] at this
theorem ev_lenNL {ns : List Nat} (h : EvSl K te σ H (ivs ns)) : Ev (tCB (rLenS K) (tCons te tNil)) σ H (iv ns.length) := by
  have := ev_lenL (K := K) h
  rwa [ivs_len] at this
end
/-! ### at the end -/
theorem cx_none {P : Program} {w : World} {H : Hp} {s : Shared} {e : Value} {s' : Shared} (c : L2.CX P w [] H s (fun _ _ _ => False) e s') : False := by
  obtain ⟨_, _, _, _, _, _, _, _, _, _, _, _, h⟩ := c
  exact h
structure Ks (mg : Str → Option Value) (x : Str) (z : Str) : Prop where
  ex : ∃ t, mg x = some (.str z t)
theorem pe_ks {X : Cx} {x z : Str} {pos : Pos} (hg : Gl X x) (c : Ks X.mg x z) (hdb : (x == ("__debug__" : Str)) = false := by decide) : PE X (.Name x pos) (tC (.str z)) := by
  obtain ⟨t, h⟩ := c.ex
  exact pe_glob hg h ⟨t, rfl⟩ hdb
/-! ### a list's truth; zip of two tuples -/
theorem pgTupK {X : Cx} {pos : Pos} (K : PySem.W.Frag) {es : List Expr} {k : Nat} {t : TGs} {n : Nat} (hc : X.calm = true) (h : PGs X es t) (hK : X.K = K := by rfl)
    (hn : (assignEach es X.env).length = n := by rfl) (hst : (assignEach es X.env).findIdx? (·.1) = none := by rfl) : PG X (.Tuple es k pos) (gTup K n t) := hK ▸ pg_tup hc h hn hst
section
variable {K : PySem.W.Frag} {σ : L2.St} {H H' : Hp} {ta te : TE} {ts : TA}
theorem et_list {xs : List V} (h : EvSl K te σ H xs) : EvT (fun σ H Q => te σ H fun x H' => ∃ k, TruV K x H' k ∧ Q k H') σ H (!xs.isEmpty) := fun H1 e Q q => h H1 e _ fun a H2 e2 ha => ⟨!xs.isEmpty, .inl ⟨xs, ha, rfl⟩, q H2 e2⟩
theorem el_zip {as bs : List Nat} {a b : Addr} {i j : Nat} {vs : List Nat} (g : Nat → Nat → Nat) (hl : as.length = bs.length) (hz : as.length ≤ 40000) (h : EvA ts σ H [.ref a, .ref b]) (ha : H a = some (.tup (ivs as))) (hb : H b = some (.tup (ivs bs)))
    (hw : ∀ x y, wipe (((wipe σ vs).set i (some x)).set j (some y)) vs = wipe σ vs) (he : ∀ x y H1, Ex H H1 → x ∈ as → y ∈ bs → Ev te (((wipe σ vs).set i (some (iv x))).set j (some (iv y))) H1 (iv (g x y))) :
    EvL (tLc (RZ.iZipA K ts) (gTup K 2 (gCons (gName i) (gCons (gName j) gNil))) tYes te vs) σ H (ivs (List.zipWith g as bs)) := fun H0 e Q q => h H0 e _ fun H1 e1 => by
  have ha1 := e1 _ _ (e _ _ ha)
  have hb1 := e1 _ _ (e _ _ hb)
  refine ⟨a, b, ivs as, ivs bs, rfl, .inr ⟨st_of ha1, st_of hb1, fun Dl hD => ?_⟩⟩
  refine ⟨fun k m H' => m = as.length - k ∧ k ≤ as.length ∧ Ex H1 H' ∧ H' Dl = some (.lst (ivs ((List.zipWith g as bs).take k))), ⟨as.length, rfl, Nat.zero_le _, Ex.new hD, upd_same⟩, fun k m H' hW => ?_⟩
  obtain ⟨rfl, hk, eH, hq⟩ := hW
  have ha2 := st_of (K := K) (eH _ _ ha1)
  have hb2 := st_of (K := K) (eH _ _ hb1)
  by_cases hlt : k < as.length
  · have hx := ivs_get (List.getElem?_eq_getElem hlt)
    have hy := ivs_get (List.getElem?_eq_getElem (show k < bs.length by omega))
    refine .inr ⟨⟨_, _, _, _, ha2, hb2, hx, hy⟩, fun H2 => Ex H1 H2 ∧ H2 Dl = some (.lst (ivs ((List.zipWith g as bs).take (k + 1)))), fun H2 hN => ⟨as.length - (k + 1), by omega, rfl, hlt, hN.1, hN.2⟩, fun v H2 hv => ?_⟩
    obtain ⟨T, x', y', rfl, nT, rfl, f1, f2⟩ := hv
    have ex : x' = iv as[k] := Option.some.inj ((f1 _ ha2).symm.trans hx)
    have ey : y' = iv bs[k] := Option.some.inj ((f2 _ hb2).symm.trans hy)
    subst ex ey
    refine ⟨T, _, rfl, st_of upd_same, rfl, _, _, rfl, _, _, rfl, rfl, hw _ _, ?_⟩
    show te _ _ _
    refine he as[k] bs[k] _ ((e.trans e1).trans (eH.trans (Ex.new nT))) (List.getElem_mem _) (List.getElem_mem _) _ (Ex.refl _) _ fun H4 e4 => ?_
    have hD4 := e4 _ _ (Ex.new nT _ _ hq)
    refine ⟨_, hD4, sz_lt (by rw [ivs_len, List.length_take]; omega), Ex.mut ((eH.trans (Ex.new nT)).trans e4) hD, ?_⟩
    rw [upd_same, List.take_add_one, List.getElem?_zipWith, List.getElem?_eq_getElem hlt, List.getElem?_eq_getElem (show k < bs.length by omega)]
    show some (HO.lst (ivs _ ++ [iv (g as[k] bs[k])])) = some (HO.lst (ivs (_ ++ [g as[k] bs[k]])))
    rw [ivs_snoc]
  · have ek : k = as.length := by omega
    subst ek
    refine .inl ⟨⟨_, _, ha2, hb2, .inl (by rw [ivs_len]; exact Nat.le_refl _)⟩, ?_⟩
    rw [List.take_of_length_le (by rw [List.length_zipWith]; omega)] at hq
    exact q Dl H' (fresh_back e1 hD) (e1.trans eH) hq
end
section
variable {K : PySem.W.Frag} {σ : L2.St} {H H' : Hp} {tl : TE} {D : Ends} {tu tz : TS}
/-- a loop over a tuple, the target a name -/
theorem s_forTn {a : Addr} {xs : List V} {j : Nat} (h : Ev tl σ H (.ref a)) (hx : H a = some (.tup xs)) (Pv : Nat → L2.St → Hp → Prop) (h0 : ∀ H1, Ex H H1 → Pv 0 σ H1) (hl : ∀ i σ' H', Pv i σ' H' → H' a = some (.tup xs))
    (hs : ∀ i x σ' H', xs[i]? = some x → Pv i σ' H' → tu { D with nx := Pv (i + 1), ct := Pv (i + 1), bk := D.nx } (σ'.set j (some x)) H') (hd : ∀ σ' H', Pv xs.length σ' H' → D.nx σ' H') : tFor (iTup K tl) (gName j) tu D σ H :=
  s_forT h (st_of hx) Pv h0 (fun i σ' H' _ p => st_of (hl i σ' H' p)) hs hd
theorem q_forTn {a : Addr} {xs : List V} {j : Nat} (h : Ev tl σ H (.ref a)) (hx : H a = some (.tup xs)) (Pv : Nat → L2.St → Hp → Prop) (h0 : ∀ H1, Ex H H1 → Pv 0 σ H1) (hl : ∀ i σ' H', Pv i σ' H' → H' a = some (.tup xs))
    (hs : ∀ i x σ' H', xs[i]? = some x → Pv i σ' H' → tu { D with nx := Pv (i + 1), ct := Pv (i + 1), bk := tz D } (σ'.set j (some x)) H') (hd : ∀ σ' H', Pv xs.length σ' H' → tz D σ' H') : tSeq (tFor (iTup K tl) (gName j) tu) tz D σ H :=
  s_forTn (D := { D with nx := tz D }) h hx Pv h0 hl hs hd
end
end Coin

namespace Coin
open PySem PySem.Spec PyProof.Rows L2 Evl
/-! ### an int or None -/
def ov : Option Nat → V
  | none => .non
  | some n => iv n
theorem ov_inj {a b : Option Nat} : ov a = ov b ↔ a = b := by
  cases a with
  | none => cases b with
    | none => simp
    | some b => simp [ov, iv]
  | some a => cases b with
    | none => simp [ov, iv]
    | some b =>
      show iv a = iv b ↔ _
      rw [iv_inj]
      simp
theorem ov_scal (a b : Option Nat) : scal (ov a) (ov b) = true := by cases a <;> cases b <;> rfl
section
variable {K : PySem.W.Frag} {σ : L2.St} {H H' : Hp} {ta tb te tc tl : TE} {t : TT} {x y z v : V} {D : Ends} {tu tz : TS}
theorem rv_eqO {a b : Option Nat} : RV rEq (ov a) (ov b) H (.bl (decide (a = b))) := fun H1 e Q q => ⟨ov_scal a b, by
  have := q H1 (Ex.refl _)
  rwa [dec_eq (ov_inj (a := a) (b := b)).symm] at this⟩
theorem rv_neO {a b : Option Nat} : RV rNe (ov a) (ov b) H (.bl (!decide (a = b))) := fun H1 e Q q => ⟨ov_scal a b, by
  have := q H1 (Ex.refl _)
  rwa [dec_eq (ov_inj (a := a) (b := b)).symm] at this⟩
theorem rv_isN {x : V} : RV (fun x y H Q => y = .non ∧ Q (.bl (decide (x = .non))) H) x .non H (.bl (decide (x = .non))) := fun H1 e Q q => ⟨rfl, q H1 (Ex.refl _)⟩
theorem rv_notN {x : V} : RV (fun x y H Q => y = .non ∧ Q (.bl (!decide (x = .non))) H) x .non H (.bl (!decide (x = .non))) := fun H1 e Q q => ⟨rfl, q H1 (Ex.refl _)⟩
theorem ov_non {a : Option Nat} : decide (ov a = .non) = decide (a = none) := by cases a <;> rfl
theorem rv_isNO {a : Option Nat} : RV (fun x y H Q => y = .non ∧ Q (.bl (decide (x = .non))) H) (ov a) .non H (.bl (decide (a = none))) := by
  have := rv_isN (H := H) (x := ov a)
  rwa [ov_non] at this
theorem rv_notNO {a : Option Nat} : RV (fun x y H Q => y = .non ∧ Q (.bl (!decide (x = .non))) H) (ov a) .non H (.bl (!decide (a = none))) := by
  have := rv_notN (H := H) (x := ov a)
  rwa [ov_non] at this
theorem rv_isNR {a : Addr} : RV (fun x y H Q => y = .non ∧ Q (.bl (decide (x = .non))) H) (.ref a) .non H (.bl false) := rv_isN
theorem rv_eqB {a b : Bool} : RV rEq (.bl a) (.bl b) H (.bl (a == b)) := fun H1 e Q q => ⟨rfl, by
  have := q H1 (Ex.refl _)
  rwa [show (a == b) = decide (V.bl a = V.bl b) by cases a <;> cases b <;> rfl] at this⟩
theorem rv_neB {a b : Bool} : RV rNe (.bl a) (.bl b) H (.bl (a != b)) := fun H1 e Q q => ⟨rfl, by
  have := q H1 (Ex.refl _)
  rwa [show (a != b) = !decide (V.bl a = V.bl b) by cases a <;> cases b <;> rfl] at this⟩
/-! ### tuples: [::-1], a part -/
theorem est_rev {xs : List V} (h : EvSt te σ H xs) : EvSt (tRevT K te) σ H xs.reverse := fun H1 e Q q => h H1 e _ fun a H2 e2 ha => ⟨a, xs, rfl, st_of ha, fun p hp => q p _ (e2.trans (Ex.new hp)) upd_same⟩
theorem ivs_rev (ns : List Nat) : (ivs ns).reverse = ivs ns.reverse := (List.map_reverse ..).symm
theorem est_revN {ns : List Nat} (h : EvSt te σ H (ivs ns)) : EvSt (tRevT K te) σ H (ivs ns.reverse) := by
  rw [← ivs_rev]
  exact est_rev h
theorem el_revN {ns : List Nat} (h : EvSl K te σ H (ivs ns)) : EvL (tRevL K te) σ H (ivs ns.reverse) := fun H1 e Q q => h H1 e _ fun a H2 e2 ha => ⟨a, ivs ns, rfl, ha, fun p hp => q p _ (fresh_back e2 hp) (e2.trans (Ex.new hp)) (by rw [← ivs_rev]; exact upd_same)⟩
theorem cut_ivs (ns : List Nat) (lo hi : Option Int) : cutV (ivs ns) lo hi = ivs ((ns.drop (HT.sIx ns.length 0 lo)).take (HT.sIx ns.length ns.length hi - HT.sIx ns.length 0 lo)) := by
  unfold cutV
  rw [ivs_len]
  unfold ivs
  rw [List.map_take, List.map_drop]
/-- t[-k:] -/
theorem cut_last (ns : List Nat) (k : Nat) (hk : 0 < k) : cutV (ivs ns) (some (-(k : Int))) none = ivs (ns.drop (ns.length - k)) := by
  rw [cut_ivs]
  have e : HT.sIx ns.length 0 (some (-(k : Int))) = ns.length - k := by
    show (if -(k : Int) < 0 then (-(k : Int) + (ns.length : Int)).toNat else _) = _
    rw [if_pos (by omega)]
    omega
  rw [e, HT.sIx_none, List.take_of_length_le (by rw [List.length_drop]; exact Nat.le_refl _)]
/-- t[:k], t[k:] -/
theorem cut_take (ns : List Nat) (k : Nat) : cutV (ivs ns) none (some (k : Int)) = ivs (ns.take k) := by
  rw [cut_ivs, HT.sIx_none, HT.sIx_nat, List.drop_zero, Nat.sub_zero]
  congr 1
  rw [List.take_eq_take_iff]
  omega
theorem cut_drop (ns : List Nat) (k : Nat) : cutV (ivs ns) (some (k : Int)) none = ivs (ns.drop k) := by
  rw [cut_ivs, HT.sIx_none, HT.sIx_nat]
  congr 1
  by_cases h : k ≤ ns.length
  · rw [Nat.min_eq_left h, List.take_of_length_le (by rw [List.length_drop]; exact Nat.le_refl _)]
  · rw [List.drop_of_length_le (show ns.length ≤ k by omega), Nat.min_eq_right (by omega), List.drop_length]
    rw [List.take_nil]
theorem est_sl {ns : List Nat} {lo hi : Option Int} {ms : List Nat} {t1 t2 : TO} (h : EvSt te σ H (ivs ns)) (h1 : EvO t1 σ H lo) (h2 : EvO t2 σ H hi) (e : cutV (ivs ns) lo hi = ivs ms) : EvSt (tSl (rSlA K) te t1 t2) σ H (ivs ms) := by
  rw [← e]
  exact est_slA h h1 h2
theorem atL (ns : List Nat) (n : Nat) : atI (ivs (ns ++ [n])) (-1) = some (iv n) := by
  rw [ivs_snoc]
  exact atI_last _ _
/-! ### lists that may be written -/
def EvHl (te : TE) (σ : L2.St) (H : Hp) (xs : List V) : Prop := ∀ H1, Ex H H1 → ∀ Q : VK, (∀ a H2, Ex H1 H2 → H2 a = some (.lst xs) → Q (.ref a) H2) → te σ H1 Q
theorem ehl_of {a : Addr} {xs : List V} (h : Ev te σ H (.ref a)) (hx : H a = some (.lst xs)) : EvHl te σ H xs := fun H1 e _ q => h H1 e _ fun H2 e2 => q a H2 e2 (e2 _ _ (e _ _ hx))
theorem ehl_l {xs : List V} (h : EvL te σ H xs) : EvHl te σ H xs := fun H1 e _ q => h H1 e _ fun p H2 _ e2 h2 => q p H2 e2 h2
theorem el_cat {xs ys : List V} (ha : EvHl ta σ H xs) (hb : EvHl tb σ H ys) (hz : xs.length + ys.length ≤ 100000) : EvL (tOp rCat ta tb) σ H (xs ++ ys) := fun H1 e Q q =>
  ha H1 e _ fun a H2 e2 h2 => hb H2 (e.trans e2) _ fun b H3 e3 h3 => ⟨a, b, xs, ys, rfl, rfl, e3 _ _ h2, h3, sz_of hz, fun p hp => q p _ (fresh_back (e2.trans e3) hp) ((e2.trans e3).trans (Ex.new hp)) upd_same⟩
/-! ### min, max with a default -/
def minO : List Nat → Option Nat
  | [] => none
  | a :: r => some (r.foldl min a)
theorem foldl_min : ∀ (r : List Nat) (a : Nat), r.foldl min a ∈ a :: r ∧ ∀ y ∈ a :: r, r.foldl min a ≤ y
  | [], a => ⟨List.mem_cons_self, fun y hy => by rw [List.mem_singleton.mp hy]; exact Nat.le_refl a⟩
  | b :: r, a => by
    obtain ⟨h1, h2⟩ := foldl_min r (min a b)
    show r.foldl min (min a b) ∈ _ ∧ ∀ y ∈ a :: b :: r, r.foldl min (min a b) ≤ y
    refine ⟨?_, fun y hy => ?_⟩
    · rcases List.mem_cons.mp h1 with z | z
      · rw [z]
        by_cases h : a ≤ b
        · rw [Nat.min_eq_left h]; exact List.mem_cons_self
        · rw [Nat.min_eq_right (by omega)]; exact List.mem_cons_of_mem _ List.mem_cons_self
      · exact List.mem_cons_of_mem _ (List.mem_cons_of_mem _ z)
    · have h0 := h2 (min a b) List.mem_cons_self
      rcases List.mem_cons.mp hy with z | z
      · subst z
        omega
      · rcases List.mem_cons.mp z with z | z
        · subst z
          omega
        · exact h2 y (List.mem_cons_of_mem _ z)
theorem ev_minD {td : TE} {ns : List Nat} (h : EvSl K te σ H (ivs ns)) (hd : Ev td σ H .non) : Ev (tCKw (rMinD K) (tCons te tNil) (tCons td tNil)) σ H (ov (minO ns)) := fun H1 e Q q =>
  h H1 e _ fun a H2 e2 h2 => hd H2 (e.trans e2) _ fun H3 e3 => by
  refine ⟨a, ns.map fun n : Nat => (n : Int), .non, rfl, rfl, by rw [← ivs_int]; exact ex_l e3 h2, fun hn => ?_, fun m hm hl => ?_⟩
  · have : ns = [] := by simpa using hn
    subst this
    exact q H3 (e2.trans e3)
  · cases ns with
    | nil => cases hm
    | cons b r =>
      obtain ⟨n, hn, rfl⟩ := List.mem_map.mp hm
      obtain ⟨h1, h3⟩ := foldl_min r b
      have h4 := hl ((r.foldl min b : Nat) : Int) (List.mem_map.mpr ⟨_, h1, rfl⟩)
      have h5 := h3 n hn
      have : n = r.foldl min b := by omega
      rw [this]
      exact q H3 (e2.trans e3)
theorem ev_maxD {td : TE} {ns : List Nat} {d m : Nat} (h : EvSl K te σ H (ivs ns)) (hd : Ev td σ H (iv d)) (h0 : ns = [] → m = d) (h1 : ns ≠ [] → m ∈ ns ∧ ∀ y ∈ ns, y ≤ m) : Ev (tCKw (rMaxD K) (tCons te tNil) (tCons td tNil)) σ H (iv m) := fun H1 e Q q =>
  h H1 e _ fun a H2 e2 h2 => hd H2 (e.trans e2) _ fun H3 e3 => by
  refine ⟨a, ns.map fun n : Nat => (n : Int), iv d, rfl, rfl, by rw [← ivs_int]; exact ex_l e3 h2, fun hn => ?_, fun k hk hl => ?_⟩
  · have : ns = [] := by simpa using hn
    rw [← h0 this]
    exact q H3 (e2.trans e3)
  · obtain ⟨n, hn, rfl⟩ := List.mem_map.mp hk
    obtain ⟨m1, m2⟩ := h1 (List.ne_nil_of_mem hn)
    have h4 := hl (m : Int) (List.mem_map.mpr ⟨_, m1, rfl⟩)
    have h5 := m2 n hn
    have : n = m := by omega
    rw [this]
    exact q H3 (e2.trans e3)
end
section
variable {X : Cx} (K : PySem.W.Frag)
theorem revTK {e : Expr} {te : TE} {k : Nat} {p1 p2 p3 pos : Pos} (he : PE X e te) (h : X.K = K := by rfl) : PE X (.Subscript e (.Slice none none (some (.UnaryOp .USub (.Constant (.int 1) k p1) p2)) p3) pos) (tRevT K te) := h ▸ pe_revT he
theorem revLK {e : Expr} {te : TE} {k : Nat} {p1 p2 p3 pos : Pos} (he : PE X e te) (h : X.K = K := by rfl) : PE X (.Subscript e (.Slice none none (some (.UnaryOp .USub (.Constant (.int 1) k p1) p2)) p3) pos) (tRevL K te) := h ▸ pe_revL he
theorem minDK (hc : X.calm = true := by rfl) (h : X.K = K := by rfl) : CallRK X (.builtin "min") [Str.ofString "default"] (rMinD K) := h ▸ cr_minD hc
theorem maxDK (hc : X.calm = true := by rfl) (h : X.K = K := by rfl) : CallRK X (.builtin "max") [Str.ofString "default"] (rMaxD K) := h ▸ cr_maxD hc
end
/-! ### data, compared -/
mutual
theorem dp_ex {K : PySem.W.Frag} {H H' : Hp} (e : Ex H H') : ∀ {d : PyData} {v : V}, Dp K H v d → Dp K H' v d
  | _, _, .non => .non
  | _, _, .bl b => .bl b
  | _, _, .int i => .int i
  | _, _, .str x => .str x
  | _, _, .lst h a => .lst (ex_l e h) (dpa_ex e a)
  | _, _, .tup h a => .tup (ex_t e h) (dpa_ex e a)
theorem dpa_ex {K : PySem.W.Frag} {H H' : Hp} (e : Ex H H') : ∀ {d : List PyData} {v : List V}, DpAll K H v d → DpAll K H' v d
  | _, _, .nil => .nil
  | _, _, .cons h a => .cons (dp_ex e h) (dpa_ex e a)
end
theorem _root_.L2.Dp.ex {K : PySem.W.Frag} {H H' : Hp} {d : PyData} {v : V} (h : Dp K H v d) (e : Ex H H') : Dp K H' v d := dp_ex e h
theorem _root_.L2.DpAll.ex {K : PySem.W.Frag} {H H' : Hp} {d : List PyData} {v : List V} (h : DpAll K H v d) (e : Ex H H') : DpAll K H' v d := dpa_ex e h
section
variable {K : PySem.W.Frag} {σ : L2.St} {H H' : Hp} {ta tb te : TE} {ts : TA} {v : V} {d d' : PyData} {ds : List PyData}
/-- a value, as data -/
def EvD (K : PySem.W.Frag) (te : TE) (σ : L2.St) (H : Hp) (d : PyData) : Prop := EvR te σ H fun v H' => Dp K H' v d
def EvDs (K : PySem.W.Frag) (ts : TA) (σ : L2.St) (H : Hp) (ds : List PyData) : Prop := ∀ H1, Ex H H1 → ∀ Q : List V → Hp → Prop, (∀ vs H2, Ex H1 H2 → DpAll K H2 vs ds → Q vs H2) → ts σ H1 Q
theorem ed_of (h : Ev te σ H v) (hd : Dp K H v d) : EvD K te σ H d := fun H1 e Q q => h H1 e _ fun H2 e2 => q v H2 e2 (hd.ex (e.trans e2))
theorem ed_n {n : Nat} (h : Ev te σ H (iv n)) : EvD K te σ H (dn n) := ed_of h (.int _)
theorem ed_t {ns : List Nat} (h : EvSt te σ H (ivs ns)) : EvD K te σ H (dt ns) := fun H1 e Q q => h H1 e _ fun a H2 e2 ha => q _ H2 e2 (dp_t ha)
theorem ed_l {ns : List Nat} (h : EvSl K te σ H (ivs ns)) : EvD K te σ H (dl ns) := fun H1 e Q q => h H1 e _ fun a H2 e2 ha => q _ H2 e2 (dp_l ha)
theorem eds_nil : EvDs K tNil σ H [] := fun H1 _ Q q => q [] H1 (Ex.refl _) .nil
theorem eds_cons (h : EvD K te σ H d) (hr : EvDs K ts σ H ds) : EvDs K (tCons te ts) σ H (d :: ds) := fun H1 e Q q => h H1 e _ fun v H2 e2 hv => hr H2 (e.trans e2) _ fun vs H3 e3 hvs => q _ H3 (e2.trans e3) (.cons (hv.ex e3) hvs)
theorem dpall_len {vs : List V} (h : DpAll K H vs ds) : vs.length = ds.length := by
  induction ds generalizing vs with
  | nil => cases h; rfl
  | cons d r ih => cases h with
    | cons _ t => rw [List.length_cons, List.length_cons, ih t]
theorem ed_tup (h : EvDs K ts σ H ds) (hl : ds.length ≤ 100000) : EvD K (tTup ts) σ H (.tuple ds) := fun H1 e Q q => h H1 e _ fun vs H2 e2 hv =>
  ⟨sz_of (by rw [dpall_len hv]; exact hl), fun p hp => q _ _ (e2.trans (Ex.new hp)) (.tup (st_of upd_same) (hv.ex (Ex.new hp)))⟩
theorem ed_lst (h : EvDs K ts σ H ds) (hl : ds.length ≤ 100000) : EvD K (tLst ts) σ H (.list ds) := fun H1 e Q q => h H1 e _ fun vs H2 e2 hv =>
  ⟨sz_of (by rw [dpall_len hv]; exact hl), fun p hp => q _ _ (e2.trans (Ex.new hp)) (.lst (sq_of upd_same) (hv.ex (Ex.new hp)))⟩
theorem ev_eqd {b : Bool} (ha : EvD K ta σ H d) (hb : EvD K tb σ H d') (sd : SeqAt.shaped d = true) (sd' : SeqAt.shaped d' = true) (e : PyData.eqv d d' = b) : Ev (tOp (rEqD K) ta tb) σ H (.bl b) := fun H1 e1 Q q =>
  ha H1 e1 _ fun x H2 e2 hx => hb H2 (e1.trans e2) _ fun y H3 e3 hy => ⟨d, d', hx.ex e3, hy, sd, sd', by rw [e]; exact q H3 (e2.trans e3)⟩
theorem ev_ned {b : Bool} (ha : EvD K ta σ H d) (hb : EvD K tb σ H d') (sd : SeqAt.shaped d = true) (sd' : SeqAt.shaped d' = true) (e : PyData.eqv d d' = b) : Ev (tOp (rNeD K) ta tb) σ H (.bl (!b)) := fun H1 e1 Q q =>
  ha H1 e1 _ fun x H2 e2 hx => hb H2 (e1.trans e2) _ fun y H3 e3 hy => ⟨d, d', hx.ex e3, hy, sd, sd', by rw [e]; exact q H3 (e2.trans e3)⟩
theorem shaped_self {d : PyData} (h : SeqAt.shaped d = true) : PyData.eqv d d = true := by
  unfold SeqAt.shaped at h
  rw [Bool.and_eq_true] at h
  exact PySem.SeqAt.eqv_refl d h.1
/-- the same data -/
theorem ev_eqs (ha : EvD K ta σ H d) (hb : EvD K tb σ H d) (sd : SeqAt.shaped d = true) : Ev (tOp (rEqD K) ta tb) σ H (.bl true) := ev_eqd ha hb sd sd (shaped_self sd)
theorem ev_nes (ha : EvD K ta σ H d) (hb : EvD K tb σ H d) (sd : SeqAt.shaped d = true) : Ev (tOp (rNeD K) ta tb) σ H (.bl false) := ev_ned ha hb sd sd (shaped_self sd)
end
/-! ### tuples of more than numbers -/
section
variable {K : PySem.W.Frag} {σ : L2.St} {H H' : Hp} {ta tb te : TE} {ts : TA} {v : V} {D : Ends} {tz : TS} {φ : List V → Hp → Prop} {ψ : V → Hp → Prop}
theorem ear_nil : EvAr tNil σ H (fun vs _ => vs = []) := fun H1 e Q q => q [] H1 (Ex.refl _) rfl
theorem ear_cons (mono : ∀ v H1 H2, Ex H1 H2 → ψ v H1 → ψ v H2) (h : EvR te σ H ψ) (hr : EvAr ts σ H φ) : EvAr (tCons te ts) σ H (fun vs H2 => ∃ v ws, vs = v :: ws ∧ ψ v H2 ∧ φ ws H2) := fun H1 e Q q =>
  h H1 e _ fun v H2 e2 hv => hr H2 (e.trans e2) _ fun ws H3 e3 hw => q _ H3 (e2.trans e3) ⟨v, ws, rfl, mono _ _ _ e3 hv, hw⟩
theorem ear_v (h : Ev te σ H v) (hr : EvAr ts σ H φ) : EvAr (tCons te ts) σ H (fun vs H2 => ∃ ws, vs = v :: ws ∧ φ ws H2) := fun H1 e Q q =>
  h H1 e _ fun H2 e2 => hr H2 (e.trans e2) _ fun ws H3 e3 hw => q _ H3 (e2.trans e3) ⟨ws, rfl, hw⟩
theorem ear_t {xs : List V} (h : EvSt te σ H xs) (hr : EvAr ts σ H φ) : EvAr (tCons te ts) σ H (fun vs H2 => ∃ a ws, vs = .ref a :: ws ∧ H2 a = some (.tup xs) ∧ φ ws H2) := fun H1 e Q q =>
  h H1 e _ fun a H2 e2 ha => hr H2 (e.trans e2) _ fun ws H3 e3 hw => q _ H3 (e2.trans e3) ⟨a, ws, rfl, e3 _ _ ha, hw⟩
/-- a new list among them: at a place that was free -/
theorem ear_l {xs : List V} (h : EvL te σ H xs) (hr : EvAr ts σ H φ) : EvAr (tCons te ts) σ H (fun vs H2 => ∃ a ws, vs = .ref a :: ws ∧ H a = none ∧ H2 a = some (.lst xs) ∧ φ ws H2) := fun H1 e Q q =>
  h H1 e _ fun a H2 na e2 ha => hr H2 (e.trans e2) _ fun ws H3 e3 hw => q _ H3 (e2.trans e3) ⟨a, ws, rfl, fresh_back e na, e3 _ _ ha, hw⟩
theorem s_retTup (h : EvAr ts σ H φ) (hl : ∀ vs H1, φ vs H1 → vs.length ≤ 100000) (k : ∀ p vs H1 H2, Ex H H1 → φ vs H1 → Ex H1 H2 → H1 p = none → H2 p = some (.tup vs) → D.rt (.ref p) H2) : tRet (tTup ts) D σ H :=
  h H (Ex.refl _) _ fun vs H1 e1 hv => ⟨sz_of (hl _ _ hv), fun p hp => k p vs H1 _ e1 hv (Ex.new hp) hp upd_same⟩
def SpR (sp : Sp) (vs : List V) (H : Hp) (ψ : V → Hp → Prop) : Prop := ∀ H1, Ex H H1 → ∀ Q : VK, (∀ v H2, Ex H1 H2 → ψ v H2 → Q v H2) → ∀ E : XK, sp vs H1 Q E
theorem er_call {sp : Sp} {vs : List V} {E : XK} (h : EvA ts σ H vs) (hs : SpR sp vs H ψ) : EvR (tCall sp [] E ts) σ H ψ := fun H1 e Q q => h H1 e _ fun H2 e2 => by
  rw [List.append_nil]
  exact hs H2 (e.trans e2) Q (fun v H3 e3 h3 => q v H3 (e2.trans e3) h3) E
theorem tg_ov {H : Hp} (a : Option Nat) : Tg H (ov a) := by
  cases a with
  | none => exact .non
  | some n => exact .int _
theorem isB_ov (a : Option Nat) : isB (ov a) = false := by cases a <;> rfl
/-- any value handed back -/
theorem s_retR (h : EvR te σ H ψ) (k : ∀ v H1, Ex H H1 → ψ v H1 → D.rt v H1) : tRet te D σ H := h H (Ex.refl _) _ fun v H1 e1 hv => k v H1 e1 hv
theorem q_asgR {i : Nat} (h : EvR te σ H ψ) (k : ∀ v H1, Ex H H1 → ψ v H1 → tz D (σ.set i (some v)) H1) : tSeq (tAsg te (gName i)) tz D σ H := h H (Ex.refl _) _ fun v H1 e1 hv => k v H1 e1 hv
end
/-! ### a system's last coins -/
theorem Sys.snoc {cs : List Nat} (h : Sys cs) : ∃ r m, cs = r ++ [m] ∧ m ∈ cs ∧ ∀ e ∈ cs, e ≤ m := by
  have e := (List.dropLast_concat_getLast h.ne).symm
  refine ⟨cs.dropLast, cs.getLast h.ne, e, List.getLast_mem _, fun x hx => ?_⟩
  have hr := h.rise
  rw [e] at hr hx
  rcases List.mem_append.mp hx with z | z
  · have := (List.pairwise_append.mp hr).2.2 x z _ List.mem_cons_self
    omega
  · rw [List.mem_singleton.mp z]
    exact Nat.le_refl _
theorem Sys.last {cs : List Nat} (h : Sys cs) : ∃ m, m ∈ cs ∧ atI (ivs cs) (-1) = some (iv m) ∧ ∀ e ∈ cs, e ≤ m := by
  obtain ⟨r, m, e, h1, h2⟩ := h.snoc
  refine ⟨m, h1, ?_, h2⟩
  rw [e]
  exact atL r m
/-- the two greatest coins -/
theorem Sys.two {cs : List Nat} (h : Sys cs) (h2 : 2 ≤ cs.length) : ∃ r b c, cs = r ++ [b, c] ∧ b ∈ cs ∧ c ∈ cs ∧ (∀ e ∈ cs, e ≤ c) ∧ ∀ e ∈ cs, e ≠ c → e ≤ b := by
  obtain ⟨r, c, e, hc, hm⟩ := h.snoc
  subst e
  have hr : r ≠ [] := fun z => by
    rw [z] at h2
    simp at h2
  have e2 := (List.dropLast_concat_getLast hr).symm
  generalize r.dropLast = r0 at e2
  generalize r.getLast hr = b at e2
  subst e2
  refine ⟨r0, b, c, by rw [List.append_assoc]; rfl, List.mem_append_left _ (List.mem_append_right _ List.mem_cons_self), hc, hm, fun x hx hne => ?_⟩
  have p := (List.pairwise_append.mp h.rise).1
  rcases List.mem_append.mp hx with z | z
  · rcases List.mem_append.mp z with z | z
    · have := (List.pairwise_append.mp p).2.2 x z b List.mem_cons_self
      omega
    · rw [List.mem_singleton.mp z]
      exact Nat.le_refl _
  · exact absurd (List.mem_singleton.mp z) hne
theorem first_len {cs : List Nat} {n : Nat} (h : Sys cs) (f : First cs n) : 3 ≤ cs.length := by
  by_cases q : cs.length < 3
  · exact absurd f.fault (short_orderly h q n)
  · omega
theorem drop_two {α : Type} (r : List α) (b c : α) : (r ++ [b, c]).drop ((r ++ [b, c]).length - 2) = [b, c] := by
  rw [List.length_append, show [b, c].length = 2 from rfl, Nat.add_sub_cancel, List.drop_left]
theorem first_last2 {cs : List Nat} {n : Nat} (h : Sys cs) (f : First cs n) : n < (cs.drop (cs.length - 2)).sum := by
  obtain ⟨r, b, c, e, hb, hc, h1, h2⟩ := h.two (by have := first_len h f; omega)
  have := first_lt h f hc h1 h2
  rw [e, drop_two]
  simpa using this
theorem last2_le {cs : List Nat} (g : Good cs) : (cs.drop (cs.length - 2)).sum ≤ 400 := by
  by_cases q : 2 ≤ cs.length
  · obtain ⟨r, b, c, e, hb, hc, _⟩ := g.toSys.two q
    have := g.le b hb
    have := g.le c hc
    rw [e, drop_two]
    show b + (c + 0) ≤ 400
    omega
  · obtain ⟨r, m, e, hm, _⟩ := g.toSys.snoc
    have := g.le m hm
    rw [show cs.length - 2 = 0 by omega, List.drop_zero, e]
    have hr : r = [] := by
      cases r with
      | nil => rfl
      | cons x y => exfalso; rw [e] at q; simp at q
    rw [hr]
    show m + 0 ≤ 400
    omega
theorem minO_some {l : List Nat} {n : Nat} (h : n ∈ l) (hl : ∀ y ∈ l, n ≤ y) : minO l = some n := by
  cases l with
  | nil => cases h
  | cons a r =>
    obtain ⟨h1, h2⟩ := foldl_min r a
    have a1 := h2 n h
    have a2 := hl _ h1
    show some _ = some _
    congr 1
    omega
theorem min_ff {cs : List Nat} {m k : Nat} (h : Sys cs) (hm : m ∈ cs) (hmm : ∀ e ∈ cs, e ≤ m) (hk : 2 * m < k) : minO ((List.range k).filter fun n => decide (fw cs n < gs cs n)) = ff cs := by
  cases e : ff cs with
  | none =>
    have o := ff_none.mp e
    have : ((List.range k).filter fun n => decide (fw cs n < gs cs n)) = [] := List.filter_eq_nil_iff.mpr fun n _ => by
      rw [decide_eq_true_iff]
      exact o n
    rw [this]
    rfl
  | some n =>
    have f := ff_some.mp e
    have := first_lt h f hm hmm (b := m) fun x hx _ => hmm x hx
    refine minO_some (List.mem_filter.mpr ⟨List.mem_range.mpr (by omega), decide_eq_true f.fault⟩) fun y hy => ?_
    exact f.least y (of_decide_eq_true (p := fw cs y < gs cs y) (List.mem_filter.mp hy).2)
end Coin

namespace Coin
open PySem PySem.Spec PyProof.Rows L2 Evl
/-! ### over a new list of things that are told by more than their values -/
section
variable {K : PySem.W.Frag} {σ : L2.St} {H H' : Hp} {ta tb te tl : TE} {t : TT} {D : Ends} {tu tz : TS} {α : Type} {ds : List α} {ρ : α → V → Hp → Prop} {j : Nat} {vs : List Nat}
theorem zip_mem {α β : Type} {R : α → β → Prop} : ∀ {l₁ : List α} {l₂ : List β}, Paired R l₁ l₂ → ∀ x ∈ l₁.zip l₂, x.1 ∈ l₁ ∧ R x.1 x.2
  | _, _, .nil, x, h => by cases h
  | _, _, .cons r t, x, h => by
    rw [List.zip_cons_cons] at h
    rcases List.mem_cons.mp h with z | z
    · subst z
      exact ⟨List.mem_cons_self, r⟩
    · obtain ⟨a, b⟩ := zip_mem t x z
      exact ⟨List.mem_cons_of_mem _ a, b⟩
theorem zip_snd {α β : Type} {R : α → β → Prop} : ∀ {l₁ : List α} {l₂ : List β}, Paired R l₁ l₂ → (l₁.zip l₂).map Prod.snd = l₂
  | _, _, .nil => rfl
  | _, _, .cons r t => by rw [List.zip_cons_cons, List.map_cons, zip_snd t]
theorem zip_fst {α β : Type} {R : α → β → Prop} : ∀ {l₁ : List α} {l₂ : List β}, Paired R l₁ l₂ → (l₁.zip l₂).map Prod.fst = l₁
  | _, _, .nil => rfl
  | _, _, .cons r t => by rw [List.zip_cons_cons, List.map_cons, zip_fst t]
theorem paired_map {α β γ : Type} {F : α → β → Prop} {f : γ → α} : ∀ {l : List γ} {m : List β}, Paired (fun c z => F (f c) z) l m → Paired F (l.map f) m
  | _, _, .nil => .nil
  | _, _, .cons r t => .cons r (paired_map t)
theorem en_lcP (p : α → Bool) (φ : α → V → Hp → Prop) (mono : ∀ c y H1 H2, Tx H1 H2 → φ c y H1 → φ c y H2) (h : EvN tl σ H (fun ys H2 => Paired (fun c z => ρ c z H2) ds ys)) (monoρ : ∀ c y H1 H2, Ex H1 H2 → ρ c y H1 → ρ c y H2) (hz : ds.length ≤ 40000) (hw : ∀ x, wipe ((wipe σ vs).set j (some x)) vs = wipe σ vs)
    (ht : ∀ c z H1, Ex H H1 → c ∈ ds → ρ c z H1 → EvT t ((wipe σ vs).set j (some z)) H1 (p c)) (he : ∀ c z H1, Ex H H1 → c ∈ ds → ρ c z H1 → p c = true → EvR te ((wipe σ vs).set j (some z)) H1 (φ c)) :
    EvN (tLc (iList K tl) (gName j) t te vs) σ H (fun ys H2 => Paired (fun c z => φ c z H2) (ds.filter p) ys) := fun H1 e Q q => h H1 e _ fun a ys H2 na e2 ha hp => by
  have zm := zip_mem hp
  have key := en_lcL (K := K) (σ := σ) (H := H2) (tl := tC (.ref a)) (te := te) (t := t) (cs := ds.zip ys) (u := Prod.snd) (j := j) (vs := vs) (fun x => p x.1) (fun x => φ x.1) (fun c y A B => mono c.1 y A B) (esl_of ev_c (by rw [zip_snd hp]; exact sq_of ha)) (by rw [List.length_zip]; omega) hw
    (fun c H3 e3 hc => ht c.1 c.2 H3 (e.trans (e2.trans e3)) (zm c hc).1 (monoρ _ _ _ _ e3 (zm c hc).2)) (fun c H3 e3 hc hpc => he c.1 c.2 H3 (e.trans (e2.trans e3)) (zm c hc).1 (monoρ _ _ _ _ e3 (zm c hc).2) hpc)
  refine key H2 (Ex.refl _) _ fun l zs H3 nl e3 hl hzs => q l zs H3 (fresh_back e2 nl) (e2.trans e3) hl ?_
  have e4 : ds.filter p = ((ds.zip ys).filter fun x => p x.1).map Prod.fst := by
    have := zip_fst hp
    have h5 : ((ds.zip ys).map Prod.fst).filter p = ((ds.zip ys).filter fun x => p x.1).map Prod.fst := by
      rw [List.filter_map]
      rfl
    rw [this] at h5
    exact h5
  rw [e4]
  exact paired_map hzs
theorem el_lcP (p : α → Bool) (g : α → V) (h : EvN tl σ H (fun ys H2 => Paired (fun c z => ρ c z H2) ds ys)) (monoρ : ∀ c y H1 H2, Ex H1 H2 → ρ c y H1 → ρ c y H2) (hz : ds.length ≤ 40000) (hw : ∀ x, wipe ((wipe σ vs).set j (some x)) vs = wipe σ vs)
    (ht : ∀ c z H1, Ex H H1 → c ∈ ds → ρ c z H1 → EvT t ((wipe σ vs).set j (some z)) H1 (p c)) (he : ∀ c z H1, Ex H H1 → c ∈ ds → ρ c z H1 → p c = true → Ev te ((wipe σ vs).set j (some z)) H1 (g c)) :
    EvL (tLc (iList K tl) (gName j) t te vs) σ H ((ds.filter p).map g) := EvN.vals (en_lcP p (fun c z _ => z = g c) (fun _ _ _ _ _ h => h) h monoρ hz hw ht fun c z H1 e hc hr hp => er_of (he c z H1 e hc hr hp))
/-- the same over a list that stands -/
theorem en_of {a : Addr} {ys : List V} (h : Ev tl σ H (.ref a)) (na : ∀ H1, Ex H H1 → H1 a ≠ none) : True := trivial
theorem s_retN {ψ : List V → Hp → Prop} (h : EvN te σ H ψ) (k : ∀ p ys H1, H p = none → Ex H H1 → H1 p = some (.lst ys) → ψ ys H1 → D.rt (.ref p) H1) : tRet te D σ H := h H (Ex.refl _) _ k
theorem q_asgN {ψ : List V → Hp → Prop} {i : Nat} (h : EvN te σ H ψ) (k : ∀ p ys H1, H p = none → Ex H H1 → H1 p = some (.lst ys) → ψ ys H1 → tz D (σ.set i (some (.ref p))) H1) : tSeq (tAsg te (gName i)) tz D σ H := h H (Ex.refl _) _ k
/-- a list's part -/
theorem el_slS {tlo thi : TO} {xs ys : List V} {lo hi : Option Int} (h : EvSl K te σ H xs) (h1 : EvO tlo σ H lo) (h2 : EvO thi σ H hi) (e : cutV xs lo hi = ys) : EvL (tSl (rSlL K) te tlo thi) σ H ys := fun H1 e1 Q q =>
  h H1 e1 _ fun a H2 e2 ha => h1 H2 (e1.trans e2) _ fun H3 e3 => h2 H3 ((e1.trans e2).trans e3) _ fun H4 e4 =>
    ⟨a, xs, rfl, ex_l (e3.trans e4) ha, fun p hp => q p _ (fresh_back ((e2.trans e3).trans e4) hp) (((e2.trans e3).trans e4).trans (Ex.new hp)) (by rw [← e]; exact upd_same)⟩
/-- a, b, .. = t -/
theorem q_unpack {p : Addr} {xs : List V} {n : Nat} {g : TGs} (h : Ev te σ H (.ref p)) (hp : H p = some (.tup xs)) (hl : xs.length = n) (k : ∀ H1, Ex H H1 → g xs σ H1 fun σ2 H2 => tz D σ2 H2) : tSeq (tAsg te (gTup K n g)) tz D σ H :=
  h H (Ex.refl _) _ fun H1 e1 => ⟨p, xs, rfl, st_of (e1 _ _ hp), hl, k H1 e1⟩
end
end Coin

namespace Coin
open PySem PySem.Spec PyProof.Rows L2 Evl
/-! ### isinstance(e, C), e what the suite holds -/
section
variable {K : PySem.W.Frag} {C D : Addr} {b : Bool}
theorem kit_cls' (hi : PySem.W.isClsIn K C = true) (ht : PySem.W.typeIn K (.ref C) = some (.type "type")) (hs : PySem.W.subIn K (.ref D) (.ref C) = some b) : PySem.W.kitCls K (.ref D) (.ref C) = some b := by
  show (if ((PySem.W.clsIn K C).isSome && PySem.W.typeIn K (.ref C) == some (.type "type")) = true then PySem.W.subIn K (.ref D) (.ref C) else none) = some b
  have hi : (PySem.W.clsIn K C).isSome = true := hi
  rw [hi, ht, hs]
  rfl
theorem kit_true (hi : PySem.W.isClsIn K C = true) (ht : PySem.W.typeIn K (.ref C) = some (.type "type")) (hs : PySem.W.subIn K (.ref D) (.ref C) = some true) : PySem.W.kitOne K (.ref D) (.ref C) = some true := by
  unfold PySem.W.kitOne
  split
  · rfl
  · exact kit_cls' hi ht hs
theorem kit_false (hi : PySem.W.isClsIn K C = true) (ht : PySem.W.typeIn K (.ref C) = some (.type "type")) (hs : PySem.W.subIn K (.ref D) (.ref C) = some false) (hc : PySem.W.subIn K (.ref C) (.ref C) = some true) : PySem.W.kitOne K (.ref D) (.ref C) = some false := by
  unfold PySem.W.kitOne
  split
  · rename_i h
    have e := eq_of_beq h
    cases e
    rw [hs] at hc
    cases hc
  · exact kit_cls' hi ht hs
theorem kit_ve (hs : PySem.W.subIn K (.ref D) (.type "ValueError") = some true) : PySem.W.kitOne K (.ref D) (.type "ValueError") = some true := by
  unfold PySem.W.kitOne
  split
  · rfl
  · show (if PySem.W.kitMeta "ValueError" = true then PySem.W.subIn K (.ref D) (.type "ValueError") else none) = some true
    rw [if_pos (by decide +kernel), hs]
theorem exm_true (hb : PySem.W.subIn K (.ref C) (.type "BaseException") = some true) (hi : PySem.W.isClsIn K C = true) (ht : PySem.W.typeIn K (.ref C) = some (.type "type")) (hs : PySem.W.subIn K (.ref D) (.ref C) = some b) : PySem.W.exmOne K (.ref D) (.ref C) = some b := by
  unfold PySem.W.exmOne
  rw [hb, if_pos (by rfl)]
  exact kit_cls' hi ht hs
end
def rIsX (K : PySem.W.Frag) (cls : Value) (d : Option Addr) (a : Addr) : List V → Hp → VK → Prop := fun xs H Q => ∃ (D : Addr) (c : V) (cv : Value) (b : Bool), cls = .ref D ∧ d = none ∧ ExcC K D ∧ xs = [.ref a, c] ∧ (∀ u, RelV c u → u = cv) ∧ PySem.W.kitOne K (.ref D) cv = some b ∧ Q (.bl b) H
theorem call_isX {X : Cx} {a : Addr} {oe : Obj} {cls : Value} {d : Option Addr} {pn : List (Addr × Obj)} (hz : Zc cls d oe) (hf : ∃ vs, oe.data = .fields vs) : CallR (X.suite a ((a, oe) :: pn)) (.builtin "isinstance") (rIsX X.K cls d a) := by
  intro pins s σ H xs us Q I r h
  obtain ⟨D, c, cv, b, rfl, rfl, C, rfl, hcv, e, q⟩ := h
  exact call_isE (X := X) C hz hf pins s σ H _ us Q I r ⟨c, cv, b, rfl, hcv, e, q⟩
theorem isXK {X : Cx} (K : PySem.W.Frag) {a : Addr} {oe : Obj} {cls : Value} {d : Option Addr} {pn : List (Addr × Obj)} (hz : Zc cls d oe) (hf : ∃ vs, oe.data = .fields vs) (h : X.K = K := by rfl) : CallR (X.suite a ((a, oe) :: pn)) (.builtin "isinstance") (rIsX K cls d a) := h ▸ call_isX hz hf
theorem relV_ref {C : Addr} : ∀ u, RelV (.ref C) u → u = .ref C := fun u h => by cases h; rfl
theorem relV_ty {n : String} : ∀ u, RelV (.ty n) u → u = .type n := fun u h => h
section
variable {K : PySem.W.Frag} {σ : L2.St} {H H' : Hp} {ta tb te tc ti : TE} {ts : TA} {v : V} {D : Ends} {tz : TS} {φ ψ : V → Hp → Prop}
theorem ev_isX {C a : Addr} {c : V} {cv : Value} {b : Bool} (x : ExcC K C) (hc : ∀ u, RelV c u → u = cv) (k : PySem.W.kitOne K (.ref C) cv = some b) (h1 : Ev te σ H (.ref a)) (h2 : Ev tc σ H c) : Ev (tCB (rIsX K (.ref C) none a) (tCons te (tCons tc tNil))) σ H (.bl b) :=
  ev_cb (ea_cons h1 (ea_cons h2 ea_nil)) fun H1 e Q q => ⟨C, c, cv, b, rfl, rfl, x, rfl, hc, k, q H1 (Ex.refl _)⟩
/-! ### things of which the same is told -/
def EvAll (ts : TA) (σ : L2.St) (H : Hp) (n : Nat) (φ : V → Hp → Prop) : Prop := EvAr ts σ H fun vs H2 => vs.length = n ∧ ∀ y ∈ vs, φ y H2
theorem er_imp (h : EvR te σ H ψ) (i : ∀ v H1, Ex H H1 → ψ v H1 → φ v H1) : EvR te σ H φ := fun H1 e Q q => h H1 e Q fun v H2 e2 hv => q v H2 e2 (i v H2 (e.trans e2) hv)
theorem er_v (h : Ev te σ H v) (i : ∀ H1, Ex H H1 → φ v H1) : EvR te σ H φ := fun H1 e Q q => h H1 e Q fun H2 e2 => q v H2 e2 (i H2 (e.trans e2))
theorem er_l {xs : List V} (h : EvL te σ H xs) : EvR te σ H (fun v H1 => ∃ a, v = .ref a ∧ H1 a = some (.lst xs)) := fun H1 e Q q => h H1 e Q fun a H2 _ e2 ha => q _ H2 e2 ⟨a, rfl, ha⟩
theorem er_t {xs : List V} (h : EvSt te σ H xs) : EvR te σ H (fun v H1 => ∃ a, v = .ref a ∧ H1 a = some (.tup xs)) := fun H1 e Q q => h H1 e Q fun a H2 e2 ha => q _ H2 e2 ⟨a, rfl, ha⟩
theorem eall_nil : EvAll tNil σ H 0 φ := fun H1 e Q q => q [] H1 (Ex.refl _) ⟨rfl, fun _ h => by cases h⟩
theorem eall_cons {n : Nat} (mono : ∀ v H1 H2, Ex H1 H2 → φ v H1 → φ v H2) (h : EvR te σ H φ) (hr : EvAll ts σ H n φ) : EvAll (tCons te ts) σ H (n + 1) φ := fun H1 e Q q =>
  h H1 e _ fun v H2 e2 hv => hr H2 (e.trans e2) _ fun vs H3 e3 hvs => q _ H3 (e2.trans e3) ⟨by rw [List.length_cons, hvs.1], fun y hy => by
    rcases List.mem_cons.mp hy with z | z
    · rw [z]; exact mono _ _ _ e3 hv
    · exact hvs.2 y z⟩
theorem en_all {n : Nat} (mono : ∀ v H1 H2, Ex H1 H2 → φ v H1 → φ v H2) (h : EvAll ts σ H n φ) (hn : n ≤ 100000) : EvN (tLst ts) σ H (fun ys H2 => ys.length = n ∧ ∀ y ∈ ys, φ y H2) := fun H1 e Q q =>
  h H1 e _ fun vs H2 e2 hv => ⟨sz_of (by rw [hv.1]; exact hn), fun p hp => q p vs _ (fresh_back e2 hp) (e2.trans (Ex.new hp)) upd_same ⟨hv.1, fun y hy => mono _ _ _ (Ex.new hp) (hv.2 y hy)⟩⟩
/-- two such lists, one behind the other -/
def EvSa (te : TE) (σ : L2.St) (H : Hp) (n : Nat) (φ : V → Hp → Prop) : Prop := ∀ H1, Ex H H1 → ∀ Q : VK, (∀ a ys H2, Ex H1 H2 → H2 a = some (.lst ys) → ys.length = n → (∀ y ∈ ys, φ y H2) → Q (.ref a) H2) → te σ H1 Q
theorem esa_n {n : Nat} (h : EvN te σ H (fun ys H2 => ys.length = n ∧ ∀ y ∈ ys, φ y H2)) : EvSa te σ H n φ := fun H1 e Q q => h H1 e Q fun l ys H2 _ e2 hl hy => q l ys H2 e2 hl hy.1 hy.2
theorem esa_of {n : Nat} {a : Addr} {ys : List V} (mono : ∀ v H1 H2, Ex H1 H2 → φ v H1 → φ v H2) (h : Ev te σ H (.ref a)) (ha : H a = some (.lst ys)) (hn : ys.length = n) (hy : ∀ y ∈ ys, φ y H) : EvSa te σ H n φ := fun H1 e Q q => h H1 e Q fun H2 e2 => q a ys H2 e2 (e2 _ _ (e _ _ ha)) hn fun y h => mono _ _ _ (e.trans e2) (hy y h)
theorem en_cat {n m : Nat} (mono : ∀ v H1 H2, Ex H1 H2 → φ v H1 → φ v H2) (ha : EvSa ta σ H n φ) (hb : EvSa tb σ H m φ) (hz : n + m ≤ 100000) : EvN (tOp rCat ta tb) σ H (fun ys H2 => ys.length = n + m ∧ ∀ y ∈ ys, φ y H2) := fun H1 e Q q =>
  ha H1 e _ fun a xs H2 e2 h2 hl hx => hb H2 (e.trans e2) _ fun b ys H3 e3 h3 hl2 hy => ⟨a, b, xs, ys, rfl, rfl, e3 _ _ h2, h3, sz_of (by omega), fun p hp => q p (xs ++ ys) _ (fresh_back (e2.trans e3) hp) ((e2.trans e3).trans (Ex.new hp)) upd_same ⟨by rw [List.length_append]; omega, fun y h => by
    rcases List.mem_append.mp h with z | z
    · exact mono _ _ _ (e3.trans (Ex.new hp)) (hx y z)
    · exact mono _ _ _ (Ex.new hp) (hy y z)⟩⟩
/-- one of them by its place -/
theorem er_ix {n i : Nat} (mono : ∀ v H1 H2, Ex H1 H2 → φ v H1 → φ v H2) (h : EvSa te σ H n φ) (hi : Ev ti σ H (iv i)) (hn : i < n) : EvR (tOp (rIxL K) te ti) σ H φ := fun H1 e Q q =>
  h H1 e _ fun a ys H2 e2 ha hl hy => hi H2 (e.trans e2) _ fun H3 e3 => ⟨a, ys, (i : Int), ys[i], rfl, rfl, sq_of (e3 _ _ ha), atI_nat (List.getElem?_eq_getElem (by omega)), q _ H3 (e2.trans e3) (mono _ _ _ e3 (hy _ (List.getElem_mem _)))⟩
end
/-! ### over range(lo, hi), lo and hi natural numbers -/
section
variable {K : PySem.W.Frag} {σ : L2.St} {H : Hp} {te : TE} {t : TT} {ta : TA} {j : Nat} {vs : List Nat}
theorem en_rngO {lo hi : Nat} (p : Nat → Bool) (φ : Nat → V → Hp → Prop) (mono : ∀ c y H1 H2, Tx H1 H2 → φ c y H1 → φ c y H2) (h : EvA ta σ H [iv lo, iv hi]) (hn : lo ≤ 40000 ∧ hi ≤ 40000) (hw : ∀ x, wipe ((wipe σ vs).set j (some x)) vs = wipe σ vs)
    (ht : ∀ (c : Nat) H1, Ex H H1 → lo + c < hi → EvT t ((wipe σ vs).set j (some (iv (lo + c)))) H1 (p c)) (he : ∀ (c : Nat) H1, Ex H H1 → lo + c < hi → p c = true → EvR te ((wipe σ vs).set j (some (iv (lo + c)))) H1 (φ c)) :
    EvN (tLc (iRng2 ta) (gName j) t te vs) σ H (fun ys H2 => Paired (fun c z => φ c z H2) ((List.range (hi - lo)).filter p) ys) := by
  have e : ∀ c : Nat, V.int ((lo : Int) + (c : Int)) = iv (lo + c) := fun c => by unfold iv; congr 1
  have := en_lcR2 (lo := lo) (hi := hi) (σ := σ) (H := H) (te := te) (t := t) (ta := ta) (j := j) (vs := vs) p φ mono h (by omega) hw (fun c H1 e1 hc => by rw [e]; exact ht c H1 e1 (by omega)) (fun c H1 e1 hc hp => by rw [e]; exact he c H1 e1 (by omega) hp)
  rwa [show ((hi : Int) - (lo : Int)).toNat = hi - lo by omega] at this
theorem el_rngO {lo hi : Nat} (p : Nat → Bool) (g : Nat → V) (h : EvA ta σ H [iv lo, iv hi]) (hn : lo ≤ 40000 ∧ hi ≤ 40000) (hw : ∀ x, wipe ((wipe σ vs).set j (some x)) vs = wipe σ vs)
    (ht : ∀ (c : Nat) H1, Ex H H1 → lo + c < hi → EvT t ((wipe σ vs).set j (some (iv (lo + c)))) H1 (p c)) (he : ∀ (c : Nat) H1, Ex H H1 → lo + c < hi → p c = true → Ev te ((wipe σ vs).set j (some (iv (lo + c)))) H1 (g c)) :
    EvL (tLc (iRng2 ta) (gName j) t te vs) σ H (((List.range (hi - lo)).filter p).map g) := EvN.vals (en_rngO p (fun c z _ => z = g c) (fun _ _ _ _ _ h => h) h hn hw ht fun c H1 e hc hp => er_of (he c H1 e hc hp))
/-- range(1, n + 1) -/
theorem el_rng11 {n : Nat} (p : Nat → Bool) (g : Nat → V) (h : EvA ta σ H [iv 1, iv (n + 1)]) (hn : n < 40000) (hw : ∀ x, wipe ((wipe σ vs).set j (some x)) vs = wipe σ vs)
    (ht : ∀ (c : Nat) H1, Ex H H1 → c < n → EvT t ((wipe σ vs).set j (some (iv (c + 1)))) H1 (p c)) (he : ∀ (c : Nat) H1, Ex H H1 → c < n → p c = true → Ev te ((wipe σ vs).set j (some (iv (c + 1)))) H1 (g c)) :
    EvL (tLc (iRng2 ta) (gName j) t te vs) σ H (((List.range n).filter p).map g) := by
  have := el_rngO (lo := 1) (hi := n + 1) (σ := σ) (H := H) (te := te) (t := t) (ta := ta) (j := j) (vs := vs) p g h (by omega) hw (fun c H1 e1 hc => by rw [Nat.add_comm]; exact ht c H1 e1 (by omega)) (fun c H1 e1 hc hp => by rw [Nat.add_comm]; exact he c H1 e1 (by omega) hp)
  rwa [Nat.add_sub_cancel] at this
end
theorem atL2 (r : List Nat) (a b : Nat) : atI (ivs (r ++ [a, b])) (-2) = some (iv a) := by
  have hlen : (ivs (r ++ [a, b])).length = r.length + 2 := by rw [ivs_len, List.length_append]; rfl
  have e2 : ixN (ivs (r ++ [a, b])).length (-2) = some r.length := by
    unfold ixN
    rw [hlen, if_neg (by decide), if_pos (by omega)]
    congr 1
    omega
  unfold atI
  rw [e2]
  show (ivs (r ++ [a, b]))[r.length]? = _
  unfold ivs
  rw [List.map_append, List.getElem?_append_right (by rw [List.length_map]; exact Nat.le_refl _), List.length_map, Nat.sub_self]
  rfl
theorem atL1 (r : List Nat) (a b : Nat) : atI (ivs (r ++ [a, b])) (-1) = some (iv b) := by
  rw [show r ++ [a, b] = (r ++ [a]) ++ [b] by rw [List.append_assoc]; rfl]
  exact atL _ _
/-- tuple(range(lo, hi)) -/
theorem est_tupRg {σ : L2.St} {H : Hp} {ta tb : TE} {lo hi : Nat} (ha : Ev ta σ H (iv lo)) (hb : Ev tb σ H (iv hi)) (hn : lo ≤ 100000 ∧ hi ≤ 100000) : EvSt (tTupRg (tRg2 ta tb)) σ H (ivs ((List.range (hi - lo)).map (lo + ·))) := fun H1 e Q q =>
  ha H1 e _ fun H2 e2 => hb H2 (e.trans e2) _ fun H3 e3 => ⟨lo, hi, rfl, rfl, RgOk.of_le (by omega) (by omega) (by omega) (by omega), fun p hp => q p _ ((e2.trans e3).trans (Ex.new hp)) (by
    rw [upd_same]
    congr 2
    unfold rgV ivs
    rw [List.map_map, show ((hi : Int) - (lo : Int)).toNat = hi - lo by omega]
    rfl)⟩
/-! ### lists of truths, as data -/
def db (bs : List Bool) : PyData := .list (bs.map PyData.bool)
theorem dp_allB {K : PySem.W.Frag} {H : Hp} : ∀ bs : List Bool, DpAll K H (bs.map V.bl) (bs.map PyData.bool)
  | [] => .nil
  | b :: r => .cons (.bl _) (dp_allB r)
theorem can_db (bs : List Bool) : (db bs).canLay0 = true := by unfold db; simp only [PyData.canLay0]; exact canAll (fun b => by simp only [PyData.canLay0]) bs
theorem dep_db (bs : List Bool) : (db bs).depth ≤ 1 := by unfold db; simp only [PyData.depth]; exact Nat.succ_le_succ (depAll (fun b => by simp only [PyData.depth]; exact Nat.le_refl _) bs)
theorem shaped_db (bs : List Bool) : SeqAt.shaped (db bs) = true := shaped_of (can_db bs) (dep_db bs) (by decide)
theorem eqv_db (a b : List Bool) : PyData.eqv (db a) (db b) = decide (a = b) := by
  unfold db
  simp only [PyData.eqv]
  exact eqvAll_map (fun x y => by cases x <;> cases y <;> simp [PyData.eqv]) a b
section
variable {K : PySem.W.Frag} {σ : L2.St} {H : Hp} {ta tb te : TE}
theorem ed_b {bs : List Bool} (h : EvSl K te σ H (bs.map V.bl)) : EvD K te σ H (db bs) := fun H1 e Q q => h H1 e _ fun a H2 e2 ha => q _ H2 e2 (.lst ha (dp_allB bs))
theorem ev_eqB {a b : List Bool} (ha : EvSl K ta σ H (a.map V.bl)) (hb : EvSl K tb σ H (b.map V.bl)) : Ev (tOp (rEqD K) ta tb) σ H (.bl (decide (a = b))) := ev_eqd (ed_b ha) (ed_b hb) (shaped_db a) (shaped_db b) (eqv_db a b)
theorem ev_neBs {a b : List Bool} (ha : EvSl K ta σ H (a.map V.bl)) (hb : EvSl K tb σ H (b.map V.bl)) : Ev (tOp (rNeD K) ta tb) σ H (.bl (!decide (a = b))) := ev_ned (ed_b ha) (ed_b hb) (shaped_db a) (shaped_db b) (eqv_db a b)
end
end Coin

namespace Coin
open PySem PySem.Spec PyProof.Rows L2 Evl
theorem Sys.lstAt {cs : List Nat} (h : Sys cs) : atI (ivs cs) (-1) = some (iv (Coin.lst cs)) := by
  obtain ⟨r, e, _⟩ := h.lst
  have := atL r (Coin.lst cs)
  rwa [← e] at this
section
variable {K : PySem.W.Frag} {σ : L2.St} {H H' : Hp} {ta tb te tc ti : TE} {ts : TA} {v : V} {D : Ends} {tz : TS}
def rMin2 : List V → Hp → VK → Prop := fun xs H Q => ∃ i j, xs = [.int i, .int j] ∧ Q (.int (if j < i then j else i)) H
theorem ev_min2 {a b : Nat} (ha : Ev ta σ H (iv a)) (hb : Ev tb σ H (iv b)) : Ev (tCB rMin2 (tCons ta (tCons tb tNil))) σ H (iv (min a b)) := fun H1 e Q q =>
  ha H1 e _ fun H2 e2 => hb H2 (e.trans e2) _ fun H3 e3 => ⟨a, b, rfl, by
    have := q H3 (e2.trans e3)
    have z : (V.int (if (b : Int) < (a : Int) then (b : Int) else (a : Int))) = iv (min a b) := by
      unfold iv
      congr 1
      by_cases h : b < a
      · rw [if_pos (by omega)]; omega
      · rw [if_neg (by omega)]; omega
    rw [z]
    exact this⟩
theorem ev_max2N {a b : Nat} (ha : Ev ta σ H (iv a)) (hb : Ev tb σ H (iv b)) : Ev (tCB rMax2 (tCons ta (tCons tb tNil))) σ H (iv (max a b)) := ev_is (ev_max2 ha hb) (by
  unfold iv
  congr 1
  by_cases h : a < b
  · rw [if_pos (by omega)]; omega
  · rw [if_neg (by omega)]; omega)
/-- a statement's end by a word -/
theorem q_mid {tu tz : TS} (M : L2.St → Hp → Prop) (h : ∀ k : L2.St → Hp → Prop, (∀ σ' H', M σ' H' → k σ' H') → tu { D with nx := k } σ H) (hz : ∀ σ' H', M σ' H' → tz D σ' H') : tSeq tu tz D σ H := h _ hz
theorem ev_chainLE {a b c : Nat} (ha : Ev ta σ H (iv a)) (hb : Ev tb σ H (iv b)) (hc : Ev tc σ H (iv c)) : Ev (tChain (rI0 fun i j => .bl (decide (i < j))) (rI0 fun i j => .bl (decide (i ≤ j))) ta tb tc) σ H (.bl (decide (a < b) && decide (b ≤ c))) := by
  rw [dec_eq (show a < b ↔ (a : Int) < (b : Int) by omega), dec_eq (show b ≤ c ↔ (b : Int) ≤ (c : Int) by omega)]
  exact ev_chain (f := fun i j => decide (i < j)) (g := fun i j => decide (i ≤ j)) ha hb hc
/-- t + (c,) *-/
theorem est_snoc {cs : List Nat} {c : Nat} (ha : EvSt ta σ H (ivs cs)) (hc : Ev tc σ H (iv c)) (hl : cs.length < 100000) : EvSt (tOp (rCatA K) ta (tTup (tCons tc tNil))) σ H (ivs (cs ++ [c])) := by
  rw [ivs_snoc]
  exact est_cat ha (est_disp (ea_cons hc ea_nil) (by show 1 ≤ 100000; decide)) (by rw [ivs_len]; show cs.length + 1 ≤ 100000; omega)
theorem inV_ivs {c : Nat} (ns : List Nat) : inV (iv c) (ivs ns) = decide (c ∈ ns) := by
  unfold inV ivs
  rw [List.any_map, Bool.eq_iff_iff, List.any_eq_true, decide_eq_true_iff]
  constructor
  · rintro ⟨n, hn, h⟩
    have : ((n : Int) == (c : Int)) = true := h
    have : n = c := by
      have := eq_of_beq this
      omega
    exact this ▸ hn
  · intro h
    exact ⟨c, h, show ((c : Int) == (c : Int)) = true from beq_self_eq_true _⟩
theorem flat_ivs (ns : List Nat) : (ivs ns).all flatV = true := by
  unfold ivs
  rw [List.all_map, List.all_eq_true]
  intro n _
  rfl
theorem ev_inL {c : Nat} {ns : List Nat} (ha : Ev ta σ H (iv c)) (hb : EvSl K tb σ H (ivs ns)) : Ev (tOp (rIn K false) ta tb) σ H (.bl (decide (c ∈ ns))) := fun H1 e Q q =>
  ha H1 e _ fun H2 e2 => hb H2 (e.trans e2) _ fun p H3 e3 hp => ⟨p, ivs ns, rfl, .inl hp, rfl, flat_ivs ns, by rw [if_neg Bool.false_ne_true, inV_ivs]; exact q H3 (e2.trans e3)⟩
theorem ev_ninL {c : Nat} {ns : List Nat} (ha : Ev ta σ H (iv c)) (hb : EvSl K tb σ H (ivs ns)) : Ev (tOp (rIn K true) ta tb) σ H (.bl (!decide (c ∈ ns))) := fun H1 e Q q =>
  ha H1 e _ fun H2 e2 => hb H2 (e.trans e2) _ fun p H3 e3 hp => ⟨p, ivs ns, rfl, .inl hp, rfl, flat_ivs ns, by rw [if_pos rfl, inV_ivs]; exact q H3 (e2.trans e3)⟩
theorem ev_ninT {c : Nat} {ns : List Nat} (ha : Ev ta σ H (iv c)) (hb : EvSt tb σ H (ivs ns)) : Ev (tOp (rIn K true) ta tb) σ H (.bl (!decide (c ∈ ns))) := fun H1 e Q q =>
  ha H1 e _ fun H2 e2 => hb H2 (e.trans e2) _ fun p H3 e3 hp => ⟨p, ivs ns, rfl, .inr (st_of hp), rfl, flat_ivs ns, by rw [if_pos rfl, inV_ivs]; exact q H3 (e2.trans e3)⟩
theorem ev_inT {c : Nat} {ns : List Nat} (ha : Ev ta σ H (iv c)) (hb : EvSt tb σ H (ivs ns)) : Ev (tOp (rIn K false) ta tb) σ H (.bl (decide (c ∈ ns))) := fun H1 e Q q =>
  ha H1 e _ fun H2 e2 => hb H2 (e.trans e2) _ fun p H3 e3 hp => ⟨p, ivs ns, rfl, .inr (st_of hp), rfl, flat_ivs ns, by rw [if_neg Bool.false_ne_true, inV_ivs]; exact q H3 (e2.trans e3)⟩
end
end Coin

namespace Coin
open PySem PySem.Spec PyProof.Rows L2 Evl
theorem paired_get {α β : Type} {R : α → β → Prop} : ∀ {l : List α} {m : List β} {i : Nat} {y : β}, Paired R l m → m[i]? = some y → ∃ x, l[i]? = some x ∧ R x y
  | _, _, _, _, .nil, h => by simp at h
  | _, _, 0, _, .cons r t, h => by
    have := Option.some.inj h
    subst this
    exact ⟨_, rfl, r⟩
  | _, _, i + 1, _, .cons r t, h => paired_get (i := i) t h
theorem paired_app {α β : Type} {R : α → β → Prop} : ∀ {l l' : List α} {m m' : List β}, Paired R l m → Paired R l' m' → Paired R (l ++ l') (m ++ m')
  | _, _, _, _, .nil, h => h
  | _, _, _, _, .cons r t, h => .cons r (paired_app t h)
def SpN (sp : Sp) (vs : List V) (H : Hp) (ψ : List V → Hp → Prop) : Prop := ∀ H1, Ex H H1 → ∀ Q : VK, (∀ l ys H2, H1 l = none → Ex H1 H2 → H2 l = some (.lst ys) → ψ ys H2 → Q (.ref l) H2) → ∀ E : XK, sp vs H1 Q E
theorem en_call {sp : Sp} {vs : List V} {E : XK} {ts : TA} {σ : L2.St} {H : Hp} {ψ : List V → Hp → Prop} (h : EvA ts σ H vs) (hs : SpN sp vs H ψ) : EvN (tCall sp [] E ts) σ H ψ := fun H1 e Q q => h H1 e _ fun H2 e2 => by
  rw [List.append_nil]
  exact hs H2 (e.trans e2) Q (fun l ys H3 nl e3 h3 hy => q l ys H3 (fresh_back e2 nl) (e2.trans e3) h3 hy) E
abbrev PT (H : Hp) (rows : List (List Nat)) (ys : List V) : Prop := Paired (fun c z => TupN c z H) rows ys
theorem PT.tx {H H' : Hp} {rows : List (List Nat)} {ys : List V} (p : PT H rows ys) (t : Tx H H') : PT H' rows ys := paired_mono p fun c z h => TupN.mono c z _ _ t h
theorem tupN_ex : ∀ (c : List Nat) (y : V) (H1 H2 : Hp), Ex H1 H2 → TupN c y H1 → TupN c y H2 := fun _ _ _ _ t ⟨a, e, h⟩ => ⟨a, e, t _ _ h⟩
theorem er_tupN {te : TE} {σ : L2.St} {H : Hp} {c : List Nat} (h : EvSt te σ H (ivs c)) : EvR te σ H (TupN c) := fun H1 e Q q => h H1 e _ fun a H2 e2 ha => q _ H2 e2 ⟨a, rfl, ha⟩
section
variable {K : PySem.W.Frag} {σ : L2.St} {H H' : Hp} {ta te tb : TE} {ts : TA} {D : Ends} {tz : TS} {j : Nat} {vs : List Nat} {ψ : List V → Hp → Prop}
theorem en_nexts {r : List Nat} {n : Nat} (h : EvA ts σ H [iv (lst r + 1), iv (n + 1)]) (hb : lst r + 1 ≤ 40000 ∧ n + 1 ≤ 40000) (hw : ∀ x, wipe ((wipe σ vs).set j (some x)) vs = wipe σ vs) (he : ∀ c H1, Ex H H1 → EvSt te ((wipe σ vs).set j (some (iv c))) H1 (ivs (r ++ [c]))) :
    EvN (tLc (iRng2 ts) (gName j) tYes te vs) σ H (fun ys H2 => PT H2 (nexts n r) ys) := fun H1 e Q q =>
  en_rngO (fun _ => true) (fun i y H' => TupN (r ++ [lst r + 1 + i]) y H') (fun c y A B t h => TupN.mono _ y A B t h) h hb hw (fun c H1 e1 hc => et_yes) (fun c H1 e1 hc _ => er_tupN (he _ H1 e1)) H1 e Q fun l ys H2 nl e2 hl hy => q l ys H2 nl e2 hl (by
    rw [filter_yes] at hy
    exact paired_map hy)
/-- xs.extend(ys) -/
theorem s_ext {l : Addr} {xs : List V} (hl : H l = some (.lst xs)) (ha : Ev ta σ H (.ref l)) (h : EvN te σ H ψ) (hz : ∀ ys H1, ψ ys H1 → xs.length + ys.length ≤ 100000) (k : ∀ ys H1, Ex H H1 → ψ ys H1 → D.nx σ (upd H1 l (.lst (xs ++ ys)))) :
    tDrop (tBM K "list" rExtend ta (tCons te tNil)) D σ H := ha H (Ex.refl H) _ fun H1 e1 =>
  ⟨Or.inl ⟨rfl, xs, sq_of (e1 l _ hl)⟩, h H1 e1 _ fun p ys H2 np e2 h2 hy => ⟨l, p, xs, ys, rfl, rfl, e2 l _ (e1 l _ hl), h2, sz_of (hz _ _ hy), k ys H2 (e1.trans e2) hy⟩⟩
/-- xs + ys, ys told by more than its values -/
theorem en_catN {xs : List V} (ha : EvHl ta σ H xs) (hb : EvN tb σ H ψ) (mono : ∀ ys H1 H2, Ex H1 H2 → ψ ys H1 → ψ ys H2) (hz : ∀ ys H1, ψ ys H1 → xs.length + ys.length ≤ 100000) : EvN (tOp rCat ta tb) σ H (fun zs H2 => ∃ ys, zs = xs ++ ys ∧ ψ ys H2) := fun H1 e Q q =>
  ha H1 e _ fun a H2 e2 h2 => hb H2 (e.trans e2) _ fun b ys H3 nb e3 h3 hy => ⟨a, b, xs, ys, rfl, rfl, e3 _ _ h2, h3, sz_of (hz _ _ hy), fun p hp => q p (xs ++ ys) _ (fresh_back (e2.trans e3) hp) ((e2.trans e3).trans (Ex.new hp)) upd_same ⟨ys, rfl, mono _ _ _ (Ex.new hp) hy⟩⟩
/-- x = [e for k in range(n)], e may change objects that stand -/
theorem q_lcR1raw {i0 n : Nat} (h : EvA ts σ H [iv n]) (hn : n ≤ 40000) (hw : ∀ x, wipe ((wipe σ vs).set j (some x)) vs = wipe σ vs)
    (k : ∀ H1, Ex H H1 → ∀ Dl, H1 Dl = none → ∃ Pv : Nat → Hp → Prop, Pv 0 (upd H1 Dl (.lst [])) ∧ (∀ i H', i < n → Pv i H' → te ((wipe σ vs).set j (some (iv i))) H' fun y H4 => ∃ acc, H4 Dl = some (.lst acc) ∧ acc.length < sizeLine ∧ Pv (i + 1) (upd H4 Dl (.lst (acc ++ [y])))) ∧ ∀ H', Pv n H' → tz D (σ.set i0 (some (.ref Dl))) H') :
    tSeq (tAsg (tLc (iRng1 ts) (gName j) tYes te vs) (gName i0)) tz D σ H := h H (Ex.refl _) _ fun H1 e1 => ⟨(n : Int), rfl, by omega, by omega, fun Dl hD => by
  obtain ⟨Pv, p0, ps, pd⟩ := k H1 e1 Dl hD
  refine lc_range (lo := 0) (n := (n : Int).toNat) Pv p0 (fun i H' hi hP => ?_) (fun H' hP => pd H' hP)
  rw [show (V.int (0 + (i : Int))) = iv i by unfold iv; rw [Int.zero_add]]
  exact ⟨hw _, ps i H' hi hP⟩⟩
theorem s_asgN {i : Nat} (h : EvN te σ H ψ) (k : ∀ p ys H1, H p = none → Ex H H1 → H1 p = some (.lst ys) → ψ ys H1 → D.nx (σ.set i (some (.ref p))) H1) : tAsg te (gName i) D σ H := h H (Ex.refl _) _ k
theorem en_lstAr {φ : List V → Hp → Prop} (h : EvAr ts σ H φ) (hl : ∀ vs H1, φ vs H1 → vs.length ≤ 100000) (mono : ∀ vs H1 H2, Ex H1 H2 → φ vs H1 → φ vs H2) : EvN (tLst ts) σ H φ := fun H1 e Q q =>
  h H1 e _ fun vs H2 e2 hv => ⟨sz_of (hl _ _ hv), fun p hp => q p vs _ (fresh_back e2 hp) (e2.trans (Ex.new hp)) upd_same (mono _ _ _ (Ex.new hp) hv)⟩
/-- [t], t a tuple of numbers -/
theorem en_lst1 {c : List Nat} (h : EvSt te σ H (ivs c)) : EvN (tLst (tCons te tNil)) σ H (fun ys H2 => PT H2 [c] ys) := fun H1 e Q q =>
  en_lstAr (ear_t h ear_nil) (fun vs H2 ⟨_, _, h1, _, h2⟩ => by rw [h1, h2]; show 1 ≤ 100000; decide) (fun vs H1 H2 e ⟨a, ws, h1, h2, h3⟩ => ⟨a, ws, h1, e _ _ h2, h3⟩) H1 e Q fun l ys H2 nl e2 hl ⟨a, ws, h1, h2, h3⟩ => q l ys H2 nl e2 hl (by rw [h1, h3]; exact .cons ⟨a, rfl, h2⟩ .nil)
/-- a list of rows that stands, those of which p -/
theorem en_rows {rows : List (List Nat)} {ys : List V} {a : Addr} {tl : TE} {t : TT} (p : List Nat → Bool) (h : Ev tl σ H (.ref a)) (ha : H a = some (.lst ys)) (hp : PT H rows ys) (hz : rows.length ≤ 40000) (hw : ∀ x, wipe ((wipe σ vs).set j (some x)) vs = wipe σ vs)
    (ht : ∀ c b H1, Ex H H1 → c ∈ rows → H1 b = some (.tup (ivs c)) → EvT t ((wipe σ vs).set j (some (.ref b))) H1 (p c)) (hv : ∀ x, ((wipe σ vs).set j (some x))[j]? = some (some x)) :
    EvN (tLc (iList K tl) (gName j) t (tVar j) vs) σ H (fun zs H2 => PT H2 (rows.filter p) zs) := by
  have zm := zip_mem hp
  have key := en_lcL (K := K) (σ := σ) (H := H) (tl := tl) (te := tVar j) (t := t) (cs := rows.zip ys) (u := Prod.snd) (j := j) (vs := vs) (fun x => p x.1) (fun x y H' => TupN x.1 y H') (fun c y A B t h => TupN.mono _ y A B t h) (esl_of h (by rw [zip_snd hp]; exact sq_of ha)) (by rw [List.length_zip]; omega) hw
    (fun c H3 e3 hc => by
      obtain ⟨m1, b, e4, hb⟩ := zm c hc
      rw [e4]
      exact ht c.1 b H3 e3 m1 (e3 _ _ hb)) (fun c H3 e3 hc hpc => by
      obtain ⟨m1, b, e4, hb⟩ := zm c hc
      exact er_v (ev_var (hv c.2)) fun H4 e5 => ⟨b, e4, e5 _ _ (e3 _ _ hb)⟩)
  refine fun H1 e1 Q q => key H1 e1 Q fun l zs H3 nl e3 hl hzs => q l zs H3 nl e3 hl ?_
  have e4 : rows.filter p = ((rows.zip ys).filter fun x => p x.1).map Prod.fst := by
    have := zip_fst hp
    have h5 : ((rows.zip ys).map Prod.fst).filter p = ((rows.zip ys).filter fun x => p x.1).map Prod.fst := by
      rw [List.filter_map]
      rfl
    rw [this] at h5
    exact h5
  rw [e4]
  exact paired_map hzs
end
end Coin

namespace Coin
open PySem PySem.Spec PyProof.Rows L2 Evl
/-! ### dicts with int keys -/
def akv (L : List (Int × V)) : List (Key × V) := L.map fun e => (Sum.inl e.1, e.2)
theorem akv_len (L : List (Int × V)) : (akv L).length = L.length := List.length_map ..
theorem valV_akv_no {x : Int} : ∀ {L : List (Int × V)}, x ∉ L.map (·.1) → valV (akv L) (Sum.inl x) = none
  | [], _ => rfl
  | e :: L, h => by
    rw [List.map_cons, List.mem_cons, not_or] at h
    show valV ((Sum.inl e.1, e.2) :: akv L) _ = _
    rw [valV_neg (fun z => h.1 (Sum.inl.inj z).symm), valV_akv_no h.2]
theorem valV_akv_mem {x : Int} {v : V} : ∀ {L : List (Int × V)}, (L.map (·.1)).Nodup → (x, v) ∈ L → valV (akv L) (Sum.inl x) = some v
  | [], _, h => by cases h
  | e :: L, nd, h => by
    show valV ((Sum.inl e.1, e.2) :: akv L) _ = _
    rw [List.map_cons, List.nodup_cons] at nd
    rcases List.mem_cons.mp h with z | z
    · rw [← z, valV_pos rfl]
    · rw [valV_neg (fun q => nd.1 (by
        have := Sum.inl.inj q
        rw [this]
        exact List.mem_map.mpr ⟨_, z, rfl⟩)), valV_akv_mem nd.2 z]
theorem valV_akv_is {x : Int} {L : List (Int × V)} : (valV (akv L) (Sum.inl x)).isSome = decide (x ∈ L.map (·.1)) := by
  induction L with
  | nil => rfl
  | cons e L ih =>
    show (valV ((Sum.inl e.1, e.2) :: akv L) _).isSome = _
    by_cases h : e.1 = x
    · subst h
      rw [valV_pos rfl, decide_eq_true (by rw [List.map_cons]; exact List.mem_cons_self)]
      rfl
    · rw [valV_neg (fun z => h (Sum.inl.inj z)), ih, decide_eq_decide, List.map_cons, List.mem_cons]
      exact ⟨.inr, fun z => z.resolve_left fun q => h q.symm⟩
theorem putK_akv {x : Int} {v : V} {L : List (Int × V)} (h : x ∉ L.map (·.1)) : putK (akv L) (Sum.inl x) v = akv (L ++ [(x, v)]) := by
  unfold putK
  have : ((akv L).any fun kv => decide (kv.1 = Sum.inl x)) = false := by
    rw [List.any_eq_false]
    intro kv hkv
    obtain ⟨e, he, rfl⟩ := List.mem_map.mp hkv
    rw [decide_eq_true_iff]
    intro z
    exact h (List.mem_map.mpr ⟨e, he, Sum.inl.inj z⟩)
  rw [this, if_neg Bool.false_ne_true]
  unfold akv
  rw [List.map_append]
  rfl
section
variable {K : PySem.W.Frag} {σ : L2.St} {H : Hp} {td ty tv : TE} {D : Ends} {tz : TS} {d : Addr} {L : List (Int × V)} {x : Int} {v : V}
theorem ev_dninI (hy : Ev ty σ H (.int x)) (hd : Ev td σ H (.ref d)) (h : H d = some (.dK (akv L))) : Ev (tDNotIn ty td) σ H (.bl (!decide (x ∈ L.map (·.1)))) := fun H1 e Q q =>
  hy H1 e _ fun H2 e2 => hd H2 (e.trans e2) _ fun H3 e3 => ⟨d, _, rfl, DGet.k (k := Sum.inl x) ((e.trans (e2.trans e3)) _ _ h), by rw [valV_akv_is]; exact q H3 (e2.trans e3)⟩
theorem ev_dgetI (hd : Ev td σ H (.ref d)) (hy : Ev ty σ H (.int x)) (h : H d = some (.dK (akv L))) (hv : valV (akv L) (Sum.inl x) = some v) : Ev (tDGet td ty) σ H v := fun H1 e Q q =>
  hd H1 e _ fun H2 e2 => hy H2 (e.trans e2) _ fun H3 e3 => ⟨d, v, rfl, by rw [← hv]; exact DGet.k (k := Sum.inl x) ((e.trans (e2.trans e3)) _ _ h), q H3 (e2.trans e3)⟩
theorem q_dputI (hv : Ev tv σ H v) (hd : Ev td σ H (.ref d)) (hy : Ev ty σ H (.int x)) (h : H d = some (.dK (akv L))) (hx : x ∉ L.map (·.1)) (hl : L.length < 100000) (k : ∀ H1, Ex H H1 → tz D σ (upd H1 d (.dK (akv (L ++ [(x, v)]))))) : tSeq (sDPut td ty tv) tz D σ H :=
  hv H (Ex.refl _) _ fun H1 e1 => hd H1 e1 _ fun H2 e2 => hy H2 (e1.trans e2) _ fun H3 e3 => ⟨d, _, rfl, DPut.k (k := Sum.inl x) ((e1.trans (e2.trans e3)) _ _ h) (sz_lt (by rw [akv_len]; exact hl)), by rw [putK_akv hx]; exact k H3 (e1.trans (e2.trans e3))⟩
/-- d = {k: v} -/
theorem q_dict1 {i : Nat} (k : ∀ p H1, H p = none → Ex H H1 → H1 p = some (.dK (akv [(x, v)])) → tz D (σ.set i (some (.ref p))) H1) : tSeq (tAsg (tDisp [(tC (.int x), tC v)]) (gName i)) tz D σ H := fun p hp =>
  ⟨upd_same, [(Sum.inl x, v)], rfl, (by show 1 ≤ 15; decide), k p _ hp (Ex.mut (Ex.new hp) hp) upd_same⟩
end
/-! ### amounts as values -/
def pvO : Option Int → V
  | none => .non
  | some p => .int p
def enc (L : List (Int × Option Int)) : List (Int × V) := L.map fun e => (e.1, pvO e.2)
theorem enc_keys (L : List (Int × Option Int)) : (enc L).map (·.1) = L.map (·.1) := by
  unfold enc
  rw [List.map_map]
  rfl
theorem enc_len (L : List (Int × Option Int)) : (enc L).length = L.length := List.length_map ..
theorem enc_snoc (L : List (Int × Option Int)) (x h : Int) : enc (L ++ [(x, some h)]) = enc L ++ [(x, .int h)] := List.map_append ..
theorem pvO_non (o : Option Int) : decide (pvO o = .non) = decide (o = none) := by cases o <;> rfl
section
variable {K : PySem.W.Frag} {σ : L2.St} {H : Hp} {ta tb te : TE} {D : Ends} {tz : TS}
theorem ev_chainI {a b c : Int} (ha : Ev ta σ H (.int a)) (hb : Ev tb σ H (.int b)) (hc : Ev te σ H (.int c)) : Ev (tChain (rI0 fun i j => .bl (decide (i ≤ j))) (rI0 fun i j => .bl (decide (i ≤ j))) ta tb te) σ H (.bl (decide (a ≤ b) && decide (b ≤ c))) := ev_chain (f := fun i j => decide (i ≤ j)) (g := fun i j => decide (i ≤ j)) ha hb hc
theorem ear_n {ts : TA} {ψ : List V → Prop} {φ : List V → Hp → Prop} (h : EvN te σ H fun ys _ => ψ ys) (hr : EvAr ts σ H φ) : EvAr (tCons te ts) σ H (fun vs H2 => ∃ a ys ws, vs = .ref a :: ws ∧ H a = none ∧ H2 a = some (.lst ys) ∧ ψ ys ∧ φ ws H2) := fun H1 e Q q =>
  h H1 e _ fun a ys H2 na e2 ha hy => hr H2 (e.trans e2) _ fun ws H3 e3 hw => q _ H3 (e2.trans e3) ⟨a, ys, ws, rfl, fresh_back e na, e3 _ _ ha, hy, hw⟩
/-- sorted(xs) of natural numbers -/
theorem er_sorted {ns : List Nat} (h : EvSl K te σ H (ivs ns)) : EvN (tCB (rSortedI K) (tCons te tNil)) σ H (fun ys _ => ∃ ms : List Nat, ys = ivs ms ∧ ms.Perm ns ∧ ms.Pairwise (· ≤ ·)) := fun H1 e Q q =>
  h H1 e _ fun a H2 e2 ha => ⟨a, ns.map fun n : Nat => (n : Int), rfl, by rw [← ivs_int]; exact ha, fun ns' p hp hs hn => by
    obtain ⟨ms, rfl⟩ := nat_of_int (ns := ns') fun x hx => by
      obtain ⟨n, _, rfl⟩ := List.mem_map.mp (hp.mem_iff.mp hx)
      omega
    refine q p (ivs ms) _ (fresh_back e2 hn) (e2.trans (Ex.new hn)) (by rw [upd_same, ivs_int]) ⟨ms, rfl, ?_, (List.pairwise_map.mp hs).imp fun h => by omega⟩
    have := hp.map Int.toNat
    rw [List.map_map, List.map_map] at this
    have e1 : ∀ l : List Nat, l.map (Int.toNat ∘ fun n : Nat => (n : Int)) = l := fun l => (List.map_congr_left fun n _ => rfl).trans (List.map_id _)
    rwa [e1, e1] at this⟩
end
theorem sorted_same : ∀ {l l' : List Nat}, l.Perm l' → l.Pairwise (· ≤ ·) → l'.Pairwise (· ≤ ·) → l = l'
  | [], l', p, _, _ => p.nil_eq
  | a :: l, [], p, _, _ => absurd p.length_eq (by simp)
  | a :: l, b :: l', p, s, s' => by
    obtain ⟨s1, s2⟩ := List.pairwise_cons.mp s
    obtain ⟨s3, s4⟩ := List.pairwise_cons.mp s'
    have e : a = b := by
      have h1 : b ∈ a :: l := p.mem_iff.mpr List.mem_cons_self
      have h2 : a ∈ b :: l' := p.mem_iff.mp List.mem_cons_self
      rcases List.mem_cons.mp h1 with z | z
      · exact z.symm
      · rcases List.mem_cons.mp h2 with y | y
        · exact y
        · have := s1 b z
          have := s3 a y
          omega
    subst e
    rw [sorted_same (List.Perm.cons_inv p) s2 s4]
section
variable {K : PySem.W.Frag} {σ : L2.St} {H : Hp} {te : TE} {D : Ends} {tz : TS} {ψ : V → Hp → Prop}
/-- sorted(xs), xs sorted -/
theorem el_sortedS {ns : List Nat} (h : EvSl K te σ H (ivs ns)) (s : ns.Pairwise (· ≤ ·)) : EvL (tCB (rSortedI K) (tCons te tNil)) σ H (ivs ns) := fun H1 e Q q =>
  er_sorted h H1 e Q fun l ys H2 nl e2 hl ⟨ms, h1, h2, h3⟩ => q l H2 nl e2 (by rw [hl, h1, sorted_same h2 h3 s])
theorem q_unpackR {n : Nat} {g : TGs} (h : EvR te σ H ψ) (k : ∀ v H1, Ex H H1 → ψ v H1 → gTup K n g v σ H1 fun σ2 H2 => tz D σ2 H2) : tSeq (tAsg te (gTup K n g)) tz D σ H := h H (Ex.refl _) _ fun v H1 e1 hv => k v H1 e1 hv
def rAbs : List V → Hp → VK → Prop := fun xs H Q => ∃ n, xs = [.int n] ∧ Q (.int (if n < 0 then -n else n)) H
theorem ev_abs {i : Int} {n : Nat} (h : Ev te σ H (.int i)) (e : i.natAbs = n) : Ev (tCB rAbs (tCons te tNil)) σ H (iv n) := fun H1 e1 Q q => h H1 e1 _ fun H2 e2 => ⟨i, rfl, by
  have := q H2 e2
  have z : (V.int (if i < 0 then -i else i)) = iv n := by
    unfold iv
    congr 1
    by_cases h : i < 0
    · rw [if_pos h]; omega
    · rw [if_neg h]; omega
  rw [z]
  exact this⟩
end
end Coin

namespace Coin
open PySem PySem.Spec PyProof.Rows L2 Evl
section
variable {K : PySem.W.Frag} {σ : L2.St} {H H' : Hp} {ta tb te : TE} {t : TT} {ts : TA} {v : V} {D : Ends} {tz : TS}
/-- (c,) * k -/
theorem est_rep1 {c k : Nat} (h : EvSt ta σ H (ivs [c])) (hk : Ev tb σ H (iv k)) (h1 : 1 ≤ k) (h2 : k ≤ 1000) : EvSt (tOp (rRepX K) ta tb) σ H (ivs (List.replicate k c)) := fun H1 e Q q =>
  h H1 e _ fun a H2 e2 ha => hk H2 (e.trans e2) _ fun H3 e3 => ⟨a, k, ivs [c], rfl, rfl, st_of (e3 _ _ ha), by simp [ivs], by omega, by omega, by show 1 ≤ 1000; decide,
    fun z => (by
      have : k = 1 := by omega
      subst this
      exact q a H3 (e2.trans e3) (e3 _ _ ha)), fun z p hp => q p _ ((e2.trans e3).trans (Ex.new hp)) (by
      rw [upd_same]
      congr 2
      show (List.replicate (k : Int).toNat [iv c]).flatten = _
      rw [Int.toNat_natCast]
      have : ∀ n : Nat, (List.replicate n [iv c]).flatten = ivs (List.replicate n c) := fun n => by
        induction n with
        | zero => rfl
        | succ n ih => rw [List.replicate_succ, List.flatten_cons, ih, List.replicate_succ]; rfl
      exact this k)⟩
/-- [c] * k -/
theorem el_rep1 {c k : Nat} (h : EvHl ta σ H (ivs [c])) (hk : Ev tb σ H (iv k)) (h2 : k ≤ 100000) : EvL (tOp rRep ta tb) σ H (ivs (List.replicate k c)) := fun H1 e Q q =>
  h H1 e _ fun a H2 e2 ha => hk H2 (e.trans e2) _ fun H3 e3 => ⟨a, k, ivs [c], rfl, rfl, e3 _ _ ha, by omega, by omega, sz_of (by rw [Int.toNat_natCast]; show 1 * k ≤ 100000; omega), fun p hp => q p _ (fresh_back (e2.trans e3) hp) ((e2.trans e3).trans (Ex.new hp)) (by
      rw [upd_same]
      congr 2
      show (List.replicate (k : Int).toNat [iv c]).flatten = _
      rw [Int.toNat_natCast]
      have : ∀ n : Nat, (List.replicate n [iv c]).flatten = ivs (List.replicate n c) := fun n => by
        induction n with
        | zero => rfl
        | succ n ih => rw [List.replicate_succ, List.flatten_cons, ih, List.replicate_succ]; rfl
      exact this k)⟩
theorem ev_ifE {b : Bool} (ht : EvT t σ H b) (ha : b = true → Ev ta σ H v) (hb : b = false → Ev tb σ H v) : Ev (tIf t ta tb) σ H v := fun H1 e Q q => ht H1 e _ fun H2 e2 => by
  show if b = true then _ else _
  cases b with
  | true => rw [if_pos rfl]; exact ha rfl H2 (e.trans e2) Q fun H3 e3 => q H3 (e2.trans e3)
  | false => rw [if_neg Bool.false_ne_true]; exact hb rfl H2 (e.trans e2) Q fun H3 e3 => q H3 (e2.trans e3)
theorem elcR {sp : Sp} {E : XK} {φ : List V → Hp → Prop} {xs : List V} (h : EvAr ts σ H φ) (hs : ∀ vs H1, Ex H H1 → φ vs H1 → SpL sp vs H1 xs) : EvL (tCall sp [] E ts) σ H xs := fun H1 e Q q => h H1 e _ fun vs H2 e2 hv => by
  rw [List.append_nil]
  exact hs vs H2 (e.trans e2) hv H2 (Ex.refl _) Q (fun l H3 nl e3 hl => q l H3 (fresh_back e2 nl) (e2.trans e3) hl) E
theorem evcR {sp : Sp} {E : XK} {φ : List V → Hp → Prop} (h : EvAr ts σ H φ) (hs : ∀ vs H1, Ex H H1 → φ vs H1 → SpV sp vs H1 v) : Ev (tCall sp [] E ts) σ H v := fun H1 e Q q => h H1 e _ fun vs H2 e2 hv => by
  rw [List.append_nil]
  exact hs vs H2 (e.trans e2) hv H2 (Ex.refl _) Q (fun H3 e3 => q H3 (e2.trans e3)) E
theorem ercR {sp : Sp} {E : XK} {φ : List V → Hp → Prop} {ψ : V → Hp → Prop} (h : EvAr ts σ H φ) (hs : ∀ vs H1, Ex H H1 → φ vs H1 → SpR sp vs H1 ψ) : EvR (tCall sp [] E ts) σ H ψ := fun H1 e Q q => h H1 e _ fun vs H2 e2 hv => by
  rw [List.append_nil]
  exact hs vs H2 (e.trans e2) hv H2 (Ex.refl _) Q (fun v H3 e3 hy => q v H3 (e2.trans e3) hy) E
theorem er_d {φ : V → Hp → Prop} {d : PyData} (h : EvR te σ H φ) (i : ∀ v H1, φ v H1 → Dp K H1 v d) : EvD K te σ H d := fun H1 e Q q => h H1 e Q fun v H2 e2 hv => q v H2 e2 (i v H2 hv)
end
/-! ### one coin -/
theorem fw_one (n : Nat) : fw [1] n = n := by
  have h : ∀ k m, Pay [1] k m → k = m := fun k m p => by
    induction p with
    | zero => rfl
    | step hc _ ih => have := List.mem_singleton.mp hc; omega
  exact h _ _ (fw_pay (List.mem_singleton.mpr rfl) n)
theorem all_one : ∀ {l : List Nat}, (∀ c ∈ l, c ∈ [1]) → l = List.replicate l.sum 1
  | [], _ => rfl
  | a :: r, h => by
    have ha := List.mem_singleton.mp (h a List.mem_cons_self)
    have := all_one fun c hc => h c (List.mem_cons_of_mem _ hc)
    subst ha
    rw [List.sum_cons, Nat.add_comm, List.replicate_succ, ← this]
theorem sys_one : Sys [1] := ⟨rfl, by decide⟩
theorem good_one : Good [1] := ⟨sys_one, by decide, by decide⟩
theorem dot_zeros : ∀ (n : Nat) (cs : List Nat), dot (List.replicate n 0) cs = 0
  | 0, _ => by simp [dot]
  | n + 1, [] => by simp [List.replicate_succ, dot]
  | n + 1, c :: cs => by rw [List.replicate_succ]; simp [dot, dot_zeros n cs]
end Coin

namespace Coin
open PySem PySem.Spec PyProof.Rows L2 Evl TL
/-! ### exceptions raised where nothing is handled: a def called in a try whose suite raises -/
structure HsN (P : Program) (w : World) (K : PySem.W.Frag) (mg : Str → Option Value) (base : Heap) (k : Nat) (x : Str) (sp : Sp) : Prop where
  ex : ∃ (f : Addr) (fd : FuncData) (ps : List Str), FnOk P w K mg base (L2N.CX P w) k f fd ps sp ∧ mg x = some (.ref f) ∧ PySem.W.keepIn K (.ref f) = true ∧ Binds K fd ps []
section
variable {X : Cx} {k j : Nat} {x : Str} {sp : Sp} {t : TA} {p pos : Pos} {e : Expr} {es : List Expr}
theorem pe_hN {E : L2.St → XK} (c : HsN X.prog X.w X.K X.mg X.base k x sp) (hr : Room j X.A) (hk : k ≤ j) (hg : Gl X x) (hx : ∀ σ, PassesAt (L2N.CX X.prog X.w) X σ (E σ)) (ha : PA X (e :: es) t)
    (hdb : (x == ("__debug__" : Str)) = false := by decide) (he : starEach (e :: es) X.env = (false, eval e X.env) :: starEach es X.env := by rfl) (hpl : (backTo pos (starEach es X.env)).any (·.1) = false := by rfl) :
    PE X (.Call (.Name x p) (e :: es) [] pos) (tCallS sp E t) := by
  obtain ⟨f, fd, ps, F, hm, kp, b⟩ := c.ex
  exact pe_callS F (hr.mono hk) hg hm kp b hx ha hdb he hpl
theorem okN {P : Program} {w : World} {K : PySem.W.Frag} {mg : Str → Option Value} {base : Heap} {x qual : Str} {st : Stmt} {f : Addr} {fd : FuncData} {N ps : List Str} {k : Nat} {sp : Sp} (F : Fun K x qual st f fd) (S : FnScope N ps (defScope st)) (len : ∀ vs H Q E, sp vs H Q E → vs.length = ps.length)
    (hbody : ∀ (cdv : Value) (A : Around) (outer : List Env) (s : Shared) (H : Hp) (vs : List V) (Q : VK) (E : XK), Room k (A.deeper (envOfC qual (defScope st) s.heap.objs.size f cdv)) → sp vs H Q E →
      ∃ t, PSs (cxOf (L2N.CX P w) P w K mg base N qual (defScope st) f cdv A outer s H E) (defBody st) t ∧ t { nx := fun _ H' => Q .non H', rt := Q } (start N vs) H) : FnOk P w K mg base (L2N.CX P w) (k + 1) f fd ps sp := by
  obtain ⟨oc, od, kV, doc, pm, an, cdv, ct, osl, rfl, lk, hcd⟩ := F.ex
  exact fn_of lk hcd S len fun A outer s H vs Q E hr hsp => hbody cdv A outer s H vs Q E hr hsp
end
/-! ### rules of texts with the written part by name -/
def rJoin (K : PySem.W.Frag) : V → List V → Hp → VK → Prop := fun x xs H Q => ∃ a p, ∃ ys : List Str, x = .str a ∧ xs = [.ref p] ∧ (SqL K H p (ys.map V.str) ∨ SqT K H p (ys.map V.str)) ∧ (ys.map (·.length)).sum + ys.length * a.length ≤ 16777216 ∧ Q (.str (Txt.join a ys)) H
theorem pe_joinK {X : Cx} {o e : Expr} {to te : TE} (K : PySem.W.Frag) {apos pos : Pos} (ho : PE X o to) (he : PE X e te) (h : X.K = K := by rfl) (hs : starEach [e] X.env = [(false, eval e X.env)] := by rfl) (hbase : attributeBase o "join" X.env (eval o X.env) = eval o X.env := by rfl) (hline : (apos.endLine == pos.line) = true := by rfl) :
    PE X (.Call (.Attribute o "join" apos) [e] [] pos) (tM1 (rJoin K) to te) := h ▸ pe_join ho he hs hbase hline
section
variable {K : PySem.W.Frag} {σ : L2.St} {H H' : Hp} {ta tb te tl : TE} {t : TT} {D : Ends} {tz : TS}
theorem ev_join {a : Str} {ys : List Str} (hs : Ev ta σ H (.str a)) (h : EvSl K te σ H (ys.map V.str)) (hz : (ys.map (·.length)).sum + ys.length * a.length ≤ 16777216) : Ev (tM1 (rJoin K) ta te) σ H (.str (Txt.join a ys)) := fun H1 e Q q =>
  hs H1 e _ fun H2 e2 => ⟨⟨a, rfl⟩, h H2 (e.trans e2) _ fun p H3 e3 hp => ⟨a, p, ys, rfl, rfl, .inl hp, hz, q H3 (e2.trans e3)⟩⟩
theorem el_split {a b : Str} (ha : Ev ta σ H (.str a)) (hb : Ev tb σ H (.str b)) (hb0 : (b.length == 0) = false) (hz : a.length ≤ 1000) :
    EvL (tM1 (fun x xs H Q => ∃ a b, x = .str a ∧ xs = [.str b] ∧ (b.length == 0) = false ∧ a.length + 2 ≤ sizeLine ∧ rNewStrs (Txt.split a b) H Q) ta tb) σ H ((Txt.split a b).map V.str) := fun H1 e Q q =>
  ha H1 e _ fun H2 e2 => ⟨⟨a, rfl⟩, hb H2 (e.trans e2) _ fun H3 e3 => ⟨a, b, rfl, rfl, hb0, sz_of (by omega), fun p hp => q p _ (fresh_back (e2.trans e3) hp) ((e2.trans e3).trans (Ex.new hp)) upd_same⟩⟩
/-- [c for c in text if ..] -/
theorem el_strF {z : Str} {j : Nat} {vs : List Nat} (p : Nat → Bool) (h : Ev te σ H (.str z)) (hz : (TL.tl z).length ≤ 40000) (hw : ∀ x, wipe ((wipe σ vs).set j (some x)) vs = wipe σ vs) (hj : ∀ x, ((wipe σ vs).set j (some x))[j]? = some (some x))
    (ht : ∀ c H1, Ex H H1 → EvT t ((wipe σ vs).set j (some (.str ⟨#[c]⟩))) H1 (p c)) :
    EvL (tLc (iStr te) (gName j) t (tVar j) vs) σ H (((TL.tl z).filter p).map fun c => V.str ⟨#[c]⟩) := fun H0 e Q q => h H0 e _ fun H1 e1 => ⟨z, rfl, fun Dl hD => by
  have hsz : z.cps.size = (TL.tl z).length := (Array.length_toList ..).symm
  refine ⟨fun k m H' => m = (TL.tl z).length - k ∧ k ≤ (TL.tl z).length ∧ Ex H1 H' ∧ H' Dl = some (.lst ((((TL.tl z).take k).filter p).map fun c => V.str ⟨#[c]⟩)), ⟨_, rfl, Nat.zero_le _, Ex.new hD, upd_same⟩, fun k m H' hW => ?_⟩
  obtain ⟨rfl, hk, eH, hq⟩ := hW
  by_cases hlt : k < (TL.tl z).length
  · refine .inr ⟨(show k < z.cps.size by omega), fun H2 => Ex H1 H2 ∧ H2 Dl = some (.lst ((((TL.tl z).take (k + 1)).filter p).map fun c => V.str ⟨#[c]⟩)), fun H2 hN => ⟨(TL.tl z).length - (k + 1), by omega, rfl, hlt, hN.1, hN.2⟩, fun v H2 hv => ?_⟩
    obtain ⟨rfl, c, hc, rfl⟩ := hv
    have hc : (TL.tl z)[k]? = some c := (Array.getElem?_toList ..).trans hc
    refine ⟨hw _, ?_⟩
    refine ht c H2 ((e.trans e1).trans eH) H2 (Ex.refl _) _ fun H3 e3 => ?_
    cases hp : p c with
    | true =>
      rw [if_pos rfl]
      refine ⟨_, hj _, _, e3 _ _ hq, sz_lt (by
        rw [List.length_map]
        have := filter_len p (TL.tl z) k
        omega), Ex.mut (eH.trans e3) hD, ?_⟩
      rw [upd_same, filter_take hc, if_pos hp, List.map_append]
      rfl
    | false =>
      rw [if_neg Bool.false_ne_true]
      refine ⟨eH.trans e3, ?_⟩
      rw [filter_take hc, if_neg (by rw [hp]; exact Bool.false_ne_true)]
      exact e3 _ _ hq
  · have ek : k = (TL.tl z).length := by omega
    subst ek
    refine .inl ⟨(show z.cps.size ≤ _ by omega), ?_⟩
    rw [List.take_length] at hq
    exact q Dl H' (fresh_back e1 hD) (e1.trans eH) hq⟩
/-- all of a tuple of numbers -/
theorem el_tupY {cs : List Nat} {j : Nat} {vs : List Nat} (g : Nat → V) (h : EvSt tl σ H (ivs cs)) (hz : cs.length ≤ 40000) (hw : ∀ x, wipe ((wipe σ vs).set j (some x)) vs = wipe σ vs)
    (he : ∀ c H1, Ex H H1 → c ∈ cs → Ev te ((wipe σ vs).set j (some (iv c))) H1 (g c)) : EvL (tLc (iTup K tl) (gName j) tYes te vs) σ H (cs.map g) := by
  have key := el_tup (K := K) (σ := σ) (H := H) (tl := tl) (te := te) (t := tYes) (cs := cs) (u := iv) (j := j) (vs := vs) (fun _ => true) g h hz hw (fun c H1 e1 _ => et_yes) (fun c H1 e1 hc _ => he c H1 e1 hc)
  rw [filter_yes] at key
  exact key
theorem rv_eqS {a b : Str} : RV rEq (.str a) (.str b) H (.bl (decide (a = b))) := fun H1 e Q q => ⟨rfl, by
  have := q H1 (Ex.refl _)
  rwa [dec_eq (show a = b ↔ V.str a = V.str b from ⟨fun h => by rw [h], fun h => V.str.inj h⟩)] at this⟩
theorem rv_addS {a b : Str} (h : a.length + b.length ≤ 100000) : RV (fun x y H Q => ∃ i j, x = .str i ∧ y = .str j ∧ i.length + j.length ≤ sizeLine ∧ Q (.str (i ++ j)) H) (.str a) (.str b) H (.str (a ++ b)) := fun H1 e Q q => ⟨a, b, rfl, rfl, sz_of h, q H1 (Ex.refl _)⟩
theorem ev_slS {z : Str} {lo hi : Option Int} {t1 t2 : TO} (h : Ev te σ H (.str z)) (h1 : EvO t1 σ H lo) (h2 : EvO t2 σ H hi) (hz : z.length ≤ 100000) : Ev (tSl rSlS te t1 t2) σ H (.str (cutS z lo hi)) := fun H1 e Q q => h H1 e _ fun H2 e2 =>
  h1 H2 (e.trans e2) _ fun H3 e3 => h2 H3 ((e.trans e2).trans e3) _ fun H4 e4 => ⟨z, rfl, sz_of hz, q H4 ((e2.trans e3).trans e4)⟩
theorem ev_chainNN {a b c : Nat} (ha : Ev ta σ H (iv a)) (hb : Ev tb σ H (iv b)) (hc : Ev te σ H (iv c)) : Ev (tChain (rI0 fun i j => .bl (decide (i ≤ j))) (rI0 fun i j => .bl (decide (i ≤ j))) ta tb te) σ H (.bl (decide (a ≤ b) && decide (b ≤ c))) := by
  rw [dec_eq (show a ≤ b ↔ (a : Int) ≤ (b : Int) by omega), dec_eq (show b ≤ c ↔ (b : Int) ≤ (c : Int) by omega)]
  exact ev_chain (f := fun i j => decide (i ≤ j)) (g := fun i j => decide (i ≤ j)) ha hb hc
theorem ev_lenS {z : Str} (h : Ev te σ H (.str z)) (hz : z.length ≤ 100000) : Ev (tCB (fun xs H Q => ∃ z, xs = [.str z] ∧ z.length ≤ sizeLine ∧ Q (.int z.length) H) (tCons te tNil)) σ H (iv z.length) := ev_cb (ea_cons h ea_nil) fun H1 e Q q => ⟨z, rfl, sz_of hz, q H1 (Ex.refl _)⟩
/-- str(n) -/
theorem ev_strN {n : Nat} (h : Ev te σ H (iv n)) (hn : n ≤ 1000) : Ev (tCB (fun xs H Q => ∃ i, xs = [.int i] ∧ i.natAbs.log2 < 1920 ∧ Q (.str (toString i)) H) (tCons te tNil)) σ H (.str (numS n)) := ev_cb (ea_cons h ea_nil) fun H1 e Q q => ⟨(n : Int), rfl, by
  have := Nat.log2_le_self n
  show (n : Int).natAbs.log2 < 1920
  rw [Int.natAbs_natCast]
  omega, q H1 (Ex.refl _)⟩
/-- int(word) -/
theorem ev_intW {z : Str} (h : Ev te σ H (.str z)) (hz : wordOk (TL.tl z) = true) : Ev (tCB (fun xs H Q => ∃ a n, xs = [.str a] ∧ PySem.intText? a = some n ∧ a.length ≤ 640 ∧ Q (.int n) H) (tCons te tNil)) σ H (iv (numOf (TL.tl z))) := ev_cb (ea_cons h ea_nil) fun H1 e Q q => by
  obtain ⟨⟨h1, h4⟩, h2, h3⟩ := wordOk_iff.mp hz
  have hl := len_tl z
  refine ⟨z, (numOf (TL.tl z) : Nat), rfl, ?_, by omega, q H1 (Ex.refl _)⟩
  unfold numOf
  rw [if_pos hz]
  exact intText_digits h3 (fun z' => by have : (TL.tl z).length = 0 := by rw [show TL.tl z = [] from z']; rfl
                                        omega) (by omega)
/-- sorted(set(xs)) -/
theorem el_sortset {w : World} {ns : List Nat} (h : EvSl K te σ H (ivs ns)) (hl : ns.length < 60) : EvL (tCB (rSortedSet w) (tCons (tCB (rSetL K w) (tCons te tNil)) tNil)) σ H (ivs (ssort ns)) := fun H1 e Q q =>
  h H1 e _ fun l H2 e2 hl2 => ⟨l, ns.map fun n : Nat => (n : Int), rfl, by rw [← ivs_int]; exact hl2, by rw [List.length_map]; exact Nat.lt_of_lt_of_le (Nat.succ_lt_succ hl) (by decide), fun a c ha hc =>
    ⟨a, _, c, rfl, upd_same, by rw [List.length_map] at hc; omega, fun ns' p hp hm hlen hp0 => by
      obtain ⟨cs, rfl⟩ := nat_of_int (ns := ns') fun x hx => by
        have := of_decide_eq_true ((hm x).mp hx)
        obtain ⟨n, _, rfl⟩ := List.mem_map.mp this
        omega
      have e3 : Ex H2 (upd H2 a (SetO w a (fun j => decide (j ∈ ns.map fun n : Nat => (n : Int))) c)) := Ex.new ha
      have hcs : cs = ssort ns := rise_same ((List.pairwise_map.mp hp).imp fun h => by omega) (ssort_rise ns) fun x => by
        have := hm (x : Int)
        rw [List.mem_map, decide_eq_true_iff, List.mem_map] at this
        rw [mem_ssort]
        exact ⟨fun hx => by
          obtain ⟨y, hy, e⟩ := this.mp ⟨x, hx, rfl⟩
          have : y = x := by omega
          exact this ▸ hy, fun hx => by
          obtain ⟨y, hy, e⟩ := this.mpr ⟨x, hx, rfl⟩
          have : y = x := by omega
          exact this ▸ hy⟩
      exact q p _ (fresh_back (e2.trans e3) hp0) (e2.trans (e3.trans (Ex.new hp0))) (by rw [upd_same, ← hcs, ivs_int])⟩⟩
end
/-- return f(..), f may raise -/
theorem s_retCall {σ : L2.St} {H : Hp} {D : Ends} {sp : Sp} {E : XK} {ts : TA} {φ : List V → Hp → Prop} (h : EvAr ts σ H φ) (k : ∀ vs H1, Ex H H1 → φ vs H1 → sp vs H1 D.rt E) : tRet (tCall sp [] E ts) D σ H := h H (Ex.refl _) _ fun vs H1 e1 hv => by
  rw [List.append_nil]
  exact k vs H1 e1 hv
/-! ### isinstance(x, str) -/
theorem rc_isiS {K : PySem.W.Frag} {H : Hp} {z : Str} : RC (rIsi K) [.str z, .ty "str"] H (.bl true) := rc_isi (t := "str") (fun H1 _ => .base (.str z)) (kit_ty (r := true) (by decide +kernel))
theorem rc_isiSN {K : PySem.W.Frag} {H : Hp} {x : V} (h : Tg H x) (n : ∀ z, x ≠ .str z) : RC (rIsi K) [x, .ty "str"] H (.bl false) := by
  cases h with
  | tup e => exact rc_isi (t := "tuple") (fun H1 e1 => .base (.tup (e1 _ _ e))) (kit_ty (r := false) (by decide +kernel))
  | lst e => exact rc_isi (t := "list") (fun H1 e1 => .base (.lst (e1 _ _ e))) (kit_ty (r := false) (by decide +kernel))
  | non => exact rc_isi (t := "NoneType") (fun H1 _ => .base .non) (kit_ty (r := false) (by decide +kernel))
  | bl b => exact rc_isi (t := "bool") (fun H1 _ => .base (.bl b)) (kit_ty (r := false) (by decide +kernel))
  | int i => exact rc_isi (t := "int") (fun H1 _ => .base (.int i)) (kit_ty (r := false) (by decide +kernel))
  | str x => exact absurd rfl (n x)
/-! ### systems among tuples of numbers -/
theorem okRest_of : ∀ (p : Nat) (r : List Nat), okRest (p : Int) (ivs r) = true → (∀ c ∈ r, p < c) ∧ r.Pairwise (· < ·) ∧ ∀ c ∈ r, c ≤ 200
  | _, [], _ => ⟨fun _ h => (by cases h), List.Pairwise.nil, fun _ h => (by cases h)⟩
  | p, c :: r, h => by
    have h : (decide ((p : Int) + 1 ≤ (c : Int)) && decide ((c : Int) ≤ 200) && okRest (c : Int) (ivs r)) = true := h
    rw [Bool.and_eq_true, Bool.and_eq_true, decide_eq_true_iff, decide_eq_true_iff] at h
    obtain ⟨⟨h1, h2⟩, h3⟩ := h
    obtain ⟨i1, i2, i3⟩ := okRest_of c r h3
    refine ⟨fun x hx => ?_, List.pairwise_cons.mpr ⟨i1, i2⟩, fun x hx => ?_⟩
    · rcases List.mem_cons.mp hx with z | z
      · omega
      · have := i1 x z
        omega
    · rcases List.mem_cons.mp hx with z | z
      · omega
      · exact i3 x z
theorem good_goodB {cs : List Nat} : goodB cs = true ↔ Good cs := goodB_iff.trans ⟨fun ⟨a, b, c⟩ => ⟨a, b, c⟩, fun g => ⟨g.toSys, g.le, g.len⟩⟩
theorem isSys_goodB (cs : List Nat) : isSys (ivs cs) = goodB cs := by
  cases h : goodB cs with
  | true => exact (good_goodB.mp h).isSys
  | false =>
    cases e : isSys (ivs cs) with
    | false => rfl
    | true =>
      exfalso
      cases cs with
      | nil => cases e
      | cons a r =>
        have e : (decide ((a : Int) = 1) && (decide ((ivs r).length ≤ 7) && okRest (a : Int) (ivs r))) = true := e
        rw [Bool.and_eq_true, Bool.and_eq_true, decide_eq_true_iff, decide_eq_true_iff, ivs_len] at e
        obtain ⟨e1, e2, e3⟩ := e
        obtain ⟨o1, o2, o3⟩ := okRest_of a r e3
        have e1 : a = 1 := by omega
        have : Good (a :: r) := ⟨⟨by rw [e1]; rfl, List.pairwise_cons.mpr ⟨o1, o2⟩⟩, fun c hc => by
          rcases List.mem_cons.mp hc with z | z
          · omega
          · exact o3 c z, by rw [List.length_cons]; omega⟩
        rw [good_goodB.mpr this] at h
        cases h
/-! ### figures -/
def figs : Str := Str.ofString "0123456789"
theorem tl_figs : TL.tl figs = [48, 49, 50, 51, 52, 53, 54, 55, 56, 57] := by decide +kernel
theorem mem_figs (c : Nat) : decide (c ∈ figs.cps.toList) = fig c := by
  show decide (c ∈ TL.tl figs) = fig c
  rw [tl_figs]
  unfold fig
  rw [Bool.eq_iff_iff, decide_eq_true_iff, Bool.and_eq_true, decide_eq_true_iff, decide_eq_true_iff]
  simp only [List.mem_cons, List.not_mem_nil, or_false]
  omega
theorem rv_ninFig {H : Hp} {c : Nat} : RV (fun x y H Q => ∃ (c : Nat) (z : Str), x = .str ⟨#[c]⟩ ∧ y = .str z ∧ Q (.bl (!decide (c ∈ z.cps.toList))) H) (.str ⟨#[c]⟩) (.str figs) H (.bl (!fig c)) := fun H1 e Q q => ⟨c, figs, rfl, rfl, by rw [mem_figs]; exact q H1 (Ex.refl _)⟩
def nought : Str := Str.ofString "0"
theorem sign_nought (c : Nat) : decide ((⟨#[c]⟩ : Str) = nought) = decide (c = 48) := by
  refine dec_eq ⟨fun h => ?_, fun h => ?_⟩
  · have := congrArg TL.tl h
    have e : TL.tl nought = [48] := by decide +kernel
    rw [e] at this
    have : [c] = [48] := this
    injection this
  · subst h
    exact ext_tl (by decide +kernel)
theorem filter_emp {α β : Type} (p : α → Bool) (f : α → β) (l : List α) : (!((l.filter fun x => !p x).map f).isEmpty) = !l.all p := by
  congr 1
  rw [Bool.eq_iff_iff, List.isEmpty_iff, List.map_eq_nil_iff, List.filter_eq_nil_iff, List.all_eq_true]
  simp only [Bool.not_eq_true', Bool.not_eq_false]
theorem sum_len3 : ∀ {ys : List Str}, (∀ y ∈ ys, y.length ≤ 3) → (ys.map (·.length)).sum ≤ 3 * ys.length
  | [], _ => Nat.le_refl 0
  | y :: r, h => by
    have h1 := h y List.mem_cons_self
    have h2 := sum_len3 fun z hz => h z (List.mem_cons_of_mem _ hz)
    rw [List.map_cons, List.sum_cons, List.length_cons]
    omega
theorem join_ok {cs : List Nat} (g : Good cs) : ((cs.reverse.map numS).map (·.length)).sum + (cs.reverse.map numS).length * slash.length ≤ 16777216 := by
  have h1 := sum_len3 (ys := cs.reverse.map numS) fun y hy => by
    obtain ⟨n, hn, rfl⟩ := List.mem_map.mp hy
    have := g.le n (List.mem_reverse.mp hn)
    exact numS_len (by omega)
  have h2 : slash.length = 1 := by decide +kernel
  have h3 := g.len
  rw [List.length_map, List.length_reverse] at *
  rw [h2]
  omega
/-- the signs behind the first one -/
theorem tl_cut1 (z : Str) : TL.tl (cutS z (some ((1 : Nat) : Int)) none) = (TL.tl z).drop 1 := by
  unfold cutS
  show ((TL.tl z).drop (HT.sIx z.length 0 (some ((1 : Nat) : Int)))).take (HT.sIx z.length z.length none - HT.sIx z.length 0 (some ((1 : Nat) : Int))) = _
  rw [HT.sIx_nat, HT.sIx_none]
  have hl := len_tl z
  by_cases h : 1 ≤ z.length
  · rw [Nat.min_eq_left h, List.take_of_length_le (by rw [List.length_drop]; omega)]
  · rw [List.drop_of_length_le (show (TL.tl z).length ≤ 1 by omega), List.drop_of_length_le (by omega), List.take_nil]
end Coin

namespace Coin
open PySem PySem.Spec PyProof.Rows L2 Evl
def topS (i : Nat) : Stmt := PySem.Challenge.pw_tillcoins_k01_systems.main.body.getD i (.Pass ⟨0, 0, 0, 0⟩)
abbrev s_is_within : Stmt := topS 10
abbrev s_is_system : Stmt := topS 11
abbrev s_checked : Stmt := topS 12
abbrev s_beginnings : Stmt := topS 13
abbrev s_look : Stmt := topS 16
abbrev s_fewest_up_to : Stmt := topS 17
abbrev s_fewest : Stmt := topS 18
abbrev s_taken : Stmt := topS 19
abbrev s_by_greatest : Stmt := topS 20
abbrev s_by_fewest : Stmt := topS 21
abbrev s_sum_of : Stmt := topS 22
abbrev s_count_ways : Stmt := topS 23
abbrev s_excess : Stmt := topS 24
abbrev s_first_fault : Stmt := topS 26
abbrev s_is_orderly : Stmt := topS 27
abbrev s_why_not : Stmt := topS 28
abbrev s_orderly_beginnings : Stmt := topS 29
abbrev s_all_faults : Stmt := topS 30
abbrev s_fits : Stmt := topS 32
abbrev s_look_orderly : Stmt := topS 33
abbrev s_may_follow : Stmt := topS 34
abbrev s_followers : Stmt := topS 35
abbrev s_safe_from : Stmt := topS 36
abbrev s_to_and_fro : Stmt := topS 39
abbrev s_look_handed : Stmt := topS 40
abbrev s_handed : Stmt := topS 41
abbrev s_shown : Stmt := topS 43
abbrev s__law_cell : Stmt := topS 45
abbrev s__law_mix : Stmt := topS 46
abbrev s__law_system : Stmt := topS 47
abbrev s__law_spoilt : Stmt := topS 48
abbrev s__law_deed : Stmt := topS 49
abbrev s__law_more : Stmt := topS 50
abbrev s__law_told : Stmt := topS 51
abbrev s_law : Stmt := topS 52
section
variable {P : Program} {w : World} {K : PySem.W.Frag} {mg : Str → Option Value} {base : Heap}
/-! ### is_within -/
theorem sc_is_within : FnScope ["thing", "low", "high"] ["thing", "low", "high"] (defScope s_is_within) := ⟨rfl, rfl, rfl, by decide +kernel, rfl, by decide +kernel, by decide +kernel⟩
def within (x : V) (lo hi : Int) : Bool := match x with
  | .int i => decide (lo ≤ i) && decide (i ≤ hi)
  | _ => false
theorem within_iv {n lo hi : Nat} (h1 : lo ≤ n) (h2 : n ≤ hi) : within (iv n) (lo : Int) (hi : Int) = true := by
  show (decide ((lo : Int) ≤ (n : Int)) && decide ((n : Int) ≤ (hi : Int))) = true
  rw [decide_eq_true (by omega), decide_eq_true (by omega)]
  rfl
theorem within_le {n : Nat} {hi : Nat} (h : within (iv n) 0 (hi : Int) = true) : n ≤ hi := by
  unfold within iv at h
  simp only [Bool.and_eq_true, decide_eq_true_eq] at h
  omega
def sp_is_within : Sp := fun vs H Q _ => ∃ x lo hi, vs = [x, .int lo, .int hi] ∧ Tg H x ∧ ∀ H', Ex H H' → Q (.bl (within x lo hi)) H'
theorem v_is_within {H : Hp} {x : V} {lo hi : Int} {b : Bool} (h : Tg H x) (e : within x lo hi = b) : SpV sp_is_within [x, .int lo, .int hi] H (.bl b) := fun H1 e1 Q q E => ⟨x, lo, hi, rfl, h.ex e1, fun H2 e2 => e ▸ q H2 e2⟩
theorem ok_is_within {f : Addr} {fd : FuncData} (F : Fun K "is_within" "is_within" s_is_within f fd) (B : Bi mg) : FnOk P w K mg base (L2.CX P w) 1 f fd ["thing", "low", "high"] sp_is_within := by
  refine F.okX sc_is_within (fun vs H Q E h => ?_) (fun cdv A outer s H vs Q E hr h => ?_)
  · obtain ⟨x, lo, hi, rfl, _⟩ := h
    rfl
  · obtain ⟨x, lo, hi, rfl, hx, q⟩ := h
    have nd := sc_is_within.nd
    refine ⟨_, (pss_one (ps_ret (pe_and (pe_callB (isiK K) (by rfl) B.isinstance (by decide +kernel) (pa_cons (pv 0) (pa_cons (pe_bltn (by rfl) B.int (by decide +kernel) (show RelV (.ty "int") _ from rfl)) pa_nil))) (pe_and (pe_not (pe_callB (isiK K) (by rfl) B.isinstance (by decide +kernel) (pa_cons (pv 0) (pa_cons (pe_bltn (by rfl) B.bool (by decide +kernel) (show RelV (.ty "bool") _ from rfl)) pa_nil)))) (pe_one (pe_chain op_le op_le (pv 1) (pv 0) (pv 2))))))), ?_⟩
    refine s_ret (v := .bl (isI x && (!isB x && within x lo hi))) (ev_andV (ev_cb (ea_cons (ev_var rfl) (ea_cons ev_c ea_nil)) (rc_isiI hx)) fun h1 => ev_andV (ev_notV (ev_cb (ea_cons (ev_var rfl) (ea_cons ev_c ea_nil)) (rc_isiB hx))) fun h2 => ?_) fun H1 e1 => ?_
    · cases x with
      | int i => exact ev_chain (ev_var rfl) (ev_var rfl) (ev_var rfl)
      | _ => simp [isI, isB] at h1 h2
    · have e : (isI x && (!isB x && within x lo hi)) = within x lo hi := by cases x <;> simp [isI, isB, within]
      rw [e]
      exact q H1 e1

/-! ### is_system -/
theorem sc_is_system : FnScope ["thing", "at"] ["thing"] (defScope s_is_system) := ⟨rfl, rfl, rfl, by decide +kernel, rfl, by decide +kernel, by decide +kernel⟩
def sp_is_system : Sp := fun vs H Q _ => ∃ x b, vs = [x] ∧ Sv H x b ∧ ∀ H', Ex H H' → Q (.bl b) H'
theorem v_is_system {H : Hp} {x : V} {b : Bool} (h : Sv H x b) : SpV sp_is_system [x] H (.bl b) := fun H1 e1 Q q E => ⟨x, b, rfl, h.ex e1, fun H2 e2 => q H2 e2⟩
theorem ok_is_system {f : Addr} {fd : FuncData} (F : Fun K "is_system" "is_system" s_is_system f fd) (B : Bi mg) (h_is_within : Hs P w K mg base 1 "is_within" sp_is_within) (c_MOST_COINS : Kc mg "MOST_COINS" 8) (c_MOST_COIN : Kc mg "MOST_COIN" 200) :
    FnOk P w K mg base (L2.CX P w) 2 f fd ["thing"] sp_is_system := by
  refine F.okX sc_is_system (fun vs H Q E h => ?_) (fun cdv A outer s H vs Q E hr h => ?_)
  · obtain ⟨x, b, rfl, _⟩ := h
    rfl
  · obtain ⟨x, b, rfl, hx, q⟩ := h
    have nd := sc_is_system.nd
    refine ⟨_, (pss_cons (ps_if (PW.pt (pw_or (pt_not (pt_val (pe_callB (isiK K) (by rfl) B.isinstance (by decide +kernel) (pa_cons (pv 0) (pa_cons (pe_bltn (by rfl) B.tuple (by decide +kernel) (show RelV (.ty "tuple") _ from rfl)) pa_nil))))) (pw_or1 (pt_not (pt_chain op_le op_le pe_int (pe_callB (lenK K) (by rfl) B.len (by decide +kernel) (pa_cons (pv 0) pa_nil)) (pe_kc (by rfl) c_MOST_COINS))))))
      (pss_one (ps_ret pe_bl)) pss_nil)
      (pss_cons (ps_if (pt_not (pt_val (pe_h h_is_within hr (by decide) (by rfl) passE (pa_cons (pe_ix (ixTK K) (pv 0) pe_int (fun _ _ => rfl)) (pa_cons pe_int (pa_cons pe_int pa_nil))))))
      (pss_one (ps_ret pe_bl)) pss_nil)
      (pss_cons (ps_for (passes_of rfl) rfl (pi_range2 (by rfl) B.range (pa_cons pe_int (pa_cons (pe_callB (lenK K) (by rfl) B.len (by decide +kernel) (pa_cons (pv 0) pa_nil)) pa_nil))) (pg_name (i := 1) nd rfl (Or.inl rfl))
      (pss_one (ps_if (pt_not (pt_val (pe_h h_is_within hr (by decide) (by rfl) passE (pa_cons (pe_ix (ixTK K) (pv 0) (pv 1) (fun _ _ => rfl)) (pa_cons (pe_op op_add (pe_ix (ixTK K) (pv 0) (pe_op op_sub (pv 1) pe_int) (fun _ _ => rfl)) pe_int) (pa_cons (pe_kc (by rfl) c_MOST_COIN) pa_nil))))))
      (pss_one (ps_ret pe_bl)) pss_nil)))
      (pss_one (ps_ret pe_bl))))), ?_⟩
    by_cases hT : ∃ a xs, x = .ref a ∧ H a = some (.tup xs)
    · obtain ⟨a, xs, rfl, ha⟩ := hT
      have hf : ∀ y ∈ xs, Tg H y := by
        cases hx with
        | tup e f _ => rw [ha] at e; cases e; exact f
        | lst e => rw [ha] at e; cases e
      have hb : b = isSys xs := by
        cases hx with
        | tup e f q => rw [ha] at e; cases e; exact q.symm
        | lst e => rw [ha] at e; cases e
      subst hb
      refine q_when (b := !true || !(decide ((1 : Int) ≤ (xs.length : Int)) && decide ((xs.length : Int) ≤ 8))) (et_or (et_not (et_B (ev_cb (ea_cons (ev_var rfl) (ea_cons ev_c ea_nil)) (rc_isiT ha)))) fun _ => et_not (et_test (ev_chain ev_c (ev_lenT (est_of (ev_var rfl) ha)) ev_c))) (fun h1 H1 e1 => ?_) (fun h1 H1 e1 => ?_)
      · refine s_ret ev_c fun H2 e2 => ?_
        have : isSys xs = false := by
          cases xs with
          | nil => rfl
          | cons y r =>
            rw [List.length_cons] at h1
            simp only [Bool.not_true, Bool.false_or, Bool.not_eq_true', Bool.and_eq_false_iff, decide_eq_false_iff_not] at h1
            have h2 : ¬ r.length ≤ 7 := by omega
            unfold isSys
            split
            · rename_i i r' hh
              cases hh
              rw [decide_eq_false h2, Bool.false_and, Bool.and_false]
            · rfl
        rw [this] at q
        exact q H2 (e1.trans e2)
      · simp only [Bool.not_true, Bool.false_or, Bool.not_eq_false', Bool.and_eq_true, decide_eq_true_eq] at h1
        obtain ⟨y, r, rfl⟩ : ∃ y r, xs = y :: r := by
          cases xs with
          | nil => simp at h1
          | cons y r => exact ⟨y, r, rfl⟩
        rw [List.length_cons] at h1
        have h7 : r.length ≤ 7 := by omega
        have ha1 := e1 _ _ ha
        have fy := hf y List.mem_cons_self
        refine q_when (b := !within y 1 1) (et_not (et_B (evc (ea_cons (ev_ixT (est_of (ev_var rfl) ha1) ev_c (atI_nat (j := 0) rfl)) (ea_cons ev_c (ea_cons ev_c ea_nil))) (v_is_within (fy.ex e1) rfl)))) (fun h2 H2 e2 => ?_) (fun h2 H2 e2 => ?_)
        · refine s_ret ev_c fun H3 e3 => ?_
          have : isSys (y :: r) = false := by
            cases y with
            | int i =>
              simp only [within, Bool.not_eq_true', Bool.and_eq_false_iff, decide_eq_false_iff_not] at h2
              have : ¬ i = 1 := by omega
              show (decide (i = 1) && _) = false
              rw [decide_eq_false this, Bool.false_and]
            | _ => rfl
          rw [this] at q
          exact q H3 ((e1.trans e2).trans e3)
        · have hy : y = .int 1 := by
            cases y with
            | int i =>
              simp only [within, Bool.not_eq_false', Bool.and_eq_true, decide_eq_true_eq] at h2
              rw [show i = 1 by omega]
            | _ => simp [within] at h2
          subst hy
          have hsys : isSys (.int 1 :: r) = okRest 1 r := by
            show (decide ((1 : Int) = 1) && (decide (r.length ≤ 7) && okRest 1 r)) = okRest 1 r
            rw [decide_eq_true rfl, decide_eq_true h7, Bool.true_and, Bool.true_and]
          rw [hsys] at q
          have e02 := e1.trans e2
          have ha2 := e02 _ _ ha
          refine q_forR2 (lo := 1) (n := ((r.length + 1 : Nat) : Int)) (ea_cons ev_c (ea_cons (ev_lenT (est_of (ev_var rfl) ha2)) ea_nil)) (by omega) (fun i σ' H' => Ex H H' ∧ ∃ u p, σ' = [some (.ref a), u] ∧ (.int 1 :: r)[i]? = some (.int p) ∧ okRest 1 r = okRest p (r.drop i)) (fun H3 e3 => ⟨e02.trans e3, _, 1, rfl, rfl, rfl⟩) (fun i σ' H' hi ⟨e3, u, p, hσ, hp, ho⟩ => ?_) (fun σ' H' ⟨e3, u, p, hσ, hp, ho⟩ => ?_)
          · subst hσ
            have hi' : i < r.length := by omega
            have hy := List.getElem?_eq_getElem hi'
            have hyr : (V.int 1 :: r)[i + 1]? = some r[i] := hy
            have ha3 := e3 _ _ ha
            have fz := (hf r[i] (List.mem_cons_of_mem _ (List.getElem_mem hi'))).ex e3
            have hd : r.drop i = r[i] :: r.drop (i + 1) := List.drop_eq_getElem_cons hi'
            refine s_when (b := !within r[i] (p + 1) 200) (et_not (et_B (evc (ea_cons (ev_ixT (est_of (ev_var rfl) ha3) (ev_var (v := .int (1 + (i : Int))) rfl) (by rw [show (1 : Int) + (i : Int) = ((i + 1 : Nat) : Int) by omega]; exact atI_nat hyr)) (ea_cons (ev_op (ev_ixT (est_of (ev_var rfl) ha3) (ev_op (ev_var (v := .int (1 + (i : Int))) rfl) ev_c rv_I0) (by rw [show (1 : Int) + (i : Int) - 1 = (i : Int) by omega]; exact atI_nat hp)) ev_c rv_I0) (ea_cons ev_c ea_nil))) (v_is_within fz rfl)))) (fun h3 H4 e4 => ?_) (fun h3 H4 e4 => ?_)
            · refine s_ret ev_c fun H5 e5 => ?_
              have : okRest 1 r = false := by
                rw [ho, hd]
                generalize hz : r[i] = z at h3
                cases z with
                | int k =>
                  show (within (.int k) (p + 1) 200 && okRest k (r.drop (i + 1))) = false
                  rw [Bool.not_eq_true'] at h3
                  rw [h3, Bool.false_and]
                | _ => rfl
              rw [this] at q
              exact q H5 ((e3.trans e4).trans e5)
            · refine ⟨e3.trans e4, some (.int (1 + (i : Int))), ?_⟩
              generalize hz : r[i] = z at h3
              cases z with
              | int k =>
                refine ⟨k, rfl, by rw [hyr, hz], ?_⟩
                rw [ho, hd, hz]
                show (within (.int k) (p + 1) 200 && okRest k (r.drop (i + 1))) = _
                rw [Bool.not_eq_false'] at h3
                rw [h3, Bool.true_and]
              | _ => simp [within] at h3
          · refine s_ret ev_c fun H4 e4 => ?_
            rw [show (((r.length + 1 : Nat) : Int) - 1).toNat = r.length by omega, List.drop_of_length_le (Nat.le_refl _)] at ho
            rw [ho] at q
            exact q H4 (e3.trans e4)
    · have hn : ∀ a xs, x = .ref a → H a ≠ some (.tup xs) := fun a xs e h => hT ⟨a, xs, e, h⟩
      have hb : b = false := by
        cases hx with
        | tup e f _ => exact absurd e (hn _ _ rfl)
        | _ => rfl
      subst hb
      refine q_when (b := true) (et_is (et_or (et_not (et_B (ev_cb (ea_cons (ev_var rfl) (ea_cons ev_c ea_nil)) (rc_isiN hx hn)))) (b := false) fun h => absurd h (by decide)) rfl) (fun _ H1 e1 => s_ret ev_c fun H2 e2 => q H2 (e1.trans e2)) fun h => absurd h (by decide)

/-! ### checked -/
theorem sc_checked : FnScope ["system"] ["system"] (defScope s_checked) := ⟨rfl, rfl, rfl, by decide +kernel, rfl, by decide +kernel, by decide +kernel⟩
def sp_checked (CS : Addr) : Sp := fun vs H Q E => ∃ x b, vs = [x] ∧ Sv H x b ∧ (b = true → ∀ H', Ex H H' → Q x H') ∧ (b = false → ∀ H', Ex H H' → E (.ref CS) none H')
theorem v_checked {CS : Addr} {H : Hp} {x : V} (h : Sv H x true) : SpV (sp_checked CS) [x] H x := fun H1 e1 Q q E => ⟨x, true, rfl, h.ex e1, fun _ H2 e2 => q H2 e2, fun z => (by cases z)⟩
theorem ok_checked {f : Addr} {fd : FuncData} {CS : Addr} (F : Fun K "checked" "checked" s_checked f fd) (h_is_system : Hs P w K mg base 2 "is_system" sp_is_system) (x_BadSystem : Ec K mg "BadSystem" CS) : FnOk P w K mg base (L2.CX P w) 3 f fd ["system"] (sp_checked CS) := by
  refine F.okX sc_checked (fun vs H Q E h => ?_) (fun cdv A outer s H vs Q E hr h => ?_)
  · obtain ⟨x, b, rfl, _⟩ := h
    rfl
  · obtain ⟨x, b, rfl, hx, q1, q2⟩ := h
    have nd := sc_checked.nd
    refine ⟨_, (pss_cons (ps_if (pt_not (pt_val (pe_h h_is_system hr (by decide) (by rfl) passE (pa_cons (pv 0) pa_nil))))
      (pss_one (ps_raise rfl (takes_of rfl rfl rfl rfl) (pmk_own PySem.F.excBase_ValueError x_BadSystem.x x_BadSystem.g x_BadSystem.k x_BadSystem.r (by rfl)))) pss_nil)
      (pss_one (ps_ret (pv 0)))), ?_⟩
    refine q_when (b := !b) (et_not (et_B (evc (ea_cons (ev_var rfl) ea_nil) (v_is_system hx)))) (fun h1 H1 e1 => ?_) (fun h1 H1 e1 => ?_)
    · exact q2 (by simpa using h1) H1 e1
    · exact s_ret (ev_var rfl) fun H2 e2 => q1 (by simpa using h1) H2 (e1.trans e2)

/-! ### beginnings -/
theorem sc_beginnings : FnScope ["system", "many"] ["system"] (defScope s_beginnings) := ⟨rfl, rfl, rfl, by decide +kernel, rfl, by decide +kernel, by decide +kernel⟩
def sp_beginnings (CS : Addr) : Sp := fun vs H Q E => ∃ x b, vs = [x] ∧ Sv H x b ∧ (b = true → ∃ a cs, x = .ref a ∧ H a = some (.tup (ivs cs)) ∧ Good cs ∧ ∀ p ys H', H p = none → Ex H H' → H' p = some (.lst ys) → Paired (fun c z => TupN c z H') (begs cs) ys → Q (.ref p) H') ∧ (b = false → ∀ H', Ex H H' → E (.ref CS) none H')
theorem v_beginnings {CS : Addr} {H : Hp} {a : Addr} {cs : List Nat} (ha : H a = some (.tup (ivs cs))) (g : Good cs) : SpN (sp_beginnings CS) [.ref a] H (fun ys H2 => Paired (fun c z => TupN c z H2) (begs cs) ys) := fun H1 e1 Q q E =>
  ⟨.ref a, true, rfl, (Sv.good ha g).ex e1, fun _ => ⟨a, cs, rfl, e1 _ _ ha, g, fun p ys H2 np e2 hp hy => q p ys H2 np e2 hp hy⟩, fun z => (by cases z)⟩
theorem ok_beginnings {f : Addr} {fd : FuncData} {CS : Addr} (F : Fun K "beginnings" "beginnings" s_beginnings f fd) (B : Bi mg) (h_checked : Hs P w K mg base 3 "checked" (sp_checked CS)) :
    FnOk P w K mg base (L2.CX P w) 4 f fd ["system"] (sp_beginnings CS) := by
  refine F.okX sc_beginnings (fun vs H Q E h => ?_) (fun cdv A outer s H vs Q E hr h => ?_)
  · obtain ⟨x, b, rfl, _⟩ := h
    rfl
  · obtain ⟨x, b, rfl, hx, q1, q2⟩ := h
    have nd := sc_beginnings.nd
    refine ⟨_, (pss_one (ps_ret (pe_lc (own := [("many", 1)]) (g := gName 1) (tt := tYes) rfl nd (pi_range2 (by rfl) B.range (pa_cons pe_int (pa_cons (pe_op op_add (pe_callB (lenK K) (by rfl) B.len (by decide +kernel) (pa_cons (pe_h h_checked hr (by decide) (by rfl) passE (pa_cons (pv 0) pa_nil)) pa_nil)) pe_int) pa_nil))) (blkOk_by (own := [("many", 1)]) (N := ["system", "many"]) (sc := defScope s_beginnings) (by decide +kernel)) (fun _ _ _ _ _ => (pg_name (i := 1) nd rfl (Or.inl rfl))) (fun _ _ _ _ _ => pts_nil) (fun _ _ _ _ _ => (pe_slice (slAK K) (pv 0) po_none (po_some (pv 1))))))), ?_⟩
    cases b with
    | false => exact ⟨x, rfl, x, false, rfl, hx, fun z => (by cases z), fun hb H1 e1 => q2 hb H1 e1⟩
    | true =>
      obtain ⟨a, cs, rfl, ha, g, q⟩ := q1 rfl
      have hl := g.len
      refine s_retN (en_lcR2 (lo := 1) (hi := ((cs.length + 1 : Nat) : Int)) (fun _ => true) (fun i y H' => TupN (cs.take (i + 1)) y H') (fun c y H1 H2 t h => TupN.mono _ y H1 H2 t h) (ea_cons ev_c (ea_cons (ev_op (ev_lenN (est_of (evc (ea_cons (vr (.ref a)) ea_nil) (v_checked hx)) ha)) (cn 1) rvn_add) ea_nil)) (by omega) (fun _ => rfl) (fun c H1 e1 hc => et_yes) (fun c H1 e1 hc _ => er_tupN (est_sl (est_of (vr (.ref a)) (e1 _ _ ha)) eo_none (eo_some (i := ((c + 1 : Nat) : Int)) (ev_is (ev_var rfl) (by congr 1; omega))) (cut_take cs (c + 1))))) fun p ys H1 np e1 hp hy => q p ys H1 np e1 hp ?_
      rw [filter_yes, show (((cs.length + 1 : Nat) : Int) - 1).toNat = cs.length by omega] at hy
      exact paired_map hy

/-! ### look -/
theorem sc_look : FnScope ["system", "number"] ["system", "number"] (defScope s_look) := ⟨rfl, rfl, rfl, by decide +kernel, rfl, by decide +kernel, by decide +kernel⟩
def sp_look (CS CB : Addr) : Sp := fun vs H Q E => ∃ x y b, vs = [x, y] ∧ Sv H x b ∧ (b = true → Tg H y) ∧ (b = true → within y 0 2000 = true → ∀ H', Ex H H' → Q .non H') ∧ (b = true → within y 0 2000 = false → ∀ H', Ex H H' → E (.ref CB) none H') ∧ (b = false → ∀ H', Ex H H' → E (.ref CS) none H')
theorem v_look {CS CB : Addr} {H : Hp} {x y : V} (h : Sv H x true) (hy : Tg H y) (hw : within y 0 2000 = true) : SpV (sp_look CS CB) [x, y] H .non := fun H1 e1 Q q E =>
  ⟨x, y, true, rfl, h.ex e1, fun _ => hy.ex e1, fun _ _ H2 e2 => q H2 e2, fun _ z => (by rw [hw] at z; cases z), fun z => (by cases z)⟩
theorem ok_look {f : Addr} {fd : FuncData} {CS CB : Addr} (F : Fun K "look" "look" s_look f fd) (h_checked : Hs P w K mg base 3 "checked" (sp_checked CS)) (h_is_within : Hs P w K mg base 1 "is_within" sp_is_within) (c_MOST_SUM : Kc mg "MOST_SUM" 2000) (x_BadSum : Ec K mg "BadSum" CB) :
    FnOk P w K mg base (L2.CX P w) 4 f fd ["system", "number"] (sp_look CS CB) := by
  refine F.okX sc_look (fun vs H Q E h => ?_) (fun cdv A outer s H vs Q E hr h => ?_)
  · obtain ⟨x, y, b, rfl, _⟩ := h
    rfl
  · obtain ⟨x, y, b, rfl, hx, hy, q1, q2, q3⟩ := h
    have nd := sc_look.nd
    refine ⟨_, (pss_cons (ps_expr (pe_h h_checked hr (by decide) (by rfl) passE (pa_cons (pv 0) pa_nil)))
      (pss_one (ps_if (pt_not (pt_val (pe_h h_is_within hr (by decide) (by rfl) passE (pa_cons (pv 1) (pa_cons pe_int (pa_cons (pe_kc (by rfl) c_MOST_SUM) pa_nil))))))
      (pss_one (ps_raise rfl (takes_of rfl rfl rfl rfl) (pmk_own PySem.F.excBase_ValueError x_BadSum.x x_BadSum.g x_BadSum.k x_BadSum.r (by rfl)))) pss_nil))), ?_⟩
    cases b with
    | false => exact ⟨x, rfl, x, false, rfl, hx, fun z => (by cases z), fun _ H' e => q3 rfl H' e⟩
    | true =>
      refine q_drop (evc (ea_cons (ev_var rfl) ea_nil) (v_checked hx)) fun H1 e1 => ?_
      refine s_when (b := !within y 0 2000) (et_not (et_B (evc (ea_cons (ev_var rfl) (ea_cons ev_c (ea_cons ev_c ea_nil))) (v_is_within ((hy rfl).ex e1) rfl)))) (fun h1 H2 e2 => ?_) (fun h1 H2 e2 => ?_)
      · exact q2 rfl (by simpa using h1) H2 (e1.trans e2)
      · exact q1 rfl (by simpa using h1) H2 (e1.trans e2)

/-! ### fewest_up_to -/
theorem sc_fewest_up_to : FnScope ["system", "last", "found", "number", "coin"] ["system", "last"] (defScope s_fewest_up_to) := ⟨rfl, rfl, rfl, by decide +kernel, rfl, by decide +kernel, by decide +kernel⟩
def sp_fewest_up_to : Sp := fun vs H Q _ => ∃ a cs n, vs = [.ref a, iv n] ∧ H a = some (.tup (ivs cs)) ∧ Sys cs ∧ cs.length ≤ 1000 ∧ n ≤ 4000 ∧ ∀ p H', H p = none → Ex H H' → H' p = some (.lst (ivs (row cs n))) → Q (.ref p) H'
theorem v_fewest_up_to {H : Hp} {a : Addr} {cs : List Nat} {n : Nat} (ha : H a = some (.tup (ivs cs))) (hs : Sys cs) (hl : cs.length ≤ 1000) (hn : n ≤ 4000) : SpL sp_fewest_up_to [.ref a, iv n] H (ivs (row cs n)) :=
  fun H1 e1 Q q E => ⟨a, cs, n, rfl, e1 _ _ ha, hs, hl, hn, fun p H' hp e hq => q p H' hp e hq⟩
theorem ok_fewest_up_to {f : Addr} {fd : FuncData} (F : Fun K "fewest_up_to" "fewest_up_to" s_fewest_up_to f fd) (B : Bi mg) : FnOk P w K mg base (L2.CX P w) 1 f fd ["system", "last"] sp_fewest_up_to := by
  refine F.okX sc_fewest_up_to (fun vs H Q E h => ?_) (fun cdv A outer s H vs Q E hr h => ?_)
  · obtain ⟨a, cs, n, rfl, _⟩ := h
    rfl
  · obtain ⟨a, cs, n, rfl, ha, hs, hl, hn, q⟩ := h
    have nd := sc_fewest_up_to.nd
    refine ⟨_, (pss_cons (ps_set (i := 2) nd rfl (Or.inr rfl) (pe_lst (pa_cons pe_int pa_nil)))
      (pss_cons (ps_for (passes_of rfl) rfl (pi_range2 (by rfl) B.range (pa_cons pe_int (pa_cons (pe_op op_add (pv 1) pe_int) pa_nil))) (pg_name (i := 3) nd rfl (Or.inr rfl))
      (pss_one (ps_expr (pe_bm PySem.F.plainAttrs_list PySem.F.slot_list_append PySem.F.type_list_append mt_append (pv 2) (pa_cons (pe_op op_add (pe_callB (minK K) (by rfl) B.min (by decide +kernel) (pa_cons (pe_lc (own := [("coin", 4)]) (g := gName 4) rfl nd (pi_tup (pv 0)) (blkOk_by (own := [("coin", 4)]) (N := ["system", "last", "found", "number", "coin"]) (sc := defScope s_fewest_up_to) (by decide +kernel)) (fun _ _ _ _ _ => (pg_name (i := 4) nd rfl (Or.inl rfl))) (fun _ _ _ _ _ => (pts_one (pt_cmpR op_le (pv 4) (pv 3) (nomark _)))) (fun _ _ _ _ _ => (pe_ix (ixLK K) (pv 2) (pe_op op_sub (pv 3) (pv 4)) (fun _ _ => rfl)))) pa_nil)) pe_int) pa_nil)))))
      (pss_one (ps_ret (pv 2))))), ?_⟩
    refine q_asgL (el_lst (ea_cons ev_c ea_nil) (by decide)) fun p H1 hp e1 h1 => ?_
    refine q_forR2 (lo := 1) (n := ((n + 1 : Nat) : Int)) (ea_cons ev_c (ea_cons (ev_op (ev_var rfl) ev_c rv_I0) ea_nil)) (by omega) (fun i σ' H' => Ex H H' ∧ H' p = some (.lst (ivs (row cs i))) ∧ ∃ u1 u2, σ' = [some (.ref a), some (iv n), some (.ref p), u1, u2]) (fun H2 e2 => ⟨e1.trans e2, by rw [e2 _ _ h1, row_zero]; rfl, _, _, rfl⟩) (fun i σ' H' hi ⟨eH, hq, u1, u2, hσ⟩ => ?_) (fun σ' H' ⟨eH, hq, u1, u2, hσ⟩ => ?_)
    · subst hσ
      rw [show (V.int (1 + (i : Int))) = iv (i + 1) by unfold iv; congr 1; omega]
      have hm : ∃ m, (∃ c, c ∈ cs ∧ c ≤ i + 1 ∧ m = fw cs (i + 1 - c)) ∧ ∀ c, c ∈ cs → c ≤ i + 1 → m ≤ fw cs (i + 1 - c) := by
        obtain ⟨m, ⟨c, h1, h2, h3⟩, h4⟩ := least (p := fun m => ∃ c, c ∈ cs ∧ c ≤ i + 1 ∧ m = fw cs (i + 1 - c)) _ ⟨1, hs.mem1, by omega, rfl⟩
        exact ⟨m, ⟨c, h1, h2, h3⟩, fun c hc hl => h4 _ ⟨c, hc, hl, rfl⟩⟩
      obtain ⟨m, hm1, hm2⟩ := hm
      have hfw := fw_min hs.mem1 (Nat.succ_pos i) hm1 hm2
      refine s_app hq (vr (.ref p)) (v := iv (fw cs (i + 1))) (ev_is (ev_op (ev_min (ns := (cs.filter fun c : Nat => decide (c ≤ i + 1)).map fun c => fw cs (i + 1 - c)) (m := m) (esl_l (by
        unfold ivs
        rw [List.map_map]
        refine el_tup (fun c : Nat => decide (c ≤ i + 1)) _ (est_of (vr (.ref a)) (eH _ _ ha)) (by omega) (fun _ => rfl) (fun c H2 e2 hc => et_test (ev_op (vr (iv c)) (vr (iv (i + 1))) rvn_le)) (fun c H2 e2 hc hp => ?_)
        have hp := of_decide_eq_true hp
        have hc0 := hs.pos c hc
        exact ev_ixL (esl_of (vr (.ref p)) (sq_of (e2 _ _ hq))) (ev_op (vr (iv (i + 1))) (vr (iv c)) (rvn_sub hp)) (at_ivs (row_get (by omega))))) ?_ ?_) (cn 1) rvn_add) ?_) (by rw [ivs_len, row_len]; omega) fun H2 e2 => ?_
      · obtain ⟨c, c1, c2, c3⟩ := hm1
        exact List.mem_map.mpr ⟨c, List.mem_filter.mpr ⟨c1, decide_eq_true (by omega)⟩, c3.symm⟩
      · intro y hy
        obtain ⟨c, c1, rfl⟩ := List.mem_map.mp hy
        obtain ⟨c2, c3⟩ := List.mem_filter.mp c1
        exact hm2 c c2 (of_decide_eq_true c3)
      · rw [← hfw]
      · refine ⟨Ex.mut (eH.trans e2) hp, ?_, _, _, rfl⟩
        rw [upd_same, row_succ, ivs_snoc]
    · subst hσ
      rw [show (((n + 1 : Nat) : Int) - 1).toNat = n by omega] at hq
      exact s_ret (ev_var rfl) fun H2 e2 => q p H2 hp (eH.trans e2) (e2 _ _ hq)

/-! ### fewest -/
theorem sc_fewest : FnScope ["system", "number"] ["system", "number"] (defScope s_fewest) := ⟨rfl, rfl, rfl, by decide +kernel, rfl, by decide +kernel, by decide +kernel⟩
def sp_fewest (CS CB : Addr) : Sp := fun vs H Q E => ∃ x y b, vs = [x, y] ∧ Sv H x b ∧ (b = true → Tg H y) ∧ (b = true → within y 0 2000 = true → ∃ a cs n, x = .ref a ∧ y = iv n ∧ H a = some (.tup (ivs cs)) ∧ Good cs ∧ ∀ H', Ex H H' → Q (iv (fw cs n)) H') ∧
  (b = true → within y 0 2000 = false → ∀ H', Ex H H' → E (.ref CB) none H') ∧ (b = false → ∀ H', Ex H H' → E (.ref CS) none H')
theorem v_fewest {CS CB : Addr} {H : Hp} {a : Addr} {cs : List Nat} {n : Nat} (ha : H a = some (.tup (ivs cs))) (g : Good cs) (hn : n ≤ 2000) : SpV (sp_fewest CS CB) [.ref a, iv n] H (iv (fw cs n)) := fun H1 e1 Q q E =>
  ⟨.ref a, iv n, true, rfl, (Sv.good ha g).ex e1, fun _ => .int _, fun _ _ => ⟨a, cs, n, rfl, rfl, e1 _ _ ha, g, fun H2 e2 => q H2 e2⟩, fun _ z => (by rw [show within (iv n) 0 2000 = true from within_iv (lo := 0) (hi := 2000) (Nat.zero_le _) hn] at z; cases z), fun z => (by cases z)⟩
theorem ok_fewest {f : Addr} {fd : FuncData} {CS CB : Addr} (F : Fun K "fewest" "fewest" s_fewest f fd) (h_look : Hs P w K mg base 4 "look" (sp_look CS CB)) (h_fewest_up_to : Hs P w K mg base 1 "fewest_up_to" sp_fewest_up_to) :
    FnOk P w K mg base (L2.CX P w) 5 f fd ["system", "number"] (sp_fewest CS CB) := by
  refine F.okX sc_fewest (fun vs H Q E h => ?_) (fun cdv A outer s H vs Q E hr h => ?_)
  · obtain ⟨x, y, b, rfl, _⟩ := h
    rfl
  · obtain ⟨x, y, b, rfl, hx, hy, q0, q1, q2⟩ := h
    have nd := sc_fewest.nd
    refine ⟨_, (pss_cons (ps_expr (pe_h h_look hr (by decide) (by rfl) passE (pa_cons (pv 0) (pa_cons (pv 1) pa_nil))))
      (pss_one (ps_ret (pe_ix (ixLK K) (pe_h h_fewest_up_to hr (by decide) (by rfl) passE (pa_cons (pv 0) (pa_cons (pv 1) pa_nil))) (pv 1) (fun _ _ => rfl))))), ?_⟩
    refine ⟨x, rfl, y, rfl, x, y, b, rfl, hx, hy, fun hb hw H1 e1 => ?_, fun hb hw H1 e1 => q1 hb hw H1 e1, fun hb H1 e1 => q2 hb H1 e1⟩
    obtain ⟨a, cs, n, rfl, rfl, ha, g, q⟩ := q0 hb hw
    have hn : n ≤ 2000 := within_le (hi := 2000) hw
    have hl := g.len
    exact s_ret (ev_ixL (esl_l (elc (ea_cons (vr (.ref a)) (ea_cons (vr (iv n)) ea_nil)) (v_fewest_up_to (e1 _ _ ha) g.toSys (by omega) (by omega)))) (vr (iv n)) (at_ivs (row_get (Nat.le_refl n)))) fun H2 e2 => q H2 (e1.trans e2)

/-! ### taken -/
theorem sc_taken : FnScope ["system", "number", "found", "coin", "at"] ["system", "number"] (defScope s_taken) := ⟨rfl, rfl, rfl, by decide +kernel, rfl, by decide +kernel, by decide +kernel⟩
def sp_taken : Sp := fun vs H Q _ => ∃ a cs n, vs = [.ref a, iv n] ∧ H a = some (.tup (ivs cs)) ∧ Sys cs ∧ (∀ c ∈ cs, c ≤ 100000) ∧ cs.length ≤ 1000 ∧ ∀ p H', Ex H H' → H' p = some (.tup (ivs (taken cs n))) → Q (.ref p) H'
theorem v_taken {H : Hp} {a : Addr} {cs : List Nat} {n : Nat} (ha : H a = some (.tup (ivs cs))) (hs : Sys cs) (hc : ∀ c ∈ cs, c ≤ 100000) (hl : cs.length ≤ 1000) : SpSt sp_taken [.ref a, iv n] H (ivs (taken cs n)) :=
  fun H1 e1 Q q E => ⟨a, cs, n, rfl, e1 _ _ ha, hs, hc, hl, fun p H' e hq => q p H' e hq⟩
theorem ok_taken {f : Addr} {fd : FuncData} (F : Fun K "taken" "taken" s_taken f fd) (B : Bi mg) : FnOk P w K mg base (L2.CX P w) 1 f fd ["system", "number"] sp_taken := by
  refine F.okX sc_taken (fun vs H Q E h => ?_) (fun cdv A outer s H vs Q E hr h => ?_)
  · obtain ⟨a, cs, n, rfl, _⟩ := h
    rfl
  · obtain ⟨a, cs, n, rfl, ha, hs, hc, hl, q⟩ := h
    have nd := sc_taken.nd
    refine ⟨_, (pss_cons (ps_setLc (i := 2) (own := [("coin", 3)]) (g := gName 3) (tt := tYes) rfl nd rfl rfl (sw_true rfl rfl rfl (by decide +kernel)) (pi_tup (pv 0)) (blkOk_by (own := [("coin", 3)]) (N := ["system", "number", "found", "coin", "at"]) (sc := defScope s_taken) (by decide +kernel)) (fun _ _ _ _ _ => (pg_name (i := 3) nd rfl (Or.inl rfl))) (fun _ _ _ _ _ => pts_nil) (fun _ _ _ _ _ => pe_int))
      (pss_cons (ps_for (passes_of rfl) rfl (pi_range3 (by rfl) B.range (pa_cons (pe_op op_sub (pe_callB (lenK K) (by rfl) B.len (by decide +kernel) (pa_cons (pv 0) pa_nil)) pe_int) (pa_cons (pe_un un_neg pe_int) (pa_cons (pe_un un_neg pe_int) pa_nil)))) (pg_name (i := 4) nd rfl (Or.inl rfl))
      (pss_cons (ps_asg (pe_op op_fdiv (pv 1) (pe_ix (ixTK K) (pv 0) (pv 4) (fun _ _ => rfl))) (pg_sub (pv 2) (pv 4) set_list))
      (pss_one (ps_set (i := 1) nd rfl (Or.inl rfl) (pe_op op_mod (pv 1) (pe_ix (ixTK K) (pv 0) (pv 4) (fun _ _ => rfl)))))))
      (pss_one (ps_ret (pe_callTy (tupK K) (by rfl) B.tuple (by decide +kernel) (pa_cons (pv 2) pa_nil)))))), ?_⟩
    refine q_asgL (el_tup (fun _ : Nat => true) (fun _ => iv 0) (est_of (vr (.ref a)) ha) (by omega) (fun _ => rfl) (fun c H1 e1 _ => et_yes) (fun c H1 e1 _ _ => cn 0)) fun p H1 hp e1 h1 => ?_
    rw [filter_yes] at h1
    refine q_forRC (ea_cons (ev_op (ev_lenT (est_of (vr (.ref a)) (e1 _ _ ha))) ev_c rv_I0) (ea_cons (ev_un ev_c ru_neg) (ea_cons (ev_un ev_c ru_neg) ea_nil))) (by rw [ivs_len]; exact rg_down cs.length (by omega))
      (fun i σ' H' => i ≤ cs.length ∧ Ex H H' ∧ H' p = some (.lst (ivs (tkF cs n i))) ∧ ∃ u3 u4, σ' = [some (.ref a), some (iv (tkR cs n i)), some (.ref p), u3, u4]) (fun H2 e2 => ⟨Nat.zero_le _, e1.trans e2, ?_, _, _, rfl⟩) (fun i σ' H' hi hW => ?_) (fun σ' H' hW => ?_)
    · rw [e2 _ _ h1, tkF_zero]
      unfold ivs
      rw [List.map_map]
      rfl
    · obtain ⟨hle, eH, hq, u3, u4, hσ⟩ := hW
      subst hσ
      have hcl : (ivs cs).length = cs.length := ivs_len cs
      obtain ⟨c, hci⟩ : ∃ c, cs[cs.length - 1 - i]? = some c := ⟨_, List.getElem?_eq_getElem (by omega)⟩
      have hcm := List.mem_of_getElem? hci
      have c0 := hs.pos c hcm
      have c1 := hc c hcm
      rw [show (V.int (((ivs cs).length : Int) - 1 + (i : Int) * -1)) = iv (cs.length - 1 - i) by unfold iv; congr 1; omega]
      have hix := fun H2 (e2 : Ex H H2) (σ : L2.St) (hσ0 : σ[0]? = some (some (.ref a))) (hσ4 : σ[4]? = some (some (iv (cs.length - 1 - i)))) => ev_ixT (K := K) (est_of (ev_var hσ0) (e2 _ _ ha)) (ev_var hσ4) (at_ivs hci)
      refine q_setL hq (ev_op (vr (iv (tkR cs n i))) (hix H' eH _ rfl rfl) (rvn_div c0 (by omega))) (vr (.ref p)) (vr (iv (cs.length - 1 - i))) (by rw [ivs_len, tkF_len (by omega)]; omega) fun H2 e2 => ?_
      have e3 : Ex H (upd H2 p (.lst ((ivs (tkF cs n i)).set (cs.length - 1 - i) (iv (tkR cs n i / c))))) := Ex.mut (eH.trans e2) hp
      refine s_asg (ev_op (vr (iv (tkR cs n i))) (hix _ e3 _ rfl rfl) (rvn_mod c0)) fun H3 e4 => ?_
      refine ⟨by omega, e3.trans e4, ?_, u3, some (iv (cs.length - 1 - i)), ?_⟩
      · rw [e4 _ _ upd_same, tkF_succ (by omega) hci]
        unfold ivs
        rw [List.map_set]
      · rw [tkR_succ (by omega) hci]
        rfl
    · obtain ⟨hle, eH, hq, u3, u4, hσ⟩ := hW
      subst hσ
      rw [tkF_end] at hq
      refine s_retT (est_tup (esl_of (vr (.ref p)) (sq_of hq))) fun b H2 e2 h2 => q b H2 (eH.trans e2) h2

/-! ### by_greatest -/
theorem sc_by_greatest : FnScope ["system", "number"] ["system", "number"] (defScope s_by_greatest) := ⟨rfl, rfl, rfl, by decide +kernel, rfl, by decide +kernel, by decide +kernel⟩
def sp_by_greatest (CS CB : Addr) : Sp := fun vs H Q E => ∃ x y b, vs = [x, y] ∧ Sv H x b ∧ (b = true → Tg H y) ∧ (b = true → within y 0 2000 = true → ∃ a cs n, x = .ref a ∧ y = iv n ∧ H a = some (.tup (ivs cs)) ∧ Good cs ∧ ∀ p H', Ex H H' → H' p = some (.tup (ivs (taken cs n))) → Q (.ref p) H') ∧
  (b = true → within y 0 2000 = false → ∀ H', Ex H H' → E (.ref CB) none H') ∧ (b = false → ∀ H', Ex H H' → E (.ref CS) none H')
theorem v_by_greatest {CS CB : Addr} {H : Hp} {a : Addr} {cs : List Nat} {n : Nat} (ha : H a = some (.tup (ivs cs))) (g : Good cs) (hn : n ≤ 2000) : SpSt (sp_by_greatest CS CB) [.ref a, iv n] H (ivs (taken cs n)) := fun H1 e1 Q q E =>
  ⟨.ref a, iv n, true, rfl, (Sv.good ha g).ex e1, fun _ => .int _, fun _ _ => ⟨a, cs, n, rfl, rfl, e1 _ _ ha, g, fun p H2 e2 h2 => q p H2 e2 h2⟩, fun _ z => (by rw [show within (iv n) 0 2000 = true from within_iv (lo := 0) (hi := 2000) (Nat.zero_le _) hn] at z; cases z), fun z => (by cases z)⟩
theorem ok_by_greatest {f : Addr} {fd : FuncData} {CS CB : Addr} (F : Fun K "by_greatest" "by_greatest" s_by_greatest f fd) (h_look : Hs P w K mg base 4 "look" (sp_look CS CB)) (h_taken : Hs P w K mg base 1 "taken" sp_taken) :
    FnOk P w K mg base (L2.CX P w) 5 f fd ["system", "number"] (sp_by_greatest CS CB) := by
  refine F.okX sc_by_greatest (fun vs H Q E h => ?_) (fun cdv A outer s H vs Q E hr h => ?_)
  · obtain ⟨x, y, b, rfl, _⟩ := h
    rfl
  · obtain ⟨x, y, b, rfl, hx, hy, q0, q1, q2⟩ := h
    have nd := sc_by_greatest.nd
    refine ⟨_, (pss_cons (ps_expr (pe_h h_look hr (by decide) (by rfl) passE (pa_cons (pv 0) (pa_cons (pv 1) pa_nil))))
      (pss_one (ps_ret (pe_h h_taken hr (by decide) (by rfl) passE (pa_cons (pv 0) (pa_cons (pv 1) pa_nil)))))), ?_⟩
    refine ⟨x, rfl, y, rfl, x, y, b, rfl, hx, hy, fun hb hw H1 e1 => ?_, fun hb hw H1 e1 => q1 hb hw H1 e1, fun hb H1 e1 => q2 hb H1 e1⟩
    obtain ⟨a, cs, n, rfl, rfl, ha, g, q⟩ := q0 hb hw
    have hl := g.len
    exact s_retT (est_call (ea_cons (vr (.ref a)) (ea_cons (vr (iv n)) ea_nil)) (v_taken (e1 _ _ ha) g.toSys (fun c hc => by have := g.le c hc; omega) (by omega))) fun p H2 e2 h2 => q p H2 (e1.trans e2) h2

/-! ### by_fewest -/
theorem sc_by_fewest : FnScope ["system", "number", "rows", "found", "coin", "left", "at"] ["system", "number"] (defScope s_by_fewest) := ⟨rfl, rfl, rfl, by decide +kernel, rfl, by decide +kernel, by decide +kernel⟩
def sp_by_fewest (CS CB : Addr) : Sp := fun vs H Q E => ∃ x y b, vs = [x, y] ∧ Sv H x b ∧ (b = true → Tg H y) ∧ (b = true → within y 0 2000 = true → ∃ a cs n, x = .ref a ∧ y = iv n ∧ H a = some (.tup (ivs cs)) ∧ Good cs ∧ ∀ p H', Ex H H' → H' p = some (.tup (ivs (byFew cs n))) → Q (.ref p) H') ∧
  (b = true → within y 0 2000 = false → ∀ H', Ex H H' → E (.ref CB) none H') ∧ (b = false → ∀ H', Ex H H' → E (.ref CS) none H')
theorem v_by_fewest {CS CB : Addr} {H : Hp} {a : Addr} {cs : List Nat} {n : Nat} (ha : H a = some (.tup (ivs cs))) (g : Good cs) (hn : n ≤ 2000) : SpSt (sp_by_fewest CS CB) [.ref a, iv n] H (ivs (byFew cs n)) := fun H1 e1 Q q E =>
  ⟨.ref a, iv n, true, rfl, (Sv.good ha g).ex e1, fun _ => .int _, fun _ _ => ⟨a, cs, n, rfl, rfl, e1 _ _ ha, g, fun p H2 e2 h2 => q p H2 e2 h2⟩, fun _ z => (by rw [show within (iv n) 0 2000 = true from within_iv (lo := 0) (hi := 2000) (Nat.zero_le _) hn] at z; cases z), fun z => (by cases z)⟩
theorem ok_by_fewest {f : Addr} {fd : FuncData} {CS CB : Addr} (F : Fun K "by_fewest" "by_fewest" s_by_fewest f fd) (B : Bi mg) (h_look : Hs P w K mg base 4 "look" (sp_look CS CB)) (h_fewest_up_to : Hs P w K mg base 1 "fewest_up_to" sp_fewest_up_to) :
    FnOk P w K mg base (L2.CX P w) 5 f fd ["system", "number"] (sp_by_fewest CS CB) := by
  refine F.okX sc_by_fewest (fun vs H Q E h => ?_) (fun cdv A outer s H vs Q E hr h => ?_)
  · obtain ⟨x, y, b, rfl, _⟩ := h
    rfl
  · obtain ⟨x, y, b, rfl, hx, hy, q0, q1, q2⟩ := h
    have nd := sc_by_fewest.nd
    refine ⟨_, (pss_cons (ps_expr (pe_h h_look hr (by decide) (by rfl) passE (pa_cons (pv 0) (pa_cons (pv 1) pa_nil))))
      (pss_cons (ps_set (i := 2) nd rfl (Or.inl rfl) (pe_h h_fewest_up_to hr (by decide) (by rfl) passE (pa_cons (pv 0) (pa_cons (pv 1) pa_nil))))
      (pss_cons (ps_setLc (i := 3) (own := [("coin", 4)]) (g := gName 4) (tt := tYes) rfl nd rfl rfl (sw_true rfl rfl rfl (by decide +kernel)) (pi_tup (pv 0)) (blkOk_by (own := [("coin", 4)]) (N := ["system", "number", "rows", "found", "coin", "left", "at"]) (sc := defScope s_by_fewest) (by decide +kernel)) (fun _ _ _ _ _ => (pg_name (i := 4) nd rfl (Or.inl rfl))) (fun _ _ _ _ _ => pts_nil) (fun _ _ _ _ _ => pe_int))
      (pss_cons (ps_set (i := 5) nd rfl (Or.inl rfl) (pv 1))
      (pss_cons (ps_for (passes_of rfl) rfl (pi_range3 (by rfl) B.range (pa_cons (pe_op op_sub (pe_callB (lenK K) (by rfl) B.len (by decide +kernel) (pa_cons (pv 0) pa_nil)) pe_int) (pa_cons (pe_un un_neg pe_int) (pa_cons (pe_un un_neg pe_int) pa_nil)))) (pg_name (i := 6) nd rfl (Or.inl rfl))
      (pss_one (ps_while (passes_of rfl) (PW.pt (pw_and (pt_cmpR op_ge (pv 5) (pe_ix (ixTK K) (pv 0) (pv 6) (fun _ _ => rfl)) (nomark _)) (pw_and1 (pt_cmpR op_eq (pe_ix (ixLK K) (pv 2) (pe_op op_sub (pv 5) (pe_ix (ixTK K) (pv 0) (pv 6) (fun _ _ => rfl))) (fun _ _ => rfl)) (pe_op op_sub (pe_ix (ixLK K) (pv 2) (pv 5) (fun _ _ => rfl)) pe_int) (nomark _)))))
      (pss_cons (ps_asg (pe_op op_add (pe_ix (ixLK K) (pv 3) (pv 6) (fun _ _ => rfl)) pe_int) (pg_sub (pv 3) (pv 6) set_list))
      (pss_one (ps_set (i := 5) nd rfl (Or.inl rfl) (pe_op op_sub (pv 5) (pe_ix (ixTK K) (pv 0) (pv 6) (fun _ _ => rfl)))))))))
      (pss_one (ps_ret (pe_callTy (tupK K) (by rfl) B.tuple (by decide +kernel) (pa_cons (pv 3) pa_nil))))))))), ?_⟩
    refine ⟨x, rfl, y, rfl, x, y, b, rfl, hx, hy, fun hb hw H1 e1 => ?_, fun hb hw H1 e1 => q1 hb hw H1 e1, fun hb H1 e1 => q2 hb H1 e1⟩
    obtain ⟨a, cs, n, rfl, rfl, ha, g, q⟩ := q0 hb hw
    have hn : n ≤ 2000 := within_le (hi := 2000) hw
    have hl := g.len
    have hS := g.toSys
    have ha1 := e1 _ _ ha
    refine q_asgL (elc (ea_cons (vr (.ref a)) (ea_cons (vr (iv n)) ea_nil)) (v_fewest_up_to ha1 hS (by omega) (by omega))) fun r H2 hr2 e2 h2 => ?_
    refine q_asgL (el_tup (fun _ : Nat => true) (fun _ => iv 0) (est_of (vr (.ref a)) (e2 _ _ ha1)) (by omega) (fun _ => rfl) (fun c H1 e1 _ => et_yes) (fun c H1 e1 _ _ => cn 0)) fun p H3 hp e3 h3 => ?_
    rw [filter_yes] at h3
    have e02 := e1.trans e2
    have hp0 : H p = none := fresh_back e02 hp
    refine q_asg (vr (iv n)) fun H4 e4 => ?_
    have hrow : Ex H2 H2 := Ex.refl _
    refine q_forRC (ea_cons (ev_op (ev_lenN (est_of (vr (.ref a)) (e4 _ _ (e3 _ _ (e2 _ _ ha1))))) ev_c rv_I0) (ea_cons (ev_un ev_c ru_neg) (ea_cons (ev_un ev_c ru_neg) ea_nil))) (rg_down cs.length (by omega))
      (fun i σ' H' => i ≤ cs.length ∧ Ex H2 H' ∧ H' p = some (.lst (ivs (bfF cs n i))) ∧ bfR cs n i ≤ n ∧ ∃ u4 u6, σ' = [some (.ref a), some (iv n), some (.ref r), some (.ref p), u4, some (iv (bfR cs n i)), u6]) (fun H5 e5 => ⟨Nat.zero_le _, e3.trans (e4.trans e5), ?_, Nat.le_refl _, _, _, rfl⟩) (fun i σ' H' hi hW => ?_) (fun σ' H' hW => ?_)
    · rw [e5 _ _ (e4 _ _ h3), bfF_zero]
      unfold ivs
      rw [List.map_map]
      rfl
    · obtain ⟨hle, eH, hq, hln, u4, u6, hσ⟩ := hW
      subst hσ
      obtain ⟨c, hci⟩ : ∃ c, cs[cs.length - 1 - i]? = some c := ⟨_, List.getElem?_eq_getElem (by omega)⟩
      have hcm := List.mem_of_getElem? hci
      have c0 := hS.pos c hcm
      rw [show (V.int ((cs.length : Int) - 1 + (i : Int) * -1)) = iv (cs.length - 1 - i) by unfold iv; congr 1; omega]
      generalize hL0 : bfR cs n i = L0 at hln
      -- within: j taken, L left
      refine s_while (fun L σ2 H5 => ∃ j, σ2 = [some (.ref a), some (iv n), some (.ref r), some (.ref p), u4, some (iv L), some (iv (cs.length - 1 - i))] ∧ Ex H2 H5 ∧ H5 p = some (.lst (ivs ((bfF cs n i).set (cs.length - 1 - i) j))) ∧ L ≤ L0 ∧ j * c + L = L0 ∧ j + bfK cs c L = bfK cs c L0) L0 ⟨0, rfl, eH, ?_, Nat.le_refl _, by omega, by omega⟩ (fun L σ2 H5 hV => ?_)
      · rw [hq]
        congr 2
        refine congrArg ivs ?_
        refine List.ext_getElem? fun k => ?_
        rw [List.getElem?_set]
        by_cases hk : cs.length - 1 - i = k
        · subst hk
          rw [if_pos rfl, bfF_at hi]
          rw [if_pos (by rw [bfF_len (by omega)]; omega)]
        · rw [if_neg hk]
      · obtain ⟨j, rfl, eH5, hq5, hL, hj1, hj2⟩ := hV
        have eH05 := e02.trans eH5
        have hr5 := eH5 _ _ h2
        have hix := fun H6 (e6 : Ex H5 H6) => ev_ixT (K := K) (ta := tVar 0) (tb := tVar 6) (σ := [some (.ref a), some (iv n), some (.ref r), some (.ref p), u4, some (iv L), some (iv (cs.length - 1 - i))]) (est_of (vr (.ref a)) (e6 _ _ (eH05 _ _ ha))) (vr (iv (cs.length - 1 - i))) (at_ivs hci)
        refine ⟨decide (c ≤ L) && decide (fw cs (L - c) = fw cs L - 1), et_and (et_test (ev_op (vr (iv L)) (hix H5 (Ex.refl _)) rvn_ge)) (fun hcL => ?_), fun ht H6 e6 => ?_, fun ht H6 e6 => ?_⟩
        · have hcL := of_decide_eq_true hcL
          have hpos := fw_pos hS.mem1 (show 0 < L by omega)
          exact et_test (ev_op (ev_ixL (esl_of (vr (.ref r)) (sq_of hr5)) (ev_op (vr (iv L)) (hix H5 (Ex.refl _)) (rvn_sub hcL)) (at_ivs (row_get (by omega)))) (ev_op (ev_ixL (esl_of (vr (.ref r)) (sq_of hr5)) (vr (iv L)) (at_ivs (row_get (by omega)))) (cn 1) (rvn_sub hpos)) rvn_eq)
        · rw [Bool.and_eq_true, decide_eq_true_iff, decide_eq_true_iff] at ht
          have hpos := fw_pos hS.mem1 (show 0 < L by omega)
          have hk := bfK_yes c0 ht.1 (by omega : fw cs (L - c) + 1 = fw cs L)
          have hq6 := e6 _ _ hq5
          have hset : ((bfF cs n i).set (cs.length - 1 - i) j)[cs.length - 1 - i]? = some j := by rw [List.getElem?_set, if_pos rfl, if_pos (by rw [bfF_len (by omega)]; omega)]
          refine ⟨_, fun σ3 H7 h => h, ?_⟩
          refine q_setL hq6 (ev_op (ev_ixL (esl_of (vr (.ref p)) (sq_of hq6)) (vr (iv (cs.length - 1 - i))) (at_ivs hset)) (cn 1) rvn_add) (vr (.ref p)) (vr (iv (cs.length - 1 - i))) (by rw [ivs_len, List.length_set, bfF_len (by omega)]; omega) fun H7 e7 => ?_
          have hp2 : H2 p = none := hp
          have e8 : Ex H2 (upd H7 p (.lst ((ivs ((bfF cs n i).set (cs.length - 1 - i) j)).set (cs.length - 1 - i) (iv (j + 1))))) := Ex.mut (eH5.trans (e6.trans e7)) hp2
          refine s_asg (ev_op (vr (iv L)) (ev_ixT (est_of (vr (.ref a)) (e8 _ _ (e2 _ _ ha1))) (vr (iv (cs.length - 1 - i))) (at_ivs hci)) (rvn_sub ht.1)) fun H8 e9 => ?_
          refine ⟨L - c, by omega, j + 1, rfl, e8.trans e9, ?_, by omega, by rw [Nat.succ_mul]; omega, by omega⟩
          rw [e9 _ _ upd_same]
          unfold ivs
          rw [List.map_set, List.set_set, List.map_set]
        · have hno : ¬ (c ≤ L ∧ fw cs (L - c) + 1 = fw cs L) := by
            rintro ⟨h1, h3⟩
            rw [Bool.and_eq_false_iff, decide_eq_false_iff_not, decide_eq_false_iff_not] at ht
            rcases ht with ht | ht
            · exact ht h1
            · exact ht (by omega)
          rw [bfK_no hno] at hj2
          have hj : j = bfK cs c L0 := by omega
          refine ⟨by omega, eH5.trans e6, ?_, ?_, u4, some (iv (cs.length - 1 - i)), ?_⟩
          · rw [e6 _ _ hq5, bfF_succ hi hci, hL0, hj]
          · rw [bfR_succ hi hci, hL0]
            omega
          · rw [bfR_succ hi hci, hL0, ← hj, show L0 - j * c = L by omega]
    · obtain ⟨hle, eH, hq, hln, u4, u6, hσ⟩ := hW
      subst hσ
      rw [bfF_end] at hq
      exact s_retT (est_tup (esl_of (vr (.ref p)) (sq_of hq))) fun b H5 e5 h5 => q b H5 (e02.trans (eH.trans e5)) h5

/-! ### sum_of -/
theorem sc_sum_of : FnScope ["system", "way", "often", "coin"] ["system", "way"] (defScope s_sum_of) := ⟨rfl, rfl, rfl, by decide +kernel, rfl, by decide +kernel, by decide +kernel⟩
def wayOk (m : Nat) (xs : List V) : Bool := decide (xs.length = m) && xs.all fun y => within y 0 2000
def sp_sum_of (CS CW : Addr) : Sp := fun vs H Q E => ∃ x y b, vs = [x, y] ∧ Sv H x b ∧ (b = false → ∀ H', Ex H H' → E (.ref CS) none H') ∧
  (b = true → ∃ a cs c, x = .ref a ∧ H a = some (.tup (ivs cs)) ∧ Good cs ∧ Fv (wayOk cs.length) H y c ∧ (c = false → ∀ H', Ex H H' → E (.ref CW) none H') ∧ (c = true → ∃ p way, y = .ref p ∧ H p = some (.tup (ivs way)) ∧ ∀ H', Ex H H' → Q (iv (dot way cs)) H'))
theorem all_within : ∀ {ns : List Nat}, (∀ n ∈ ns, n ≤ 2000) → (ivs ns).all (fun y => within y 0 2000) = true
  | [], _ => rfl
  | n :: r, h => by
    show (within (iv n) 0 2000 && (ivs r).all fun y => within y 0 2000) = true
    rw [show within (iv n) 0 2000 = true from within_iv (lo := 0) (hi := 2000) (Nat.zero_le _) (h n List.mem_cons_self), all_within fun x hx => h x (List.mem_cons_of_mem _ hx)]
    rfl
theorem v_sum_of {CS CW : Addr} {H : Hp} {a p : Addr} {cs way : List Nat} (ha : H a = some (.tup (ivs cs))) (g : Good cs) (hp : H p = some (.tup (ivs way))) (hl : way.length = cs.length) (hw : ∀ n ∈ way, n ≤ 2000) : SpV (sp_sum_of CS CW) [.ref a, .ref p] H (iv (dot way cs)) := fun H1 e1 Q q E =>
  ⟨.ref a, .ref p, true, rfl, (Sv.good ha g).ex e1, fun z => (by cases z), fun _ => ⟨a, cs, true, rfl, e1 _ _ ha, g, .tup (e1 _ _ hp) tg_ivs (by unfold wayOk; rw [ivs_len, decide_eq_true hl, all_within hw]; rfl), fun z => (by cases z), fun _ => ⟨p, way, rfl, e1 _ _ hp, fun H2 e2 => q H2 e2⟩⟩⟩
theorem ok_sum_of {f : Addr} {fd : FuncData} {CS CW : Addr} (F : Fun K "sum_of" "sum_of" s_sum_of f fd) (B : Bi mg) (h_checked : Hs P w K mg base 3 "checked" (sp_checked CS)) (h_is_within : Hs P w K mg base 1 "is_within" sp_is_within) (c_MOST_SUM : Kc mg "MOST_SUM" 2000) (x_BadWay : Ec K mg "BadWay" CW) :
    FnOk P w K mg base (L2.CX P w) 5 f fd ["system", "way"] (sp_sum_of CS CW) := by
  refine F.okX sc_sum_of (fun vs H Q E h => ?_) (fun cdv A outer s H vs Q E hr h => ?_)
  · obtain ⟨x, y, b, rfl, _⟩ := h
    rfl
  · obtain ⟨x, y, b, rfl, hx, q1, q2⟩ := h
    have nd := sc_sum_of.nd
    refine ⟨_, (pss_cons (ps_expr (pe_h h_checked hr (by decide) (by rfl) passE (pa_cons (pv 0) pa_nil)))
      (pss_cons (ps_if (PW.pt (pw_or (pt_not (pt_val (pe_callB (isiK K) (by rfl) B.isinstance (by decide +kernel) (pa_cons (pv 1) (pa_cons (pe_bltn (by rfl) B.tuple (by decide +kernel) (show RelV (.ty "tuple") _ from rfl)) pa_nil))))) (pw_or1 (pt_cmpR op_ne (pe_callB (lenK K) (by rfl) B.len (by decide +kernel) (pa_cons (pv 1) pa_nil)) (pe_callB (lenK K) (by rfl) B.len (by decide +kernel) (pa_cons (pv 0) pa_nil)) (nomark _)))))
      (pss_one (ps_raise rfl (takes_of rfl rfl rfl rfl) (pmk_own PySem.F.excBase_ValueError x_BadWay.x x_BadWay.g x_BadWay.k x_BadWay.r (by rfl)))) pss_nil)
      (pss_cons (ps_for (passes_of rfl) rfl (pi_tup (pv 1)) (pg_name (i := 2) nd rfl (Or.inl rfl))
      (pss_one (ps_if (pt_not (pt_val (pe_h h_is_within hr (by decide) (by rfl) passE (pa_cons (pv 2) (pa_cons pe_int (pa_cons (pe_kc (by rfl) c_MOST_SUM) pa_nil))))))
      (pss_one (ps_raise rfl (takes_of rfl rfl rfl rfl) (pmk_own PySem.F.excBase_ValueError x_BadWay.x x_BadWay.g x_BadWay.k x_BadWay.r (by rfl)))) pss_nil)))
      (pss_one (ps_ret (pe_callB (sumK K) (by rfl) B.sum (by decide +kernel) (pa_cons (pe_lc (own := [("often", 2), ("coin", 3)]) (tt := tYes) rfl nd (RZ.pi_zipA (by rfl) B.zip (pa_cons (pv 1) (pa_cons (pv 0) pa_nil))) (blkOk_by (own := [("often", 2), ("coin", 3)]) (N := ["system", "way", "often", "coin"]) (sc := defScope s_sum_of) (by decide +kernel)) (fun _ _ _ _ _ => (pgTupK (n := 2) K rfl (pgs_cons (pg_name (i := 2) nd rfl (Or.inl rfl)) (pgs_cons (pg_name (i := 3) nd rfl (Or.inl rfl)) pgs_nil)))) (fun _ _ _ _ _ => pts_nil) (fun _ _ _ _ _ => (pe_op op_mul (pv 2) (pv 3)))) pa_nil))))))), ?_⟩
    cases b with
    | false => exact ⟨x, rfl, x, false, rfl, hx, fun z => (by cases z), fun _ H' e => q1 rfl H' e⟩
    | true =>
      obtain ⟨a, cs, c, rfl, ha, g, hy, q3, q4⟩ := q2 rfl
      refine q_drop (evc (ea_cons (vr (.ref a)) ea_nil) (v_checked hx)) fun H1 e1 => ?_
      by_cases hT : ∃ p xs, y = .ref p ∧ H p = some (.tup xs)
      · obtain ⟨p, xs, rfl, hp⟩ := hT
        have hf : ∀ z ∈ xs, Tg H z := by
          cases hy with
          | tup e f _ => rw [hp] at e; cases e; exact f
          | lst e => rw [hp] at e; cases e
        have hc : c = wayOk cs.length xs := by
          cases hy with
          | tup e f q => rw [hp] at e; cases e; exact q.symm
          | lst e => rw [hp] at e; cases e
        have hp1 := e1 _ _ hp
        have ha1 := e1 _ _ ha
        refine q_when (b := !true || !decide (xs.length = cs.length)) (et_or (et_not (et_B (ev_cb (ea_cons (vr (.ref p)) (ea_cons ev_c ea_nil)) (rc_isiT hp1)))) fun _ => et_test (ev_op (ev_lenT (est_of (vr (.ref p)) hp1)) (ev_lenN (est_of (vr (.ref a)) ha1)) rvn_ne)) (fun h1 H2 e2 => ?_) (fun h1 H2 e2 => ?_)
        · have h1 : ¬ xs.length = cs.length := by simpa using h1
          refine q3 ?_ H2 (e1.trans e2)
          rw [hc]
          unfold wayOk
          rw [decide_eq_false h1, Bool.false_and]
        · have h1 : xs.length = cs.length := by simpa using h1
          have hc' : c = xs.all fun y => within y 0 2000 := by
            rw [hc]
            unfold wayOk
            rw [decide_eq_true h1, Bool.true_and]
          have hl := g.len
          have e02 := e1.trans e2
          refine q_forTn (vr (.ref p)) (e02 _ _ hp) (fun i σ' H' => Ex H H' ∧ (xs.take i).all (fun y => within y 0 2000) = true ∧ ∃ u2 u3, σ' = [some (.ref a), some (.ref p), u2, u3]) (fun H3 e3 => ⟨e02.trans e3, rfl, _, _, rfl⟩) (fun i σ' H' hW => hW.1 _ _ hp) (fun i z σ' H' hz hW => ?_) (fun σ' H' hW => ?_)
          · obtain ⟨eH, hall, u2, u3, rfl⟩ := hW
            have fz := (hf z (List.mem_of_getElem? hz)).ex eH
            refine s_when (b := !within z 0 2000) (et_not (et_B (evc (ea_cons (vr z) (ea_cons ev_c (ea_cons ev_c ea_nil))) (v_is_within fz rfl)))) (fun h2 H3 e3 => ?_) (fun h2 H3 e3 => ?_)
            · refine q3 ?_ H3 (eH.trans e3)
              rw [hc', List.all_eq_false]
              exact ⟨z, List.mem_of_getElem? hz, by simpa using h2⟩
            · refine ⟨eH.trans e3, ?_, some z, u3, rfl⟩
              rw [List.take_add_one, hz, List.all_append, hall]
              simpa using h2
          · obtain ⟨eH, hall, u2, u3, rfl⟩ := hW
            rw [List.take_length] at hall
            obtain ⟨p', way, e, hp', q⟩ := q4 (by rw [hc', hall])
            cases e
            rw [hp] at hp'
            have hxs : xs = ivs way := by cases hp'; rfl
            have hlw : way.length = cs.length := by rw [← h1, hxs, ivs_len]
            have hw2 : ∀ n ∈ way, n ≤ 2000 := fun n hn => by
              have := List.all_eq_true.mp hall (iv n) (by rw [hxs]; exact List.mem_map.mpr ⟨n, hn, rfl⟩)
              exact within_le (hi := 2000) this
            refine s_ret (v := iv (dot way cs)) (ev_is (ev_sumL (esl_l (el_zip (fun x y => x * y) hlw (by omega) (ea_cons (vr (.ref p)) (ea_cons (vr (.ref a)) ea_nil)) (by rw [← hxs]; exact eH _ _ hp) (eH _ _ ha) (fun _ _ => rfl) (fun x y H4 e4 hx _ => ev_op (vr (iv x)) (vr (iv y)) (rvn_mul (by have := hw2 x hx; omega)))))) (by rw [dot_zip])) fun H3 e3 => q H3 (eH.trans e3)
      · have hn : ∀ p xs, y = .ref p → H p ≠ some (.tup xs) := fun p xs e h => hT ⟨p, xs, e, h⟩
        have hcf : c = false := by
          cases hy with
          | tup e f _ => exact absurd e (hn _ _ rfl)
          | _ => rfl
        subst hcf
        have hn1 : ∀ p xs, y = .ref p → H1 p ≠ some (.tup xs) := fun p xs e h => by
          cases hy with
          | tup e' f _ => exact absurd e' (hn _ _ rfl)
          | lst e' =>
            cases e
            rw [e1 _ _ e'] at h
            cases h
          | _ => cases e
        exact q_when (b := true) (et_is (et_or (et_not (et_B (ev_cb (ea_cons (vr y) (ea_cons ev_c ea_nil)) (rc_isiN (hy.ex e1) hn1)))) (b := false) fun h => absurd h (by decide)) rfl) (fun _ H2 e2 => q3 rfl H2 (e1.trans e2)) fun h => absurd h (by decide)

/-! ### count_ways -/
theorem sc_count_ways : FnScope ["system", "number", "found", "one", "coin"] ["system", "number"] (defScope s_count_ways) := ⟨rfl, rfl, rfl, by decide +kernel, rfl, by decide +kernel, by decide +kernel⟩
def sp_count_ways (CS CB : Addr) : Sp := fun vs H Q E => ∃ x y b, vs = [x, y] ∧ Sv H x b ∧ (b = true → Tg H y) ∧ (b = true → within y 0 2000 = true → ∃ a cs n, x = .ref a ∧ y = iv n ∧ H a = some (.tup (ivs cs)) ∧ Good cs ∧ ∀ H', Ex H H' → Q (iv (ways cs n)) H') ∧
  (b = true → within y 0 2000 = false → ∀ H', Ex H H' → E (.ref CB) none H') ∧ (b = false → ∀ H', Ex H H' → E (.ref CS) none H')
theorem v_count_ways {CS CB : Addr} {H : Hp} {a : Addr} {cs : List Nat} {n : Nat} (ha : H a = some (.tup (ivs cs))) (g : Good cs) (hn : n ≤ 2000) : SpV (sp_count_ways CS CB) [.ref a, iv n] H (iv (ways cs n)) := fun H1 e1 Q q E =>
  ⟨.ref a, iv n, true, rfl, (Sv.good ha g).ex e1, fun _ => .int _, fun _ _ => ⟨a, cs, n, rfl, rfl, e1 _ _ ha, g, fun H2 e2 => q H2 e2⟩, fun _ z => (by rw [show within (iv n) 0 2000 = true from within_iv (lo := 0) (hi := 2000) (Nat.zero_le _) hn] at z; cases z), fun z => (by cases z)⟩
theorem ok_count_ways {f : Addr} {fd : FuncData} {CS CB : Addr} (F : Fun K "count_ways" "count_ways" s_count_ways f fd) (B : Bi mg) (h_look : Hs P w K mg base 4 "look" (sp_look CS CB)) :
    FnOk P w K mg base (L2.CX P w) 5 f fd ["system", "number"] (sp_count_ways CS CB) := by
  refine F.okX sc_count_ways (fun vs H Q E h => ?_) (fun cdv A outer s H vs Q E hr h => ?_)
  · obtain ⟨x, y, b, rfl, _⟩ := h
    rfl
  · obtain ⟨x, y, b, rfl, hx, hy, q0, q1, q2⟩ := h
    have nd := sc_count_ways.nd
    refine ⟨_, (pss_cons (ps_expr (pe_h h_look hr (by decide) (by rfl) passE (pa_cons (pv 0) (pa_cons (pv 1) pa_nil))))
      (pss_cons (ps_set (i := 2) nd rfl (Or.inl rfl) (pe_op op_cat (pe_lst (pa_cons pe_int pa_nil)) (pe_lc (own := [("one", 3)]) (g := gName 3) (tt := tYes) rfl nd (pi_range1 (by rfl) B.range (pa_cons (pv 1) pa_nil)) (blkOk_by (own := [("one", 3)]) (N := ["system", "number", "found", "one", "coin"]) (sc := defScope s_count_ways) (by decide +kernel)) (fun _ _ _ _ _ => (pg_name (i := 3) nd rfl (Or.inl rfl))) (fun _ _ _ _ _ => pts_nil) (fun _ _ _ _ _ => pe_int))))
      (pss_cons (ps_for (passes_of rfl) rfl (pi_tup (pv 0)) (pg_name (i := 4) nd rfl (Or.inl rfl))
      (pss_one (ps_for (passes_of rfl) rfl (pi_range2 (by rfl) B.range (pa_cons (pv 4) (pa_cons (pe_op op_add (pv 1) pe_int) pa_nil))) (pg_name (i := 3) nd rfl (Or.inl rfl))
      (pss_one (ps_asg (pe_op op_add (pe_ix (ixLK K) (pv 2) (pv 3) (fun _ _ => rfl)) (pe_ix (ixLK K) (pv 2) (pe_op op_sub (pv 3) (pv 4)) (fun _ _ => rfl))) (pg_sub (pv 2) (pv 3) set_list))))))
      (pss_one (ps_ret (pe_ix (ixLK K) (pv 2) (pv 1) (fun _ _ => rfl))))))), ?_⟩
    refine ⟨x, rfl, y, rfl, x, y, b, rfl, hx, hy, fun hb hw H1 e1 => ?_, fun hb hw H1 e1 => q1 hb hw H1 e1, fun hb H1 e1 => q2 hb H1 e1⟩
    obtain ⟨a, cs, n, rfl, rfl, ha, g, q⟩ := q0 hb hw
    have hn : n ≤ 2000 := within_le (hi := 2000) hw
    have hl := g.len
    have hS := g.toSys
    have ha1 := e1 _ _ ha
    dsimp only
    refine q_asgL (xs := ivs (wrow [] n)) ?_ fun p H2 np e2 h2 => ?_
    · rw [wrow_nil]
      have e : ivs (1 :: List.replicate n 0) = [iv 1] ++ ((List.range n).filter fun _ => true).map fun _ => iv 0 := by
        rw [filter_yes, List.map_const', List.length_range]
        show iv 1 :: (List.replicate n 0).map iv = _
        rw [List.map_replicate]
        rfl
      rw [e]
      exact el_cat (ehl_l (el_lst (ea_cons (cn 1) ea_nil) (by decide))) (ehl_l (el_rng1 (n := n) (fun _ => true) (fun _ => iv 0) (ea_cons (vr (iv n)) ea_nil) (by omega) (fun _ => rfl) (fun c H2 e2 hc => et_yes) (fun c H2 e2 hc _ => cn 0))) (by rw [filter_yes, List.length_map, List.length_range]; show 1 + n ≤ 100000; omega)
    have ha2 := e2 _ _ ha1
    refine q_forTn (vr (.ref a)) ha2 (fun i σ' H' => Ex H1 H' ∧ H' p = some (.lst (ivs (wrow (cs.take i) n))) ∧ ∃ u3 u4, σ' = [some (.ref a), some (iv n), some (.ref p), u3, u4]) (fun H3 e3 => ⟨e2.trans e3, e3 _ _ h2, none, none, rfl⟩) (fun i σ' H' hW => hW.1 _ _ ha1) (fun i x σ' H' hx hW => ?_) (fun σ' H' hW => ?_)
    · obtain ⟨eH, hq, u3, u4, rfl⟩ := hW
      obtain ⟨c, hc2, rfl⟩ : ∃ c, cs[i]? = some c ∧ x = iv c := by
        unfold ivs at hx
        rw [List.getElem?_map] at hx
        cases h2 : cs[i]? with
        | none => rw [h2] at hx; cases hx
        | some c => rw [h2] at hx; cases hx; exact ⟨c, rfl, rfl⟩
      have hm := List.mem_of_getElem? hc2
      have c0 := hS.pos c hm
      have c200 := g.le c hm
      have hp0 : ∀ x ∈ cs.take i, 0 < x := fun x hx => hS.pos x (List.mem_of_mem_take hx)
      have et : cs.take (i + 1) = cs.take i ++ [c] := by rw [List.take_add_one, hc2]; rfl
      refine s_forR2 (lo := c) (n := ((n + 1 : Nat) : Int)) (ea_cons (vr (iv c)) (ea_cons (ev_op (vr (iv n)) (cn 1) rvn_add) ea_nil)) (by omega)
        (fun j σ' H'' => Ex H1 H'' ∧ H'' p = some (.lst (ivs (wmid (cs.take i) c n (c + j)))) ∧ ∃ u3, σ' = [some (.ref a), some (iv n), some (.ref p), u3, some (iv c)]) (fun H3 e3 => ⟨eH.trans e3, by rw [e3 _ _ hq, Nat.add_zero, wmid_start hp0 c0], u3, rfl⟩) (fun j σ' H'' hj hV => ?_) (fun σ' H'' hV => ?_)
      · obtain ⟨eV, hv, u3, rfl⟩ := hV
        have hj' : c + j ≤ n := by omega
        rw [show V.int ((c : Int) + (j : Int)) = iv (c + j) by unfold iv; congr 1]
        have g1 : (wmid (cs.take i) c n (c + j))[c + j]? = some (ways (cs.take i) (c + j)) := by rw [wmid_get hj', if_neg (by omega)]
        have g2 : (wmid (cs.take i) c n (c + j))[j]? = some (ways (cs.take i ++ [c]) j) := by rw [wmid_get (by omega), if_pos (by omega)]
        refine s_setL hv (ev_op (ev_ixL (esl_of (vr (.ref p)) (sq_of hv)) (vr (iv (c + j))) (at_ivs g1)) (ev_ixL (esl_of (vr (.ref p)) (sq_of hv)) (ev_is (ev_op (vr (iv (c + j))) (vr (iv c)) (rvn_sub (by omega))) (by rw [show c + j - c = j by omega]; rfl)) (at_ivs g2)) rvn_add) (vr (.ref p)) (vr (iv (c + j))) (by rw [ivs_len, wmid_len]; omega) fun H3 e3 => ?_
        refine ⟨Ex.mut (eV.trans e3) np, ?_, some (iv (c + j)), rfl⟩
        rw [upd_same, ← wmid_step hp0 c0 hj']
        unfold ivs
        rw [List.map_set]
      · obtain ⟨eV, hv, u3, rfl⟩ := hV
        refine ⟨eV, ?_, u3, some (iv c), rfl⟩
        rw [hv, et]
        by_cases hcn : c ≤ n
        · rw [wmid_end (by omega)]
        · rw [wmid_small hp0 c0 (by omega), show (((n + 1 : Nat) : Int) - (c : Int)).toNat = 0 by omega, Nat.add_zero, wmid_start hp0 c0]
    · obtain ⟨eH, hq, u3, u4, rfl⟩ := hW
      rw [ivs_len, List.take_length] at hq
      have gn : (wrow cs n)[n]? = some (ways cs n) := by
        unfold wrow
        rw [List.getElem?_map, List.getElem?_range (by omega)]
        rfl
      exact s_ret (ev_ixL (esl_of (vr (.ref p)) (sq_of hq)) (vr (iv n)) (at_ivs gn)) fun H3 e3 => q H3 (e1.trans (eH.trans e3))

/-! ### excess -/
theorem sc_excess : FnScope ["system", "number"] ["system", "number"] (defScope s_excess) := ⟨rfl, rfl, rfl, by decide +kernel, rfl, by decide +kernel, by decide +kernel⟩
def sp_excess (CS CB : Addr) : Sp := fun vs H Q E => ∃ x y b, vs = [x, y] ∧ Sv H x b ∧ (b = true → Tg H y) ∧ (b = true → within y 0 2000 = true → ∃ a cs n, x = .ref a ∧ y = iv n ∧ H a = some (.tup (ivs cs)) ∧ Good cs ∧ ∀ H', Ex H H' → Q (iv (gs cs n - fw cs n)) H') ∧
  (b = true → within y 0 2000 = false → ∀ H', Ex H H' → E (.ref CB) none H') ∧ (b = false → ∀ H', Ex H H' → E (.ref CS) none H')
theorem v_excess {CS CB : Addr} {H : Hp} {a : Addr} {cs : List Nat} {n : Nat} (ha : H a = some (.tup (ivs cs))) (g : Good cs) (hn : n ≤ 2000) : SpV (sp_excess CS CB) [.ref a, iv n] H (iv (gs cs n - fw cs n)) := fun H1 e1 Q q E =>
  ⟨.ref a, iv n, true, rfl, (Sv.good ha g).ex e1, fun _ => .int _, fun _ _ => ⟨a, cs, n, rfl, rfl, e1 _ _ ha, g, fun H2 e2 => q H2 e2⟩, fun _ z => (by rw [show within (iv n) 0 2000 = true from within_iv (lo := 0) (hi := 2000) (Nat.zero_le _) hn] at z; cases z), fun z => (by cases z)⟩
theorem ok_excess {f : Addr} {fd : FuncData} {CS CB : Addr} (F : Fun K "excess" "excess" s_excess f fd) (B : Bi mg) (h_look : Hs P w K mg base 4 "look" (sp_look CS CB)) (h_taken : Hs P w K mg base 1 "taken" sp_taken) (h_fewest_up_to : Hs P w K mg base 1 "fewest_up_to" sp_fewest_up_to) :
    FnOk P w K mg base (L2.CX P w) 5 f fd ["system", "number"] (sp_excess CS CB) := by
  refine F.okX sc_excess (fun vs H Q E h => ?_) (fun cdv A outer s H vs Q E hr h => ?_)
  · obtain ⟨x, y, b, rfl, _⟩ := h
    rfl
  · obtain ⟨x, y, b, rfl, hx, hy, q0, q1, q2⟩ := h
    have nd := sc_excess.nd
    refine ⟨_, (pss_cons (ps_expr (pe_h h_look hr (by decide) (by rfl) passE (pa_cons (pv 0) (pa_cons (pv 1) pa_nil))))
      (pss_one (ps_ret (pe_op op_sub (pe_callB (sumTK K) (by rfl) B.sum (by decide +kernel) (pa_cons (pe_h h_taken hr (by decide) (by rfl) passE (pa_cons (pv 0) (pa_cons (pv 1) pa_nil))) pa_nil)) (pe_ix (ixLK K) (pe_h h_fewest_up_to hr (by decide) (by rfl) passE (pa_cons (pv 0) (pa_cons (pv 1) pa_nil))) (pv 1) (fun _ _ => rfl)))))), ?_⟩
    refine ⟨x, rfl, y, rfl, x, y, b, rfl, hx, hy, fun hb hw H1 e1 => ?_, fun hb hw H1 e1 => q1 hb hw H1 e1, fun hb H1 e1 => q2 hb H1 e1⟩
    obtain ⟨a, cs, n, rfl, rfl, ha, g, q⟩ := q0 hb hw
    have hn : n ≤ 2000 := within_le (hi := 2000) hw
    have hl := g.len
    have ha1 := e1 _ _ ha
    exact s_ret (ev_op (ev_sumT (est_call (ea_cons (vr (.ref a)) (ea_cons (vr (iv n)) ea_nil)) (v_taken ha1 g.toSys (fun c hc => by have := g.le c hc; omega) (by omega))))
      (ev_ixL (esl_l (elc (ea_cons (vr (.ref a)) (ea_cons (vr (iv n)) ea_nil)) (v_fewest_up_to ha1 g.toSys (by omega) (by omega)))) (vr (iv n)) (at_ivs (row_get (Nat.le_refl n)))) (rvn_sub (fw_le_gs g.toSys n))) fun H2 e2 => q H2 (e1.trans e2)

/-! ### first_fault -/
theorem sc_first_fault : FnScope ["system", "last", "rows", "number"] ["system"] (defScope s_first_fault) := ⟨rfl, rfl, rfl, by decide +kernel, rfl, by decide +kernel, by decide +kernel⟩
def sp_first_fault (CS : Addr) : Sp := fun vs H Q E => ∃ x b, vs = [x] ∧ Sv H x b ∧ (b = true → ∃ a cs, x = .ref a ∧ H a = some (.tup (ivs cs)) ∧ Good cs ∧ ∀ H', Ex H H' → Q (ov (ff cs)) H') ∧ (b = false → ∀ H', Ex H H' → E (.ref CS) none H')
theorem v_first_fault {CS : Addr} {H : Hp} {a : Addr} {cs : List Nat} (ha : H a = some (.tup (ivs cs))) (g : Good cs) : SpV (sp_first_fault CS) [.ref a] H (ov (ff cs)) := fun H1 e1 Q q E =>
  ⟨.ref a, true, rfl, (Sv.good ha g).ex e1, fun _ => ⟨a, cs, rfl, e1 _ _ ha, g, fun H2 e2 => q H2 e2⟩, fun z => (by cases z)⟩
theorem ok_first_fault {f : Addr} {fd : FuncData} {CS : Addr} (F : Fun K "first_fault" "first_fault" s_first_fault f fd) (B : Bi mg) (h_checked : Hs P w K mg base 3 "checked" (sp_checked CS)) (h_fewest_up_to : Hs P w K mg base 1 "fewest_up_to" sp_fewest_up_to) (h_taken : Hs P w K mg base 1 "taken" sp_taken) :
    FnOk P w K mg base (L2.CX P w) 4 f fd ["system"] (sp_first_fault CS) := by
  refine F.okX sc_first_fault (fun vs H Q E h => ?_) (fun cdv A outer s H vs Q E hr h => ?_)
  · obtain ⟨x, b, rfl, _⟩ := h
    rfl
  · obtain ⟨x, b, rfl, hx, q1, q2⟩ := h
    have nd := sc_first_fault.nd
    refine ⟨_, (pss_cons (ps_expr (pe_h h_checked hr (by decide) (by rfl) passE (pa_cons (pv 0) pa_nil)))
      (pss_cons (ps_set (i := 1) nd rfl (Or.inl rfl) (pe_callB (sumTK K) (by rfl) B.sum (by decide +kernel) (pa_cons (pe_slice (slAK K) (pv 0) (po_some (pe_un un_neg pe_int)) po_none) pa_nil)))
      (pss_cons (ps_set (i := 2) nd rfl (Or.inl rfl) (pe_h h_fewest_up_to hr (by decide) (by rfl) passE (pa_cons (pv 0) (pa_cons (pv 1) pa_nil))))
      (pss_cons (ps_for (passes_of rfl) rfl (pi_range1 (by rfl) B.range (pa_cons (pe_op op_add (pv 1) pe_int) pa_nil)) (pg_name (i := 3) nd rfl (Or.inl rfl))
      (pss_one (ps_if (pt_cmpR op_gt (pe_callB (sumTK K) (by rfl) B.sum (by decide +kernel) (pa_cons (pe_h h_taken hr (by decide) (by rfl) passE (pa_cons (pv 0) (pa_cons (pv 3) pa_nil))) pa_nil)) (pe_ix (ixLK K) (pv 2) (pv 3) (fun _ _ => rfl)) (nomark _))
      (pss_one (ps_ret (pv 3))) pss_nil)))
      (pss_one (ps_ret pe_non)))))), ?_⟩
    refine ⟨x, rfl, x, b, rfl, hx, fun hb H1 e1 => ?_, fun hb H1 e1 => q2 hb H1 e1⟩
    obtain ⟨a, cs, rfl, ha, g, q⟩ := q1 hb
    have hs := g.toSys
    have hl := g.len
    have ha1 := e1 _ _ ha
    have hS : (cs.drop (cs.length - 2)).sum ≤ 400 := last2_le g
    refine q_asg (v := iv (cs.drop (cs.length - 2)).sum) (ev_sumT (est_sl (est_of (vr (.ref a)) ha1) (eo_some (ev_un ev_c ru_neg)) eo_none (cut_last cs 2 (by decide)))) fun H2 e2 => ?_
    have ha2 := e2 _ _ ha1
    generalize hSd : (cs.drop (cs.length - 2)).sum = S at hS
    refine q_asgL (elc (ea_cons (vr (.ref a)) (ea_cons (vr (iv S)) ea_nil)) (v_fewest_up_to ha2 hs (by omega) (by omega))) fun r H3 hr3 e3 h3 => ?_
    have ha3 := e3 _ _ ha2
    have e03 := e1.trans (e2.trans e3)
    refine q_forR1 (n := ((S + 1 : Nat) : Int)) (ea_cons (ev_op (vr (iv S)) (cn 1) rvn_add) ea_nil) (by omega)
      (fun i σ' H' => Ex H3 H' ∧ (∀ k, k < i → ¬ Fault cs k) ∧ ∃ u, σ' = [some (.ref a), some (iv S), some (.ref r), u]) (fun H4 e4 => ⟨e4, fun k hk => absurd hk (Nat.not_lt_zero k), none, rfl⟩) (fun i σ' H' hi hW => ?_) (fun σ' H' hW => ?_)
    · obtain ⟨eH, hno, u, rfl⟩ := hW
      refine s_when (b := decide (fw cs i < gs cs i)) (et_test (ev_op (ev_sumT (est_call (ea_cons (vr (.ref a)) (ea_cons (vr (iv i)) ea_nil)) (v_taken (eH _ _ ha3) hs (fun c hc => by have := g.le c hc; omega) (by omega)))) (ev_ixL (esl_of (vr (.ref r)) (sq_of (eH _ _ h3))) (vr (iv i)) (at_ivs (row_get (by omega)))) rvn_gt)) (fun h5 H5 e5 => ?_) (fun h5 H5 e5 => ?_)
      · have h5 := of_decide_eq_true h5
        have : ff cs = some i := ff_some.mpr ⟨h5, fun m hm => by
          by_cases z : m < i
          · exact absurd hm (hno m z)
          · omega⟩
        rw [this] at q
        exact s_ret (vr (iv i)) fun H6 e6 => q H6 (e03.trans (eH.trans (e5.trans e6)))
      · have h5 := of_decide_eq_false h5
        exact ⟨eH.trans e5, fun k hk => by
          by_cases z : k = i
          · subst z; exact h5
          · exact hno k (by omega), some (iv i), rfl⟩
    · obtain ⟨eH, hno, u, rfl⟩ := hW
      have : ff cs = none := ff_none.mpr fun n hn => by
        obtain ⟨m, hm⟩ := first_ex hn
        have := first_last2 hs hm
        exact hno m (by omega) hm.fault
      rw [this] at q
      exact s_ret ev_c fun H6 e6 => q H6 (e03.trans (eH.trans e6))

/-! ### is_orderly -/
theorem sc_is_orderly : FnScope ["system"] ["system"] (defScope s_is_orderly) := ⟨rfl, rfl, rfl, by decide +kernel, rfl, by decide +kernel, by decide +kernel⟩
def sp_is_orderly (CS : Addr) : Sp := fun vs H Q E => ∃ x b, vs = [x] ∧ Sv H x b ∧ (b = true → ∃ a cs, x = .ref a ∧ H a = some (.tup (ivs cs)) ∧ Good cs ∧ ∀ H', Ex H H' → Q (.bl (decide (ff cs = none))) H') ∧ (b = false → ∀ H', Ex H H' → E (.ref CS) none H')
theorem v_is_orderly {CS : Addr} {H : Hp} {a : Addr} {cs : List Nat} (ha : H a = some (.tup (ivs cs))) (g : Good cs) : SpV (sp_is_orderly CS) [.ref a] H (.bl (decide (ff cs = none))) := fun H1 e1 Q q E =>
  ⟨.ref a, true, rfl, (Sv.good ha g).ex e1, fun _ => ⟨a, cs, rfl, e1 _ _ ha, g, fun H2 e2 => q H2 e2⟩, fun z => (by cases z)⟩
theorem ok_is_orderly {f : Addr} {fd : FuncData} {CS : Addr} (F : Fun K "is_orderly" "is_orderly" s_is_orderly f fd) (h_first_fault : Hs P w K mg base 4 "first_fault" (sp_first_fault CS)) :
    FnOk P w K mg base (L2.CX P w) 5 f fd ["system"] (sp_is_orderly CS) := by
  refine F.okX sc_is_orderly (fun vs H Q E h => ?_) (fun cdv A outer s H vs Q E hr h => ?_)
  · obtain ⟨x, b, rfl, _⟩ := h
    rfl
  · obtain ⟨x, b, rfl, hx, q1, q2⟩ := h
    have nd := sc_is_orderly.nd
    refine ⟨_, (pss_one (ps_ret (pe_cmpR op_isN (pe_h h_first_fault hr (by decide) (by rfl) passE (pa_cons (pv 0) pa_nil)) pe_non (nomark _)))), ?_⟩
    cases b with
    | false => exact ⟨x, rfl, x, false, rfl, hx, fun z => (by cases z), fun hb H1 e1 => q2 hb H1 e1⟩
    | true =>
      obtain ⟨a, cs, rfl, ha, g, q⟩ := q1 rfl
      exact s_ret (ev_op (evc (ea_cons (vr (.ref a)) ea_nil) (v_first_fault ha g)) ev_c rv_isNO) fun H1 e1 => q H1 e1

/-! ### why_not -/
theorem sc_why_not : FnScope ["system", "number"] ["system"] (defScope s_why_not) := ⟨rfl, rfl, rfl, by decide +kernel, rfl, by decide +kernel, by decide +kernel⟩
def sp_why_not (CS : Addr) : Sp := fun vs H Q E => ∃ x b, vs = [x] ∧ Sv H x b ∧ (b = true → ∃ a cs, x = .ref a ∧ H a = some (.tup (ivs cs)) ∧ Good cs ∧ (ff cs = none → ∀ H', Ex H H' → Q .non H') ∧
    ∀ n, ff cs = some n → ∀ p t u H', Ex H H' → H' p = some (.tup [iv n, .ref t, .ref u]) → H' t = some (.tup (ivs (taken cs n))) → H' u = some (.tup (ivs (byFew cs n))) → Q (.ref p) H') ∧ (b = false → ∀ H', Ex H H' → E (.ref CS) none H')
def WhyV (cs : List Nat) (v : V) (H : Hp) : Prop := (ff cs = none ∧ v = .non) ∨ ∃ n p t u, ff cs = some n ∧ v = .ref p ∧ H p = some (.tup [iv n, .ref t, .ref u]) ∧ H t = some (.tup (ivs (taken cs n))) ∧ H u = some (.tup (ivs (byFew cs n)))
theorem v_why_not {CS : Addr} {H : Hp} {a : Addr} {cs : List Nat} (ha : H a = some (.tup (ivs cs))) (g : Good cs) : SpR (sp_why_not CS) [.ref a] H (WhyV cs) := fun H1 e1 Q q E =>
  ⟨.ref a, true, rfl, (Sv.good ha g).ex e1, fun _ => ⟨a, cs, rfl, e1 _ _ ha, g, fun hn H2 e2 => q _ H2 e2 (.inl ⟨hn, rfl⟩), fun n hn p t u H2 e2 hp ht hu => q _ H2 e2 (.inr ⟨n, p, t, u, hn, rfl, hp, ht, hu⟩)⟩, fun z => (by cases z)⟩
theorem ok_why_not {f : Addr} {fd : FuncData} {CS CB : Addr} (F : Fun K "why_not" "why_not" s_why_not f fd) (h_first_fault : Hs P w K mg base 4 "first_fault" (sp_first_fault CS)) (h_taken : Hs P w K mg base 1 "taken" sp_taken) (h_by_fewest : Hs P w K mg base 5 "by_fewest" (sp_by_fewest CS CB)) :
    FnOk P w K mg base (L2.CX P w) 6 f fd ["system"] (sp_why_not CS) := by
  refine F.okX sc_why_not (fun vs H Q E h => ?_) (fun cdv A outer s H vs Q E hr h => ?_)
  · obtain ⟨x, b, rfl, _⟩ := h
    rfl
  · obtain ⟨x, b, rfl, hx, q1, q2⟩ := h
    have nd := sc_why_not.nd
    refine ⟨_, (pss_cons (ps_set (i := 1) nd rfl (Or.inl rfl) (pe_h h_first_fault hr (by decide) (by rfl) passE (pa_cons (pv 0) pa_nil)))
      (pss_cons (ps_if (pt_cmpR op_isN (pv 1) pe_non (nomark _))
      (pss_one (ps_ret pe_non)) pss_nil)
      (pss_one (ps_ret (pe_tup (pa_cons (pv 1) (pa_cons (pe_h h_taken hr (by decide) (by rfl) passE (pa_cons (pv 0) (pa_cons (pv 1) pa_nil))) (pa_cons (pe_h h_by_fewest hr (by decide) (by rfl) passE (pa_cons (pv 0) (pa_cons (pv 1) pa_nil))) pa_nil)))))))), ?_⟩
    cases b with
    | false => exact ⟨x, rfl, x, false, rfl, hx, fun z => (by cases z), fun hb H1 e1 => q2 hb H1 e1⟩
    | true =>
      obtain ⟨a, cs, rfl, ha, g, qn, qs⟩ := q1 rfl
      have hs := g.toSys
      have hl := g.len
      refine q_asg (evc (ea_cons (vr (.ref a)) ea_nil) (v_first_fault ha g)) fun H1 e1 => ?_
      refine q_when (et_test (ev_op (vr (ov (ff cs))) ev_c rv_isNO)) (fun h2 H2 e2 => ?_) (fun h2 H2 e2 => ?_)
      · exact s_ret ev_c fun H3 e3 => qn (of_decide_eq_true h2) H3 (e1.trans (e2.trans e3))
      · have h2 := of_decide_eq_false h2
        obtain ⟨n, hn⟩ : ∃ n, ff cs = some n := by
          cases h : ff cs with
          | none => exact absurd h h2
          | some n => exact ⟨n, rfl⟩
        have hn2 : n ≤ 2000 := by
          have := first_last2 hs (ff_some.mp hn)
          have := last2_le g
          omega
        rw [hn]
        have e02 := e1.trans e2
        have ha2 := e02 _ _ ha
        refine s_retTup (ear_v (vr (iv n)) (ear_t (est_call (ea_cons (vr (.ref a)) (ea_cons (vr (iv n)) ea_nil)) (v_taken ha2 hs (fun c hc => by have := g.le c hc; omega) (by omega))) (ear_t (est_call (ea_cons (vr (.ref a)) (ea_cons (vr (iv n)) ea_nil)) (v_by_fewest ha2 g hn2)) ear_nil))) (fun vs H3 h3 => ?_) (fun p vs H3 H4 e3 h3 e4 _ hp => ?_)
        · obtain ⟨_, rfl, _, _, rfl, _, _, _, rfl, _, rfl⟩ := h3
          show 3 ≤ 100000
          decide
        · obtain ⟨_, rfl, t, _, rfl, ht, u, _, rfl, hu, rfl⟩ := h3
          exact qs n hn p t u H4 (e02.trans (e3.trans e4)) hp (e4 _ _ ht) (e4 _ _ hu)

/-! ### orderly_beginnings -/
theorem sc_orderly_beginnings : FnScope ["system", "one"] ["system"] (defScope s_orderly_beginnings) := ⟨rfl, rfl, rfl, by decide +kernel, rfl, by decide +kernel, by decide +kernel⟩
def sp_orderly_beginnings (CS : Addr) : Sp := fun vs H Q E => ∃ x b, vs = [x] ∧ Sv H x b ∧ (b = true → ∃ a cs, x = .ref a ∧ H a = some (.tup (ivs cs)) ∧ Good cs ∧ ∀ p H', H p = none → Ex H H' → H' p = some (.lst (ivs (obeg cs))) → Q (.ref p) H') ∧ (b = false → ∀ H', Ex H H' → E (.ref CS) none H')
theorem v_orderly_beginnings {CS : Addr} {H : Hp} {a : Addr} {cs : List Nat} (ha : H a = some (.tup (ivs cs))) (g : Good cs) : SpL (sp_orderly_beginnings CS) [.ref a] H (ivs (obeg cs)) := fun H1 e1 Q q E =>
  ⟨.ref a, true, rfl, (Sv.good ha g).ex e1, fun _ => ⟨a, cs, rfl, e1 _ _ ha, g, fun p H2 np e2 hp => q p H2 np e2 hp⟩, fun z => (by cases z)⟩
theorem good_begs {cs c : List Nat} (g : Good cs) (hc : c ∈ begs cs) : Good c := by
  obtain ⟨i, hi, rfl⟩ := List.mem_map.mp hc
  exact ⟨g.toSys.take (Nat.succ_pos i), fun x hx => g.le x (List.mem_of_mem_take hx), by rw [List.length_take]; have := g.len; omega⟩
theorem begs_len (cs : List Nat) : (begs cs).length = cs.length := by
  unfold begs
  rw [List.length_map, List.length_range]
theorem ok_orderly_beginnings {f : Addr} {fd : FuncData} {CS : Addr} (F : Fun K "orderly_beginnings" "orderly_beginnings" s_orderly_beginnings f fd) (B : Bi mg) (h_beginnings : Hs P w K mg base 4 "beginnings" (sp_beginnings CS)) (h_is_orderly : Hs P w K mg base 5 "is_orderly" (sp_is_orderly CS)) :
    FnOk P w K mg base (L2.CX P w) 6 f fd ["system"] (sp_orderly_beginnings CS) := by
  refine F.okX sc_orderly_beginnings (fun vs H Q E h => ?_) (fun cdv A outer s H vs Q E hr h => ?_)
  · obtain ⟨x, b, rfl, _⟩ := h
    rfl
  · obtain ⟨x, b, rfl, hx, q1, q2⟩ := h
    have nd := sc_orderly_beginnings.nd
    refine ⟨_, (pss_one (ps_ret (pe_lc (own := [("one", 1)]) (g := gName 1) rfl nd (pi_list (pe_h h_beginnings hr (by decide) (by rfl) passE (pa_cons (pv 0) pa_nil))) (blkOk_by (own := [("one", 1)]) (N := ["system", "one"]) (sc := defScope s_orderly_beginnings) (by decide +kernel)) (fun _ _ _ _ _ => (pg_name (i := 1) nd rfl (Or.inl rfl))) (fun _ _ _ _ _ => (pts_one (pt_val (pe_h h_is_orderly hr (by decide) (by rfl) passF (pa_cons (pv 1) pa_nil))))) (fun _ _ _ _ _ => (pe_callB (lenK K) (by rfl) B.len (by decide +kernel) (pa_cons (pv 1) pa_nil)))))), ?_⟩
    cases b with
    | false => exact ⟨x, rfl, x, false, rfl, hx, fun z => (by cases z), fun hb H1 e1 => q2 hb H1 e1⟩
    | true =>
      obtain ⟨a, cs, rfl, ha, g, q⟩ := q1 rfl
      have hl := g.len
      refine s_retL (xs := ivs (obeg cs)) ?_ fun p H1 np e1 hp => q p H1 np e1 hp
      unfold obeg ivs
      rw [List.map_map]
      refine el_lcP (ρ := TupN) (fun c => decide (ff c = none)) (iv ∘ List.length) (en_call (ea_cons (vr (.ref a)) ea_nil) (v_beginnings ha g)) tupN_ex (by rw [begs_len]; omega) (fun _ => rfl) (fun c z H1 e1 hc hz => ?_) (fun c z H1 e1 hc hz _ => ?_)
      · obtain ⟨b, rfl, hb⟩ := hz
        exact et_B (evc (ea_cons (vr (.ref b)) ea_nil) (v_is_orderly hb (good_begs g hc)))
      · obtain ⟨b, rfl, hb⟩ := hz
        exact ev_lenN (est_of (vr (.ref b)) hb)

/-! ### all_faults -/
theorem sc_all_faults : FnScope ["system", "last", "rows", "number"] ["system", "last"] (defScope s_all_faults) := ⟨rfl, rfl, rfl, by decide +kernel, rfl, by decide +kernel, by decide +kernel⟩
def sp_all_faults (CS CN : Addr) : Sp := fun vs H Q E => ∃ x y b, vs = [x, y] ∧ Sv H x b ∧ (b = true → Tg H y) ∧ (b = true → within y 0 400 = true → ∃ a cs n, x = .ref a ∧ y = iv n ∧ H a = some (.tup (ivs cs)) ∧ Good cs ∧ ∀ p H', H p = none → Ex H H' → H' p = some (.lst (ivs (faults cs n))) → Q (.ref p) H') ∧
  (b = true → within y 0 400 = false → ∀ H', Ex H H' → E (.ref CN) none H') ∧ (b = false → ∀ H', Ex H H' → E (.ref CS) none H')
theorem v_all_faults {CS CN : Addr} {H : Hp} {a : Addr} {cs : List Nat} {n : Nat} (ha : H a = some (.tup (ivs cs))) (g : Good cs) (hn : n ≤ 400) : SpL (sp_all_faults CS CN) [.ref a, iv n] H (ivs (faults cs n)) := fun H1 e1 Q q E =>
  ⟨.ref a, iv n, true, rfl, (Sv.good ha g).ex e1, fun _ => .int _, fun _ _ => ⟨a, cs, n, rfl, rfl, e1 _ _ ha, g, fun p H2 np e2 h2 => q p H2 np e2 h2⟩, fun _ z => (by rw [show within (iv n) 0 400 = true from within_iv (lo := 0) (hi := 400) (Nat.zero_le _) hn] at z; cases z), fun z => (by cases z)⟩
theorem ok_all_faults {f : Addr} {fd : FuncData} {CS CN : Addr} (F : Fun K "all_faults" "all_faults" s_all_faults f fd) (B : Bi mg) (h_checked : Hs P w K mg base 3 "checked" (sp_checked CS)) (h_is_within : Hs P w K mg base 1 "is_within" sp_is_within) (h_fewest_up_to : Hs P w K mg base 1 "fewest_up_to" sp_fewest_up_to) (h_taken : Hs P w K mg base 1 "taken" sp_taken) (x_BadNumber : Ec K mg "BadNumber" CN) :
    FnOk P w K mg base (L2.CX P w) 4 f fd ["system", "last"] (sp_all_faults CS CN) := by
  refine F.okX sc_all_faults (fun vs H Q E h => ?_) (fun cdv A outer s H vs Q E hr h => ?_)
  · obtain ⟨x, y, b, rfl, _⟩ := h
    rfl
  · obtain ⟨x, y, b, rfl, hx, hy, q0, q1, q2⟩ := h
    have nd := sc_all_faults.nd
    refine ⟨_, (pss_cons (ps_expr (pe_h h_checked hr (by decide) (by rfl) passE (pa_cons (pv 0) pa_nil)))
      (pss_cons (ps_if (pt_not (pt_val (pe_h h_is_within hr (by decide) (by rfl) passE (pa_cons (pv 1) (pa_cons pe_int (pa_cons pe_int pa_nil))))))
      (pss_one (ps_raise rfl (takes_of rfl rfl rfl rfl) (pmk_own PySem.F.excBase_ValueError x_BadNumber.x x_BadNumber.g x_BadNumber.k x_BadNumber.r (by rfl)))) pss_nil)
      (pss_cons (ps_set (i := 2) nd rfl (Or.inr rfl) (pe_h h_fewest_up_to hr (by decide) (by rfl) passE (pa_cons (pv 0) (pa_cons (pv 1) pa_nil))))
      (pss_one (ps_ret (pe_lc (own := [("number", 3)]) (g := gName 3) rfl nd (pi_range1 (by rfl) B.range (pa_cons (pe_op op_add (pv 1) pe_int) pa_nil)) (blkOk_by (own := [("number", 3)]) (N := ["system", "last", "rows", "number"]) (sc := defScope s_all_faults) (by decide +kernel)) (fun _ _ _ _ _ => (pg_name (i := 3) nd rfl (Or.inl rfl))) (fun _ _ _ _ _ => (pts_one (pt_cmpR op_gt (pe_callB (sumTK K) (by rfl) B.sum (by decide +kernel) (pa_cons (pe_h h_taken hr (by decide) (by rfl) passF (pa_cons (pv 0) (pa_cons (pv 3) pa_nil))) pa_nil)) (pe_ix (ixLK K) (pv 2) (pv 3) (fun _ _ => rfl)) (nomark _)))) (fun _ _ _ _ _ => (pv 3)))))))), ?_⟩
    cases b with
    | false => exact ⟨x, rfl, x, false, rfl, hx, fun z => (by cases z), fun _ H1 e1 => q2 rfl H1 e1⟩
    | true =>
      refine q_drop (evc (ea_cons (vr x) ea_nil) (v_checked hx)) fun H1 e1 => ?_
      refine q_when (b := !within y 0 400) (et_not (et_B (evc (ea_cons (vr y) (ea_cons ev_c (ea_cons ev_c ea_nil))) (v_is_within ((hy rfl).ex e1) rfl)))) (fun h1 H2 e2 => q1 rfl (by simpa using h1) H2 (e1.trans e2)) (fun h1 H2 e2 => ?_)
      have hw : within y 0 400 = true := by simpa using h1
      obtain ⟨a, cs, n, rfl, rfl, ha, g, q⟩ := q0 rfl hw
      have hn : n ≤ 400 := within_le (hi := 400) hw
      have hs := g.toSys
      have hl := g.len
      have ha2 := e2 _ _ (e1 _ _ ha)
      refine q_asgL (elc (ea_cons (vr (.ref a)) (ea_cons (vr (iv n)) ea_nil)) (v_fewest_up_to ha2 hs (by omega) (by omega))) fun r H3 hr3 e3 h3 => ?_
      have ha3 := e3 _ _ ha2
      have e03 := e1.trans (e2.trans e3)
      refine s_retL (xs := ivs (faults cs n)) (by
        unfold faults ivs
        refine el_rng1 (n := n + 1) (fun k => decide (fw cs k < gs cs k)) iv (ea_cons (ev_op (vr (iv n)) (cn 1) rvn_add) ea_nil) (by omega) (fun _ => rfl) (fun i H4 e4 hi => ?_) (fun i H4 e4 hi _ => vr (iv i))
        exact et_test (ev_op (ev_sumT (est_call (ea_cons (vr (.ref a)) (ea_cons (vr (iv i)) ea_nil)) (v_taken (e4 _ _ ha3) hs (fun c hc => by have := g.le c hc; omega) (by omega)))) (ev_ixL (esl_of (vr (.ref r)) (sq_of (e4 _ _ h3))) (vr (iv i)) (at_ivs (row_get (by omega)))) rvn_gt)) fun p H4 np e4 hp => q p H4 (fresh_back e03 np) (e03.trans e4) hp

/-! ### fits -/
theorem sc_fits : FnScope ["system", "coin", "times"] ["system", "coin"] (defScope s_fits) := ⟨rfl, rfl, rfl, by decide +kernel, rfl, by decide +kernel, by decide +kernel⟩
def sp_fits : Sp := fun vs H Q _ => ∃ a cs c, vs = [.ref a, iv c] ∧ H a = some (.tup (ivs cs)) ∧ Sys cs ∧ (∀ e ∈ cs, e ≤ 1000) ∧ cs.length ≤ 1000 ∧ 0 < c ∧ c ≤ 100000 ∧ ∀ H', Ex H H' → Q (.bl (fitB cs c)) H'
theorem v_fits {H : Hp} {a : Addr} {cs : List Nat} {c : Nat} (ha : H a = some (.tup (ivs cs))) (hs : Sys cs) (hc : ∀ e ∈ cs, e ≤ 1000) (hl : cs.length ≤ 1000) (h0 : 0 < c) (h1 : c ≤ 100000) : SpV sp_fits [.ref a, iv c] H (.bl (fitB cs c)) := fun H1 e1 Q q E => ⟨a, cs, c, rfl, e1 _ _ ha, hs, hc, hl, h0, h1, fun H2 e2 => q H2 e2⟩
theorem ok_fits {f : Addr} {fd : FuncData} (F : Fun K "fits" "fits" s_fits f fd) (B : Bi mg) (h_taken : Hs P w K mg base 1 "taken" sp_taken) : FnOk P w K mg base (L2.CX P w) 2 f fd ["system", "coin"] sp_fits := by
  refine F.okX sc_fits (fun vs H Q E h => ?_) (fun cdv A outer s H vs Q E hr h => ?_)
  · obtain ⟨a, cs, c, rfl, _⟩ := h
    rfl
  · obtain ⟨a, cs, c, rfl, ha, hs, hc, hl, h0, h1, q⟩ := h
    have nd := sc_fits.nd
    refine ⟨_, (pss_cons (ps_set (i := 2) nd rfl (Or.inl rfl) (pe_op op_fdiv (pe_op op_sub (pe_op op_add (pv 1) (pe_ix (ixTK K) (pv 0) (pe_un un_neg pe_int) (fun _ _ => rfl))) pe_int) (pe_ix (ixTK K) (pv 0) (pe_un un_neg pe_int) (fun _ _ => rfl))))
      (pss_one (ps_ret (pe_cmpR op_le (pe_op op_add pe_int (pe_callB (sumTK K) (by rfl) B.sum (by decide +kernel) (pa_cons (pe_h h_taken hr (by decide) (by rfl) passE (pa_cons (pv 0) (pa_cons (pe_op op_sub (pe_op op_mul (pv 2) (pe_ix (ixTK K) (pv 0) (pe_un un_neg pe_int) (fun _ _ => rfl))) (pv 1)) pa_nil))) pa_nil))) (pv 2) (nomark _))))), ?_⟩
    obtain ⟨r, er, hm, hx⟩ := hs.lst
    have m0 := hs.pos _ hm
    have m1 := hc _ hm
    have hat := hs.lstAt
    obtain ⟨u1, u2, u3⟩ := up_spec m0 h0
    have hT : upT (lst cs) c ≤ 101000 := by
      unfold upT
      have := Nat.div_le_self (c + lst cs - 1) (lst cs)
      omega
    have hix := fun (σ : L2.St) (H1 : Hp) (e : Ex H H1) (h : σ[0]? = some (some (.ref a))) => ev_ixT (K := K) (est_of (ev_var h) (e _ _ ha)) (ev_un (ev_c (v := .int 1)) ru_neg) hat
    refine q_asg (v := iv (upT (lst cs) c)) (ev_op (ev_op (ev_op (vr (iv c)) (hix _ _ (Ex.refl _) rfl) rvn_add) (cn 1) (rvn_sub (by omega))) (hix _ _ (Ex.refl _) rfl) (rvn_div m0 (by omega))) fun H1 e1 => ?_
    refine s_ret (ev_op (ev_op (cn 1) (ev_sumT (est_call (ea_cons (vr (.ref a)) (ea_cons (ev_op (ev_op (vr (iv (upT (lst cs) c))) (hix _ _ e1 rfl) (rvn_mul (by omega))) (vr (iv c)) (rvn_sub u1)) ea_nil)) (v_taken (e1 _ _ ha) hs (fun e he => by have := hc e he; omega) hl))) rvn_add) (vr (iv (upT (lst cs) c))) rvn_le) fun H2 e2 => q H2 (e1.trans e2)

/-! ### look_orderly -/
theorem sc_look_orderly : FnScope ["system"] ["system"] (defScope s_look_orderly) := ⟨rfl, rfl, rfl, by decide +kernel, rfl, by decide +kernel, by decide +kernel⟩
def sp_look_orderly (CS CO : Addr) : Sp := fun vs H Q E => ∃ x b, vs = [x] ∧ Sv H x b ∧ (b = false → ∀ H', Ex H H' → E (.ref CS) none H') ∧ (b = true → ∃ a cs, x = .ref a ∧ H a = some (.tup (ivs cs)) ∧ Good cs ∧ (ff cs ≠ none → ∀ H', Ex H H' → E (.ref CO) none H') ∧ (ff cs = none → ∀ H', Ex H H' → Q .non H'))
theorem v_look_orderly {CS CO : Addr} {H : Hp} {a : Addr} {cs : List Nat} (ha : H a = some (.tup (ivs cs))) (g : Good cs) (o : ff cs = none) : SpV (sp_look_orderly CS CO) [.ref a] H .non := fun H1 e1 Q q E =>
  ⟨.ref a, true, rfl, (Sv.good ha g).ex e1, fun z => (by cases z), fun _ => ⟨a, cs, rfl, e1 _ _ ha, g, fun z => absurd o z, fun _ H2 e2 => q H2 e2⟩⟩
theorem ok_look_orderly {f : Addr} {fd : FuncData} {CS CO : Addr} (F : Fun K "look_orderly" "look_orderly" s_look_orderly f fd) (h_checked : Hs P w K mg base 3 "checked" (sp_checked CS)) (h_is_orderly : Hs P w K mg base 5 "is_orderly" (sp_is_orderly CS)) (x_NotOrderly : Ec K mg "NotOrderly" CO) :
    FnOk P w K mg base (L2.CX P w) 6 f fd ["system"] (sp_look_orderly CS CO) := by
  refine F.okX sc_look_orderly (fun vs H Q E h => ?_) (fun cdv A outer s H vs Q E hr h => ?_)
  · obtain ⟨x, b, rfl, _⟩ := h
    rfl
  · obtain ⟨x, b, rfl, hx, q1, q2⟩ := h
    have nd := sc_look_orderly.nd
    refine ⟨_, (pss_one (ps_if (pt_not (pt_val (pe_h h_is_orderly hr (by decide) (by rfl) passE (pa_cons (pe_h h_checked hr (by decide) (by rfl) passE (pa_cons (pv 0) pa_nil)) pa_nil))))
      (pss_one (ps_raise rfl (takes_of rfl rfl rfl rfl) (pmk_own PySem.F.excBase_ValueError x_NotOrderly.x x_NotOrderly.g x_NotOrderly.k x_NotOrderly.r (by rfl)))) pss_nil)), ?_⟩
    cases b with
    | false => exact ⟨x, rfl, x, false, rfl, hx, fun z => (by cases z), fun _ H1 e1 => q1 rfl H1 e1⟩
    | true =>
      obtain ⟨a, cs, rfl, ha, g, qo, qn⟩ := q2 rfl
      refine s_when (b := !decide (ff cs = none)) (et_not (et_B (evc (ea_cons (evc (ea_cons (vr (.ref a)) ea_nil) (v_checked hx)) ea_nil) (v_is_orderly ha g)))) (fun h1 H1 e1 => ?_) (fun h1 H1 e1 => ?_)
      · exact qo (by simpa using h1) H1 e1
      · exact qn (by simpa using h1) H1 e1

/-! ### may_follow -/
theorem sc_may_follow : FnScope ["system", "coin"] ["system", "coin"] (defScope s_may_follow) := ⟨rfl, rfl, rfl, by decide +kernel, rfl, by decide +kernel, by decide +kernel⟩
def badF (cs : List Nat) (y : V) : Bool := decide (cs.length = 8) || !within y ((lst cs : Int) + 1) 200
def sp_may_follow (CS CO CN : Addr) : Sp := fun vs H Q E => ∃ x y b, vs = [x, y] ∧ Sv H x b ∧ (b = false → ∀ H', Ex H H' → E (.ref CS) none H') ∧ (b = true → ∃ a cs, x = .ref a ∧ H a = some (.tup (ivs cs)) ∧ Good cs ∧ (ff cs ≠ none → ∀ H', Ex H H' → E (.ref CO) none H') ∧
  (ff cs = none → Tg H y ∧ (badF cs y = true → ∀ H', Ex H H' → E (.ref CN) none H') ∧ (badF cs y = false → ∃ c, y = iv c ∧ ∀ H', Ex H H' → Q (.bl (fitB cs c)) H')))
theorem v_may_follow {CS CO CN : Addr} {H : Hp} {a : Addr} {cs : List Nat} {c : Nat} (ha : H a = some (.tup (ivs cs))) (g : Good cs) (o : ff cs = none) (hl : cs.length < 8) (h1 : lst cs < c) (h2 : c ≤ 200) : SpV (sp_may_follow CS CO CN) [.ref a, iv c] H (.bl (fitB cs c)) := fun H1 e1 Q q E =>
  ⟨.ref a, iv c, true, rfl, (Sv.good ha g).ex e1, fun z => (by cases z), fun _ => ⟨a, cs, rfl, e1 _ _ ha, g, fun z => absurd o z, fun _ => ⟨.int _, fun z => (by
    unfold badF at z
    rw [decide_eq_false (show ¬ cs.length = 8 by omega), show within (iv c) ((lst cs : Int) + 1) 200 = true from within_iv (lo := lst cs + 1) (hi := 200) h1 h2] at z
    cases z), fun _ => ⟨c, rfl, fun H2 e2 => q H2 e2⟩⟩⟩⟩
theorem ok_may_follow {f : Addr} {fd : FuncData} {CS CO CN : Addr} (F : Fun K "may_follow" "may_follow" s_may_follow f fd) (B : Bi mg) (h_look_orderly : Hs P w K mg base 6 "look_orderly" (sp_look_orderly CS CO)) (h_is_within : Hs P w K mg base 1 "is_within" sp_is_within) (h_fits : Hs P w K mg base 2 "fits" sp_fits) (c_MOST_COINS : Kc mg "MOST_COINS" 8) (c_MOST_COIN : Kc mg "MOST_COIN" 200) (x_BadNumber : Ec K mg "BadNumber" CN) :
    FnOk P w K mg base (L2.CX P w) 7 f fd ["system", "coin"] (sp_may_follow CS CO CN) := by
  refine F.okX sc_may_follow (fun vs H Q E h => ?_) (fun cdv A outer s H vs Q E hr h => ?_)
  · obtain ⟨x, y, b, rfl, _⟩ := h
    rfl
  · obtain ⟨x, y, b, rfl, hx, q1, q2⟩ := h
    have nd := sc_may_follow.nd
    refine ⟨_, (pss_cons (ps_expr (pe_h h_look_orderly hr (by decide) (by rfl) passE (pa_cons (pv 0) pa_nil)))
      (pss_cons (ps_if (PW.pt (pw_or (pt_cmpR op_eq (pe_callB (lenK K) (by rfl) B.len (by decide +kernel) (pa_cons (pv 0) pa_nil)) (pe_kc (by rfl) c_MOST_COINS) (nomark _)) (pw_or1 (pt_not (pt_val (pe_h h_is_within hr (by decide) (by rfl) passE (pa_cons (pv 1) (pa_cons (pe_op op_add (pe_ix (ixTK K) (pv 0) (pe_un un_neg pe_int) (fun _ _ => rfl)) pe_int) (pa_cons (pe_kc (by rfl) c_MOST_COIN) pa_nil)))))))))
      (pss_one (ps_raise rfl (takes_of rfl rfl rfl rfl) (pmk_own PySem.F.excBase_ValueError x_BadNumber.x x_BadNumber.g x_BadNumber.k x_BadNumber.r (by rfl)))) pss_nil)
      (pss_one (ps_ret (pe_h h_fits hr (by decide) (by rfl) passE (pa_cons (pv 0) (pa_cons (pv 1) pa_nil))))))), ?_⟩
    cases b with
    | false => exact ⟨x, rfl, x, false, rfl, hx, fun _ H1 e1 => q1 rfl H1 e1, fun z => (by cases z)⟩
    | true =>
      obtain ⟨a, cs, rfl, ha, g, qo, qn⟩ := q2 rfl
      by_cases o : ff cs = none
      · obtain ⟨hy, qb, qv⟩ := qn o
        have hs := g.toSys
        have hl := g.len
        refine q_drop (evc (ea_cons (vr (.ref a)) ea_nil) (v_look_orderly ha g o)) fun H1 e1 => ?_
        have ha1 := e1 _ _ ha
        refine q_when (b := badF cs y) (et_or (et_test (ev_op (ev_lenN (est_of (vr (.ref a)) ha1)) (cn 8) rvn_eq)) fun _ => et_not (et_B (evc (ea_cons (vr y) (ea_cons (ev_op (ev_ixT (est_of (vr (.ref a)) ha1) (ev_un ev_c ru_neg) hs.lstAt) ev_c rv_I0) (ea_cons ev_c ea_nil))) (v_is_within (hy.ex e1) rfl)))) (fun h2 H2 e2 => qb h2 H2 (e1.trans e2)) (fun h2 H2 e2 => ?_)
        obtain ⟨c, rfl, q⟩ := qv h2
        have e02 := e1.trans e2
        have hw : within (iv c) ((lst cs : Int) + 1) 200 = true := by
          unfold badF at h2
          rw [Bool.or_eq_false_iff] at h2
          simpa using h2.2
        have hc : 0 < c ∧ c ≤ 200 := by
          unfold within iv at hw
          simp only [Bool.and_eq_true, decide_eq_true_eq] at hw
          omega
        exact s_ret (evc (ea_cons (vr (.ref a)) (ea_cons (vr (iv c)) ea_nil)) (v_fits (e02 _ _ ha) hs (fun e he => by have := g.le e he; omega) (by omega) hc.1 (by omega))) fun H3 e3 => q H3 (e02.trans e3)
      · exact ⟨.ref a, rfl, .ref a, true, rfl, hx, fun z => (by cases z), fun _ => ⟨a, cs, rfl, ha, g, fun _ H1 e1 => qo o H1 e1, fun z => absurd z o⟩⟩

/-! ### followers -/
theorem sc_followers : FnScope ["system", "last", "coin"] ["system", "last"] (defScope s_followers) := ⟨rfl, rfl, rfl, by decide +kernel, rfl, by decide +kernel, by decide +kernel⟩
def badL (cs : List Nat) (y : V) : Bool := decide (cs.length = 8) || !within y 1 200
def sp_followers (CS CO CN : Addr) : Sp := fun vs H Q E => ∃ x y b, vs = [x, y] ∧ Sv H x b ∧ (b = false → ∀ H', Ex H H' → E (.ref CS) none H') ∧ (b = true → ∃ a cs, x = .ref a ∧ H a = some (.tup (ivs cs)) ∧ Good cs ∧ (ff cs ≠ none → ∀ H', Ex H H' → E (.ref CO) none H') ∧
  (ff cs = none → Tg H y ∧ (badL cs y = true → ∀ H', Ex H H' → E (.ref CN) none H') ∧ (badL cs y = false → ∃ n, y = iv n ∧ ∀ p H', H p = none → Ex H H' → H' p = some (.lst (ivs (folls cs n))) → Q (.ref p) H')))
theorem v_followers {CS CO CN : Addr} {H : Hp} {a : Addr} {cs : List Nat} {n : Nat} (ha : H a = some (.tup (ivs cs))) (g : Good cs) (o : ff cs = none) (hl : cs.length < 8) (h1 : 1 ≤ n) (h2 : n ≤ 200) : SpL (sp_followers CS CO CN) [.ref a, iv n] H (ivs (folls cs n)) := fun H1 e1 Q q E =>
  ⟨.ref a, iv n, true, rfl, (Sv.good ha g).ex e1, fun z => (by cases z), fun _ => ⟨a, cs, rfl, e1 _ _ ha, g, fun z => absurd o z, fun _ => ⟨.int _, fun z => (by
    unfold badL at z
    rw [decide_eq_false (show ¬ cs.length = 8 by omega), show within (iv n) 1 200 = true from within_iv (lo := 1) (hi := 200) h1 h2] at z
    cases z), fun _ => ⟨n, rfl, fun p H2 np e2 hp => q p H2 np e2 hp⟩⟩⟩⟩
theorem ok_followers {f : Addr} {fd : FuncData} {CS CO CN : Addr} (F : Fun K "followers" "followers" s_followers f fd) (B : Bi mg) (h_look_orderly : Hs P w K mg base 6 "look_orderly" (sp_look_orderly CS CO)) (h_is_within : Hs P w K mg base 1 "is_within" sp_is_within) (h_fits : Hs P w K mg base 2 "fits" sp_fits) (c_MOST_COINS : Kc mg "MOST_COINS" 8) (c_MOST_COIN : Kc mg "MOST_COIN" 200) (x_BadNumber : Ec K mg "BadNumber" CN) :
    FnOk P w K mg base (L2.CX P w) 7 f fd ["system", "last"] (sp_followers CS CO CN) := by
  refine F.okX sc_followers (fun vs H Q E h => ?_) (fun cdv A outer s H vs Q E hr h => ?_)
  · obtain ⟨x, y, b, rfl, _⟩ := h
    rfl
  · obtain ⟨x, y, b, rfl, hx, q1, q2⟩ := h
    have nd := sc_followers.nd
    refine ⟨_, (pss_cons (ps_expr (pe_h h_look_orderly hr (by decide) (by rfl) passE (pa_cons (pv 0) pa_nil)))
      (pss_cons (ps_if (PW.pt (pw_or (pt_cmpR op_eq (pe_callB (lenK K) (by rfl) B.len (by decide +kernel) (pa_cons (pv 0) pa_nil)) (pe_kc (by rfl) c_MOST_COINS) (nomark _)) (pw_or1 (pt_not (pt_val (pe_h h_is_within hr (by decide) (by rfl) passE (pa_cons (pv 1) (pa_cons pe_int (pa_cons (pe_kc (by rfl) c_MOST_COIN) pa_nil)))))))))
      (pss_one (ps_raise rfl (takes_of rfl rfl rfl rfl) (pmk_own PySem.F.excBase_ValueError x_BadNumber.x x_BadNumber.g x_BadNumber.k x_BadNumber.r (by rfl)))) pss_nil)
      (pss_one (ps_ret (pe_lc (own := [("coin", 2)]) (g := gName 2) rfl nd (pi_range2 (by rfl) B.range (pa_cons (pe_op op_add (pe_ix (ixTK K) (pv 0) (pe_un un_neg pe_int) (fun _ _ => rfl)) pe_int) (pa_cons (pe_op op_add (pv 1) pe_int) pa_nil))) (blkOk_by (own := [("coin", 2)]) (N := ["system", "last", "coin"]) (sc := defScope s_followers) (by decide +kernel)) (fun _ _ _ _ _ => (pg_name (i := 2) nd rfl (Or.inl rfl))) (fun _ _ _ _ _ => (pts_one (pt_val (pe_h h_fits hr (by decide) (by rfl) passF (pa_cons (pv 0) (pa_cons (pv 2) pa_nil)))))) (fun _ _ _ _ _ => (pv 2))))))), ?_⟩
    cases b with
    | false => exact ⟨x, rfl, x, false, rfl, hx, fun _ H1 e1 => q1 rfl H1 e1, fun z => (by cases z)⟩
    | true =>
      obtain ⟨a, cs, rfl, ha, g, qo, qn⟩ := q2 rfl
      by_cases o : ff cs = none
      · obtain ⟨hy, qb, qv⟩ := qn o
        have hs := g.toSys
        have hl := g.len
        refine q_drop (evc (ea_cons (vr (.ref a)) ea_nil) (v_look_orderly ha g o)) fun H1 e1 => ?_
        have ha1 := e1 _ _ ha
        refine q_when (b := badL cs y) (et_or (et_test (ev_op (ev_lenN (est_of (vr (.ref a)) ha1)) (cn 8) rvn_eq)) fun _ => et_not (et_B (evc (ea_cons (vr y) (ea_cons ev_c (ea_cons ev_c ea_nil))) (v_is_within (hy.ex e1) rfl)))) (fun h2 H2 e2 => qb h2 H2 (e1.trans e2)) (fun h2 H2 e2 => ?_)
        obtain ⟨n, rfl, q⟩ := qv h2
        have e02 := e1.trans e2
        have ha2 := e02 _ _ ha
        have hw : within (iv n) 1 200 = true := by
          unfold badL at h2
          rw [Bool.or_eq_false_iff] at h2
          simpa using h2.2
        have hn : 0 < n ∧ n ≤ 200 := by
          unfold within iv at hw
          simp only [Bool.and_eq_true, decide_eq_true_eq] at hw
          omega
        obtain ⟨r, er, hm, hmx⟩ := hs.lst
        have m1 := g.le _ hm
        refine s_retL (xs := ivs (folls cs n)) (by
          unfold folls ivs
          rw [List.map_map]
          exact el_rngO (lo := lst cs + 1) (hi := n + 1) (fun i => fitB cs (lst cs + 1 + i)) _ (ea_cons (ev_op (ev_ixT (est_of (vr (.ref a)) ha2) (ev_un ev_c ru_neg) hs.lstAt) (cn 1) rvn_add) (ea_cons (ev_op (vr (iv n)) (cn 1) rvn_add) ea_nil)) (by omega) (fun _ => rfl) (fun i H3 e3 hi => et_B (evc (ea_cons (vr (.ref a)) (ea_cons (vr (iv (lst cs + 1 + i))) ea_nil)) (v_fits (e3 _ _ ha2) hs (fun e he => by have := g.le e he; omega) (by omega) (by omega) (by omega)))) (fun i H3 e3 hi _ => vr (iv (lst cs + 1 + i)))) fun p H3 np e3 hp => q p H3 (fresh_back e02 np) (e02.trans e3) hp
      · exact ⟨.ref a, rfl, .ref a, true, rfl, hx, fun z => (by cases z), fun _ => ⟨a, cs, rfl, ha, g, fun _ H1 e1 => qo o H1 e1, fun z => absurd z o⟩⟩

/-! ### safe_from -/
theorem sc_safe_from : FnScope ["system", "last", "some", "coin"] ["system"] (defScope s_safe_from) := ⟨rfl, rfl, rfl, by decide +kernel, rfl, by decide +kernel, by decide +kernel⟩
def sp_safe_from (CS CO : Addr) : Sp := fun vs H Q E => ∃ x b, vs = [x] ∧ Sv H x b ∧ (b = false → ∀ H', Ex H H' → E (.ref CS) none H') ∧ (b = true → ∃ a cs, x = .ref a ∧ H a = some (.tup (ivs cs)) ∧ Good cs ∧ (ff cs ≠ none → ∀ H', Ex H H' → E (.ref CO) none H') ∧
  (ff cs = none → lst cs ≤ 190 ∧ ∀ H', Ex H H' → Q (iv (lastNo cs + 1)) H'))
theorem v_safe_from {CS CO : Addr} {H : Hp} {a : Addr} {cs : List Nat} (ha : H a = some (.tup (ivs cs))) (g : Good cs) (o : ff cs = none) (hl : lst cs ≤ 190) : SpV (sp_safe_from CS CO) [.ref a] H (iv (lastNo cs + 1)) := fun H1 e1 Q q E =>
  ⟨.ref a, true, rfl, (Sv.good ha g).ex e1, fun z => (by cases z), fun _ => ⟨a, cs, rfl, e1 _ _ ha, g, fun z => absurd o z, fun _ => ⟨hl, fun H2 e2 => q H2 e2⟩⟩⟩
theorem ok_safe_from {f : Addr} {fd : FuncData} {CS CO : Addr} (F : Fun K "safe_from" "safe_from" s_safe_from f fd) (B : Bi mg) (h_look_orderly : Hs P w K mg base 6 "look_orderly" (sp_look_orderly CS CO)) (h_fits : Hs P w K mg base 2 "fits" sp_fits) :
    FnOk P w K mg base (L2.CX P w) 7 f fd ["system"] (sp_safe_from CS CO) := by
  refine F.okX sc_safe_from (fun vs H Q E h => ?_) (fun cdv A outer s H vs Q E hr h => ?_)
  · obtain ⟨x, b, rfl, _⟩ := h
    rfl
  · obtain ⟨x, b, rfl, hx, q1, q2⟩ := h
    have nd := sc_safe_from.nd
    refine ⟨_, (pss_cons (ps_expr (pe_h h_look_orderly hr (by decide) (by rfl) passE (pa_cons (pv 0) pa_nil)))
      (pss_cons (ps_set (i := 1) nd rfl (Or.inl rfl) (pe_ix (ixTK K) (pv 0) (pe_un un_neg pe_int) (fun _ _ => rfl)))
      (pss_cons (ps_setLc (i := 2) (own := [("coin", 3)]) (g := gName 3) rfl nd rfl rfl (sw_true rfl rfl rfl (by decide +kernel)) (pi_range2 (by rfl) B.range (pa_cons (pe_op op_add (pv 1) pe_int) (pa_cons (pe_op op_add (pe_op op_mul (pv 1) (pe_op op_add (pv 1) pe_int)) pe_int) pa_nil))) (blkOk_by (own := [("coin", 3)]) (N := ["system", "last", "some", "coin"]) (sc := defScope s_safe_from) (by decide +kernel)) (fun _ _ _ _ _ => (pg_name (i := 3) nd rfl (Or.inl rfl))) (fun _ _ _ _ _ => (pts_one (pt_not (pt_val (pe_h h_fits hr (by decide) (by rfl) passF (pa_cons (pv 0) (pa_cons (pv 3) pa_nil))))))) (fun _ _ _ _ _ => (pv 3)))
      (pss_one (ps_ret (pe_op op_add (pe_callBK (maxDK K) (by rfl) B.max (by decide +kernel) (pa_cons (pv 2) pa_nil) (pk_cons (pv 1) pk_nil)) pe_int)))))), ?_⟩
    cases b with
    | false => exact ⟨x, rfl, x, false, rfl, hx, fun _ H1 e1 => q1 rfl H1 e1, fun z => (by cases z)⟩
    | true =>
      obtain ⟨a, cs, rfl, ha, g, qo, qn⟩ := q2 rfl
      by_cases o : ff cs = none
      · obtain ⟨m190, q⟩ := qn o
        have hs := g.toSys
        have hl := g.len
        refine q_drop (evc (ea_cons (vr (.ref a)) ea_nil) (v_look_orderly ha g o)) fun H1 e1 => ?_
        have ha1 := e1 _ _ ha
        refine q_asg (ev_ixT (est_of (vr (.ref a)) ha1) (ev_un ev_c ru_neg) hs.lstAt) fun H2 e2 => ?_
        have ha2 := e2 _ _ ha1
        have hsq : lst cs * (lst cs + 1) ≤ 36290 := Nat.le_trans (Nat.mul_le_mul m190 (Nat.succ_le_succ m190)) (by decide)
        have hge : lst cs ≤ lst cs * (lst cs + 1) := Nat.le_mul_of_pos_right _ (Nat.succ_pos _)
        refine q_asgL (xs := ivs (nofit cs)) (by
          unfold nofit ivs
          rw [List.map_map]
          exact el_rngO (lo := lst cs + 1) (hi := lst cs * (lst cs + 1) + 2) (fun i => !fitB cs (lst cs + 1 + i)) _ (ea_cons (ev_op (vr (iv (lst cs))) (cn 1) rvn_add) (ea_cons (ev_op (ev_op (vr (iv (lst cs))) (ev_op (vr (iv (lst cs))) (cn 1) rvn_add) (rvn_mul (by omega))) (cn 2) rvn_add) ea_nil)) (by omega) (fun _ => rfl) (fun i H3 e3 hi => et_not (et_B (evc (ea_cons (vr (.ref a)) (ea_cons (vr (iv (lst cs + 1 + i))) ea_nil)) (v_fits (e3 _ _ ha2) hs (fun e he => by have := g.le e he; omega) (by omega) (by omega) (by omega))))) (fun i H3 e3 hi _ => vr (iv (lst cs + 1 + i)))) fun l H3 nl e3 h3 => ?_
        exact s_ret (ev_op (ev_maxD (d := lst cs) (m := lastNo cs) (esl_of (vr (.ref l)) (sq_of h3)) (vr (iv (lst cs))) lastNo_nil lastNo_max) (cn 1) rvn_add) fun H4 e4 => q H4 (e1.trans (e2.trans (e3.trans e4)))
      · exact ⟨.ref a, rfl, .ref a, true, rfl, hx, fun z => (by cases z), fun _ => ⟨a, cs, rfl, ha, g, fun _ H1 e1 => qo o H1 e1, fun z => absurd z o⟩⟩

/-! ### to_and_fro -/
theorem sc_to_and_fro : FnScope ["system", "number", "come", "todo", "at", "here", "coin", "other"] ["system", "number"] (defScope s_to_and_fro) := ⟨rfl, rfl, rfl, by decide +kernel, rfl, by decide +kernel, by decide +kernel⟩
def sp_to_and_fro : Sp := fun vs H Q _ => ∃ a cs n, vs = [.ref a, iv n] ∧ H a = some (.tup (ivs cs)) ∧ Good cs ∧ n ≤ 400 ∧ ∀ p L at_ H', H p = none → Ex H H' → H' p = some (.dK (akv (enc L))) → Bf cs (-(lst cs : Int)) ((n : Int) + lst cs) at_ L → (n : Int) ∈ L.map (·.1) → Q (.ref p) H'
structure TF (H : Hp) (cm td : Addr) (cs : List Nat) (lo hi : Int) (at_ : Nat) (L : List (Int × Option Int)) (H' : Hp) : Prop where
  ex : Ex H H'
  come : H' cm = some (.dK (akv (enc L)))
  todo : H' td = some (.lst (L.map fun e => V.int e.1))
  bf : Bf cs lo hi at_ L
theorem TF.of {H H' H'' : Hp} {cm td : Addr} {cs : List Nat} {lo hi : Int} {at_ : Nat} {L : List (Int × Option Int)} (t : TF H cm td cs lo hi at_ L H') (e : Ex H' H'') : TF H cm td cs lo hi at_ L H'' := ⟨t.ex.trans e, e _ _ t.come, e _ _ t.todo, t.bf⟩
theorem ok_to_and_fro {f : Addr} {fd : FuncData} (F : Fun K "to_and_fro" "to_and_fro" s_to_and_fro f fd) (B : Bi mg) : FnOk P w K mg base (L2.CX P w) 1 f fd ["system", "number"] sp_to_and_fro := by
  refine F.okX sc_to_and_fro (fun vs H Q E h => ?_) (fun cdv A outer s H vs Q E hr h => ?_)
  · obtain ⟨a, cs, n, rfl, _⟩ := h
    rfl
  · obtain ⟨a, cs, n, rfl, ha, g, hn, q⟩ := h
    have nd := sc_to_and_fro.nd
    refine ⟨_, (pss_cons (ps_set (i := 2) nd rfl (Or.inl rfl) (pe_disp (pps_cons pe_int pe_non pps_nil) (by rfl) (by rfl) (fun z => by cases z) (by decide)))
      (pss_cons (ps_set (i := 3) nd rfl (Or.inl rfl) (pe_lst (pa_cons pe_int pa_nil)))
      (pss_cons (ps_set (i := 4) nd rfl (Or.inl rfl) pe_int)
      (pss_cons (ps_while (passes_of rfl) (pt_cmp (pc_dnotin (hu_of hr) (pv 1) (pv 2)))
      (pss_cons (ps_set (i := 5) nd rfl (Or.inl rfl) (pe_ix (ixLK K) (pv 3) (pv 4) (fun _ _ => rfl)))
      (pss_cons (ps_set (i := 4) nd rfl (Or.inl rfl) (pe_op op_add (pv 4) pe_int))
      (pss_one (ps_for (passes_of rfl) rfl (pi_tup (pv 0)) (pg_name (i := 6) nd rfl (Or.inl rfl))
      (pss_one (ps_for (passes_of rfl) rfl (pi_tup (pe_tup (pa_cons (pe_op op_add (pv 5) (pv 6)) (pa_cons (pe_op op_sub (pv 5) (pv 6)) pa_nil)))) (pg_name (i := 7) nd rfl (Or.inl rfl))
      (pss_one (ps_if (PW.pt (pw_and (pt_cmp (pc_dnotin (hu_of hr) (pv 7) (pv 2))) (pw_and1 (pt_chain op_le op_le (pe_op op_sub pe_int (pe_ix (ixTK K) (pv 0) (pe_un un_neg pe_int) (fun _ _ => rfl))) (pv 7) (pe_op op_add (pv 1) (pe_ix (ixTK K) (pv 0) (pe_un un_neg pe_int) (fun _ _ => rfl)))))))
      (pss_cons (ps_dput (hu_of hr) (pv 2) (pv 7) (pv 5) rfl)
      (pss_one (ps_expr (pe_bm PySem.F.plainAttrs_list PySem.F.slot_list_append PySem.F.type_list_append mt_append (pv 3) (pa_cons (pv 7) pa_nil))))) pss_nil)))))))))
      (pss_one (ps_ret (pv 2))))))), ?_⟩
    have hS := g.toSys
    obtain ⟨r, er, hm, hmx⟩ := hS.lst
    have hm200 := g.le _ hm
    have hat := hS.lstAt
    have hb0 : -(lst cs : Int) ≤ 0 ∧ (0 : Int) ≤ (n : Int) + lst cs := by omega
    have hbn : (n : Int) + lst cs < -(lst cs : Int) + ((801 : Nat) : Int) := by omega
    obtain ⟨hrch, _⟩ := hw_dB (n := n) (m := lst cs) (lo := -(lst cs : Int)) (hi := (n : Int) + lst cs) hS hmx (Int.le_refl _) (Int.le_refl _)
    refine q_dict1 (x := 0) (v := .non) fun cm H1 ncm e1 h1 => ?_
    refine q_asgL (xs := [V.int 0]) (el_lst (ea_cons ev_c ea_nil) (by decide)) fun td H2 ntd e2 h2 => ?_
    refine q_asg (cn 0) fun H3 e3 => ?_
    have hne : td ≠ cm := fun z => by rw [z, h1] at ntd; cases ntd
    have ntdH : H td = none := fresh_back e1 ntd
    refine q_while (fun m σ' H' => ∃ at_ L u5 u6 u7, σ' = [some (.ref a), some (iv n), some (.ref cm), some (.ref td), some (iv at_), u5, u6, u7] ∧ TF H cm td cs (-(lst cs : Int)) ((n : Int) + lst cs) at_ L H' ∧ at_ ≤ 801 ∧ m = 801 - at_) 801
      ⟨0, [(0, none)], none, none, none, rfl, ⟨e1.trans (e2.trans e3), e3 _ _ (e2 _ _ h1), e3 _ _ h2, Bf.start⟩, Nat.zero_le _, rfl⟩ (fun m σ' H' hW => ?_)
    obtain ⟨at_, L, u5, u6, u7, rfl, T, hat801, rfl⟩ := hW
    refine ⟨_, et_test (ev_dninI (vr (iv n)) (vr (.ref cm)) T.come), fun ht H4 e4 => ?_, fun ht H4 e4 => ?_⟩
    · rw [enc_keys] at ht
      have hnin : (n : Int) ∉ L.map (·.1) := by simpa using ht
      have hlt : at_ < L.length := by
        by_cases z : at_ < L.length
        · exact z
        · exact absurd (T.bf.all (Nat.le_of_not_lt z) _ _ hrch rfl) hnin
      have hlen := T.bf.len hb0 hbn
      have T4 := T.of e4
      obtain ⟨h, hh⟩ : ∃ h, (L.map (·.1))[at_]? = some h := ⟨_, List.getElem?_eq_getElem (by rw [List.length_map]; exact hlt)⟩
      have hhv : (L.map fun e => V.int e.1)[at_]? = some (.int h) := by
        have : (L.map fun e => V.int e.1) = (L.map (·.1)).map V.int := by rw [List.map_map]; rfl
        rw [this, List.getElem?_map, hh]
        rfl
      refine ⟨_, fun σ2 H5 hN => hN, ?_⟩
      refine q_asg (v := .int h) (ev_ixL (esl_of (vr (.ref td)) (sq_of T4.todo)) (vr (iv at_)) (atI_nat hhv)) fun H5 e5 => ?_
      refine q_asg (ev_op (vr (iv at_)) (cn 1) rvn_add) fun H6 e6 => ?_
      have T6 := T4.of (e5.trans e6)
      have ha6 := T6.ex _ _ ha
      refine s_forTn (vr (.ref a)) ha6 (fun i σ' H' => ∃ L', TF H cm td cs (-(lst cs : Int)) ((n : Int) + lst cs) at_ L' H' ∧ (L'.map (·.1))[at_]? = some h ∧ (∀ k c, k < i → cs[k]? = some c → ∀ y : Int, (y = h + c ∨ y = h - c) → -(lst cs : Int) ≤ y → y ≤ (n : Int) + lst cs → y ∈ L'.map (·.1)) ∧ ∃ u6 u7, σ' = [some (.ref a), some (iv n), some (.ref cm), some (.ref td), some (iv (at_ + 1)), some (.int h), u6, u7]) (fun H7 e7 => ⟨L, T6.of e7, hh, fun k c hk => absurd hk (Nat.not_lt_zero k), u6, u7, rfl⟩) (fun i σ' H' hV => by obtain ⟨L', T', _⟩ := hV; exact T'.ex _ _ ha) (fun i x σ' H' hx hV => ?_) (fun σ' H' hV => ?_)
      · obtain ⟨L', T', hh', hdone, u6, u7, rfl⟩ := hV
        obtain ⟨c, hc, rfl⟩ : ∃ c, cs[i]? = some c ∧ x = iv c := by
          unfold ivs at hx
          rw [List.getElem?_map] at hx
          cases h2 : cs[i]? with
          | none => rw [h2] at hx; cases hx
          | some c => rw [h2] at hx; cases hx; exact ⟨c, rfl, rfl⟩
        have hcm := List.mem_of_getElem? hc
        refine s_forNT (g := gName 7) (xs := [V.int (h + c), V.int (h - c)]) (est_disp (ea_cons (ev_op (vr (.int h)) (vr (.int (c : Int))) rv_I0) (ea_cons (ev_op (vr (.int h)) (vr (.int (c : Int))) rv_I0) ea_nil)) (by show 2 ≤ 100000; decide))
          (fun t j σ' H'' => H'' t = some (.tup [V.int (h + c), V.int (h - c)]) ∧ ∃ L'', TF H cm td cs (-(lst cs : Int)) ((n : Int) + lst cs) at_ L'' H'' ∧ (L''.map (·.1))[at_]? = some h ∧ (∀ y, y ∈ L'.map (·.1) → y ∈ L''.map (·.1)) ∧ (∀ k y, k < j → [h + (c : Int), h - (c : Int)][k]? = some y → -(lst cs : Int) ≤ y → y ≤ (n : Int) + lst cs → y ∈ L''.map (·.1)) ∧ ∃ u7, σ' = [some (.ref a), some (iv n), some (.ref cm), some (.ref td), some (iv (at_ + 1)), some (.int h), some (iv c), u7])
          (fun t H7 e7 ht7 => ?_) (fun t j σ' H'' hU => hU.1) (fun t j x σ' H'' hx2 hU => ?_) (fun t σ' H'' hU => ?_)
        · exact ⟨ht7, L', T'.of e7, hh', fun y hy => hy, fun k y hk => absurd hk (Nat.not_lt_zero k), u7, rfl⟩
        · obtain ⟨ht, L'', T'', hh'', hsub, hdn, u7, rfl⟩ := hU
          obtain ⟨y, hy, rfl⟩ : ∃ y, [h + (c : Int), h - (c : Int)][j]? = some y ∧ x = .int y := by
            have : [V.int (h + c), V.int (h - c)] = [h + (c : Int), h - (c : Int)].map V.int := rfl
            rw [this, List.getElem?_map] at hx2
            cases h2 : [h + (c : Int), h - (c : Int)][j]? with
            | none => rw [h2] at hx2; cases hx2
            | some y => rw [h2] at hx2; cases hx2; exact ⟨y, rfl, rfl⟩
          have hyc : y = h + c ∨ y = h - c := by
            rcases List.mem_cons.mp (List.mem_of_getElem? hy) with z | z
            · exact .inl z
            · exact .inr (List.mem_singleton.mp z)
          have haH := T''.ex _ _ ha
          have hlen'' := T''.bf.len hb0 hbn
          have hix := fun (H7 : Hp) (e : Ex H'' H7) (σ : L2.St) (h0 : σ[0]? = some (some (.ref a))) => ev_ixT (K := K) (est_of (ev_var (H := H7) h0) (e _ _ haH)) (ev_un (ev_c (v := .int 1)) ru_neg) hat
          show tIfS _ _ _ _ _ _
          refine s_when (b := !decide (y ∈ (enc L'').map (·.1)) && (decide (-(lst cs : Int) ≤ y) && decide (y ≤ (n : Int) + lst cs))) (et_and (et_test (ev_dninI (vr (.int y)) (vr (.ref cm)) T''.come)) fun _ => et_test (ev_chainI (ev_is (ev_op ev_c (hix _ (Ex.refl _) _ rfl) rv_I0) (by rw [Int.zero_sub])) (vr (.int y)) (ev_op (vr (.int (n : Int))) (hix _ (Ex.refl _) _ rfl) rv_I0))) (fun hb H7 e7 => ?_) (fun hb H7 e7 => ?_)
          · rw [enc_keys, Bool.and_eq_true, Bool.and_eq_true, decide_eq_true_iff, decide_eq_true_iff] at hb
            obtain ⟨hb1, hb2, hb3⟩ := hb
            have hb1 : y ∉ L''.map (·.1) := by simpa using hb1
            have T7 := T''.of e7
            refine q_dputI (vr (.int h)) (vr (.ref cm)) (vr (.int y)) T7.come (by rw [enc_keys]; exact hb1) (by rw [enc_len]; omega) fun H8 e8 => ?_
            have T8 := T7.of e8
            have htd8 : (upd H8 cm (.dK (akv (enc L'' ++ [(y, V.int h)])))) td = some (.lst (L''.map fun e => V.int e.1)) := by rw [upd_ne hne]; exact T8.todo
            refine s_app htd8 (vr (.ref td)) (vr (.int y)) (by rw [List.length_map]; omega) fun H9 e9 => ?_
            have ht9 : H8 t = some (.tup [V.int (h + c), V.int (h - c)]) := e8 _ _ (e7 _ _ ht)
            have ntc : t ≠ cm := ne_of ht9 T8.come (by intro z; cases z)
            have ntt : t ≠ td := ne_of ht9 T8.todo (by intro z; cases z)
            refine ⟨by rw [upd_ne ntt]; exact e9 _ _ (by rw [upd_ne ntc]; exact ht9), L'' ++ [(y, some h)], ⟨Ex.mut ((Ex.mut T8.ex ncm).trans e9) ntdH, by rw [upd_ne (Ne.symm hne)]; rw [enc_snoc]; exact e9 _ _ upd_same, by rw [upd_same, List.map_append]; rfl, T8.bf.put hh'' ⟨c, hcm, hyc⟩ hb2 hb3 hb1⟩, ?_, fun z hz => ?_, fun k z hk hz h1 h2 => ?_, some (.int y), rfl⟩
            · have hl := (List.getElem?_eq_some_iff.mp hh'').1
              rw [List.map_append, List.getElem?_append_left hl]
              exact hh''
            · rw [List.map_append]
              exact List.mem_append_left _ (hsub z hz)
            · rw [List.map_append]
              by_cases e : k = j
              · subst e
                rw [hy] at hz
                cases hz
                exact List.mem_append_right _ List.mem_cons_self
              · exact List.mem_append_left _ (hdn k z (by omega) hz h1 h2)
          · rw [enc_keys] at hb
            refine ⟨e7 _ _ ht, L'', T''.of e7, hh'', hsub, fun k z hk hz h1 h2 => ?_, some (.int y), rfl⟩
            by_cases e : k = j
            · subst e
              rw [hy] at hz
              cases hz
              rw [decide_eq_true h1, decide_eq_true h2] at hb
              simpa using hb
            · exact hdn k z (by omega) hz h1 h2
        · obtain ⟨ht, L'', T'', hh'', hsub, hdn, u7, rfl⟩ := hU
          refine ⟨L'', T'', hh'', fun k c' hk hc' y hy h1 h2 => ?_, some (iv c), u7, rfl⟩
          by_cases e : k = i
          · subst e
            rw [hc] at hc'
            cases hc'
            rcases hy with hy | hy
            · exact hdn 0 y (by show 0 < 2; decide) (by rw [hy]; rfl) h1 h2
            · exact hdn 1 y (by show 1 < 2; decide) (by rw [hy]; rfl) h1 h2
          · exact hsub y (hdone k c' (by omega) hc' y hy h1 h2)
      · obtain ⟨L', T', hh', hdone, u6, u7, rfl⟩ := hV
        have hl := (List.getElem?_eq_some_iff.mp hh').1
        rw [List.length_map] at hl
        have hlen' := T'.bf.len hb0 hbn
        refine ⟨801 - (at_ + 1), by omega, at_ + 1, L', some (.int h), u6, u7, rfl, ⟨T'.ex, T'.come, T'.todo, T'.bf.next hh' fun y ⟨c, hc, hy⟩ h1 h2 => ?_⟩, by omega, rfl⟩
        obtain ⟨k, hk, hke⟩ := List.mem_iff_getElem.mp hc
        exact hdone k c (by rw [ivs_len]; exact hk) (by rw [List.getElem?_eq_getElem hk, hke]) y hy h1 h2
    · rw [enc_keys] at ht
      have hin : (n : Int) ∈ L.map (·.1) := by simpa using ht
      exact s_ret (vr (.ref cm)) fun H5 e5 => q cm L at_ H5 ncm (T.ex.trans (e4.trans e5)) (e5 _ _ (e4 _ _ T.come)) T.bf hin

/-! ### look_handed -/
theorem sc_look_handed : FnScope ["system", "number"] ["system", "number"] (defScope s_look_handed) := ⟨rfl, rfl, rfl, by decide +kernel, rfl, by decide +kernel, by decide +kernel⟩
def sp_look_handed (CS CB : Addr) : Sp := fun vs H Q E => ∃ x y b, vs = [x, y] ∧ Sv H x b ∧ (b = true → Tg H y) ∧ (b = true → within y 0 400 = true → ∀ H', Ex H H' → Q .non H') ∧ (b = true → within y 0 400 = false → ∀ H', Ex H H' → E (.ref CB) none H') ∧ (b = false → ∀ H', Ex H H' → E (.ref CS) none H')
theorem v_look_handed {CS CB : Addr} {H : Hp} {x y : V} (h : Sv H x true) (hy : Tg H y) (hw : within y 0 400 = true) : SpV (sp_look_handed CS CB) [x, y] H .non := fun H1 e1 Q q E =>
  ⟨x, y, true, rfl, h.ex e1, fun _ => hy.ex e1, fun _ _ H2 e2 => q H2 e2, fun _ z => (by rw [hw] at z; cases z), fun z => (by cases z)⟩
theorem ok_look_handed {f : Addr} {fd : FuncData} {CS CB : Addr} (F : Fun K "look_handed" "look_handed" s_look_handed f fd) (h_checked : Hs P w K mg base 3 "checked" (sp_checked CS)) (h_is_within : Hs P w K mg base 1 "is_within" sp_is_within) (c_MOST_HANDED : Kc mg "MOST_HANDED" 400) (x_BadSum : Ec K mg "BadSum" CB) :
    FnOk P w K mg base (L2.CX P w) 4 f fd ["system", "number"] (sp_look_handed CS CB) := by
  refine F.okX sc_look_handed (fun vs H Q E h => ?_) (fun cdv A outer s H vs Q E hr h => ?_)
  · obtain ⟨x, y, b, rfl, _⟩ := h
    rfl
  · obtain ⟨x, y, b, rfl, hx, hy, q1, q2, q3⟩ := h
    have nd := sc_look_handed.nd
    refine ⟨_, (pss_cons (ps_expr (pe_h h_checked hr (by decide) (by rfl) passE (pa_cons (pv 0) pa_nil)))
      (pss_one (ps_if (pt_not (pt_val (pe_h h_is_within hr (by decide) (by rfl) passE (pa_cons (pv 1) (pa_cons pe_int (pa_cons (pe_kc (by rfl) c_MOST_HANDED) pa_nil))))))
      (pss_one (ps_raise rfl (takes_of rfl rfl rfl rfl) (pmk_own PySem.F.excBase_ValueError x_BadSum.x x_BadSum.g x_BadSum.k x_BadSum.r (by rfl)))) pss_nil))), ?_⟩
    cases b with
    | false => exact ⟨x, rfl, x, false, rfl, hx, fun z => (by cases z), fun _ H' e => q3 rfl H' e⟩
    | true =>
      refine q_drop (evc (ea_cons (ev_var rfl) ea_nil) (v_checked hx)) fun H1 e1 => ?_
      refine s_when (b := !within y 0 400) (et_not (et_B (evc (ea_cons (ev_var rfl) (ea_cons ev_c (ea_cons ev_c ea_nil))) (v_is_within ((hy rfl).ex e1) rfl)))) (fun h1 H2 e2 => ?_) (fun h1 H2 e2 => ?_)
      · exact q2 rfl (by simpa using h1) H2 (e1.trans e2)
      · exact q1 rfl (by simpa using h1) H2 (e1.trans e2)

/-! ### handed -/
theorem sc_handed : FnScope ["system", "number", "come", "given", "back", "here", "step"] ["system", "number"] (defScope s_handed) := ⟨rfl, rfl, rfl, by decide +kernel, rfl, by decide +kernel, by decide +kernel⟩
def HandV (H : Hp) (cs : List Nat) (n : Nat) (v : V) (H' : Hp) : Prop := ∃ t g b G Bk, v = .ref t ∧ H' t = some (.tup [.ref g, .ref b]) ∧ H' g = some (.lst (ivs G)) ∧ H' b = some (.lst (ivs Bk)) ∧ Hands cs n G Bk ∧ G.Pairwise (· ≤ ·) ∧ Bk.Pairwise (· ≤ ·) ∧ H g = none ∧ H b = none
def sp_handed (CS CB : Addr) : Sp := fun vs H Q E => ∃ x y b, vs = [x, y] ∧ Sv H x b ∧ (b = true → Tg H y) ∧ (b = true → within y 0 400 = true → ∃ a cs n, x = .ref a ∧ y = iv n ∧ H a = some (.tup (ivs cs)) ∧ Good cs ∧ ∀ v H', Ex H H' → HandV H cs n v H' → Q v H') ∧
  (b = true → within y 0 400 = false → ∀ H', Ex H H' → E (.ref CB) none H') ∧ (b = false → ∀ H', Ex H H' → E (.ref CS) none H')
theorem v_handed {CS CB : Addr} {H : Hp} {a : Addr} {cs : List Nat} {n : Nat} (ha : H a = some (.tup (ivs cs))) (g : Good cs) (hn : n ≤ 400) : SpR (sp_handed CS CB) [.ref a, iv n] H (HandV H cs n) := fun H1 e1 Q q E =>
  ⟨.ref a, iv n, true, rfl, (Sv.good ha g).ex e1, fun _ => .int _, fun _ _ => ⟨a, cs, n, rfl, rfl, e1 _ _ ha, g, fun v H2 e2 ⟨t, g, b, G, Bk, h1, h2, h3, h4, h5, h6, h7, h8, h9⟩ => q v H2 e2 ⟨t, g, b, G, Bk, h1, h2, h3, h4, h5, h6, h7, fresh_back e1 h8, fresh_back e1 h9⟩⟩, fun _ z => (by rw [show within (iv n) 0 400 = true from within_iv (lo := 0) (hi := 400) (Nat.zero_le _) hn] at z; cases z), fun z => (by cases z)⟩
theorem ok_handed {f : Addr} {fd : FuncData} {CS CB : Addr} (F : Fun K "handed" "handed" s_handed f fd) (B : Bi mg) (h_look_handed : Hs P w K mg base 4 "look_handed" (sp_look_handed CS CB)) (h_to_and_fro : Hs P w K mg base 1 "to_and_fro" sp_to_and_fro) :
    FnOk P w K mg base (L2.CX P w) 5 f fd ["system", "number"] (sp_handed CS CB) := by
  refine F.okX sc_handed (fun vs H Q E h => ?_) (fun cdv A outer s H vs Q E hr h => ?_)
  · obtain ⟨x, y, b, rfl, _⟩ := h
    rfl
  · obtain ⟨x, y, b, rfl, hx, hy, q0, q1, q2⟩ := h
    have nd := sc_handed.nd
    refine ⟨_, (pss_cons (ps_expr (pe_h h_look_handed hr (by decide) (by rfl) passE (pa_cons (pv 0) (pa_cons (pv 1) pa_nil))))
      (pss_cons (ps_set (i := 2) nd rfl (Or.inl rfl) (pe_h h_to_and_fro hr (by decide) (by rfl) passE (pa_cons (pv 0) (pa_cons (pv 1) pa_nil))))
      (pss_cons (ps_set (i := 3) nd rfl (Or.inl rfl) (pe_lst pa_nil))
      (pss_cons (ps_set (i := 4) nd rfl (Or.inl rfl) (pe_lst pa_nil))
      (pss_cons (ps_set (i := 5) nd rfl (Or.inl rfl) (pv 1))
      (pss_cons (ps_while (passes_of rfl) (pt_cmpR op_notN (pe_dget (hu_of hr) (pv 2) (pv 5) (fun _ _ => rfl)) pe_non (nomark _))
      (pss_cons (ps_set (i := 6) nd rfl (Or.inl rfl) (pe_op op_sub (pv 5) (pe_dget (hu_of hr) (pv 2) (pv 5) (fun _ _ => rfl))))
      (pss_cons (ps_if (pt_cmpR op_gt (pv 6) pe_int (nomark _))
      (pss_one (ps_expr (pe_bm PySem.F.plainAttrs_list PySem.F.slot_list_append PySem.F.type_list_append mt_append (pv 3) (pa_cons (pv 6) pa_nil)))) (pss_one (ps_expr (pe_bm PySem.F.plainAttrs_list PySem.F.slot_list_append PySem.F.type_list_append mt_append (pv 4) (pa_cons (pe_op op_sub pe_int (pv 6)) pa_nil)))))
      (pss_one (ps_set (i := 5) nd rfl (Or.inl rfl) (pe_dget (hu_of hr) (pv 2) (pv 5) (fun _ _ => rfl)))))))
      (pss_one (ps_ret (pe_tup (pa_cons (pe_callB (sortK K) (by rfl) B.sorted (by decide +kernel) (pa_cons (pv 3) pa_nil)) (pa_cons (pe_callB (sortK K) (by rfl) B.sorted (by decide +kernel) (pa_cons (pv 4) pa_nil)) pa_nil))))))))))), ?_⟩
    refine ⟨x, rfl, y, rfl, x, y, b, rfl, hx, hy, fun hb hwi H1 e1 => ?_, fun hb hwi H1 e1 => q1 hb hwi H1 e1, fun hb H1 e1 => q2 hb H1 e1⟩
    obtain ⟨a, cs, n, rfl, rfl, ha, g, q⟩ := q0 hb hwi
    have hn : n ≤ 400 := within_le (hi := 400) hwi
    have hl := g.len
    have hS := g.toSys
    have ha1 := e1 _ _ ha
    obtain ⟨r, er, hm, hmx⟩ := hS.lst
    have hm200 := g.le _ hm
    have hb0 : -(lst cs : Int) ≤ 0 ∧ (0 : Int) ≤ (n : Int) + lst cs := by omega
    have hbn : (n : Int) + lst cs < -(lst cs : Int) + ((801 : Nat) : Int) := by omega
    obtain ⟨hrch, hdw⟩ := hw_dB (n := n) (m := lst cs) (lo := -(lst cs : Int)) (hi := (n : Int) + lst cs) hS hmx (Int.le_refl _) (Int.le_refl _)
    refine ⟨.ref a, rfl, iv n, rfl, a, cs, n, rfl, ha1, g, hn, fun cm L at_ H2 ncm e2 hcm bf hnk => ?_⟩
    dsimp only
    have nodup : ((enc L).map (·.1)).Nodup := by rw [enc_keys]; exact bf.nodup
    have look := fun {h : Int} {p : Option Int} (hp : (h, p) ∈ L) => valV_akv_mem (v := pvO p) nodup (List.mem_map.mpr ⟨(h, p), hp, rfl⟩)
    refine q_asgL (xs := ivs []) (el_lst ea_nil (by decide)) fun gp H3 ngp e3 h3 => ?_
    refine q_asgL (xs := ivs []) (el_lst ea_nil (by decide)) fun bp H4 nbp e4 h4 => ?_
    refine q_asg (vr (iv n)) fun H5 e5 => ?_
    have nbp2 : H2 bp = none := fresh_back e3 nbp
    have hgb : gp ≠ bp := fun z => by rw [← z, h3] at nbp; cases nbp
    refine q_while (fun m σ' H' => ∃ h G Bk u6, σ' = [some (.ref a), some (iv n), some (.ref cm), some (.ref gp), some (.ref bp), some (.int h), u6] ∧ Ex H2 H' ∧ H' gp = some (.lst (ivs G)) ∧ H' bp = some (.lst (ivs Bk)) ∧ (∀ c ∈ G, c ∈ cs) ∧ (∀ c ∈ Bk, c ∈ cs) ∧ (G.sum : Int) - (Bk.sum : Int) + h = n ∧ h ∈ L.map (·.1) ∧
      G.length + Bk.length + dB cs (-(lst cs : Int)) ((n : Int) + lst cs) h = hw cs n ∧ m = dB cs (-(lst cs : Int)) ((n : Int) + lst cs) h) (dB cs (-(lst cs : Int)) ((n : Int) + lst cs) n)
      ⟨n, [], [], none, rfl, e3.trans (e4.trans e5), e5 _ _ (e4 _ _ h3), e5 _ _ h4, fun _ h => (by cases h), fun _ h => (by cases h), by show ((0 : Nat) : Int) - ((0 : Nat) : Int) + n = n; omega, hnk, by show 0 + 0 + _ = _; rw [hdw]; omega, rfl⟩ (fun m σ' H' hW => ?_)
    obtain ⟨h, G, Bk, u6, rfl, eH, hG, hB, hGm, hBm, hsum, hk, hfew, rfl⟩ := hW
    obtain ⟨⟨h', p⟩, hp, rfl⟩ := List.mem_map.mp hk
    dsimp only at hsum hfew ⊢
    have hcmH := eH _ _ hcm
    have hwle : hw cs n ≤ 400 := Nat.le_trans (hw_le_fw hS n) (Nat.le_trans (fw_self hS.mem1 n) hn)
    refine ⟨_, et_test (ev_op (ev_dgetI (vr (.ref cm)) (vr (.int h')) hcmH (look hp)) ev_c rv_notN), fun ht H6 e6 => ?_, fun ht H6 e6 => ?_⟩
    · cases p with
      | none => cases ht
      | some p =>
        obtain ⟨p1, p2, c, hc, p3⟩ := bf.par h' p hp
        have c0 := hS.pos c hc
        have hcm6 := e6 _ _ hcmH
        refine ⟨_, fun σ2 H7 hN => hN, ?_⟩
        refine q_asg (v := .int (h' - p)) (ev_op (vr (.int h')) (ev_dgetI (v := .int p) (vr (.ref cm)) (vr (.int h')) hcm6 (look hp)) rv_I0) fun H7 e7 => ?_
        have e67 := e6.trans e7
        refine q_mid (fun σ' H'' => ∃ G' Bk', σ' = [some (.ref a), some (iv n), some (.ref cm), some (.ref gp), some (.ref bp), some (.int h'), some (.int (h' - p))] ∧ Ex H2 H'' ∧ H'' gp = some (.lst (ivs G')) ∧ H'' bp = some (.lst (ivs Bk')) ∧ (∀ c ∈ G', c ∈ cs) ∧ (∀ c ∈ Bk', c ∈ cs) ∧ (G'.sum : Int) - (Bk'.sum : Int) + p = n ∧ G'.length + Bk'.length = G.length + Bk.length + 1) (fun k hk' => ?_) (fun σ' H'' hV => ?_)
        · refine s_if (b := decide (0 < h' - p)) (et_test (ev_op (vr (.int (h' - p))) ev_c rv_I0)) (fun hb H8 e8 => ?_) (fun hb H8 e8 => ?_)
          · have hb := of_decide_eq_true hb
            have hpc : h' - p = (c : Int) := by
              rcases p3 with z | z
              · omega
              · omega
            have e8' := e67.trans e8
            refine s_app (e8' _ _ hG) (vr (.ref gp)) (ev_is (v := .int (h' - p)) (w := iv c) (vr (.int (h' - p))) (by rw [hpc]; rfl)) (by rw [ivs_len]; omega) fun H9 e9 => ?_
            refine hk' _ _ ⟨G ++ [c], Bk, rfl, Ex.mut (eH.trans (e8'.trans e9)) ngp, by rw [upd_same, ivs_snoc], by rw [upd_ne (Ne.symm hgb)]; exact e9 _ _ (e8' _ _ hB), fun x hx => ?_, hBm, ?_, by rw [List.length_append]; show G.length + 1 + _ = _; omega⟩
            · rcases List.mem_append.mp hx with z | z
              · exact hGm x z
              · rw [List.mem_singleton.mp z]; exact hc
            · rw [List.sum_append]
              show ((G.sum + (c + 0) : Nat) : Int) - _ + p = n
              omega
          · have hb := of_decide_eq_false hb
            have hpc : (0 : Int) - (h' - p) = (c : Int) := by
              rcases p3 with z | z
              · omega
              · omega
            have e8' := e67.trans e8
            refine s_app (e8' _ _ hB) (vr (.ref bp)) (ev_is (v := .int (0 - (h' - p))) (w := iv c) (ev_op ev_c (vr (.int (h' - p))) rv_I0) (by rw [hpc]; rfl)) (by rw [ivs_len]; omega) fun H9 e9 => ?_
            refine hk' _ _ ⟨G, Bk ++ [c], rfl, Ex.mut (eH.trans (e8'.trans e9)) nbp2, by rw [upd_ne hgb]; exact e9 _ _ (e8' _ _ hG), by rw [upd_same, ivs_snoc], hGm, fun x hx => ?_, ?_, by rw [List.length_append]; show _ + (Bk.length + 1) = _; omega⟩
            · rcases List.mem_append.mp hx with z | z
              · exact hBm x z
              · rw [List.mem_singleton.mp z]; exact hc
            · rw [List.sum_append]
              show _ - ((Bk.sum + (c + 0) : Nat) : Int) + p = n
              omega
        · obtain ⟨G', Bk', rfl, eV, hG', hB', hGm', hBm', hs', hl'⟩ := hV
          refine s_asg (ev_dgetI (v := .int p) (vr (.ref cm)) (vr (.int h')) (eV _ _ hcm) (look hp)) fun H9 e9 => ?_
          refine ⟨dB cs (-(lst cs : Int)) ((n : Int) + lst cs) p, by rw [p2]; exact Nat.lt_succ_self _, p, G', Bk', some (.int (h' - p)), rfl, eV.trans e9, e9 _ _ hG', e9 _ _ hB', hGm', hBm', hs', p1, by rw [p2] at hfew; omega, rfl⟩
    · cases p with
      | some p => cases ht
      | none =>
        have hr0 := bf.root h' hp
        subst hr0
        rw [dB_zero] at hfew
        refine s_retTup (ear_n (er_sorted (esl_of (vr (.ref gp)) (sq_of (e6 _ _ hG)))) (ear_n (er_sorted (esl_of (vr (.ref bp)) (sq_of (e6 _ _ hB)))) ear_nil)) (fun vs H7 hv => ?_) (fun t vs H7 H8 e7 hv e8 nt ht' => ?_)
        · obtain ⟨_, _, _, rfl, _, _, _, _, _, _, rfl, _, _, _, rfl⟩ := hv
          show 2 ≤ 100000
          decide
        · obtain ⟨ga, _, _, rfl, nga, hga, ⟨ms, rfl, hp1, hs1⟩, ba, _, _, rfl, nba, hba, ⟨ms2, rfl, hp2, hs2⟩, rfl⟩ := hv
          have e0 : Ex H H6 := e1.trans (e2.trans (eH.trans e6))
          refine q _ H8 (e0.trans (e7.trans e8)) ⟨t, ga, ba, ms, ms2, rfl, ht', e8 _ _ hga, e8 _ _ hba, (⟨hGm, hBm, by omega, by omega⟩ : Hands cs n G Bk).perm hp1.symm hp2.symm, hs1, hs2, fresh_back e0 nga, fresh_back e0 nba⟩

/-! ### shown -/
theorem sc_shown : FnScope ["system", "coin"] ["system"] (defScope s_shown) := ⟨rfl, rfl, rfl, by decide +kernel, rfl, by decide +kernel, by decide +kernel⟩
def sp_shown (CS : Addr) : Sp := fun vs H Q E => ∃ x b, vs = [x] ∧ Sv H x b ∧ (b = false → ∀ H', Ex H H' → E (.ref CS) none H') ∧ (b = true → ∃ a cs, x = .ref a ∧ H a = some (.tup (ivs cs)) ∧ Good cs ∧ ∀ H', Ex H H' → Q (.str (shownS cs)) H')
theorem v_shown {CS : Addr} {H : Hp} {a : Addr} {cs : List Nat} (ha : H a = some (.tup (ivs cs))) (g : Good cs) : SpV (sp_shown CS) [.ref a] H (.str (shownS cs)) := fun H1 e1 Q q E =>
  ⟨.ref a, true, rfl, (Sv.good ha g).ex e1, fun z => (by cases z), fun _ => ⟨a, cs, rfl, e1 _ _ ha, g, fun H2 e2 => q H2 e2⟩⟩
theorem ok_shown {f : Addr} {fd : FuncData} {CS : Addr} (F : Fun K "shown" "shown" s_shown f fd) (B : Bi mg) (h_checked : Hs P w K mg base 3 "checked" (sp_checked CS)) : FnOk P w K mg base (L2.CX P w) 4 f fd ["system"] (sp_shown CS) := by
  refine F.okX sc_shown (fun vs H Q E h => ?_) (fun cdv A outer s H vs Q E hr h => ?_)
  · obtain ⟨x, b, rfl, _⟩ := h
    rfl
  · obtain ⟨x, b, rfl, hx, q1, q2⟩ := h
    have nd := sc_shown.nd
    refine ⟨_, (pss_one (ps_ret (pe_joinK K pe_str (pe_lc (own := [("coin", 1)]) (g := gName 1) (tt := tYes) rfl nd (pi_tup (revTK K (pe_h h_checked hr (by decide) (by rfl) passE (pa_cons (pv 0) pa_nil)))) (blkOk_by (own := [("coin", 1)]) (N := ["system", "coin"]) (sc := defScope s_shown) (by decide +kernel)) (fun _ _ _ _ _ => (pg_name (i := 1) nd rfl (Or.inl rfl))) (fun _ _ _ _ _ => pts_nil) (fun _ _ _ _ _ => (pe_callTy call_str_int (by rfl) B.str (by decide +kernel) (pa_cons (pv 1) pa_nil))))))), ?_⟩
    cases b with
    | false => exact ⟨⟨_, rfl⟩, x, rfl, x, false, rfl, hx, fun z => (by cases z), fun _ H' e => q1 rfl H' e⟩
    | true =>
      obtain ⟨a, cs, rfl, ha, g, q⟩ := q2 rfl
      have hl := g.len
      refine s_ret (v := .str (shownS cs)) (ev_join (K := K) (a := slash) (ys := cs.reverse.map numS) ev_c (esl_l ?_) (join_ok g)) fun H1 e1 => q H1 e1
      rw [List.map_map]
      exact el_tupY (K := K) (cs := cs.reverse) (V.str ∘ numS) (est_revN (K := K) (est_of (evc (ea_cons (vr (.ref a)) ea_nil) (v_checked hx)) ha)) (by rw [List.length_reverse]; omega) (fun _ => rfl) (fun c H1 e1 hc => ev_strN (vr (iv c)) (by have := g.le c (List.mem_reverse.mp hc); omega))

/-! ### _law_cell -/
theorem sc__law_cell : FnScope ["_law_script", "_law_k"] ["_law_script", "_law_k"] (defScope s__law_cell) := ⟨rfl, rfl, rfl, by decide +kernel, rfl, by decide +kernel, by decide +kernel⟩
def sp_cell (K : PySem.W.Frag) : Sp := fun vs H Q _ => ∃ (a : Addr) (ns : List Int) (k : Nat), vs = [.ref a, iv k] ∧ SqL K H a (ns.map V.int) ∧ ∀ H', Ex H H' → Q (.int (cell ns k)) H'
theorem v_cell {H : Hp} {a : Addr} {ns : List Int} {k : Nat} (ha : SqL K H a (ns.map V.int)) : SpV (sp_cell K) [.ref a, iv k] H (.int (cell ns k)) := fun H1 e1 Q q E => ⟨a, ns, k, rfl, ex_l e1 ha, fun H2 e2 => q H2 e2⟩
theorem ok__law_cell {f : Addr} {fd : FuncData} (F : Fun K "_law_cell" "_law_cell" s__law_cell f fd) (B : Bi mg) : FnOk P w K mg base (L2.CX P w) 1 f fd ["_law_script", "_law_k"] (sp_cell K) := by
  refine F.okX sc__law_cell (fun vs H Q E h => ?_) (fun cdv A outer s H vs Q E hr h => ?_)
  · obtain ⟨a, ns, k, rfl, _⟩ := h
    rfl
  · obtain ⟨a, ns, k, rfl, ha, q⟩ := h
    have nd := sc__law_cell.nd
    refine ⟨_, (pss_cons (ps_if (pt_cmpR op_lt (pv 1) (pe_callB (lenK K) (by rfl) B.len (by decide +kernel) (pa_cons (pv 0) pa_nil)) (nomark _))
      (pss_one (ps_ret (pe_ix (ixLK K) (pv 0) (pv 1) (fun _ _ => rfl)))) pss_nil)
      (pss_one (ps_ret pe_int))), ?_⟩
    refine q_when (et_test (ev_op (vr (iv k)) (ev_lenL (esl_of (vr (.ref a)) ha)) rvn_lt)) (fun h1 H1 e1 => ?_) (fun h1 H1 e1 => ?_)
    · have h1 := of_decide_eq_true h1
      rw [List.length_map] at h1
      have hg : (ns.map V.int)[k]? = some (.int (cell ns k)) := by
        unfold cell
        rw [List.getElem?_map, List.getD_eq_getElem?_getD, List.getElem?_eq_getElem h1]
        rfl
      exact s_ret (ev_ixL (esl_of (vr (.ref a)) (ex_l e1 ha)) (vr (iv k)) (atI_nat hg)) fun H2 e2 => q H2 (e1.trans e2)
    · have h1 := of_decide_eq_false h1
      rw [List.length_map] at h1
      have hg : cell ns k = 0 := by
        unfold cell
        rw [List.getD_eq_getElem?_getD, List.getElem?_eq_none (by omega)]
        rfl
      rw [hg] at q
      exact s_ret ev_c fun H2 e2 => q H2 (e1.trans e2)

/-! ### _law_mix -/
theorem sc__law_mix : FnScope ["_law_cell_here", "_law_prime", "_law_many"] ["_law_cell_here", "_law_prime", "_law_many"] (defScope s__law_mix) := ⟨rfl, rfl, rfl, by decide +kernel, rfl, by decide +kernel, by decide +kernel⟩
def sp_mix : Sp := fun vs H Q _ => ∃ c p m, vs = [.int c, iv p, iv m] ∧ 0 < p ∧ 0 < m ∧ ∀ H', Ex H H' → Q (iv (mix c p m)) H'
theorem v_mix {H : Hp} {c : Int} {p m : Nat} (hp : 0 < p) (hm : 0 < m) : SpV sp_mix [.int c, iv p, iv m] H (iv (mix c p m)) := fun H1 e1 Q q E => ⟨c, p, m, rfl, hp, hm, fun H2 e2 => q H2 e2⟩
theorem ok__law_mix {f : Addr} {fd : FuncData} (F : Fun K "_law_mix" "_law_mix" s__law_mix f fd) : FnOk P w K mg base (L2.CX P w) 1 f fd ["_law_cell_here", "_law_prime", "_law_many"] sp_mix := by
  refine F.okX sc__law_mix (fun vs H Q E h => ?_) (fun cdv A outer s H vs Q E hr h => ?_)
  · obtain ⟨c, p, m, rfl, _⟩ := h
    rfl
  · obtain ⟨c, p, m, rfl, hp, hm, q⟩ := h
    have nd := sc__law_mix.nd
    refine ⟨_, (pss_one (ps_ret (pe_op op_mod (pe_op op_mod (pe_op op_mul (pv 0) pe_int) (pv 1)) (pv 2)))), ?_⟩
    refine s_ret (ev_op (ev_op (ev_op (vr (.int c)) ev_c (rv_I (.inr ⟨by decide, by decide⟩))) (vr (.int (p : Int))) (rv_I (by omega))) (vr (.int (m : Int))) (rv_I (by omega))) fun H1 e1 => ?_
    have := q H1 e1
    unfold iv at this
    rwa [← mix_eq c p m hm] at this

/-! ### _law_system -/
theorem sc__law_system : FnScope ["_law_script", "_law_at", "_law_cell_here", "_law_most", "_law_found", "_law_k"] ["_law_script", "_law_at"] (defScope s__law_system) := ⟨rfl, rfl, rfl, by decide +kernel, rfl, by decide +kernel, by decide +kernel⟩
def sp_system (K : PySem.W.Frag) : Sp := fun vs H Q _ => ∃ (a : Addr) (ns : List Int) (k : Nat), vs = [.ref a, iv k] ∧ SqL K H a (ns.map V.int) ∧ ns.length ≤ 63 ∧ ∀ cs p H', Nice cs → Ex H H' → H' p = some (.tup (ivs cs)) → Q (.ref p) H'
theorem atN_last (ns : List Nat) (n : Nat) : atI (ivs (ns ++ [n])) (-1) = some (iv n) := by
  rw [ivs_snoc]
  exact atI_last _ _
theorem ok__law_system {f : Addr} {fd : FuncData} (F : Fun K "_law_system" "_law_system" s__law_system f fd) (B : Bi mg) (h__law_cell : Hs P w K mg base 1 "_law_cell" (sp_cell K)) (h__law_mix : Hs P w K mg base 1 "_law_mix" sp_mix) :
    FnOk P w K mg base (L2.CX P w) 2 f fd ["_law_script", "_law_at"] (sp_system K) := by
  refine F.okX sc__law_system (fun vs H Q E h => ?_) (fun cdv A outer s H vs Q E hr h => ?_)
  · obtain ⟨a, ns, k, rfl, _⟩ := h
    rfl
  · obtain ⟨a, ns, k, rfl, ha, hlen, q⟩ := h
    have nd := sc__law_system.nd
    refine ⟨_, (pss_cons (ps_set (i := 2) nd rfl (Or.inl rfl) (pe_h h__law_cell hr (by decide) (by rfl) passE (pa_cons (pv 0) (pa_cons (pv 1) pa_nil))))
      (pss_cons (ps_set (i := 3) nd rfl (Or.inl rfl) (pe_ix (ixLK K) (pe_lst (pa_cons pe_int (pa_cons pe_int (pa_cons pe_int pa_nil)))) (pe_h h__law_mix hr (by decide) (by rfl) passE (pa_cons (pv 2) (pa_cons pe_int (pa_cons pe_int pa_nil)))) (fun _ _ => rfl)))
      (pss_cons (ps_if (pt_cmpR op_gt (pe_callB (lenK K) (by rfl) B.len (by decide +kernel) (pa_cons (pv 0) pa_nil)) pe_int (nomark _))
      (pss_one (ps_set (i := 3) nd rfl (Or.inl rfl) pe_int)) pss_nil)
      (pss_cons (ps_set (i := 4) nd rfl (Or.inl rfl) (pe_lst (pa_cons pe_int pa_nil)))
      (pss_cons (ps_for (passes_of rfl) rfl (pi_range1 (by rfl) B.range (pa_cons (pe_h h__law_mix hr (by decide) (by rfl) passE (pa_cons (pv 2) (pa_cons pe_int (pa_cons pe_int pa_nil)))) pa_nil)) (pg_name (i := 5) nd rfl (Or.inl rfl))
      (pss_one (ps_expr (pe_bm PySem.F.plainAttrs_list PySem.F.slot_list_append PySem.F.type_list_append mt_append (pv 4) (pa_cons (pe_op op_add pe_int (pe_h h__law_mix hr (by decide) (by rfl) passE (pa_cons (pe_op op_add (pe_h h__law_cell hr (by decide) (by rfl) passE (pa_cons (pv 0) (pa_cons (pe_op op_add (pe_op op_add (pv 1) pe_int) (pv 5)) pa_nil))) (pe_op op_mul (pe_op op_mul pe_int (pv 5)) (pv 5))) (pa_cons pe_int (pa_cons (pv 3) pa_nil))))) pa_nil)))))
      (pss_cons (ps_if (pt_cmpR op_eq (pe_h h__law_mix hr (by decide) (by rfl) passE (pa_cons (pv 2) (pa_cons pe_int (pa_cons pe_int pa_nil)))) pe_int (nomark _))
      (pss_cons (ps_set (i := 4) nd rfl (Or.inl rfl) (pe_lst (pa_cons pe_int pa_nil)))
      (pss_one (ps_for (passes_of rfl) rfl (pi_range1 (by rfl) B.range (pa_cons (pe_op op_add pe_int (pe_h h__law_mix hr (by decide) (by rfl) passE (pa_cons (pv 2) (pa_cons pe_int (pa_cons pe_int pa_nil))))) pa_nil)) (pg_name (i := 5) nd rfl (Or.inl rfl))
      (pss_one (ps_expr (pe_bm PySem.F.plainAttrs_list PySem.F.slot_list_append PySem.F.type_list_append mt_append (pv 4) (pa_cons (pe_op op_sub (pe_op op_add (pe_op op_mul (pe_ix (ixLK K) (pv 4) (pe_un un_neg pe_int) (fun _ _ => rfl)) pe_int) (pe_h h__law_mix hr (by decide) (by rfl) passE (pa_cons (pe_h h__law_cell hr (by decide) (by rfl) passE (pa_cons (pv 0) (pa_cons (pe_op op_add (pe_op op_add (pv 1) pe_int) (pv 5)) pa_nil))) (pa_cons pe_int (pa_cons pe_int pa_nil))))) (pe_callTy call_int1 (by rfl) B.int (by decide +kernel) (pa_cons (pe_cmpR op_gt (pv 5) pe_int (nomark _)) pa_nil))) pa_nil))))))) pss_nil)
      (pss_one (ps_ret (pe_callTy (tupK K) (by rfl) B.tuple (by decide +kernel) (pa_cons (pe_callB (cr_sortedSet rfl) (by rfl) B.sorted (by decide +kernel) (pa_cons (pe_callTy (setK K) (by rfl) B.set (by decide +kernel) (pa_cons (pv 4) pa_nil)) pa_nil)) pa_nil)))))))))), ?_⟩
    have hmix := fun (σ : L2.St) (H1 : Hp) (i p m : Nat) (c : Int) (hσ : σ[i]? = some (some (.int c))) (hp : 0 < p) (hm : 0 < m) => evc (E := E) (ea_cons (ev_var (H := H1) hσ) (ea_cons (cn p) (ea_cons (cn m) ea_nil))) (v_mix (c := c) hp hm)
    refine q_asg (evc (ea_cons (vr (.ref a)) (ea_cons (vr (iv k)) ea_nil)) (v_cell ha)) fun H1 e1 => ?_
    have hm3 := mix_lt (cell ns k) 9949 3 (by decide)
    obtain ⟨most, hmost, hm0, hm29⟩ : ∃ most, [7, 13, 29][mix (cell ns k) 9949 3]? = some most ∧ 0 < most ∧ most ≤ 29 := by
      generalize mix (cell ns k) 9949 3 = z at hm3
      have : z = 0 ∨ z = 1 ∨ z = 2 := by omega
      rcases this with rfl | rfl | rfl
      · exact ⟨7, rfl, by decide, by decide⟩
      · exact ⟨13, rfl, by decide, by decide⟩
      · exact ⟨29, rfl, by decide, by decide⟩
    refine q_asg (v := iv most) (ev_ixL (esl_l (el_lst (ea_cons (cn 7) (ea_cons (cn 13) (ea_cons (cn 29) ea_nil))) (by decide))) (hmix _ _ 2 9949 3 _ rfl (by decide) (by decide)) (at_ivs (ns := [7, 13, 29]) hmost)) fun H2 e2 => ?_
    have e02 := e1.trans e2
    refine q_when (et_test (ev_op (ev_lenL (esl_of (vr (.ref a)) (ex_l e02 ha))) (cn 63) rvn_gt)) (fun h3 H3 e3 => absurd (of_decide_eq_true h3) (by rw [List.length_map]; omega)) fun _ H3 e3 => ?_
    have e03 := e02.trans e3
    refine q_asgL (el_lst (ea_cons (cn 1) ea_nil) (by decide)) fun p H4 hp4 e4 h4 => ?_
    have hn6 := mix_lt (cell ns k) 9973 6 (by decide)
    refine q_forR1 (j := 5) (n := (mix (cell ns k) 9973 6 : Int)) (ea_cons (hmix _ _ 2 9973 6 _ rfl (by decide) (by decide)) ea_nil) (by omega)
      (fun i σ' H' => Ex H3 H' ∧ ∃ xs u, σ' = [some (.ref a), some (iv k), some (.int (cell ns k)), some (iv most), some (.ref p), u] ∧ H' p = some (.lst (ivs xs)) ∧ xs.length = i + 1 ∧ 1 ∈ xs ∧ ∀ x ∈ xs, 0 < x ∧ x ≤ 46)
      (fun H5 e5 => ⟨e4.trans e5, [1], none, rfl, e5 _ _ h4, rfl, List.mem_cons_self, fun x hx => by rw [List.mem_singleton.mp hx]; exact ⟨by decide, by decide⟩⟩) (fun i σ' H' hi hW => ?_) (fun σ' H' hW => ?_)
    · obtain ⟨eH, xs, u, rfl, hq, hl, hx1, hx2⟩ := hW
      have e0 := e03.trans eH
      have hm := mix_lt (cell ns (k + 1 + i) + 17 * (i : Int) * (i : Int)) 9967 most hm0
      refine s_app hq (vr (.ref p)) (v := iv (2 + mix (cell ns (k + 1 + i) + 17 * (i : Int) * (i : Int)) 9967 most)) (ev_op (cn 2) (evc (ea_cons (ev_op (evc (ea_cons (vr (.ref a)) (ea_cons (ev_op (ev_op (vr (iv k)) (cn 1) rvn_add) (vr (iv i)) rvn_add) ea_nil)) (v_cell (ex_l e0 ha)))
        (ev_op (ev_op ev_c (vr (.int (i : Int))) (rv_I (.inl ⟨by decide, by decide⟩))) (vr (.int (i : Int))) (rv_I (.inr ⟨by omega, by omega⟩))) rv_I0) (ea_cons (cn 9967) (ea_cons (vr (iv most)) ea_nil))) (v_mix (by decide) hm0)) rvn_add) (by rw [ivs_len]; omega) fun H5 e5 => ?_
      refine ⟨Ex.mut (eH.trans e5) hp4, xs ++ [2 + mix (cell ns (k + 1 + i) + 17 * (i : Int) * (i : Int)) 9967 most], some (iv i), rfl, by rw [upd_same, ivs_snoc], by rw [List.length_append, hl]; rfl, List.mem_append_left _ hx1, fun x hx => ?_⟩
      rcases List.mem_append.mp hx with h | h
      · exact hx2 x h
      · rw [List.mem_singleton.mp h]
        omega
    · obtain ⟨eH, xs, u, rfl, hq, hl, hx1, hx2⟩ := hW
      have e0 := e03.trans eH
      rw [show ((mix (cell ns k) 9973 6 : Nat) : Int).toNat = mix (cell ns k) 9973 6 from rfl] at hl
      -- what follows, from either list
      have fin : ∀ (t : TS) (hne : t = tRet (tCB (rTupS K) (tCons (tCB (rSortedSet w) (tCons (tCB (rSetL K w) (tCons (tVar 4) tNil)) tNil)) tNil))) (D : Ends) (hD : D.rt = Q) (σ : L2.St) (H' : Hp) (p' : Addr) (ys : List Nat), σ[4]? = some (some (.ref p')) → Ex H H' → H' p' = some (.lst (ivs ys)) → ys.length ≤ 6 → 1 ∈ ys → (∀ x ∈ ys, 0 < x ∧ x ≤ 46) → t D σ H' := by
        intro t hne D hD σ H' p' ys hσ eH' hp' hl' h1 h2
        subst hne
        refine ert_sortset (K := K) (w := w) (esl_of (ev_var hσ) (sq_of hp')) (by omega) H' (Ex.refl _) _ fun cs b H'' hcs e'' hb => ?_
        rw [hD]
        exact q cs b H'' ⟨sys_of hcs.1 hcs.2.1 h1 fun x hx => (h2 x hx).1, fun c hc => (h2 c ((hcs.2.1 c).mp hc)).2, by have := hcs.2.2; omega⟩ (eH'.trans e'') hb
      refine q_when (et_test (ev_op (hmix _ _ 2 9941 5 _ rfl (by decide) (by decide)) (cn 1) rvn_eq)) (fun _ H5 e5 => ?_) (fun _ H5 e5 => fin _ rfl _ rfl _ _ p xs rfl (e0.trans e5) (e5 _ _ hq) (by omega) hx1 hx2)
      have e05 := e0.trans e5
      refine q_asgL (el_lst (ea_cons (cn 1) ea_nil) (by decide)) fun p2 H6 hp6 e6 h6 => ?_
      have hn4 := mix_lt (cell ns k) 9973 4 (by decide)
      refine s_forR1 (j := 5) (n := ((1 + mix (cell ns k) 9973 4 : Nat) : Int)) (ea_cons (ev_op (cn 1) (hmix _ _ 2 9973 4 _ rfl (by decide) (by decide)) rvn_add) ea_nil) (by omega)
        (fun i σ' H' => Ex H5 H' ∧ ∃ ys z u, σ' = [some (.ref a), some (iv k), some (.int (cell ns k)), some (iv most), some (.ref p2), u] ∧ H' p2 = some (.lst (ivs (ys ++ [z]))) ∧ ys.length = i ∧ 0 < z ∧ z + 2 ≤ 3 * 2 ^ i ∧ 1 ∈ ys ++ [z] ∧ ∀ x ∈ ys ++ [z], 0 < x ∧ x ≤ 46)
        (fun H7 e7 => ⟨e6.trans e7, [], 1, _, rfl, e7 _ _ h6, rfl, by decide, by decide, List.mem_cons_self, fun x hx => by rw [List.mem_singleton.mp hx]; exact ⟨by decide, by decide⟩⟩) (fun i σ' H' hi hW => ?_) (fun σ' H' hW => ?_)
      · obtain ⟨eH', ys, z, u, rfl, hq', hl', hz0, hz, h1, h2⟩ := hW
        have e0' := e05.trans eH'
        have hm := mix_lt (cell ns (k + 1 + i)) 9931 3 (by decide)
        have hz46 := (h2 z (List.mem_append_right _ List.mem_cons_self)).2
        have hi4 : i + 1 ≤ 4 := by omega
        have hpow : (3 : Nat) * 2 ^ (i + 1) ≤ 48 := Nat.mul_le_mul_left 3 (Nat.pow_le_pow_right (by decide) hi4)
        have hpow2 : (3 : Nat) * 2 ^ (i + 1) = 2 * (3 * 2 ^ i) := by rw [Nat.pow_succ]; omega
        let d := if 0 < i then 1 else 0
        have hd : d ≤ 1 := by show (if 0 < i then 1 else 0) ≤ 1; split <;> omega
        have hint : Ev (tCB (fun xs H Q => (∃ i, xs = [.int i] ∧ Q (.int i) H) ∨ ∃ k, xs = [.bl k] ∧ Q (.int (if k then 1 else 0)) H) (tCons (tOp (rI0 fun i j => .bl (decide (j < i))) (tVar 5) (tC (.int 0))) tNil)) [some (.ref a), some (iv k), some (.int (cell ns k)), some (iv most), some (.ref p2), some (.int (i : Int))] H' (iv d) :=
          ev_cb (ea_cons (ev_op (vr (iv i)) (cn 0) rvn_gt) ea_nil) fun H8 e8 Q' q' => .inr ⟨_, rfl, by
            have := q' H8 (Ex.refl _)
            show Q' (V.int (if decide (0 < i) = true then 1 else 0)) H8
            have e : (V.int (if decide (0 < i) = true then 1 else 0)) = iv d := by
              show _ = V.int ((if 0 < i then 1 else 0 : Nat) : Int)
              by_cases h : 0 < i <;> simp [h]
            rw [e]
            exact this⟩
        refine s_app hq' (vr (.ref p2)) (v := iv (z * 2 + mix (cell ns (k + 1 + i)) 9931 3 - d)) (ev_op (ev_op (ev_op (ev_ixL (esl_of (vr (.ref p2)) (sq_of hq')) (ev_un ev_c ru_neg) (atN_last ys z)) (cn 2) (rvn_mul (by omega))) (evc (ea_cons (evc (ea_cons (vr (.ref a)) (ea_cons (ev_op (ev_op (vr (iv k)) (cn 1) rvn_add) (vr (iv i)) rvn_add) ea_nil)) (v_cell (ex_l e0' ha))) (ea_cons (cn 9931) (ea_cons (cn 3) ea_nil))) (v_mix (by decide) (by decide))) rvn_add) hint (rvn_sub (by omega))) (by rw [ivs_len, List.length_append, hl']; show i + 1 < _; omega) fun H7 e7 => ?_
        refine ⟨Ex.mut (eH'.trans e7) hp6, ys ++ [z], z * 2 + mix (cell ns (k + 1 + i)) 9931 3 - d, some (iv i), rfl, by rw [upd_same, ivs_snoc (ys ++ [z])], by rw [List.length_append, hl']; rfl, by omega, by omega, List.mem_append_left _ h1, fun x hx => ?_⟩
        rcases List.mem_append.mp hx with h | h
        · exact h2 x h
        · rw [List.mem_singleton.mp h]
          exact ⟨by omega, by omega⟩
      · obtain ⟨eH', ys, z, u, rfl, hq', hl', hz0, hz, h1, h2⟩ := hW
        exact fin _ rfl _ rfl _ _ p2 (ys ++ [z]) rfl (e05.trans eH') hq' (by rw [List.length_append]; show ys.length + 1 ≤ 6; rw [hl']; have : (((1 + mix (cell ns k) 9973 4 : Nat) : Int)).toNat = 1 + mix (cell ns k) 9973 4 := rfl; omega) h1 h2
theorem q_sys {i k : Nat} {E : XK} {ts : TA} {tz : TS} {D : Ends} {σ : L2.St} {H : Hp} {a : Addr} {ns : List Int} (h : EvA ts σ H [.ref a, iv k]) (ha : SqL K H a (ns.map V.int)) (hl : ns.length ≤ 63) (c : ∀ cs b H1, Nice cs → Ex H H1 → H1 b = some (.tup (ivs cs)) → tz D (σ.set i (some (.ref b))) H1) :
    tSeq (tAsg (tCall (sp_system K) [] E ts) (gName i)) tz D σ H := h H (Ex.refl _) _ fun H1 e1 => ⟨a, ns, k, rfl, ex_l e1 ha, hl, fun cs b H2 hN e2 hb => c cs b H2 hN (e1.trans e2) hb⟩

/-! ### _law_spoilt -/
theorem sc__law_spoilt : FnScope ["_law_system_here", "_law_cell_here", "_law_some"] ["_law_system_here", "_law_cell_here"] (defScope s__law_spoilt) := ⟨rfl, rfl, rfl, by decide +kernel, rfl, by decide +kernel, by decide +kernel⟩
theorem not_good {xs : List Nat} (n : ¬ Good xs) : isSys (ivs xs) = false := by
  rw [isSys_goodB]
  cases h : goodB xs with
  | true => exact absurd (good_goodB.mp h) n
  | false => rfl
theorem okRest_str (z : Str) : ∀ (p : Int) (r : List Nat), okRest p (ivs r ++ [.str z]) = false
  | _, [] => rfl
  | p, c :: r => by
    show (decide (p + 1 ≤ (c : Int)) && decide ((c : Int) ≤ 200) && okRest (c : Int) (ivs r ++ [.str z])) = false
    rw [okRest_str z _ r, Bool.and_false]
theorem isSys_str (z : Str) : ∀ cs : List Nat, isSys (ivs cs ++ [.str z]) = false
  | [] => rfl
  | c :: r => by
    show (decide ((c : Int) = 1) && (decide ((ivs r ++ [V.str z]).length ≤ 7) && okRest (c : Int) (ivs r ++ [.str z]))) = false
    rw [okRest_str, Bool.and_false, Bool.and_false]
theorem ng_last {cs : List Nat} (g : Good cs) : ¬ Good (cs ++ [lst cs]) := fun h => by
  obtain ⟨r, _, hm, _⟩ := g.toSys.lst
  have := (List.pairwise_append.mp h.rise).2.2 _ hm _ List.mem_cons_self
  omega
theorem ng_201 {cs : List Nat} : ¬ Good (cs ++ [201]) := fun h => by
  have := h.le 201 (List.mem_append.mpr (.inr List.mem_cons_self))
  omega
theorem ng_drop {cs : List Nat} (g : Good cs) : ¬ Good (cs.drop 1) := fun h => by
  obtain ⟨a, r, e⟩ := List.exists_cons_of_ne_nil g.ne
  have h1 := g.one
  have h2 := g.rise
  rw [e] at h1 h2 h
  have : a = 1 := Option.some.inj h1
  have := (List.pairwise_cons.mp h2).1 1 h.toSys.mem1
  omega
theorem ng_nought {cs : List Nat} : ¬ Good ([0] ++ cs) := fun h => by
  have : some 0 = some 1 := h.one
  cases this
theorem ng_132 : ¬ Good [1, 3, 2] := fun h => absurd h.rise (by decide)
theorem ng_nine : ¬ Good [1, 2, 3, 4, 5, 6, 7, 8, 9] := fun h => absurd h.len (by decide)
theorem sv_mono : ∀ v H1 H2, Ex H1 H2 → Sv H1 v false → Sv H2 v false := fun _ _ _ e h => h.ex e
theorem sv_t {te : TE} {σ : L2.St} {H : Hp} {xs : List V} (h : EvSt te σ H xs) (hf : ∀ H1, ∀ y ∈ xs, Tg H1 y) (hw : isSys xs = false) : EvR te σ H (fun v H1 => Sv H1 v false) := er_imp (er_t h) fun v H1 _ ⟨a, e, ha⟩ => by
  subst e
  exact .tup ha (hf H1) hw
theorem sv_n {te : TE} {σ : L2.St} {H : Hp} {ns : List Nat} (h : EvSt te σ H (ivs ns)) (hw : ¬ Good ns) : EvR te σ H (fun v H1 => Sv H1 v false) := sv_t h (fun _ => tg_ivs) (not_good hw)
theorem est_catN {te tb : TE} {σ : L2.St} {H : Hp} {xs ys : List Nat} (ha : EvSt te σ H (ivs xs)) (hb : EvSt tb σ H (ivs ys)) (hz : xs.length + ys.length ≤ 100000) : EvSt (tOp (rCatA K) te tb) σ H (ivs (xs ++ ys)) := by
  rw [show ivs (xs ++ ys) = ivs xs ++ ivs ys from List.map_append ..]
  exact est_cat ha hb (by rw [ivs_len, ivs_len]; exact hz)
def sp_spoilt : Sp := fun vs H Q _ => ∃ b c cs, vs = [.ref b, .int c] ∧ H b = some (.tup (ivs cs)) ∧ Good cs ∧ ∀ v H', Ex H H' → Sv H' v false → Q v H'
theorem ok__law_spoilt {f : Addr} {fd : FuncData} (F : Fun K "_law_spoilt" "_law_spoilt" s__law_spoilt f fd) (B : Bi mg) :
    FnOk P w K mg base (L2.CX P w) 1 f fd ["_law_system_here", "_law_cell_here"] sp_spoilt := by
  refine F.okX sc__law_spoilt (fun vs H Q E h => ?_) (fun cdv A outer s H vs Q E hr h => ?_)
  · obtain ⟨b, c, cs, rfl, _⟩ := h
    rfl
  · obtain ⟨b, c, cs, rfl, hb, g, q⟩ := h
    have nd := sc__law_spoilt.nd
    refine ⟨_, (pss_cons (ps_set (i := 2) nd rfl (Or.inl rfl) (pe_lst (pa_cons (pe_callTy (listK K) (by rfl) B.list (by decide +kernel) (pa_cons (pv 0) pa_nil)) (pa_cons pe_non (pa_cons (pe_tup pa_nil) (pa_cons pe_int (pa_cons pe_str (pa_cons (pe_op (catK K) (pv 0) (pe_tup (pa_cons (pe_ix (ixTK K) (pv 0) (pe_un un_neg pe_int) (fun _ _ => rfl)) pa_nil))) (pa_cons (pe_op (catK K) (pv 0) (pe_tup (pa_cons pe_int pa_nil))) (pa_cons (pe_slice (slAK K) (pv 0) (po_some pe_int) po_none) (pa_cons (pe_op (catK K) (pe_tup (pa_cons pe_int pa_nil)) (pv 0)) pa_nil)))))))))))
      (pss_cons (ps_set (i := 2) nd rfl (Or.inl rfl) (pe_op op_cat (pv 2) (pe_lst (pa_cons (pe_op (catK K) (pe_tup (pa_cons pe_bl pa_nil)) (pe_slice (slAK K) (pv 0) (po_some pe_int) po_none)) (pa_cons (pe_op (catK K) (pv 0) (pe_tup (pa_cons pe_str pa_nil))) (pa_cons (pe_tup (pa_cons pe_int (pa_cons pe_int (pa_cons pe_int pa_nil)))) (pa_cons (pe_tup (pa_cons pe_int (pa_cons pe_int (pa_cons pe_int (pa_cons pe_int (pa_cons pe_int (pa_cons pe_int (pa_cons pe_int (pa_cons pe_int (pa_cons pe_int pa_nil)))))))))) pa_nil)))))))
      (pss_one (ps_ret (pe_ix (ixLK K) (pv 2) (pe_op op_mod (pv 1) pe_int) (fun _ _ => rfl)))))), ?_⟩
    have hl := g.len
    have sys := fun (H1 : Hp) (e : Ex H H1) (σ : L2.St) (h0 : σ[0]? = some (some (.ref b))) => est_of (ev_var (H := H1) h0) (e _ _ hb)
    have rest := fun (H1 : Hp) (e : Ex H H1) (σ : L2.St) (h0 : σ[0]? = some (some (.ref b))) => est_sl (K := K) (sys H1 e σ h0) (eo_some (ev_c (v := .int ((1 : Nat) : Int)))) eo_none (cut_drop cs 1)
    have hd : (cs.drop 1).length ≤ 8 := by rw [List.length_drop]; omega
    refine q_asgN (en_all (n := 9) (φ := fun v H1 => Sv H1 v false) sv_mono
      (eall_cons sv_mono (er_imp (er_l (el_ofT (sys _ (Ex.refl _) _ rfl))) fun v H1 _ ⟨x, hx, hx2⟩ => by subst hx; exact .lst hx2)
      (eall_cons sv_mono (er_v ev_c fun _ _ => .non)
      (eall_cons sv_mono (sv_t (est_disp (vs := []) ea_nil (by show 0 ≤ 100000; decide)) (fun _ _ h => by cases h) rfl)
      (eall_cons sv_mono (er_v ev_c fun _ _ => .int _)
      (eall_cons sv_mono (er_v ev_c fun _ _ => .str _)
      (eall_cons sv_mono (sv_n (est_catN (sys _ (Ex.refl _) _ rfl) (est_disp (vs := ivs [lst cs]) (ea_cons (ev_ixT (sys _ (Ex.refl _) _ rfl) (ev_un ev_c ru_neg) g.toSys.lstAt) ea_nil) (by show 1 ≤ 100000; decide)) (by show cs.length + 1 ≤ 100000; omega)) (ng_last g))
      (eall_cons sv_mono (sv_n (est_catN (sys _ (Ex.refl _) _ rfl) (est_disp (vs := ivs [201]) (ea_cons (cn 201) ea_nil) (by show 1 ≤ 100000; decide)) (by show cs.length + 1 ≤ 100000; omega)) ng_201)
      (eall_cons sv_mono (sv_n (rest _ (Ex.refl _) _ rfl) (ng_drop g))
      (eall_cons sv_mono (sv_n (est_catN (est_disp (vs := ivs [0]) (ea_cons (cn 0) ea_nil) (by show 1 ≤ 100000; decide)) (sys _ (Ex.refl _) _ rfl) (by show 1 + cs.length ≤ 100000; omega)) ng_nought) eall_nil))))))))) (by decide)) fun p ys H1 np e1 hp hys => ?_
    refine q_asgN (en_cat (n := 9) (m := 4) (φ := fun v H1 => Sv H1 v false) sv_mono (esa_of sv_mono (vr (.ref p)) hp hys.1 hys.2) (esa_n (en_all (n := 4) sv_mono
      (eall_cons sv_mono (sv_t (est_cat (est_disp (vs := [.bl true]) (ea_cons ev_c ea_nil) (by show 1 ≤ 100000; decide)) (rest _ e1 _ rfl) (by rw [ivs_len]; show 1 + (cs.drop 1).length ≤ 100000; omega)) (fun H1 y hy => (List.mem_append.mp hy).elim (fun z => by rw [List.mem_singleton.mp z]; exact .bl _) (tg_ivs y)) rfl)
      (eall_cons sv_mono (sv_t (est_cat (sys _ e1 _ rfl) (est_disp (vs := [.str (Str.ofString "90")]) (ea_cons ev_c ea_nil) (by show 1 ≤ 100000; decide)) (by rw [ivs_len]; show cs.length + 1 ≤ 100000; omega)) (fun H1 y hy => (List.mem_append.mp hy).elim (tg_ivs y) (fun z => by rw [List.mem_singleton.mp z]; exact .str _)) (isSys_str _ cs))
      (eall_cons sv_mono (sv_n (est_disp (vs := ivs [1, 3, 2]) (ea_cons (cn 1) (ea_cons (cn 3) (ea_cons (cn 2) ea_nil))) (by show 3 ≤ 100000; decide)) ng_132)
      (eall_cons sv_mono (sv_n (est_disp (vs := ivs [1, 2, 3, 4, 5, 6, 7, 8, 9]) (ea_cons (cn 1) (ea_cons (cn 2) (ea_cons (cn 3) (ea_cons (cn 4) (ea_cons (cn 5) (ea_cons (cn 6) (ea_cons (cn 7) (ea_cons (cn 8) (ea_cons (cn 9) ea_nil))))))))) (by show 9 ≤ 100000; decide)) ng_nine) eall_nil)))) (by decide))) (by decide)) fun p2 ys2 H2 np2 e2 hp2 hys2 => ?_
    exact s_retR (er_ix (φ := fun v H1 => Sv H1 v false) (n := 13) (i := modc c 13) sv_mono (esa_of sv_mono (vr (.ref p2)) hp2 hys2.1 hys2.2) (ev_op (vr (.int c)) (cn 13) (rv_modc (by decide))) (modc_lt c (by decide))) fun v H3 e3 hv => q v H3 (e1.trans (e2.trans e3)) hv

/-! ### _law_deed -/
theorem sc__law_deed : FnScope ["_law_way", "_law_bad"] ["_law_way", "_law_bad"] (defScope s__law_deed) := ⟨rfl, rfl, rfl, by decide +kernel, rfl, by decide +kernel, by decide +kernel⟩
def sp_one (CS : Addr) : Sp := fun vs H _ E => ∃ k x, vs = [iv k, x] ∧ Sv H x false ∧ ∀ H', Ex H H' → E (.ref CS) none H'
theorem ok__law_deed {f : Addr} {fd : FuncData} {CS CB CW : Addr} (F : Fun K "_law_deed" "_law_deed" s__law_deed f fd) (h_checked : Hs P w K mg base 3 "checked" (sp_checked CS)) (h_beginnings : Hs P w K mg base 4 "beginnings" (sp_beginnings CS)) (h_fewest : Hs P w K mg base 5 "fewest" (sp_fewest CS CB)) (h_by_greatest : Hs P w K mg base 5 "by_greatest" (sp_by_greatest CS CB)) (h_by_fewest : Hs P w K mg base 5 "by_fewest" (sp_by_fewest CS CB)) (h_count_ways : Hs P w K mg base 5 "count_ways" (sp_count_ways CS CB)) (h_excess : Hs P w K mg base 5 "excess" (sp_excess CS CB)) (h_sum_of : Hs P w K mg base 5 "sum_of" (sp_sum_of CS CW)) (h_first_fault : Hs P w K mg base 4 "first_fault" (sp_first_fault CS)) :
    FnOk P w K mg base (L2.CX P w) 6 f fd ["_law_way", "_law_bad"] (sp_one CS) := by
  refine F.okX sc__law_deed (fun vs H Q E h => ?_) (fun cdv A outer s H vs Q E hr h => ?_)
  · obtain ⟨k, x, rfl, _⟩ := h
    rfl
  · obtain ⟨k, x, rfl, hx, q⟩ := h
    have nd := sc__law_deed.nd
    refine ⟨_, (pss_cons (ps_if (pt_cmpR op_eq (pv 0) pe_int (nomark _))
      (pss_one (ps_ret (pe_h h_checked hr (by decide) (by rfl) passE (pa_cons (pv 1) pa_nil)))) pss_nil)
      (pss_cons (ps_if (pt_cmpR op_eq (pv 0) pe_int (nomark _))
      (pss_one (ps_ret (pe_h h_beginnings hr (by decide) (by rfl) passE (pa_cons (pv 1) pa_nil)))) pss_nil)
      (pss_cons (ps_if (pt_cmpR op_eq (pv 0) pe_int (nomark _))
      (pss_one (ps_ret (pe_h h_fewest hr (by decide) (by rfl) passE (pa_cons (pv 1) (pa_cons pe_non pa_nil))))) pss_nil)
      (pss_cons (ps_if (pt_cmpR op_eq (pv 0) pe_int (nomark _))
      (pss_one (ps_ret (pe_h h_by_greatest hr (by decide) (by rfl) passE (pa_cons (pv 1) (pa_cons (pe_un un_neg pe_int) pa_nil))))) pss_nil)
      (pss_cons (ps_if (pt_cmpR op_eq (pv 0) pe_int (nomark _))
      (pss_one (ps_ret (pe_h h_by_fewest hr (by decide) (by rfl) passE (pa_cons (pv 1) (pa_cons pe_str pa_nil))))) pss_nil)
      (pss_cons (ps_if (pt_cmpR op_eq (pv 0) pe_int (nomark _))
      (pss_one (ps_ret (pe_h h_count_ways hr (by decide) (by rfl) passE (pa_cons (pv 1) (pa_cons pe_int pa_nil))))) pss_nil)
      (pss_cons (ps_if (pt_cmpR op_eq (pv 0) pe_int (nomark _))
      (pss_one (ps_ret (pe_h h_excess hr (by decide) (by rfl) passE (pa_cons (pv 1) (pa_cons pe_bl pa_nil))))) pss_nil)
      (pss_cons (ps_if (pt_cmpR op_eq (pv 0) pe_int (nomark _))
      (pss_one (ps_ret (pe_h h_sum_of hr (by decide) (by rfl) passE (pa_cons (pv 1) (pa_cons pe_non pa_nil))))) pss_nil)
      (pss_one (ps_ret (pe_h h_first_fault hr (by decide) (by rfl) passE (pa_cons (pv 1) pa_nil)))))))))))), ?_⟩
    have e0 := Ex.refl H
    refine q_when (et_test (ev_op (vr (iv k)) (cn 0) rvn_eq)) (fun _ H0a f0 => ?_) (fun _ H0a f0 => ?_)
    · have g := e0.trans f0
      exact s_retCall (ear_of (ea_cons (vr x) ea_nil)) fun vs H2 e hv => by
        subst hv
        exact ⟨x, false, rfl, hx.ex (g.trans e), fun z => (by cases z), fun _ H3 e3 => q H3 (g.trans (e.trans e3))⟩
    have e1 := e0.trans f0
    refine q_when (et_test (ev_op (vr (iv k)) (cn 1) rvn_eq)) (fun _ H1a f1 => ?_) (fun _ H1a f1 => ?_)
    · have g := e1.trans f1
      exact s_retCall (ear_of (ea_cons (vr x) ea_nil)) fun vs H2 e hv => by
        subst hv
        exact ⟨x, false, rfl, hx.ex (g.trans e), fun z => (by cases z), fun _ H3 e3 => q H3 (g.trans (e.trans e3))⟩
    have e2 := e1.trans f1
    refine q_when (et_test (ev_op (vr (iv k)) (cn 2) rvn_eq)) (fun _ H2a f2 => ?_) (fun _ H2a f2 => ?_)
    · have g := e2.trans f2
      exact s_retCall (ear_of (ea_cons (vr x) (ea_cons (x := .non) ev_c ea_nil))) fun vs H2 e hv => by
        subst hv
        exact ⟨x, _, false, rfl, hx.ex (g.trans e), fun z => (by cases z), fun z => (by cases z), fun z => (by cases z), fun _ H3 e3 => q H3 (g.trans (e.trans e3))⟩
    have e3 := e2.trans f2
    refine q_when (et_test (ev_op (vr (iv k)) (cn 3) rvn_eq)) (fun _ H3a f3 => ?_) (fun _ H3a f3 => ?_)
    · have g := e3.trans f3
      exact s_retCall (ear_of (ea_cons (vr x) (ea_cons (x := (.int (-1))) (ev_un ev_c ru_neg) ea_nil))) fun vs H2 e hv => by
        subst hv
        exact ⟨x, _, false, rfl, hx.ex (g.trans e), fun z => (by cases z), fun z => (by cases z), fun z => (by cases z), fun _ H3 e3 => q H3 (g.trans (e.trans e3))⟩
    have e4 := e3.trans f3
    refine q_when (et_test (ev_op (vr (iv k)) (cn 4) rvn_eq)) (fun _ H4a f4 => ?_) (fun _ H4a f4 => ?_)
    · have g := e4.trans f4
      exact s_retCall (ear_of (ea_cons (vr x) (ea_cons (x := (.str (Str.ofString "7"))) ev_c ea_nil))) fun vs H2 e hv => by
        subst hv
        exact ⟨x, _, false, rfl, hx.ex (g.trans e), fun z => (by cases z), fun z => (by cases z), fun z => (by cases z), fun _ H3 e3 => q H3 (g.trans (e.trans e3))⟩
    have e5 := e4.trans f4
    refine q_when (et_test (ev_op (vr (iv k)) (cn 5) rvn_eq)) (fun _ H5a f5 => ?_) (fun _ H5a f5 => ?_)
    · have g := e5.trans f5
      exact s_retCall (ear_of (ea_cons (vr x) (ea_cons (x := (.int 2001)) ev_c ea_nil))) fun vs H2 e hv => by
        subst hv
        exact ⟨x, _, false, rfl, hx.ex (g.trans e), fun z => (by cases z), fun z => (by cases z), fun z => (by cases z), fun _ H3 e3 => q H3 (g.trans (e.trans e3))⟩
    have e6 := e5.trans f5
    refine q_when (et_test (ev_op (vr (iv k)) (cn 6) rvn_eq)) (fun _ H6a f6 => ?_) (fun _ H6a f6 => ?_)
    · have g := e6.trans f6
      exact s_retCall (ear_of (ea_cons (vr x) (ea_cons (x := (.bl true)) ev_c ea_nil))) fun vs H2 e hv => by
        subst hv
        exact ⟨x, _, false, rfl, hx.ex (g.trans e), fun z => (by cases z), fun z => (by cases z), fun z => (by cases z), fun _ H3 e3 => q H3 (g.trans (e.trans e3))⟩
    have e7 := e6.trans f6
    refine q_when (et_test (ev_op (vr (iv k)) (cn 7) rvn_eq)) (fun _ H7a f7 => ?_) (fun _ H7a f7 => ?_)
    · have g := e7.trans f7
      exact s_retCall (ear_of (ea_cons (vr x) (ea_cons (x := .non) ev_c ea_nil))) fun vs H2 e hv => by
        subst hv
        exact ⟨x, _, false, rfl, hx.ex (g.trans e), fun _ H3 e3 => q H3 (g.trans (e.trans e3)), fun z => (by cases z)⟩
    have e8 := e7.trans f7
    exact s_retCall (ear_of (ea_cons (vr x) ea_nil)) fun vs H2 e hv => by
        subst hv
        exact ⟨x, false, rfl, hx.ex (e8.trans e), fun z => (by cases z), fun _ H3 e3 => q H3 (e8.trans (e.trans e3))⟩

/-! ### _law_more -/
theorem sc__law_more : FnScope ["_law_way", "_law_bad"] ["_law_way", "_law_bad"] (defScope s__law_more) := ⟨rfl, rfl, rfl, by decide +kernel, rfl, by decide +kernel, by decide +kernel⟩
theorem ok__law_more {f : Addr} {fd : FuncData} {CS CB CN CO : Addr} (F : Fun K "_law_more" "_law_more" s__law_more f fd) (h_is_orderly : Hs P w K mg base 5 "is_orderly" (sp_is_orderly CS)) (h_why_not : Hs P w K mg base 6 "why_not" (sp_why_not CS)) (h_orderly_beginnings : Hs P w K mg base 6 "orderly_beginnings" (sp_orderly_beginnings CS)) (h_all_faults : Hs P w K mg base 4 "all_faults" (sp_all_faults CS CN)) (h_may_follow : Hs P w K mg base 7 "may_follow" (sp_may_follow CS CO CN)) (h_followers : Hs P w K mg base 7 "followers" (sp_followers CS CO CN)) (h_safe_from : Hs P w K mg base 7 "safe_from" (sp_safe_from CS CO)) (h_handed : Hs P w K mg base 5 "handed" (sp_handed CS CB)) (h_shown : Hs P w K mg base 4 "shown" (sp_shown CS)) :
    FnOk P w K mg base (L2.CX P w) 8 f fd ["_law_way", "_law_bad"] (sp_one CS) := by
  refine F.okX sc__law_more (fun vs H Q E h => ?_) (fun cdv A outer s H vs Q E hr h => ?_)
  · obtain ⟨k, x, rfl, _⟩ := h
    rfl
  · obtain ⟨k, x, rfl, hx, q⟩ := h
    have nd := sc__law_more.nd
    refine ⟨_, (pss_cons (ps_if (pt_cmpR op_eq (pv 0) pe_int (nomark _))
      (pss_one (ps_ret (pe_h h_is_orderly hr (by decide) (by rfl) passE (pa_cons (pv 1) pa_nil)))) pss_nil)
      (pss_cons (ps_if (pt_cmpR op_eq (pv 0) pe_int (nomark _))
      (pss_one (ps_ret (pe_h h_why_not hr (by decide) (by rfl) passE (pa_cons (pv 1) pa_nil)))) pss_nil)
      (pss_cons (ps_if (pt_cmpR op_eq (pv 0) pe_int (nomark _))
      (pss_one (ps_ret (pe_h h_orderly_beginnings hr (by decide) (by rfl) passE (pa_cons (pv 1) pa_nil)))) pss_nil)
      (pss_cons (ps_if (pt_cmpR op_eq (pv 0) pe_int (nomark _))
      (pss_one (ps_ret (pe_h h_all_faults hr (by decide) (by rfl) passE (pa_cons (pv 1) (pa_cons pe_non pa_nil))))) pss_nil)
      (pss_cons (ps_if (pt_cmpR op_eq (pv 0) pe_int (nomark _))
      (pss_one (ps_ret (pe_h h_may_follow hr (by decide) (by rfl) passE (pa_cons (pv 1) (pa_cons pe_int pa_nil))))) pss_nil)
      (pss_cons (ps_if (pt_cmpR op_eq (pv 0) pe_int (nomark _))
      (pss_one (ps_ret (pe_h h_followers hr (by decide) (by rfl) passE (pa_cons (pv 1) (pa_cons pe_int pa_nil))))) pss_nil)
      (pss_cons (ps_if (pt_cmpR op_eq (pv 0) pe_int (nomark _))
      (pss_one (ps_ret (pe_h h_safe_from hr (by decide) (by rfl) passE (pa_cons (pv 1) pa_nil)))) pss_nil)
      (pss_cons (ps_if (pt_cmpR op_eq (pv 0) pe_int (nomark _))
      (pss_one (ps_ret (pe_h h_handed hr (by decide) (by rfl) passE (pa_cons (pv 1) (pa_cons pe_int pa_nil))))) pss_nil)
      (pss_one (ps_ret (pe_h h_shown hr (by decide) (by rfl) passE (pa_cons (pv 1) pa_nil)))))))))))), ?_⟩
    have e0 := Ex.refl H
    refine q_when (et_test (ev_op (vr (iv k)) (cn 0) rvn_eq)) (fun _ H0a f0 => ?_) (fun _ H0a f0 => ?_)
    · have g := e0.trans f0
      exact s_retCall (ear_of (ea_cons (vr x) ea_nil)) fun vs H2 e hv => by
        subst hv
        exact ⟨x, false, rfl, hx.ex (g.trans e), fun z => (by cases z), fun _ H3 e3 => q H3 (g.trans (e.trans e3))⟩
    have e1 := e0.trans f0
    refine q_when (et_test (ev_op (vr (iv k)) (cn 1) rvn_eq)) (fun _ H1a f1 => ?_) (fun _ H1a f1 => ?_)
    · have g := e1.trans f1
      exact s_retCall (ear_of (ea_cons (vr x) ea_nil)) fun vs H2 e hv => by
        subst hv
        exact ⟨x, false, rfl, hx.ex (g.trans e), fun z => (by cases z), fun _ H3 e3 => q H3 (g.trans (e.trans e3))⟩
    have e2 := e1.trans f1
    refine q_when (et_test (ev_op (vr (iv k)) (cn 2) rvn_eq)) (fun _ H2a f2 => ?_) (fun _ H2a f2 => ?_)
    · have g := e2.trans f2
      exact s_retCall (ear_of (ea_cons (vr x) ea_nil)) fun vs H2 e hv => by
        subst hv
        exact ⟨x, false, rfl, hx.ex (g.trans e), fun z => (by cases z), fun _ H3 e3 => q H3 (g.trans (e.trans e3))⟩
    have e3 := e2.trans f2
    refine q_when (et_test (ev_op (vr (iv k)) (cn 3) rvn_eq)) (fun _ H3a f3 => ?_) (fun _ H3a f3 => ?_)
    · have g := e3.trans f3
      exact s_retCall (ear_of (ea_cons (vr x) (ea_cons (x := .non) ev_c ea_nil))) fun vs H2 e hv => by
        subst hv
        exact ⟨x, _, false, rfl, hx.ex (g.trans e), fun z => (by cases z), fun z => (by cases z), fun z => (by cases z), fun _ H3 e3 => q H3 (g.trans (e.trans e3))⟩
    have e4 := e3.trans f3
    refine q_when (et_test (ev_op (vr (iv k)) (cn 4) rvn_eq)) (fun _ H4a f4 => ?_) (fun _ H4a f4 => ?_)
    · have g := e4.trans f4
      exact s_retCall (ear_of (ea_cons (vr x) (ea_cons (x := (.int 0)) ev_c ea_nil))) fun vs H2 e hv => by
        subst hv
        exact ⟨x, _, false, rfl, hx.ex (g.trans e), fun _ H3 e3 => q H3 (g.trans (e.trans e3)), fun z => (by cases z)⟩
    have e5 := e4.trans f4
    refine q_when (et_test (ev_op (vr (iv k)) (cn 5) rvn_eq)) (fun _ H5a f5 => ?_) (fun _ H5a f5 => ?_)
    · have g := e5.trans f5
      exact s_retCall (ear_of (ea_cons (vr x) (ea_cons (x := (.int 0)) ev_c ea_nil))) fun vs H2 e hv => by
        subst hv
        exact ⟨x, _, false, rfl, hx.ex (g.trans e), fun _ H3 e3 => q H3 (g.trans (e.trans e3)), fun z => (by cases z)⟩
    have e6 := e5.trans f5
    refine q_when (et_test (ev_op (vr (iv k)) (cn 6) rvn_eq)) (fun _ H6a f6 => ?_) (fun _ H6a f6 => ?_)
    · have g := e6.trans f6
      exact s_retCall (ear_of (ea_cons (vr x) ea_nil)) fun vs H2 e hv => by
        subst hv
        exact ⟨x, false, rfl, hx.ex (g.trans e), fun _ H3 e3 => q H3 (g.trans (e.trans e3)), fun z => (by cases z)⟩
    have e7 := e6.trans f6
    refine q_when (et_test (ev_op (vr (iv k)) (cn 7) rvn_eq)) (fun _ H7a f7 => ?_) (fun _ H7a f7 => ?_)
    · have g := e7.trans f7
      exact s_retCall (ear_of (ea_cons (vr x) (ea_cons (x := (.int 401)) ev_c ea_nil))) fun vs H2 e hv => by
        subst hv
        exact ⟨x, _, false, rfl, hx.ex (g.trans e), fun z => (by cases z), fun z => (by cases z), fun z => (by cases z), fun _ H3 e3 => q H3 (g.trans (e.trans e3))⟩
    have e8 := e7.trans f7
    exact s_retCall (ear_of (ea_cons (vr x) ea_nil)) fun vs H2 e hv => by
        subst hv
        exact ⟨x, false, rfl, hx.ex (e8.trans e), fun _ H3 e3 => q H3 (e8.trans (e.trans e3)), fun z => (by cases z)⟩

/-! ### _law_told -/
theorem sc__law_told : FnScope ["_law_way", "_law_bad", "e"] ["_law_way", "_law_bad"] (defScope s__law_told) := ⟨rfl, rfl, rfl, by decide +kernel, rfl, by decide +kernel, by decide +kernel⟩
def sp_told : Sp := fun vs H Q _ => ∃ k x, vs = [iv k, x] ∧ Sv H x false ∧ ∀ p H', H p = none → Ex H H' → H' p = some (.lst ([true, true].map V.bl)) → Q (.ref p) H'
theorem v_told {H : Hp} {k : Nat} {x : V} (hx : Sv H x false) : SpL sp_told [iv k, x] H ([true, true].map V.bl) := fun H1 e1 Q q E => ⟨k, x, rfl, hx.ex e1, fun p H2 np e2 hp => q p H2 np e2 hp⟩
theorem ok__law_told {f : Addr} {fd : FuncData} {CS CE : Addr} (F : Fun K "_law_told" "_law_told" s__law_told f fd) (B : Bi mg) (h__law_deed : Hs P w K mg base 6 "_law_deed" (sp_one CS)) (h__law_more : Hs P w K mg base 8 "_law_more" (sp_one CS)) (x_TillError : Ec K mg "TillError" CE) (x_BadSystem : Ec K mg "BadSystem" CS)
    (y_BadSystem : ExcC K CS) (m_BadSystem_TillError : PySem.W.exmOne K (.ref CS) (.ref CE) = some true)
    (i_BadSystem_BadSystem : PySem.W.kitOne K (.ref CS) (.ref CS) = some true) (i_BadSystem_ValueError : PySem.W.kitOne K (.ref CS) (.type "ValueError") = some true) :
    FnOk P w K mg base (L2.CX P w) 9 f fd ["_law_way", "_law_bad"] sp_told := by
  refine F.okX sc__law_told (fun vs H Q E h => ?_) (fun cdv A outer s H vs Q E hr h => ?_)
  · obtain ⟨k, x, rfl, _⟩ := h
    rfl
  · obtain ⟨k, x, rfl, hx, q⟩ := h
    have nd := sc__law_told.nd
    refine ⟨_, (pss_cons (ps_try_as (i := 2) rfl rfl nd rfl rfl ⟨rfl, by decide, .inl x_TillError.g⟩ takes0 (fun W pn xe tk _ =>
      (pss_one (ps_if (pt_cmpR op_lt (pv 0) pe_int (nomark _))
      (pss_one (ps_expr (pe_hS h__law_deed hr (by decide) (by rfl) (fun σ => passAt tk σ) (pa_cons (pv 0) (pa_cons (pv 1) pa_nil))))) (pss_one (ps_expr (pe_hS h__law_more hr (by decide) (by rfl) (fun σ => passAt tk σ) (pa_cons (pe_op op_sub (pv 0) pe_int) (pa_cons (pv 1) pa_nil)))))))) (fun ea oe cls ed pn hz hf =>
      (pss_one (ps_ret (pe_lst (pa_cons (pe_callB (isXK K hz hf) (by rfl) B.isinstance (by decide +kernel) (pa_cons (pv 2) (pa_cons (pe_glob (by rfl) x_BadSystem.g (show RelV (.ref _) _ from rfl)) pa_nil))) (pa_cons (pe_callB (isXK K hz hf) (by rfl) B.isinstance (by decide +kernel) (pa_cons (pv 2) (pa_cons (pe_bltn (by rfl) B.ValueError (by decide +kernel) (show RelV (.ty "ValueError") _ from rfl)) pa_nil))) pa_nil)))))))
      (pss_one (ps_ret (pe_lst pa_nil)))), ?_⟩
    have fin : ∀ (ea : Addr) (H1 : Hp), Ex H H1 → tRet (tLst (tCons (tCB (rIsX K (.ref CS) none ea) (tCons (tVar 2) (tCons (tC (.ref CS)) tNil))) (tCons (tCB (rIsX K (.ref CS) none ea) (tCons (tVar 2) (tCons (tC (.ty "ValueError")) tNil))) tNil))) { nx := fun _ H' => Q .non H', rt := Q } [some (iv k), some x, some (.ref ea)] H1 := fun ea H1 e1 =>
      s_retL (xs := [true, true].map V.bl) (el_lst (ea_cons (ev_isX y_BadSystem relV_ref i_BadSystem_BadSystem (vr (.ref ea)) ev_c) (ea_cons (ev_isX y_BadSystem relV_ty i_BadSystem_ValueError (vr (.ref ea)) ev_c) ea_nil)) (by show 2 ≤ 100000; decide)) fun p H2 np e2 hp => q p H2 (fresh_back e1 np) (e1.trans e2) hp
    refine s_if (b := decide (k < 9)) (et_test (ev_op (vr (iv k)) (cn 9) rvn_lt)) (fun hk H1 e1 => ?_) (fun hk H1 e1 => ?_)
    · exact ⟨iv k, rfl, x, rfl, k, x, rfl, hx.ex e1, fun H2 e2 => ⟨true, m_BadSystem_TillError, fun _ ea _ => fin ea H2 (e1.trans e2), fun z => (by cases z)⟩⟩
    · refine (ev_op (vr (iv k)) (cn 9) (rvn_sub (by have := of_decide_eq_false hk; omega))) H1 (Ex.refl _) _ fun H2 e2 => ?_
      exact ⟨x, rfl, k - 9, x, rfl, hx.ex (e1.trans e2), fun H3 e3 => ⟨true, m_BadSystem_TillError, fun _ ea _ => fin ea H3 (e1.trans (e2.trans e3)), fun z => (by cases z)⟩⟩

/-! ### law -/
theorem sc_law : FnScope ["_law_script", "_law_system_here", "_law_found", "_law_many", "_law_bad", "_law_way"] ["_law_script"] (defScope s_law) := ⟨rfl, rfl, rfl, by decide +kernel, rfl, by decide +kernel, by decide +kernel⟩
theorem el_to {te : TE} {σ : L2.St} {H : Hp} {xs ys : List V} (e : xs = ys) (h : EvL te σ H xs) : EvL te σ H ys := e ▸ h
theorem ok_law {f : Addr} {fd : FuncData} {CS : Addr} (F : Fun K "law" "law" s_law f fd) (B : Bi mg) (h__law_cell : Hs P w K mg base 1 "_law_cell" (sp_cell K)) (h__law_system : Hs P w K mg base 2 "_law_system" (sp_system K)) (h__law_spoilt : Hs P w K mg base 1 "_law_spoilt" sp_spoilt) (h__law_told : Hs P w K mg base 9 "_law_told" sp_told)
    (h_checked : Hs P w K mg base 3 "checked" (sp_checked CS)) (h_beginnings : Hs P w K mg base 4 "beginnings" (sp_beginnings CS)) :
    FnOk P w K mg base (L2.CX P w) 10 f fd ["_law_script"] (sp_law K) := by
  refine F.okX sc_law (fun vs H Q E h => ?_) (fun cdv A outer s H vs Q E hr h => ?_)
  · obtain ⟨a, ns, rfl, _⟩ := h
    rfl
  · obtain ⟨a, ns, rfl, ha, hlen, q⟩ := h
    have nd := sc_law.nd
    refine ⟨_, (pss_cons (ps_set (i := 1) nd rfl (Or.inr rfl) (pe_h h__law_system hr (by decide) (by rfl) passE (pa_cons (pv 0) (pa_cons pe_int pa_nil))))
      (pss_cons (ps_if (pt_cmpR op_eq (pe_op op_mod (pe_h h__law_cell hr (by decide) (by rfl) passE (pa_cons (pv 0) (pa_cons pe_int pa_nil))) pe_int) pe_int (nomark _))
      (pss_cons (ps_set (i := 2) nd rfl (Or.inl rfl) (pe_h h_beginnings hr (by decide) (by rfl) passE (pa_cons (pv 1) pa_nil)))
      (pss_one (ps_ret (pe_and (pe_cmpR (eqDK K hr.units) (pe_h h_checked hr (by decide) (by rfl) passE (pa_cons (pv 1) pa_nil)) (pv 1) (nomark _)) (pe_one (pe_cmpR (eqDK K hr.units) (pv 2) (pe_lc (own := [("_law_many", 3)]) (g := gName 3) (tt := tYes) rfl nd (pi_range1 (by rfl) B.range (pa_cons (pe_callB (lenK K) (by rfl) B.len (by decide +kernel) (pa_cons (pv 1) pa_nil)) pa_nil)) (blkOk_by (own := [("_law_many", 3)]) (N := ["_law_script", "_law_system_here", "_law_found", "_law_many", "_law_bad", "_law_way"]) (sc := defScope s_law) (by decide +kernel)) (fun _ _ _ _ _ => (pg_name (i := 3) nd rfl (Or.inl rfl))) (fun _ _ _ _ _ => pts_nil) (fun _ _ _ _ _ => (pe_slice (slAK K) (pv 1) po_none (po_some (pe_op op_add (pv 3) pe_int))))) (nomark _))))))) pss_nil)
      (pss_cons (ps_set (i := 4) nd rfl (Or.inr rfl) (pe_h h__law_spoilt hr (by decide) (by rfl) passE (pa_cons (pv 1) (pa_cons (pe_h h__law_cell hr (by decide) (by rfl) passE (pa_cons (pv 0) (pa_cons pe_int pa_nil))) pa_nil))))
      (pss_one (ps_ret (pe_cmpR (eqDK K hr.units) (pe_lc (own := [("_law_way", 5)]) (g := gName 5) rfl nd (pi_range1 (by rfl) B.range (pa_cons pe_int pa_nil)) (blkOk_by (own := [("_law_way", 5)]) (N := ["_law_script", "_law_system_here", "_law_found", "_law_many", "_law_bad", "_law_way"]) (sc := defScope s_law) (by decide +kernel)) (fun _ _ _ _ _ => (pg_name (i := 5) nd rfl (Or.inl rfl))) (fun _ _ _ _ _ => (pts_one (pt_cmpR (neDK K hr.units) (pe_h h__law_told hr (by decide) (by rfl) passF (pa_cons (pv 5) (pa_cons (pv 4) pa_nil))) (pe_lst (pa_cons pe_bl (pa_cons pe_bl pa_nil))) (nomark _)))) (fun _ _ _ _ _ => (pv 5))) (pe_lst pa_nil) (nomark _))))))), ?_⟩
    refine q_sys (ea_cons (vr (.ref a)) (ea_cons (cn 2) ea_nil)) ha hlen fun cs b H1 hN e1 hb => ?_
    have g := hN.good
    have hl := g.len
    have ha1 := ex_l e1 ha
    refine q_when (b := decide (modc (cell ns 0) 3 = 0)) (et_test (ev_op (ev_op (evc (ea_cons (vr (.ref a)) (ea_cons (cn 0) ea_nil)) (v_cell (k := 0) ha1)) (cn 3) (rv_modc (by decide))) (cn 0) rvn_eq)) (fun _ H2 e2 => ?_) (fun _ H2 e2 => ?_)
    · have hb2 := e2 _ _ hb
      refine q_asgN (en_call (ea_cons (vr (.ref b)) ea_nil) (v_beginnings hb2 g)) fun p ys H3 np e3 hp hy => ?_
      have hb3 := e3 _ _ hb2
      refine s_ret (v := .bl (decide (cs = cs) && true)) (ev_andV (ev_eqT (K := K) (est_of (evc (ea_cons (vr (.ref b)) ea_nil) (v_checked (Sv.good hb3 g))) hb3) (est_of (vr (.ref b)) hb3)) fun _ => ev_eqs (K := K) (d := dlt (begs cs)) (ed_of (vr (.ref p)) (dp_lt (sq_of hp) hy)) (fun H4 e4 Q' q' => (en_lcR1 (n := cs.length) (σ := [some (.ref a), some (.ref b), some (.ref p), none, none, none]) (H := H3) (fun _ => true) (fun i y H' => TupN (cs.take (i + 1)) y H') (fun c y A B t h => TupN.mono _ y A B t h) (ea_cons (ev_lenN (K := K) (est_of (vr (.ref b)) hb3)) ea_nil) (by omega) (fun _ => rfl) (fun c H5 e5 hc => et_yes) (fun c H5 e5 hc _ => er_tupN (est_sl (est_of (vr (i := 1) (.ref b)) (e5 _ _ hb3)) eo_none (eo_some (i := ((c + 1 : Nat) : Int)) (ev_op (vr (i := 3) (iv c)) (cn 1) rvn_add)) (cut_take cs (c + 1))))) H4 e4 Q' fun l zs H5 nl e5 hl hz => q' _ H5 e5 (dp_lt (sq_of hl) (by
        rw [filter_yes] at hz
        exact paired_map hz))) (shaped_of (can_dlt _) (dep_dlt _) (by decide))) fun H4 _ => ?_
      rw [decide_eq_true rfl]
      exact q H4
    · have hb2 := e2 _ _ hb
      refine q_asgR (er_call (ψ := fun v H' => Sv H' v false) (ea_cons (vr (.ref b)) (ea_cons (evc (ea_cons (vr (.ref a)) (ea_cons (cn 1) ea_nil)) (v_cell (k := 1) (ex_l e2 ha1))) ea_nil)) (fun H3 e3 Q' q' E' => ⟨b, cell ns 1, cs, rfl, e3 _ _ hb2, g, fun v H4 e4 hv => q' v H4 e4 hv⟩)) fun v H3 e3 hv => ?_
      refine s_ret (v := .bl (decide (([] : List Nat) = []))) (ev_eqL (K := K) (esl_l ?_) (esl_l (el_lst (vs := ivs []) ea_nil (by show 0 ≤ 100000; decide)))) fun H4 _ => ?_
      · exact el_to (xs := ((List.range 18).filter fun _ => false).map iv) (by rw [show (List.range 18).filter (fun _ => false) = [] by decide]) (el_rng1 (n := 18) (fun _ => false) iv (ea_cons (cn 18) ea_nil) (by decide) (fun _ => rfl) (fun c H4 e4 hc => et_test (ev_neBs (K := K) (a := [true, true]) (b := [true, true]) (esl_l (elc (ea_cons (vr (i := 5) (iv c)) (ea_cons (vr (i := 4) v) ea_nil)) (v_told (hv.ex e4)))) (esl_l (el_lst (ea_cons ev_c (ea_cons ev_c ea_nil)) (by show 2 ≤ 100000; decide))))) (fun c H4 e4 hc z => by cases z))
      · rw [decide_eq_true rfl]
        exact q H4

end
theorem all_mk {P : Program} {w : World} {K : PySem.W.Frag} {h : Heap} {mg : Str → Option Value} {fa : Addr} (X : K.In h) (G : h.Ns mainGlobals mg) (hfa : mg "law" = some (.ref fa))
    {f_is_within : Addr} {od_is_within an_is_within : Option Addr} {sl_is_within : Array (Option Value)} {oc_is_within kV_is_within dc_is_within pm_is_within cd_is_within ct_is_within : Value}
    (a_is_within : PySem.W.nsIn K mainGlobals "is_within" = some (some (.ref f_is_within))) (l_is_within : K.lookup f_is_within = some ⟨oc_is_within, od_is_within, .func (PySem.W.fnOf "is_within" "is_within" (defArgs s_is_within) (defBody s_is_within) (defScope s_is_within) .none kV_is_within dc_is_within pm_is_within an_is_within cd_is_within ct_is_within), sl_is_within⟩) (q_is_within : PySem.W.codeIn K cd_is_within "is_within" = true) (k_is_within : PySem.W.keepIn K (.ref f_is_within) = true)
    {f_is_system : Addr} {od_is_system an_is_system : Option Addr} {sl_is_system : Array (Option Value)} {oc_is_system kV_is_system dc_is_system pm_is_system cd_is_system ct_is_system : Value}
    (a_is_system : PySem.W.nsIn K mainGlobals "is_system" = some (some (.ref f_is_system))) (l_is_system : K.lookup f_is_system = some ⟨oc_is_system, od_is_system, .func (PySem.W.fnOf "is_system" "is_system" (defArgs s_is_system) (defBody s_is_system) (defScope s_is_system) .none kV_is_system dc_is_system pm_is_system an_is_system cd_is_system ct_is_system), sl_is_system⟩) (q_is_system : PySem.W.codeIn K cd_is_system "is_system" = true) (k_is_system : PySem.W.keepIn K (.ref f_is_system) = true)
    {f_checked : Addr} {od_checked an_checked : Option Addr} {sl_checked : Array (Option Value)} {oc_checked kV_checked dc_checked pm_checked cd_checked ct_checked : Value}
    (a_checked : PySem.W.nsIn K mainGlobals "checked" = some (some (.ref f_checked))) (l_checked : K.lookup f_checked = some ⟨oc_checked, od_checked, .func (PySem.W.fnOf "checked" "checked" (defArgs s_checked) (defBody s_checked) (defScope s_checked) .none kV_checked dc_checked pm_checked an_checked cd_checked ct_checked), sl_checked⟩) (q_checked : PySem.W.codeIn K cd_checked "checked" = true) (k_checked : PySem.W.keepIn K (.ref f_checked) = true)
    {f_beginnings : Addr} {od_beginnings an_beginnings : Option Addr} {sl_beginnings : Array (Option Value)} {oc_beginnings kV_beginnings dc_beginnings pm_beginnings cd_beginnings ct_beginnings : Value}
    (a_beginnings : PySem.W.nsIn K mainGlobals "beginnings" = some (some (.ref f_beginnings))) (l_beginnings : K.lookup f_beginnings = some ⟨oc_beginnings, od_beginnings, .func (PySem.W.fnOf "beginnings" "beginnings" (defArgs s_beginnings) (defBody s_beginnings) (defScope s_beginnings) .none kV_beginnings dc_beginnings pm_beginnings an_beginnings cd_beginnings ct_beginnings), sl_beginnings⟩) (q_beginnings : PySem.W.codeIn K cd_beginnings "beginnings" = true) (k_beginnings : PySem.W.keepIn K (.ref f_beginnings) = true)
    {f_look : Addr} {od_look an_look : Option Addr} {sl_look : Array (Option Value)} {oc_look kV_look dc_look pm_look cd_look ct_look : Value}
    (a_look : PySem.W.nsIn K mainGlobals "look" = some (some (.ref f_look))) (l_look : K.lookup f_look = some ⟨oc_look, od_look, .func (PySem.W.fnOf "look" "look" (defArgs s_look) (defBody s_look) (defScope s_look) .none kV_look dc_look pm_look an_look cd_look ct_look), sl_look⟩) (q_look : PySem.W.codeIn K cd_look "look" = true) (k_look : PySem.W.keepIn K (.ref f_look) = true)
    {f_fewest_up_to : Addr} {od_fewest_up_to an_fewest_up_to : Option Addr} {sl_fewest_up_to : Array (Option Value)} {oc_fewest_up_to kV_fewest_up_to dc_fewest_up_to pm_fewest_up_to cd_fewest_up_to ct_fewest_up_to : Value}
    (a_fewest_up_to : PySem.W.nsIn K mainGlobals "fewest_up_to" = some (some (.ref f_fewest_up_to))) (l_fewest_up_to : K.lookup f_fewest_up_to = some ⟨oc_fewest_up_to, od_fewest_up_to, .func (PySem.W.fnOf "fewest_up_to" "fewest_up_to" (defArgs s_fewest_up_to) (defBody s_fewest_up_to) (defScope s_fewest_up_to) .none kV_fewest_up_to dc_fewest_up_to pm_fewest_up_to an_fewest_up_to cd_fewest_up_to ct_fewest_up_to), sl_fewest_up_to⟩) (q_fewest_up_to : PySem.W.codeIn K cd_fewest_up_to "fewest_up_to" = true) (k_fewest_up_to : PySem.W.keepIn K (.ref f_fewest_up_to) = true)
    {f_fewest : Addr} {od_fewest an_fewest : Option Addr} {sl_fewest : Array (Option Value)} {oc_fewest kV_fewest dc_fewest pm_fewest cd_fewest ct_fewest : Value}
    (a_fewest : PySem.W.nsIn K mainGlobals "fewest" = some (some (.ref f_fewest))) (l_fewest : K.lookup f_fewest = some ⟨oc_fewest, od_fewest, .func (PySem.W.fnOf "fewest" "fewest" (defArgs s_fewest) (defBody s_fewest) (defScope s_fewest) .none kV_fewest dc_fewest pm_fewest an_fewest cd_fewest ct_fewest), sl_fewest⟩) (q_fewest : PySem.W.codeIn K cd_fewest "fewest" = true) (k_fewest : PySem.W.keepIn K (.ref f_fewest) = true)
    {f_taken : Addr} {od_taken an_taken : Option Addr} {sl_taken : Array (Option Value)} {oc_taken kV_taken dc_taken pm_taken cd_taken ct_taken : Value}
    (a_taken : PySem.W.nsIn K mainGlobals "taken" = some (some (.ref f_taken))) (l_taken : K.lookup f_taken = some ⟨oc_taken, od_taken, .func (PySem.W.fnOf "taken" "taken" (defArgs s_taken) (defBody s_taken) (defScope s_taken) .none kV_taken dc_taken pm_taken an_taken cd_taken ct_taken), sl_taken⟩) (q_taken : PySem.W.codeIn K cd_taken "taken" = true) (k_taken : PySem.W.keepIn K (.ref f_taken) = true)
    {f_by_greatest : Addr} {od_by_greatest an_by_greatest : Option Addr} {sl_by_greatest : Array (Option Value)} {oc_by_greatest kV_by_greatest dc_by_greatest pm_by_greatest cd_by_greatest ct_by_greatest : Value}
    (a_by_greatest : PySem.W.nsIn K mainGlobals "by_greatest" = some (some (.ref f_by_greatest))) (l_by_greatest : K.lookup f_by_greatest = some ⟨oc_by_greatest, od_by_greatest, .func (PySem.W.fnOf "by_greatest" "by_greatest" (defArgs s_by_greatest) (defBody s_by_greatest) (defScope s_by_greatest) .none kV_by_greatest dc_by_greatest pm_by_greatest an_by_greatest cd_by_greatest ct_by_greatest), sl_by_greatest⟩) (q_by_greatest : PySem.W.codeIn K cd_by_greatest "by_greatest" = true) (k_by_greatest : PySem.W.keepIn K (.ref f_by_greatest) = true)
    {f_by_fewest : Addr} {od_by_fewest an_by_fewest : Option Addr} {sl_by_fewest : Array (Option Value)} {oc_by_fewest kV_by_fewest dc_by_fewest pm_by_fewest cd_by_fewest ct_by_fewest : Value}
    (a_by_fewest : PySem.W.nsIn K mainGlobals "by_fewest" = some (some (.ref f_by_fewest))) (l_by_fewest : K.lookup f_by_fewest = some ⟨oc_by_fewest, od_by_fewest, .func (PySem.W.fnOf "by_fewest" "by_fewest" (defArgs s_by_fewest) (defBody s_by_fewest) (defScope s_by_fewest) .none kV_by_fewest dc_by_fewest pm_by_fewest an_by_fewest cd_by_fewest ct_by_fewest), sl_by_fewest⟩) (q_by_fewest : PySem.W.codeIn K cd_by_fewest "by_fewest" = true) (k_by_fewest : PySem.W.keepIn K (.ref f_by_fewest) = true)
    {f_sum_of : Addr} {od_sum_of an_sum_of : Option Addr} {sl_sum_of : Array (Option Value)} {oc_sum_of kV_sum_of dc_sum_of pm_sum_of cd_sum_of ct_sum_of : Value}
    (a_sum_of : PySem.W.nsIn K mainGlobals "sum_of" = some (some (.ref f_sum_of))) (l_sum_of : K.lookup f_sum_of = some ⟨oc_sum_of, od_sum_of, .func (PySem.W.fnOf "sum_of" "sum_of" (defArgs s_sum_of) (defBody s_sum_of) (defScope s_sum_of) .none kV_sum_of dc_sum_of pm_sum_of an_sum_of cd_sum_of ct_sum_of), sl_sum_of⟩) (q_sum_of : PySem.W.codeIn K cd_sum_of "sum_of" = true) (k_sum_of : PySem.W.keepIn K (.ref f_sum_of) = true)
    {f_count_ways : Addr} {od_count_ways an_count_ways : Option Addr} {sl_count_ways : Array (Option Value)} {oc_count_ways kV_count_ways dc_count_ways pm_count_ways cd_count_ways ct_count_ways : Value}
    (a_count_ways : PySem.W.nsIn K mainGlobals "count_ways" = some (some (.ref f_count_ways))) (l_count_ways : K.lookup f_count_ways = some ⟨oc_count_ways, od_count_ways, .func (PySem.W.fnOf "count_ways" "count_ways" (defArgs s_count_ways) (defBody s_count_ways) (defScope s_count_ways) .none kV_count_ways dc_count_ways pm_count_ways an_count_ways cd_count_ways ct_count_ways), sl_count_ways⟩) (q_count_ways : PySem.W.codeIn K cd_count_ways "count_ways" = true) (k_count_ways : PySem.W.keepIn K (.ref f_count_ways) = true)
    {f_excess : Addr} {od_excess an_excess : Option Addr} {sl_excess : Array (Option Value)} {oc_excess kV_excess dc_excess pm_excess cd_excess ct_excess : Value}
    (a_excess : PySem.W.nsIn K mainGlobals "excess" = some (some (.ref f_excess))) (l_excess : K.lookup f_excess = some ⟨oc_excess, od_excess, .func (PySem.W.fnOf "excess" "excess" (defArgs s_excess) (defBody s_excess) (defScope s_excess) .none kV_excess dc_excess pm_excess an_excess cd_excess ct_excess), sl_excess⟩) (q_excess : PySem.W.codeIn K cd_excess "excess" = true) (k_excess : PySem.W.keepIn K (.ref f_excess) = true)
    {f_first_fault : Addr} {od_first_fault an_first_fault : Option Addr} {sl_first_fault : Array (Option Value)} {oc_first_fault kV_first_fault dc_first_fault pm_first_fault cd_first_fault ct_first_fault : Value}
    (a_first_fault : PySem.W.nsIn K mainGlobals "first_fault" = some (some (.ref f_first_fault))) (l_first_fault : K.lookup f_first_fault = some ⟨oc_first_fault, od_first_fault, .func (PySem.W.fnOf "first_fault" "first_fault" (defArgs s_first_fault) (defBody s_first_fault) (defScope s_first_fault) .none kV_first_fault dc_first_fault pm_first_fault an_first_fault cd_first_fault ct_first_fault), sl_first_fault⟩) (q_first_fault : PySem.W.codeIn K cd_first_fault "first_fault" = true) (k_first_fault : PySem.W.keepIn K (.ref f_first_fault) = true)
    {f_is_orderly : Addr} {od_is_orderly an_is_orderly : Option Addr} {sl_is_orderly : Array (Option Value)} {oc_is_orderly kV_is_orderly dc_is_orderly pm_is_orderly cd_is_orderly ct_is_orderly : Value}
    (a_is_orderly : PySem.W.nsIn K mainGlobals "is_orderly" = some (some (.ref f_is_orderly))) (l_is_orderly : K.lookup f_is_orderly = some ⟨oc_is_orderly, od_is_orderly, .func (PySem.W.fnOf "is_orderly" "is_orderly" (defArgs s_is_orderly) (defBody s_is_orderly) (defScope s_is_orderly) .none kV_is_orderly dc_is_orderly pm_is_orderly an_is_orderly cd_is_orderly ct_is_orderly), sl_is_orderly⟩) (q_is_orderly : PySem.W.codeIn K cd_is_orderly "is_orderly" = true) (k_is_orderly : PySem.W.keepIn K (.ref f_is_orderly) = true)
    {f_why_not : Addr} {od_why_not an_why_not : Option Addr} {sl_why_not : Array (Option Value)} {oc_why_not kV_why_not dc_why_not pm_why_not cd_why_not ct_why_not : Value}
    (a_why_not : PySem.W.nsIn K mainGlobals "why_not" = some (some (.ref f_why_not))) (l_why_not : K.lookup f_why_not = some ⟨oc_why_not, od_why_not, .func (PySem.W.fnOf "why_not" "why_not" (defArgs s_why_not) (defBody s_why_not) (defScope s_why_not) .none kV_why_not dc_why_not pm_why_not an_why_not cd_why_not ct_why_not), sl_why_not⟩) (q_why_not : PySem.W.codeIn K cd_why_not "why_not" = true) (k_why_not : PySem.W.keepIn K (.ref f_why_not) = true)
    {f_orderly_beginnings : Addr} {od_orderly_beginnings an_orderly_beginnings : Option Addr} {sl_orderly_beginnings : Array (Option Value)} {oc_orderly_beginnings kV_orderly_beginnings dc_orderly_beginnings pm_orderly_beginnings cd_orderly_beginnings ct_orderly_beginnings : Value}
    (a_orderly_beginnings : PySem.W.nsIn K mainGlobals "orderly_beginnings" = some (some (.ref f_orderly_beginnings))) (l_orderly_beginnings : K.lookup f_orderly_beginnings = some ⟨oc_orderly_beginnings, od_orderly_beginnings, .func (PySem.W.fnOf "orderly_beginnings" "orderly_beginnings" (defArgs s_orderly_beginnings) (defBody s_orderly_beginnings) (defScope s_orderly_beginnings) .none kV_orderly_beginnings dc_orderly_beginnings pm_orderly_beginnings an_orderly_beginnings cd_orderly_beginnings ct_orderly_beginnings), sl_orderly_beginnings⟩) (q_orderly_beginnings : PySem.W.codeIn K cd_orderly_beginnings "orderly_beginnings" = true) (k_orderly_beginnings : PySem.W.keepIn K (.ref f_orderly_beginnings) = true)
    {f_all_faults : Addr} {od_all_faults an_all_faults : Option Addr} {sl_all_faults : Array (Option Value)} {oc_all_faults kV_all_faults dc_all_faults pm_all_faults cd_all_faults ct_all_faults : Value}
    (a_all_faults : PySem.W.nsIn K mainGlobals "all_faults" = some (some (.ref f_all_faults))) (l_all_faults : K.lookup f_all_faults = some ⟨oc_all_faults, od_all_faults, .func (PySem.W.fnOf "all_faults" "all_faults" (defArgs s_all_faults) (defBody s_all_faults) (defScope s_all_faults) .none kV_all_faults dc_all_faults pm_all_faults an_all_faults cd_all_faults ct_all_faults), sl_all_faults⟩) (q_all_faults : PySem.W.codeIn K cd_all_faults "all_faults" = true) (k_all_faults : PySem.W.keepIn K (.ref f_all_faults) = true)
    {f_fits : Addr} {od_fits an_fits : Option Addr} {sl_fits : Array (Option Value)} {oc_fits kV_fits dc_fits pm_fits cd_fits ct_fits : Value}
    (a_fits : PySem.W.nsIn K mainGlobals "fits" = some (some (.ref f_fits))) (l_fits : K.lookup f_fits = some ⟨oc_fits, od_fits, .func (PySem.W.fnOf "fits" "fits" (defArgs s_fits) (defBody s_fits) (defScope s_fits) .none kV_fits dc_fits pm_fits an_fits cd_fits ct_fits), sl_fits⟩) (q_fits : PySem.W.codeIn K cd_fits "fits" = true) (k_fits : PySem.W.keepIn K (.ref f_fits) = true)
    {f_look_orderly : Addr} {od_look_orderly an_look_orderly : Option Addr} {sl_look_orderly : Array (Option Value)} {oc_look_orderly kV_look_orderly dc_look_orderly pm_look_orderly cd_look_orderly ct_look_orderly : Value}
    (a_look_orderly : PySem.W.nsIn K mainGlobals "look_orderly" = some (some (.ref f_look_orderly))) (l_look_orderly : K.lookup f_look_orderly = some ⟨oc_look_orderly, od_look_orderly, .func (PySem.W.fnOf "look_orderly" "look_orderly" (defArgs s_look_orderly) (defBody s_look_orderly) (defScope s_look_orderly) .none kV_look_orderly dc_look_orderly pm_look_orderly an_look_orderly cd_look_orderly ct_look_orderly), sl_look_orderly⟩) (q_look_orderly : PySem.W.codeIn K cd_look_orderly "look_orderly" = true) (k_look_orderly : PySem.W.keepIn K (.ref f_look_orderly) = true)
    {f_may_follow : Addr} {od_may_follow an_may_follow : Option Addr} {sl_may_follow : Array (Option Value)} {oc_may_follow kV_may_follow dc_may_follow pm_may_follow cd_may_follow ct_may_follow : Value}
    (a_may_follow : PySem.W.nsIn K mainGlobals "may_follow" = some (some (.ref f_may_follow))) (l_may_follow : K.lookup f_may_follow = some ⟨oc_may_follow, od_may_follow, .func (PySem.W.fnOf "may_follow" "may_follow" (defArgs s_may_follow) (defBody s_may_follow) (defScope s_may_follow) .none kV_may_follow dc_may_follow pm_may_follow an_may_follow cd_may_follow ct_may_follow), sl_may_follow⟩) (q_may_follow : PySem.W.codeIn K cd_may_follow "may_follow" = true) (k_may_follow : PySem.W.keepIn K (.ref f_may_follow) = true)
    {f_followers : Addr} {od_followers an_followers : Option Addr} {sl_followers : Array (Option Value)} {oc_followers kV_followers dc_followers pm_followers cd_followers ct_followers : Value}
    (a_followers : PySem.W.nsIn K mainGlobals "followers" = some (some (.ref f_followers))) (l_followers : K.lookup f_followers = some ⟨oc_followers, od_followers, .func (PySem.W.fnOf "followers" "followers" (defArgs s_followers) (defBody s_followers) (defScope s_followers) .none kV_followers dc_followers pm_followers an_followers cd_followers ct_followers), sl_followers⟩) (q_followers : PySem.W.codeIn K cd_followers "followers" = true) (k_followers : PySem.W.keepIn K (.ref f_followers) = true)
    {f_safe_from : Addr} {od_safe_from an_safe_from : Option Addr} {sl_safe_from : Array (Option Value)} {oc_safe_from kV_safe_from dc_safe_from pm_safe_from cd_safe_from ct_safe_from : Value}
    (a_safe_from : PySem.W.nsIn K mainGlobals "safe_from" = some (some (.ref f_safe_from))) (l_safe_from : K.lookup f_safe_from = some ⟨oc_safe_from, od_safe_from, .func (PySem.W.fnOf "safe_from" "safe_from" (defArgs s_safe_from) (defBody s_safe_from) (defScope s_safe_from) .none kV_safe_from dc_safe_from pm_safe_from an_safe_from cd_safe_from ct_safe_from), sl_safe_from⟩) (q_safe_from : PySem.W.codeIn K cd_safe_from "safe_from" = true) (k_safe_from : PySem.W.keepIn K (.ref f_safe_from) = true)
    {f_to_and_fro : Addr} {od_to_and_fro an_to_and_fro : Option Addr} {sl_to_and_fro : Array (Option Value)} {oc_to_and_fro kV_to_and_fro dc_to_and_fro pm_to_and_fro cd_to_and_fro ct_to_and_fro : Value}
    (a_to_and_fro : PySem.W.nsIn K mainGlobals "to_and_fro" = some (some (.ref f_to_and_fro))) (l_to_and_fro : K.lookup f_to_and_fro = some ⟨oc_to_and_fro, od_to_and_fro, .func (PySem.W.fnOf "to_and_fro" "to_and_fro" (defArgs s_to_and_fro) (defBody s_to_and_fro) (defScope s_to_and_fro) .none kV_to_and_fro dc_to_and_fro pm_to_and_fro an_to_and_fro cd_to_and_fro ct_to_and_fro), sl_to_and_fro⟩) (q_to_and_fro : PySem.W.codeIn K cd_to_and_fro "to_and_fro" = true) (k_to_and_fro : PySem.W.keepIn K (.ref f_to_and_fro) = true)
    {f_look_handed : Addr} {od_look_handed an_look_handed : Option Addr} {sl_look_handed : Array (Option Value)} {oc_look_handed kV_look_handed dc_look_handed pm_look_handed cd_look_handed ct_look_handed : Value}
    (a_look_handed : PySem.W.nsIn K mainGlobals "look_handed" = some (some (.ref f_look_handed))) (l_look_handed : K.lookup f_look_handed = some ⟨oc_look_handed, od_look_handed, .func (PySem.W.fnOf "look_handed" "look_handed" (defArgs s_look_handed) (defBody s_look_handed) (defScope s_look_handed) .none kV_look_handed dc_look_handed pm_look_handed an_look_handed cd_look_handed ct_look_handed), sl_look_handed⟩) (q_look_handed : PySem.W.codeIn K cd_look_handed "look_handed" = true) (k_look_handed : PySem.W.keepIn K (.ref f_look_handed) = true)
    {f_handed : Addr} {od_handed an_handed : Option Addr} {sl_handed : Array (Option Value)} {oc_handed kV_handed dc_handed pm_handed cd_handed ct_handed : Value}
    (a_handed : PySem.W.nsIn K mainGlobals "handed" = some (some (.ref f_handed))) (l_handed : K.lookup f_handed = some ⟨oc_handed, od_handed, .func (PySem.W.fnOf "handed" "handed" (defArgs s_handed) (defBody s_handed) (defScope s_handed) .none kV_handed dc_handed pm_handed an_handed cd_handed ct_handed), sl_handed⟩) (q_handed : PySem.W.codeIn K cd_handed "handed" = true) (k_handed : PySem.W.keepIn K (.ref f_handed) = true)
    {f_shown : Addr} {od_shown an_shown : Option Addr} {sl_shown : Array (Option Value)} {oc_shown kV_shown dc_shown pm_shown cd_shown ct_shown : Value}
    (a_shown : PySem.W.nsIn K mainGlobals "shown" = some (some (.ref f_shown))) (l_shown : K.lookup f_shown = some ⟨oc_shown, od_shown, .func (PySem.W.fnOf "shown" "shown" (defArgs s_shown) (defBody s_shown) (defScope s_shown) .none kV_shown dc_shown pm_shown an_shown cd_shown ct_shown), sl_shown⟩) (q_shown : PySem.W.codeIn K cd_shown "shown" = true) (k_shown : PySem.W.keepIn K (.ref f_shown) = true)
    {f__law_cell : Addr} {od__law_cell an__law_cell : Option Addr} {sl__law_cell : Array (Option Value)} {oc__law_cell kV__law_cell dc__law_cell pm__law_cell cd__law_cell ct__law_cell : Value}
    (a__law_cell : PySem.W.nsIn K mainGlobals "_law_cell" = some (some (.ref f__law_cell))) (l__law_cell : K.lookup f__law_cell = some ⟨oc__law_cell, od__law_cell, .func (PySem.W.fnOf "_law_cell" "_law_cell" (defArgs s__law_cell) (defBody s__law_cell) (defScope s__law_cell) .none kV__law_cell dc__law_cell pm__law_cell an__law_cell cd__law_cell ct__law_cell), sl__law_cell⟩) (q__law_cell : PySem.W.codeIn K cd__law_cell "_law_cell" = true) (k__law_cell : PySem.W.keepIn K (.ref f__law_cell) = true)
    {f__law_mix : Addr} {od__law_mix an__law_mix : Option Addr} {sl__law_mix : Array (Option Value)} {oc__law_mix kV__law_mix dc__law_mix pm__law_mix cd__law_mix ct__law_mix : Value}
    (a__law_mix : PySem.W.nsIn K mainGlobals "_law_mix" = some (some (.ref f__law_mix))) (l__law_mix : K.lookup f__law_mix = some ⟨oc__law_mix, od__law_mix, .func (PySem.W.fnOf "_law_mix" "_law_mix" (defArgs s__law_mix) (defBody s__law_mix) (defScope s__law_mix) .none kV__law_mix dc__law_mix pm__law_mix an__law_mix cd__law_mix ct__law_mix), sl__law_mix⟩) (q__law_mix : PySem.W.codeIn K cd__law_mix "_law_mix" = true) (k__law_mix : PySem.W.keepIn K (.ref f__law_mix) = true)
    {f__law_system : Addr} {od__law_system an__law_system : Option Addr} {sl__law_system : Array (Option Value)} {oc__law_system kV__law_system dc__law_system pm__law_system cd__law_system ct__law_system : Value}
    (a__law_system : PySem.W.nsIn K mainGlobals "_law_system" = some (some (.ref f__law_system))) (l__law_system : K.lookup f__law_system = some ⟨oc__law_system, od__law_system, .func (PySem.W.fnOf "_law_system" "_law_system" (defArgs s__law_system) (defBody s__law_system) (defScope s__law_system) .none kV__law_system dc__law_system pm__law_system an__law_system cd__law_system ct__law_system), sl__law_system⟩) (q__law_system : PySem.W.codeIn K cd__law_system "_law_system" = true) (k__law_system : PySem.W.keepIn K (.ref f__law_system) = true)
    {f__law_spoilt : Addr} {od__law_spoilt an__law_spoilt : Option Addr} {sl__law_spoilt : Array (Option Value)} {oc__law_spoilt kV__law_spoilt dc__law_spoilt pm__law_spoilt cd__law_spoilt ct__law_spoilt : Value}
    (a__law_spoilt : PySem.W.nsIn K mainGlobals "_law_spoilt" = some (some (.ref f__law_spoilt))) (l__law_spoilt : K.lookup f__law_spoilt = some ⟨oc__law_spoilt, od__law_spoilt, .func (PySem.W.fnOf "_law_spoilt" "_law_spoilt" (defArgs s__law_spoilt) (defBody s__law_spoilt) (defScope s__law_spoilt) .none kV__law_spoilt dc__law_spoilt pm__law_spoilt an__law_spoilt cd__law_spoilt ct__law_spoilt), sl__law_spoilt⟩) (q__law_spoilt : PySem.W.codeIn K cd__law_spoilt "_law_spoilt" = true) (k__law_spoilt : PySem.W.keepIn K (.ref f__law_spoilt) = true)
    {f__law_deed : Addr} {od__law_deed an__law_deed : Option Addr} {sl__law_deed : Array (Option Value)} {oc__law_deed kV__law_deed dc__law_deed pm__law_deed cd__law_deed ct__law_deed : Value}
    (a__law_deed : PySem.W.nsIn K mainGlobals "_law_deed" = some (some (.ref f__law_deed))) (l__law_deed : K.lookup f__law_deed = some ⟨oc__law_deed, od__law_deed, .func (PySem.W.fnOf "_law_deed" "_law_deed" (defArgs s__law_deed) (defBody s__law_deed) (defScope s__law_deed) .none kV__law_deed dc__law_deed pm__law_deed an__law_deed cd__law_deed ct__law_deed), sl__law_deed⟩) (q__law_deed : PySem.W.codeIn K cd__law_deed "_law_deed" = true) (k__law_deed : PySem.W.keepIn K (.ref f__law_deed) = true)
    {f__law_more : Addr} {od__law_more an__law_more : Option Addr} {sl__law_more : Array (Option Value)} {oc__law_more kV__law_more dc__law_more pm__law_more cd__law_more ct__law_more : Value}
    (a__law_more : PySem.W.nsIn K mainGlobals "_law_more" = some (some (.ref f__law_more))) (l__law_more : K.lookup f__law_more = some ⟨oc__law_more, od__law_more, .func (PySem.W.fnOf "_law_more" "_law_more" (defArgs s__law_more) (defBody s__law_more) (defScope s__law_more) .none kV__law_more dc__law_more pm__law_more an__law_more cd__law_more ct__law_more), sl__law_more⟩) (q__law_more : PySem.W.codeIn K cd__law_more "_law_more" = true) (k__law_more : PySem.W.keepIn K (.ref f__law_more) = true)
    {f__law_told : Addr} {od__law_told an__law_told : Option Addr} {sl__law_told : Array (Option Value)} {oc__law_told kV__law_told dc__law_told pm__law_told cd__law_told ct__law_told : Value}
    (a__law_told : PySem.W.nsIn K mainGlobals "_law_told" = some (some (.ref f__law_told))) (l__law_told : K.lookup f__law_told = some ⟨oc__law_told, od__law_told, .func (PySem.W.fnOf "_law_told" "_law_told" (defArgs s__law_told) (defBody s__law_told) (defScope s__law_told) .none kV__law_told dc__law_told pm__law_told an__law_told cd__law_told ct__law_told), sl__law_told⟩) (q__law_told : PySem.W.codeIn K cd__law_told "_law_told" = true) (k__law_told : PySem.W.keepIn K (.ref f__law_told) = true)
    {f_law : Addr} {od_law an_law : Option Addr} {sl_law : Array (Option Value)} {oc_law kV_law dc_law pm_law cd_law ct_law : Value}
    (a_law : PySem.W.nsIn K mainGlobals "law" = some (some (.ref f_law))) (l_law : K.lookup f_law = some ⟨oc_law, od_law, .func (PySem.W.fnOf "law" "law" (defArgs s_law) (defBody s_law) (defScope s_law) .none kV_law dc_law pm_law an_law cd_law ct_law), sl_law⟩) (q_law : PySem.W.codeIn K cd_law "law" = true) (k_law : PySem.W.keepIn K (.ref f_law) = true)
    {CE : Addr} (a_TillError : PySem.W.nsIn K mainGlobals "TillError" = some (some (.ref CE))) (e_TillError : PySem.W.excIn K CE [.type "ValueError", .type "Exception", .type "BaseException", .type "object"] "ValueError.__new__" = true) (k_TillError : PySem.W.keepIn K (.ref CE) = true) (b_TillError : PySem.W.subIn K (.ref CE) (.type "BaseException") = some true) (t_TillError : PySem.W.typeIn K (.ref CE) = some (.type "type"))
    {CS : Addr} (a_BadSystem : PySem.W.nsIn K mainGlobals "BadSystem" = some (some (.ref CS))) (e_BadSystem : PySem.W.excIn K CS [.type "ValueError", .type "Exception", .type "BaseException", .type "object"] "ValueError.__new__" = true) (k_BadSystem : PySem.W.keepIn K (.ref CS) = true) (b_BadSystem : PySem.W.subIn K (.ref CS) (.type "BaseException") = some true) (t_BadSystem : PySem.W.typeIn K (.ref CS) = some (.type "type"))
    {CB : Addr} (a_BadSum : PySem.W.nsIn K mainGlobals "BadSum" = some (some (.ref CB))) (e_BadSum : PySem.W.excIn K CB [.type "ValueError", .type "Exception", .type "BaseException", .type "object"] "ValueError.__new__" = true) (k_BadSum : PySem.W.keepIn K (.ref CB) = true) (b_BadSum : PySem.W.subIn K (.ref CB) (.type "BaseException") = some true) (t_BadSum : PySem.W.typeIn K (.ref CB) = some (.type "type"))
    {CW : Addr} (a_BadWay : PySem.W.nsIn K mainGlobals "BadWay" = some (some (.ref CW))) (e_BadWay : PySem.W.excIn K CW [.type "ValueError", .type "Exception", .type "BaseException", .type "object"] "ValueError.__new__" = true) (k_BadWay : PySem.W.keepIn K (.ref CW) = true) (b_BadWay : PySem.W.subIn K (.ref CW) (.type "BaseException") = some true) (t_BadWay : PySem.W.typeIn K (.ref CW) = some (.type "type"))
    {CN : Addr} (a_BadNumber : PySem.W.nsIn K mainGlobals "BadNumber" = some (some (.ref CN))) (e_BadNumber : PySem.W.excIn K CN [.type "ValueError", .type "Exception", .type "BaseException", .type "object"] "ValueError.__new__" = true) (k_BadNumber : PySem.W.keepIn K (.ref CN) = true) (b_BadNumber : PySem.W.subIn K (.ref CN) (.type "BaseException") = some true) (t_BadNumber : PySem.W.typeIn K (.ref CN) = some (.type "type"))
    {CO : Addr} (a_NotOrderly : PySem.W.nsIn K mainGlobals "NotOrderly" = some (some (.ref CO))) (e_NotOrderly : PySem.W.excIn K CO [.type "ValueError", .type "Exception", .type "BaseException", .type "object"] "ValueError.__new__" = true) (k_NotOrderly : PySem.W.keepIn K (.ref CO) = true) (b_NotOrderly : PySem.W.subIn K (.ref CO) (.type "BaseException") = some true) (t_NotOrderly : PySem.W.typeIn K (.ref CO) = some (.type "type"))
    {tk_MOST_COINS : Tok} (a_MOST_COINS : PySem.W.nsIn K mainGlobals "MOST_COINS" = some (some (.int 8 tk_MOST_COINS)))
    {tk_MOST_COIN : Tok} (a_MOST_COIN : PySem.W.nsIn K mainGlobals "MOST_COIN" = some (some (.int 200 tk_MOST_COIN)))
    {tk_MOST_SUM : Tok} (a_MOST_SUM : PySem.W.nsIn K mainGlobals "MOST_SUM" = some (some (.int 2000 tk_MOST_SUM)))
    {tk_MOST_HANDED : Tok} (a_MOST_HANDED : PySem.W.nsIn K mainGlobals "MOST_HANDED" = some (some (.int 400 tk_MOST_HANDED)))
    (z_len : PySem.W.nsIn K mainGlobals "len" = some none)
    (z_range : PySem.W.nsIn K mainGlobals "range" = some none)
    (z_tuple : PySem.W.nsIn K mainGlobals "tuple" = some none)
    (z_sum : PySem.W.nsIn K mainGlobals "sum" = some none)
    (z_min : PySem.W.nsIn K mainGlobals "min" = some none)
    (z_max : PySem.W.nsIn K mainGlobals "max" = some none)
    (z_isinstance : PySem.W.nsIn K mainGlobals "isinstance" = some none)
    (z_int : PySem.W.nsIn K mainGlobals "int" = some none)
    (z_bool : PySem.W.nsIn K mainGlobals "bool" = some none)
    (z_str : PySem.W.nsIn K mainGlobals "str" = some none)
    (z_list : PySem.W.nsIn K mainGlobals "list" = some none)
    (z_set : PySem.W.nsIn K mainGlobals "set" = some none)
    (z_sorted : PySem.W.nsIn K mainGlobals "sorted" = some none)
    (z_zip : PySem.W.nsIn K mainGlobals "zip" = some none)
    (z_abs : PySem.W.nsIn K mainGlobals "abs" = some none)
    (z_ValueError : PySem.W.nsIn K mainGlobals "ValueError" = some none)
    (sub_BadSystem_BadSystem : PySem.W.subIn K (.ref CS) (.ref CS) = some true)
    (ic_BadSystem : PySem.W.isClsIn K CS = true)
    (sub_BadSystem_ValueError : PySem.W.subIn K (.ref CS) (.type "ValueError") = some true)
    (sub_BadSystem_TillError : PySem.W.subIn K (.ref CS) (.ref CE) = some true)
    (ic_TillError : PySem.W.isClsIn K CE = true)
    (hg_BadSystem : PySem.W.findIn K (.ref CS) "__getattribute__" = some (some (.builtin "BaseException.__getattribute__")))
    (hk_BadSystem : PySem.W.findIn K (.ref CS) "__getattr__" = some none)
    (hs_BadSystem : PySem.W.subIn K (.ref CS) (.type "BaseException") = some true)
    (hd_BadSystem : PySem.W.hasDictIn K CS = true)
    (ha_BadSystem : PySem.W.findIn K (.ref CS) "__class__" = some (some (.builtin "object.__class__")))
    (hm_BadSystem : PySem.W.mroIn K CS (.type "object") = some true)
    (hn_x : PySem.W.specialIn K (.builtin "object.__class__") "__get__" = some (some (.builtin "getset_descriptor.__get__"))) (ht_x : PySem.W.takesIn K (.builtin "object.__class__") = some true)
    : ∃ fd : FuncData, (∀ (s : Shared) (v : Value), BindsTo s fd ⟨[v], []⟩ [("_law_script", v)]) ∧ ∀ base : Heap, K.In base → base.Ns mainGlobals mg → FnOk P w K mg base (L2.CX P w) 10 fa fd ["_law_script"] (sp_law K) := by
  have e := hfa.symm.trans (PySem.W.mg_of X G a_law)
  cases e
  have x_TillError : Ec K mg "TillError" CE := ⟨PySem.W.mg_of X G a_TillError, e_TillError, k_TillError, b_TillError, t_TillError⟩
  have x_BadSystem : Ec K mg "BadSystem" CS := ⟨PySem.W.mg_of X G a_BadSystem, e_BadSystem, k_BadSystem, b_BadSystem, t_BadSystem⟩
  have x_BadSum : Ec K mg "BadSum" CB := ⟨PySem.W.mg_of X G a_BadSum, e_BadSum, k_BadSum, b_BadSum, t_BadSum⟩
  have x_BadWay : Ec K mg "BadWay" CW := ⟨PySem.W.mg_of X G a_BadWay, e_BadWay, k_BadWay, b_BadWay, t_BadWay⟩
  have x_BadNumber : Ec K mg "BadNumber" CN := ⟨PySem.W.mg_of X G a_BadNumber, e_BadNumber, k_BadNumber, b_BadNumber, t_BadNumber⟩
  have x_NotOrderly : Ec K mg "NotOrderly" CO := ⟨PySem.W.mg_of X G a_NotOrderly, e_NotOrderly, k_NotOrderly, b_NotOrderly, t_NotOrderly⟩
  have c_MOST_COINS : Kc mg "MOST_COINS" 8 := ⟨⟨_, PySem.W.mg_of X G a_MOST_COINS⟩⟩
  have c_MOST_COIN : Kc mg "MOST_COIN" 200 := ⟨⟨_, PySem.W.mg_of X G a_MOST_COIN⟩⟩
  have c_MOST_SUM : Kc mg "MOST_SUM" 2000 := ⟨⟨_, PySem.W.mg_of X G a_MOST_SUM⟩⟩
  have c_MOST_HANDED : Kc mg "MOST_HANDED" 400 := ⟨⟨_, PySem.W.mg_of X G a_MOST_HANDED⟩⟩
  have B : Bi mg := ⟨PySem.W.mg_none_of X G z_len, PySem.W.mg_none_of X G z_range, PySem.W.mg_none_of X G z_tuple, PySem.W.mg_none_of X G z_sum, PySem.W.mg_none_of X G z_min, PySem.W.mg_none_of X G z_max, PySem.W.mg_none_of X G z_isinstance, PySem.W.mg_none_of X G z_int, PySem.W.mg_none_of X G z_bool, PySem.W.mg_none_of X G z_str, PySem.W.mg_none_of X G z_list, PySem.W.mg_none_of X G z_set, PySem.W.mg_none_of X G z_sorted, PySem.W.mg_none_of X G z_zip, PySem.W.mg_none_of X G z_abs, PySem.W.mg_none_of X G z_ValueError⟩
  have F_is_within := fun_mk (st := s_is_within) l_is_within q_is_within k_is_within
  have F_is_system := fun_mk (st := s_is_system) l_is_system q_is_system k_is_system
  have F_checked := fun_mk (st := s_checked) l_checked q_checked k_checked
  have F_beginnings := fun_mk (st := s_beginnings) l_beginnings q_beginnings k_beginnings
  have F_look := fun_mk (st := s_look) l_look q_look k_look
  have F_fewest_up_to := fun_mk (st := s_fewest_up_to) l_fewest_up_to q_fewest_up_to k_fewest_up_to
  have F_fewest := fun_mk (st := s_fewest) l_fewest q_fewest k_fewest
  have F_taken := fun_mk (st := s_taken) l_taken q_taken k_taken
  have F_by_greatest := fun_mk (st := s_by_greatest) l_by_greatest q_by_greatest k_by_greatest
  have F_by_fewest := fun_mk (st := s_by_fewest) l_by_fewest q_by_fewest k_by_fewest
  have F_sum_of := fun_mk (st := s_sum_of) l_sum_of q_sum_of k_sum_of
  have F_count_ways := fun_mk (st := s_count_ways) l_count_ways q_count_ways k_count_ways
  have F_excess := fun_mk (st := s_excess) l_excess q_excess k_excess
  have F_first_fault := fun_mk (st := s_first_fault) l_first_fault q_first_fault k_first_fault
  have F_is_orderly := fun_mk (st := s_is_orderly) l_is_orderly q_is_orderly k_is_orderly
  have F_why_not := fun_mk (st := s_why_not) l_why_not q_why_not k_why_not
  have F_orderly_beginnings := fun_mk (st := s_orderly_beginnings) l_orderly_beginnings q_orderly_beginnings k_orderly_beginnings
  have F_all_faults := fun_mk (st := s_all_faults) l_all_faults q_all_faults k_all_faults
  have F_fits := fun_mk (st := s_fits) l_fits q_fits k_fits
  have F_look_orderly := fun_mk (st := s_look_orderly) l_look_orderly q_look_orderly k_look_orderly
  have F_may_follow := fun_mk (st := s_may_follow) l_may_follow q_may_follow k_may_follow
  have F_followers := fun_mk (st := s_followers) l_followers q_followers k_followers
  have F_safe_from := fun_mk (st := s_safe_from) l_safe_from q_safe_from k_safe_from
  have F_to_and_fro := fun_mk (st := s_to_and_fro) l_to_and_fro q_to_and_fro k_to_and_fro
  have F_look_handed := fun_mk (st := s_look_handed) l_look_handed q_look_handed k_look_handed
  have F_handed := fun_mk (st := s_handed) l_handed q_handed k_handed
  have F_shown := fun_mk (st := s_shown) l_shown q_shown k_shown
  have F__law_cell := fun_mk (st := s__law_cell) l__law_cell q__law_cell k__law_cell
  have F__law_mix := fun_mk (st := s__law_mix) l__law_mix q__law_mix k__law_mix
  have F__law_system := fun_mk (st := s__law_system) l__law_system q__law_system k__law_system
  have F__law_spoilt := fun_mk (st := s__law_spoilt) l__law_spoilt q__law_spoilt k__law_spoilt
  have F__law_deed := fun_mk (st := s__law_deed) l__law_deed q__law_deed k__law_deed
  have F__law_more := fun_mk (st := s__law_more) l__law_more q__law_more k__law_more
  have F__law_told := fun_mk (st := s__law_told) l__law_told q__law_told k__law_told
  have F_law := fun_mk (st := s_law) l_law q_law k_law
  have i_BadSystem_BadSystem := kit_true ic_BadSystem t_BadSystem sub_BadSystem_BadSystem
  have i_BadSystem_ValueError := kit_ve sub_BadSystem_ValueError
  have m_BadSystem_TillError := exm_true b_TillError ic_TillError t_TillError sub_BadSystem_TillError
  have y_BadSystem : ExcC K CS := ⟨hg_BadSystem, hk_BadSystem, hs_BadSystem, hd_BadSystem, ha_BadSystem, hn_x, ht_x, hm_BadSystem⟩
  refine ⟨PySem.W.fnOf "law" "law" (defArgs s_law) (defBody s_law) (defScope s_law) .none kV_law dc_law pm_law an_law cd_law ct_law, fun s v => .of_eq rfl, fun base _ _ => ?_⟩
  have h_is_within : Hs P w K mg base 1 "is_within" sp_is_within := ⟨⟨_, _, _, ok_is_within F_is_within (B := B), PySem.W.mg_of X G a_is_within, k_is_within, F_is_within.binds (ps := ["thing", "low", "high"]) fun _ _ _ _ _ _ us hl => match us, hl with | [_, _, _], _ => rfl⟩⟩
  have h_is_system : Hs P w K mg base 2 "is_system" sp_is_system := ⟨⟨_, _, _, ok_is_system F_is_system (B := B) (h_is_within := h_is_within) (c_MOST_COINS := c_MOST_COINS) (c_MOST_COIN := c_MOST_COIN), PySem.W.mg_of X G a_is_system, k_is_system, F_is_system.binds (ps := ["thing"]) fun _ _ _ _ _ _ us hl => match us, hl with | [_], _ => rfl⟩⟩
  have h_checked : Hs P w K mg base 3 "checked" (sp_checked CS) := ⟨⟨_, _, _, ok_checked F_checked (h_is_system := h_is_system) (x_BadSystem := x_BadSystem), PySem.W.mg_of X G a_checked, k_checked, F_checked.binds (ps := ["system"]) fun _ _ _ _ _ _ us hl => match us, hl with | [_], _ => rfl⟩⟩
  have h_beginnings : Hs P w K mg base 4 "beginnings" (sp_beginnings CS) := ⟨⟨_, _, _, ok_beginnings F_beginnings (B := B) (h_checked := h_checked), PySem.W.mg_of X G a_beginnings, k_beginnings, F_beginnings.binds (ps := ["system"]) fun _ _ _ _ _ _ us hl => match us, hl with | [_], _ => rfl⟩⟩
  have h_look : Hs P w K mg base 4 "look" (sp_look CS CB) := ⟨⟨_, _, _, ok_look F_look (h_checked := h_checked) (h_is_within := h_is_within) (c_MOST_SUM := c_MOST_SUM) (x_BadSum := x_BadSum), PySem.W.mg_of X G a_look, k_look, F_look.binds (ps := ["system", "number"]) fun _ _ _ _ _ _ us hl => match us, hl with | [_, _], _ => rfl⟩⟩
  have h_fewest_up_to : Hs P w K mg base 1 "fewest_up_to" sp_fewest_up_to := ⟨⟨_, _, _, ok_fewest_up_to F_fewest_up_to (B := B), PySem.W.mg_of X G a_fewest_up_to, k_fewest_up_to, F_fewest_up_to.binds (ps := ["system", "last"]) fun _ _ _ _ _ _ us hl => match us, hl with | [_, _], _ => rfl⟩⟩
  have h_fewest : Hs P w K mg base 5 "fewest" (sp_fewest CS CB) := ⟨⟨_, _, _, ok_fewest F_fewest (h_look := h_look) (h_fewest_up_to := h_fewest_up_to), PySem.W.mg_of X G a_fewest, k_fewest, F_fewest.binds (ps := ["system", "number"]) fun _ _ _ _ _ _ us hl => match us, hl with | [_, _], _ => rfl⟩⟩
  have h_taken : Hs P w K mg base 1 "taken" sp_taken := ⟨⟨_, _, _, ok_taken F_taken (B := B), PySem.W.mg_of X G a_taken, k_taken, F_taken.binds (ps := ["system", "number"]) fun _ _ _ _ _ _ us hl => match us, hl with | [_, _], _ => rfl⟩⟩
  have h_by_greatest : Hs P w K mg base 5 "by_greatest" (sp_by_greatest CS CB) := ⟨⟨_, _, _, ok_by_greatest F_by_greatest (h_look := h_look) (h_taken := h_taken), PySem.W.mg_of X G a_by_greatest, k_by_greatest, F_by_greatest.binds (ps := ["system", "number"]) fun _ _ _ _ _ _ us hl => match us, hl with | [_, _], _ => rfl⟩⟩
  have h_by_fewest : Hs P w K mg base 5 "by_fewest" (sp_by_fewest CS CB) := ⟨⟨_, _, _, ok_by_fewest F_by_fewest (B := B) (h_look := h_look) (h_fewest_up_to := h_fewest_up_to), PySem.W.mg_of X G a_by_fewest, k_by_fewest, F_by_fewest.binds (ps := ["system", "number"]) fun _ _ _ _ _ _ us hl => match us, hl with | [_, _], _ => rfl⟩⟩
  have h_sum_of : Hs P w K mg base 5 "sum_of" (sp_sum_of CS CW) := ⟨⟨_, _, _, ok_sum_of F_sum_of (B := B) (h_checked := h_checked) (h_is_within := h_is_within) (c_MOST_SUM := c_MOST_SUM) (x_BadWay := x_BadWay), PySem.W.mg_of X G a_sum_of, k_sum_of, F_sum_of.binds (ps := ["system", "way"]) fun _ _ _ _ _ _ us hl => match us, hl with | [_, _], _ => rfl⟩⟩
  have h_count_ways : Hs P w K mg base 5 "count_ways" (sp_count_ways CS CB) := ⟨⟨_, _, _, ok_count_ways F_count_ways (B := B) (h_look := h_look), PySem.W.mg_of X G a_count_ways, k_count_ways, F_count_ways.binds (ps := ["system", "number"]) fun _ _ _ _ _ _ us hl => match us, hl with | [_, _], _ => rfl⟩⟩
  have h_excess : Hs P w K mg base 5 "excess" (sp_excess CS CB) := ⟨⟨_, _, _, ok_excess F_excess (B := B) (h_look := h_look) (h_taken := h_taken) (h_fewest_up_to := h_fewest_up_to), PySem.W.mg_of X G a_excess, k_excess, F_excess.binds (ps := ["system", "number"]) fun _ _ _ _ _ _ us hl => match us, hl with | [_, _], _ => rfl⟩⟩
  have h_first_fault : Hs P w K mg base 4 "first_fault" (sp_first_fault CS) := ⟨⟨_, _, _, ok_first_fault F_first_fault (B := B) (h_checked := h_checked) (h_fewest_up_to := h_fewest_up_to) (h_taken := h_taken), PySem.W.mg_of X G a_first_fault, k_first_fault, F_first_fault.binds (ps := ["system"]) fun _ _ _ _ _ _ us hl => match us, hl with | [_], _ => rfl⟩⟩
  have h_is_orderly : Hs P w K mg base 5 "is_orderly" (sp_is_orderly CS) := ⟨⟨_, _, _, ok_is_orderly F_is_orderly (h_first_fault := h_first_fault), PySem.W.mg_of X G a_is_orderly, k_is_orderly, F_is_orderly.binds (ps := ["system"]) fun _ _ _ _ _ _ us hl => match us, hl with | [_], _ => rfl⟩⟩
  have h_why_not : Hs P w K mg base 6 "why_not" (sp_why_not CS) := ⟨⟨_, _, _, ok_why_not F_why_not (h_first_fault := h_first_fault) (h_taken := h_taken) (h_by_fewest := h_by_fewest), PySem.W.mg_of X G a_why_not, k_why_not, F_why_not.binds (ps := ["system"]) fun _ _ _ _ _ _ us hl => match us, hl with | [_], _ => rfl⟩⟩
  have h_orderly_beginnings : Hs P w K mg base 6 "orderly_beginnings" (sp_orderly_beginnings CS) := ⟨⟨_, _, _, ok_orderly_beginnings F_orderly_beginnings (B := B) (h_beginnings := h_beginnings) (h_is_orderly := h_is_orderly), PySem.W.mg_of X G a_orderly_beginnings, k_orderly_beginnings, F_orderly_beginnings.binds (ps := ["system"]) fun _ _ _ _ _ _ us hl => match us, hl with | [_], _ => rfl⟩⟩
  have h_all_faults : Hs P w K mg base 4 "all_faults" (sp_all_faults CS CN) := ⟨⟨_, _, _, ok_all_faults F_all_faults (B := B) (h_checked := h_checked) (h_is_within := h_is_within) (h_fewest_up_to := h_fewest_up_to) (h_taken := h_taken) (x_BadNumber := x_BadNumber), PySem.W.mg_of X G a_all_faults, k_all_faults, F_all_faults.binds (ps := ["system", "last"]) fun _ _ _ _ _ _ us hl => match us, hl with | [_, _], _ => rfl⟩⟩
  have h_fits : Hs P w K mg base 2 "fits" sp_fits := ⟨⟨_, _, _, ok_fits F_fits (B := B) (h_taken := h_taken), PySem.W.mg_of X G a_fits, k_fits, F_fits.binds (ps := ["system", "coin"]) fun _ _ _ _ _ _ us hl => match us, hl with | [_, _], _ => rfl⟩⟩
  have h_look_orderly : Hs P w K mg base 6 "look_orderly" (sp_look_orderly CS CO) := ⟨⟨_, _, _, ok_look_orderly F_look_orderly (h_checked := h_checked) (h_is_orderly := h_is_orderly) (x_NotOrderly := x_NotOrderly), PySem.W.mg_of X G a_look_orderly, k_look_orderly, F_look_orderly.binds (ps := ["system"]) fun _ _ _ _ _ _ us hl => match us, hl with | [_], _ => rfl⟩⟩
  have h_may_follow : Hs P w K mg base 7 "may_follow" (sp_may_follow CS CO CN) := ⟨⟨_, _, _, ok_may_follow F_may_follow (B := B) (h_look_orderly := h_look_orderly) (h_is_within := h_is_within) (h_fits := h_fits) (c_MOST_COINS := c_MOST_COINS) (c_MOST_COIN := c_MOST_COIN) (x_BadNumber := x_BadNumber), PySem.W.mg_of X G a_may_follow, k_may_follow, F_may_follow.binds (ps := ["system", "coin"]) fun _ _ _ _ _ _ us hl => match us, hl with | [_, _], _ => rfl⟩⟩
  have h_followers : Hs P w K mg base 7 "followers" (sp_followers CS CO CN) := ⟨⟨_, _, _, ok_followers F_followers (B := B) (h_look_orderly := h_look_orderly) (h_is_within := h_is_within) (h_fits := h_fits) (c_MOST_COINS := c_MOST_COINS) (c_MOST_COIN := c_MOST_COIN) (x_BadNumber := x_BadNumber), PySem.W.mg_of X G a_followers, k_followers, F_followers.binds (ps := ["system", "last"]) fun _ _ _ _ _ _ us hl => match us, hl with | [_, _], _ => rfl⟩⟩
  have h_safe_from : Hs P w K mg base 7 "safe_from" (sp_safe_from CS CO) := ⟨⟨_, _, _, ok_safe_from F_safe_from (B := B) (h_look_orderly := h_look_orderly) (h_fits := h_fits), PySem.W.mg_of X G a_safe_from, k_safe_from, F_safe_from.binds (ps := ["system"]) fun _ _ _ _ _ _ us hl => match us, hl with | [_], _ => rfl⟩⟩
  have h_to_and_fro : Hs P w K mg base 1 "to_and_fro" sp_to_and_fro := ⟨⟨_, _, _, ok_to_and_fro F_to_and_fro (B := B), PySem.W.mg_of X G a_to_and_fro, k_to_and_fro, F_to_and_fro.binds (ps := ["system", "number"]) fun _ _ _ _ _ _ us hl => match us, hl with | [_, _], _ => rfl⟩⟩
  have h_look_handed : Hs P w K mg base 4 "look_handed" (sp_look_handed CS CB) := ⟨⟨_, _, _, ok_look_handed F_look_handed (h_checked := h_checked) (h_is_within := h_is_within) (c_MOST_HANDED := c_MOST_HANDED) (x_BadSum := x_BadSum), PySem.W.mg_of X G a_look_handed, k_look_handed, F_look_handed.binds (ps := ["system", "number"]) fun _ _ _ _ _ _ us hl => match us, hl with | [_, _], _ => rfl⟩⟩
  have h_handed : Hs P w K mg base 5 "handed" (sp_handed CS CB) := ⟨⟨_, _, _, ok_handed F_handed (B := B) (h_look_handed := h_look_handed) (h_to_and_fro := h_to_and_fro), PySem.W.mg_of X G a_handed, k_handed, F_handed.binds (ps := ["system", "number"]) fun _ _ _ _ _ _ us hl => match us, hl with | [_, _], _ => rfl⟩⟩
  have h_shown : Hs P w K mg base 4 "shown" (sp_shown CS) := ⟨⟨_, _, _, ok_shown F_shown (B := B) (h_checked := h_checked), PySem.W.mg_of X G a_shown, k_shown, F_shown.binds (ps := ["system"]) fun _ _ _ _ _ _ us hl => match us, hl with | [_], _ => rfl⟩⟩
  have h__law_cell : Hs P w K mg base 1 "_law_cell" (sp_cell K) := ⟨⟨_, _, _, ok__law_cell F__law_cell (B := B), PySem.W.mg_of X G a__law_cell, k__law_cell, F__law_cell.binds (ps := ["_law_script", "_law_k"]) fun _ _ _ _ _ _ us hl => match us, hl with | [_, _], _ => rfl⟩⟩
  have h__law_mix : Hs P w K mg base 1 "_law_mix" sp_mix := ⟨⟨_, _, _, ok__law_mix F__law_mix, PySem.W.mg_of X G a__law_mix, k__law_mix, F__law_mix.binds (ps := ["_law_cell_here", "_law_prime", "_law_many"]) fun _ _ _ _ _ _ us hl => match us, hl with | [_, _, _], _ => rfl⟩⟩
  have h__law_system : Hs P w K mg base 2 "_law_system" (sp_system K) := ⟨⟨_, _, _, ok__law_system F__law_system (B := B) (h__law_cell := h__law_cell) (h__law_mix := h__law_mix), PySem.W.mg_of X G a__law_system, k__law_system, F__law_system.binds (ps := ["_law_script", "_law_at"]) fun _ _ _ _ _ _ us hl => match us, hl with | [_, _], _ => rfl⟩⟩
  have h__law_spoilt : Hs P w K mg base 1 "_law_spoilt" sp_spoilt := ⟨⟨_, _, _, ok__law_spoilt F__law_spoilt (B := B), PySem.W.mg_of X G a__law_spoilt, k__law_spoilt, F__law_spoilt.binds (ps := ["_law_system_here", "_law_cell_here"]) fun _ _ _ _ _ _ us hl => match us, hl with | [_, _], _ => rfl⟩⟩
  have h__law_deed : Hs P w K mg base 6 "_law_deed" (sp_one CS) := ⟨⟨_, _, _, ok__law_deed F__law_deed (h_checked := h_checked) (h_beginnings := h_beginnings) (h_fewest := h_fewest) (h_by_greatest := h_by_greatest) (h_by_fewest := h_by_fewest) (h_count_ways := h_count_ways) (h_excess := h_excess) (h_sum_of := h_sum_of) (h_first_fault := h_first_fault), PySem.W.mg_of X G a__law_deed, k__law_deed, F__law_deed.binds (ps := ["_law_way", "_law_bad"]) fun _ _ _ _ _ _ us hl => match us, hl with | [_, _], _ => rfl⟩⟩
  have h__law_more : Hs P w K mg base 8 "_law_more" (sp_one CS) := ⟨⟨_, _, _, ok__law_more F__law_more (h_is_orderly := h_is_orderly) (h_why_not := h_why_not) (h_orderly_beginnings := h_orderly_beginnings) (h_all_faults := h_all_faults) (h_may_follow := h_may_follow) (h_followers := h_followers) (h_safe_from := h_safe_from) (h_handed := h_handed) (h_shown := h_shown), PySem.W.mg_of X G a__law_more, k__law_more, F__law_more.binds (ps := ["_law_way", "_law_bad"]) fun _ _ _ _ _ _ us hl => match us, hl with | [_, _], _ => rfl⟩⟩
  have h__law_told : Hs P w K mg base 9 "_law_told" sp_told := ⟨⟨_, _, _, ok__law_told F__law_told (B := B) (h__law_deed := h__law_deed) (h__law_more := h__law_more) (x_TillError := x_TillError) (x_BadSystem := x_BadSystem) (y_BadSystem := y_BadSystem) (m_BadSystem_TillError := m_BadSystem_TillError) (i_BadSystem_BadSystem := i_BadSystem_BadSystem) (i_BadSystem_ValueError := i_BadSystem_ValueError), PySem.W.mg_of X G a__law_told, k__law_told, F__law_told.binds (ps := ["_law_way", "_law_bad"]) fun _ _ _ _ _ _ us hl => match us, hl with | [_, _], _ => rfl⟩⟩
  exact ok_law F_law (B := B) (h__law_cell := h__law_cell) (h__law_system := h__law_system) (h__law_spoilt := h__law_spoilt) (h__law_told := h__law_told) (h_checked := h_checked) (h_beginnings := h_beginnings)
end Coin
open PySem PySem.W PyProof.Rows
set_option maxHeartbeats 0 in
theorem PySem.Challenge.cw_tillcoins_k01_systems_holds : PySem.Challenge.rw_tillcoins_k01_systems.Holds := by
  w_on; o_law; k_head; (case hw => w_witness2)
  k_fill
  refine L2.walk_of (l := PySem.Challenge.rw_tillcoins_k01_systems) (n := 63) (k := 10) (x := "_law_script") (CX := fun w => L2.CX (PySem.Challenge.rw_tillcoins_k01_systems).prog w) (sp := fun w => Coin.sp_law _) rfl (by decide) rfl ⟨rfl, by decide, by decide⟩ (fun w h Y => PySem.W.kIn_of Y) ?F (fun _ _ a ns hl _ hS => ⟨a, ns, rfl, hS, hl, fun _ => rfl⟩) (fun _ _ _ _ _ z => Coin.cx_none z)
  case F =>
    intro w mg fa h KX G hmg
    refine' Coin.all_mk KX G hmg ?a_is_within ?l_is_within ?q_is_within ?k_is_within ?a_is_system ?l_is_system ?q_is_system ?k_is_system ?a_checked ?l_checked ?q_checked ?k_checked ?a_beginnings ?l_beginnings ?q_beginnings ?k_beginnings ?a_look ?l_look ?q_look ?k_look ?a_fewest_up_to ?l_fewest_up_to ?q_fewest_up_to ?k_fewest_up_to ?a_fewest ?l_fewest ?q_fewest ?k_fewest ?a_taken ?l_taken ?q_taken ?k_taken ?a_by_greatest ?l_by_greatest ?q_by_greatest ?k_by_greatest ?a_by_fewest ?l_by_fewest ?q_by_fewest ?k_by_fewest ?a_sum_of ?l_sum_of ?q_sum_of ?k_sum_of ?a_count_ways ?l_count_ways ?q_count_ways ?k_count_ways ?a_excess ?l_excess ?q_excess ?k_excess ?a_first_fault ?l_first_fault ?q_first_fault ?k_first_fault ?a_is_orderly ?l_is_orderly ?q_is_orderly ?k_is_orderly ?a_why_not ?l_why_not ?q_why_not ?k_why_not ?a_orderly_beginnings ?l_orderly_beginnings ?q_orderly_beginnings ?k_orderly_beginnings ?a_all_faults ?l_all_faults ?q_all_faults ?k_all_faults ?a_fits ?l_fits ?q_fits ?k_fits ?a_look_orderly ?l_look_orderly ?q_look_orderly ?k_look_orderly ?a_may_follow ?l_may_follow ?q_may_follow ?k_may_follow ?a_followers ?l_followers ?q_followers ?k_followers ?a_safe_from ?l_safe_from ?q_safe_from ?k_safe_from ?a_to_and_fro ?l_to_and_fro ?q_to_and_fro ?k_to_and_fro ?a_look_handed ?l_look_handed ?q_look_handed ?k_look_handed ?a_handed ?l_handed ?q_handed ?k_handed ?a_shown ?l_shown ?q_shown ?k_shown ?a__law_cell ?l__law_cell ?q__law_cell ?k__law_cell ?a__law_mix ?l__law_mix ?q__law_mix ?k__law_mix ?a__law_system ?l__law_system ?q__law_system ?k__law_system ?a__law_spoilt ?l__law_spoilt ?q__law_spoilt ?k__law_spoilt ?a__law_deed ?l__law_deed ?q__law_deed ?k__law_deed ?a__law_more ?l__law_more ?q__law_more ?k__law_more ?a__law_told ?l__law_told ?q__law_told ?k__law_told ?a_law ?l_law ?q_law ?k_law ?a_TillError ?e_TillError ?k_TillError ?b_TillError ?t_TillError ?a_BadSystem ?e_BadSystem ?k_BadSystem ?b_BadSystem ?t_BadSystem ?a_BadSum ?e_BadSum ?k_BadSum ?b_BadSum ?t_BadSum ?a_BadWay ?e_BadWay ?k_BadWay ?b_BadWay ?t_BadWay ?a_BadNumber ?e_BadNumber ?k_BadNumber ?b_BadNumber ?t_BadNumber ?a_NotOrderly ?e_NotOrderly ?k_NotOrderly ?b_NotOrderly ?t_NotOrderly ?a_MOST_COINS ?a_MOST_COIN ?a_MOST_SUM ?a_MOST_HANDED ?z_len ?z_range ?z_tuple ?z_sum ?z_min ?z_max ?z_isinstance ?z_int ?z_bool ?z_str ?z_list ?z_set ?z_sorted ?z_zip ?z_abs ?z_ValueError ?sub_BadSystem_BadSystem ?ic_BadSystem ?sub_BadSystem_ValueError ?sub_BadSystem_TillError ?ic_TillError ?hg_BadSystem ?hk_BadSystem ?hs_BadSystem ?hd_BadSystem ?ha_BadSystem ?hm_BadSystem ?hn_x ?ht_x
    (case a_is_within => k_is)
    (case l_is_within => k_is)
    (case q_is_within => k_is)
    (case k_is_within => k_is)
    (case a_is_system => k_is)
    (case l_is_system => k_is)
    (case q_is_system => k_is)
    (case k_is_system => k_is)
    (case a_checked => k_is)
    (case l_checked => k_is)
    (case q_checked => k_is)
    (case k_checked => k_is)
    (case a_beginnings => k_is)
    (case l_beginnings => k_is)
    (case q_beginnings => k_is)
    (case k_beginnings => k_is)
    (case a_look => k_is)
    (case l_look => k_is)
    (case q_look => k_is)
    (case k_look => k_is)
    (case a_fewest_up_to => k_is)
    (case l_fewest_up_to => k_is)
    (case q_fewest_up_to => k_is)
    (case k_fewest_up_to => k_is)
    (case a_fewest => k_is)
    (case l_fewest => k_is)
    (case q_fewest => k_is)
    (case k_fewest => k_is)
    (case a_taken => k_is)
    (case l_taken => k_is)
    (case q_taken => k_is)
    (case k_taken => k_is)
    (case a_by_greatest => k_is)
    (case l_by_greatest => k_is)
    (case q_by_greatest => k_is)
    (case k_by_greatest => k_is)
    (case a_by_fewest => k_is)
    (case l_by_fewest => k_is)
    (case q_by_fewest => k_is)
    (case k_by_fewest => k_is)
    (case a_sum_of => k_is)
    (case l_sum_of => k_is)
    (case q_sum_of => k_is)
    (case k_sum_of => k_is)
    (case a_count_ways => k_is)
    (case l_count_ways => k_is)
    (case q_count_ways => k_is)
    (case k_count_ways => k_is)
    (case a_excess => k_is)
    (case l_excess => k_is)
    (case q_excess => k_is)
    (case k_excess => k_is)
    (case a_first_fault => k_is)
    (case l_first_fault => k_is)
    (case q_first_fault => k_is)
    (case k_first_fault => k_is)
    (case a_is_orderly => k_is)
    (case l_is_orderly => k_is)
    (case q_is_orderly => k_is)
    (case k_is_orderly => k_is)
    (case a_why_not => k_is)
    (case l_why_not => k_is)
    (case q_why_not => k_is)
    (case k_why_not => k_is)
    (case a_orderly_beginnings => k_is)
    (case l_orderly_beginnings => k_is)
    (case q_orderly_beginnings => k_is)
    (case k_orderly_beginnings => k_is)
    (case a_all_faults => k_is)
    (case l_all_faults => k_is)
    (case q_all_faults => k_is)
    (case k_all_faults => k_is)
    (case a_fits => k_is)
    (case l_fits => k_is)
    (case q_fits => k_is)
    (case k_fits => k_is)
    (case a_look_orderly => k_is)
    (case l_look_orderly => k_is)
    (case q_look_orderly => k_is)
    (case k_look_orderly => k_is)
    (case a_may_follow => k_is)
    (case l_may_follow => k_is)
    (case q_may_follow => k_is)
    (case k_may_follow => k_is)
    (case a_followers => k_is)
    (case l_followers => k_is)
    (case q_followers => k_is)
    (case k_followers => k_is)
    (case a_safe_from => k_is)
    (case l_safe_from => k_is)
    (case q_safe_from => k_is)
    (case k_safe_from => k_is)
    (case a_to_and_fro => k_is)
    (case l_to_and_fro => k_is)
    (case q_to_and_fro => k_is)
    (case k_to_and_fro => k_is)
    (case a_look_handed => k_is)
    (case l_look_handed => k_is)
    (case q_look_handed => k_is)
    (case k_look_handed => k_is)
    (case a_handed => k_is)
    (case l_handed => k_is)
    (case q_handed => k_is)
    (case k_handed => k_is)
    (case a_shown => k_is)
    (case l_shown => k_is)
    (case q_shown => k_is)
    (case k_shown => k_is)
    (case a__law_cell => k_is)
    (case l__law_cell => k_is)
    (case q__law_cell => k_is)
    (case k__law_cell => k_is)
    (case a__law_mix => k_is)
    (case l__law_mix => k_is)
    (case q__law_mix => k_is)
    (case k__law_mix => k_is)
    (case a__law_system => k_is)
    (case l__law_system => k_is)
    (case q__law_system => k_is)
    (case k__law_system => k_is)
    (case a__law_spoilt => k_is)
    (case l__law_spoilt => k_is)
    (case q__law_spoilt => k_is)
    (case k__law_spoilt => k_is)
    (case a__law_deed => k_is)
    (case l__law_deed => k_is)
    (case q__law_deed => k_is)
    (case k__law_deed => k_is)
    (case a__law_more => k_is)
    (case l__law_more => k_is)
    (case q__law_more => k_is)
    (case k__law_more => k_is)
    (case a__law_told => k_is)
    (case l__law_told => k_is)
    (case q__law_told => k_is)
    (case k__law_told => k_is)
    (case a_law => k_is)
    (case l_law => k_is)
    (case q_law => k_is)
    (case k_law => k_is)
    (case a_TillError => k_is)
    (case e_TillError => k_exc)
    (case k_TillError => k_is)
    (case b_TillError => k_is)
    (case t_TillError => k_is)
    (case a_BadSystem => k_is)
    (case e_BadSystem => k_exc)
    (case k_BadSystem => k_is)
    (case b_BadSystem => k_is)
    (case t_BadSystem => k_is)
    (case a_BadSum => k_is)
    (case e_BadSum => k_exc)
    (case k_BadSum => k_is)
    (case b_BadSum => k_is)
    (case t_BadSum => k_is)
    (case a_BadWay => k_is)
    (case e_BadWay => k_exc)
    (case k_BadWay => k_is)
    (case b_BadWay => k_is)
    (case t_BadWay => k_is)
    (case a_BadNumber => k_is)
    (case e_BadNumber => k_exc)
    (case k_BadNumber => k_is)
    (case b_BadNumber => k_is)
    (case t_BadNumber => k_is)
    (case a_NotOrderly => k_is)
    (case e_NotOrderly => k_exc)
    (case k_NotOrderly => k_is)
    (case b_NotOrderly => k_is)
    (case t_NotOrderly => k_is)
    (case a_MOST_COINS => k_is)
    (case a_MOST_COIN => k_is)
    (case a_MOST_SUM => k_is)
    (case a_MOST_HANDED => k_is)
    (case z_len => k_is)
    (case z_range => k_is)
    (case z_tuple => k_is)
    (case z_sum => k_is)
    (case z_min => k_is)
    (case z_max => k_is)
    (case z_isinstance => k_is)
    (case z_int => k_is)
    (case z_bool => k_is)
    (case z_str => k_is)
    (case z_list => k_is)
    (case z_set => k_is)
    (case z_sorted => k_is)
    (case z_zip => k_is)
    (case z_abs => k_is)
    (case z_ValueError => k_is)
    (case sub_BadSystem_BadSystem => k_is)
    (case ic_BadSystem => k_is)
    (case sub_BadSystem_ValueError => k_is)
    (case sub_BadSystem_TillError => k_is)
    (case ic_TillError => k_is)
    (case hg_BadSystem => k_is)
    (case hk_BadSystem => k_is)
    (case hs_BadSystem => k_is)
    (case hd_BadSystem => k_is)
    (case ha_BadSystem => k_is)
    (case hm_BadSystem => k_is)
    (case hn_x => k_is)
    (case ht_x => k_is)
