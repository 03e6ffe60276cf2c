import PyProof.Rows.All
import Wide.All
import OpenK.AllK
import Wide.FinOn
import PySem.Challenge.RW_tillcoins_k02_fewest_coins
import HandS.ForMost
import HandS.ForExc
import HandS.Evl
import HandS.IsInst
import HandS.TupAny
import HandS.SortInts
import HandS.Strs
import HandS.Conv
import HandS.Style
import HandS.Zip
import HandS.SetFor
import HandS.SortKw
import KE.KTupSum
set_option Elab.async false
set_option linter.all false
set_option maxRecDepth 100000
set_option maxHeartbeats 4000000
namespace Coin
open PySem PySem.Spec PyProof.Rows L2 Evl
/-! ### what stands behind the top: a def by its promise, an int constant, the built-ins -/
structure Hs (P : Program) (w : World) (K : PySem.W.Frag) (mg : Str → Option Value) (base : Heap) (k : Nat) (x : Str) (sp : Sp) : Prop where
  ex : ∃ (f : Addr) (fd : FuncData) (ps : List Str), FnOk P w K mg base (L2.CX P w) k f fd ps sp ∧ mg x = some (.ref f) ∧ PySem.W.keepIn K (.ref f) = true ∧ Binds K fd ps []
structure Kc (mg : Str → Option Value) (x : Str) (n : Int) : Prop where
  ex : ∃ t, mg x = some (.int n t)
structure Bi (mg : Str → Option Value) : Prop where
  len : mg "len" = none
  range : mg "range" = none
  tuple : mg "tuple" = none
  sum : mg "sum" = none
  min : mg "min" = none
  max : mg "max" = none
  isinstance : mg "isinstance" = none
  int : mg "int" = none
  bool : mg "bool" = none
  str : mg "str" = none
  list : mg "list" = none
  set : mg "set" = none
  sorted : mg "sorted" = none
  zip : mg "zip" = none
  abs : mg "abs" = none
  ValueError : mg "ValueError" = none
section
variable {X : Cx} {k j : Nat} {x : Str} {sp : Sp} {E : XK} {t : TA} {p pos : Pos} {e : Expr} {es : List Expr}
theorem passF : Passes (L2.CX X.prog X.w) X (fun _ _ _ => False) := fun _ _ _ _ _ _ _ c => by
  obtain ⟨_, _, _, _, _, _, _, _, _, _, _, _, h⟩ := c
  exact h.elim
theorem passE {P : Program} {w : World} {K : PySem.W.Frag} {mg : Str → Option Value} {base : Heap} {N : List Str} {qual : Str} {scope : Scope} {f : Addr} {cd : Value} {A : Around} {outer : List Env} {s : Shared} {H : Hp} {E : XK} :
    Passes (L2.CX P w) (cxOf (L2.CX P w) P w K mg base N qual scope f cd A outer s H E) E := passes_call (takes_of rfl rfl rfl rfl) fun _ _ _ _ h => h
theorem pe_h (c : Hs X.prog X.w X.K X.mg X.base k x sp) (hr : Room j X.A) (hk : k ≤ j) (hg : Gl X x) (hx : Passes (L2.CX X.prog X.w) X E) (ha : PA X (e :: es) t)
    (hdb : (x == ("__debug__" : Str)) = false := by decide) (he : starEach (e :: es) X.env = (false, eval e X.env) :: starEach es X.env := by rfl) (hpl : (backTo pos (starEach es X.env)).any (·.1) = false := by rfl) :
    PE X (.Call (.Name x p) (e :: es) [] pos) (tCall sp [] E t) := by
  obtain ⟨f, fd, ps, F, hm, kp, b⟩ := c.ex
  exact pe_call F (hr.mono hk) hg hm kp b .nil hx ha hdb he hpl
theorem pe_hS {E : L2.St → XK} (c : Hs X.prog X.w X.K X.mg X.base k x sp) (hr : Room j X.A) (hk : k ≤ j) (hg : Gl X x) (hx : ∀ σ, PassesAt (L2.CX X.prog X.w) X σ (E σ)) (ha : PA X (e :: es) t)
    (hdb : (x == ("__debug__" : Str)) = false := by decide) (he : starEach (e :: es) X.env = (false, eval e X.env) :: starEach es X.env := by rfl) (hpl : (backTo pos (starEach es X.env)).any (·.1) = false := by rfl) :
    PE X (.Call (.Name x p) (e :: es) [] pos) (tCallS sp E t) := by
  obtain ⟨f, fd, ps, F, hm, kp, b⟩ := c.ex
  exact pe_callS F (hr.mono hk) hg hm kp b hx ha hdb he hpl
theorem pe_kc {n : Int} (hg : Gl X x) (c : Kc X.mg x n) (hdb : (x == ("__debug__" : Str)) = false := by decide) : PE X (.Name x pos) (tC (.int n)) := by
  obtain ⟨t, h⟩ := c.ex
  exact pe_glob hg h ⟨t, rfl⟩ hdb
end
/-! ### numbers as values -/
def iv (n : Nat) : V := .int (n : Int)
abbrev ivs (ns : List Nat) : List V := ns.map iv
/-- a thing: what these programs are handed -/
inductive Tg (H : Hp) : V → Prop where
  | non : Tg H .non
  | bl (b : Bool) : Tg H (.bl b)
  | int (i : Int) : Tg H (.int i)
  | str (x : Str) : Tg H (.str x)
  | lst {a : Addr} {xs : List V} (e : H a = some (.lst xs)) : Tg H (.ref a)
  | tup {a : Addr} {xs : List V} (e : H a = some (.tup xs)) : Tg H (.ref a)
def isI : V → Bool
  | .int _ => true
  | .bl _ => true
  | _ => false
def isB : V → Bool
  | .bl _ => true
  | _ => false
theorem Tg.ex {H H' : Hp} {x : V} (e : Ex H H') (h : Tg H x) : Tg H' x := by
  cases h with
  | non => exact .non
  | bl b => exact .bl b
  | int i => exact .int i
  | str x => exact .str x
  | lst h => exact .lst (e _ _ h)
  | tup h => exact .tup (e _ _ h)
theorem Tg.tyi {K : PySem.W.Frag} {H : Hp} {x : V} (h : Tg H x) : ∃ t, TyX K H x (.type t) ∧ PySem.W.kitOne K (.type t) (.type "int") = some (isI x) ∧ PySem.W.kitOne K (.type t) (.type "bool") = some (isB x) := by
  cases h with
  | non => exact ⟨"NoneType", .base .non, kit_ty (r := false) (by decide +kernel), kit_ty (r := false) (by decide +kernel)⟩
  | bl b => exact ⟨"bool", .base (.bl b), kit_ty (r := true) (by decide +kernel), kit_ty (r := true) (by decide +kernel)⟩
  | int i => exact ⟨"int", .base (.int i), kit_ty (r := true) (by decide +kernel), kit_ty (r := false) (by decide +kernel)⟩
  | str x => exact ⟨"str", .base (.str x), kit_ty (r := false) (by decide +kernel), kit_ty (r := false) (by decide +kernel)⟩
  | lst e => exact ⟨"list", .base (.lst e), kit_ty (r := false) (by decide +kernel), kit_ty (r := false) (by decide +kernel)⟩
  | tup e => exact ⟨"tuple", .base (.tup e), kit_ty (r := false) (by decide +kernel), kit_ty (r := false) (by decide +kernel)⟩
section
variable {K : PySem.W.Frag} {σ : L2.St} {H H' : Hp} {ta tb te tc : TE} {x y z v : V}
/-- isinstance(x, T) -/
theorem rc_isi {x : V} {t n : String} {b : Bool} (ty : ∀ H1, Ex H H1 → TyX K H1 x (.type t)) (k : PySem.W.kitOne K (.type t) (.type n) = some b) : RC (rIsi K) [x, .ty n] H (.bl b) :=
  fun H1 e Q q => ⟨x, .ty n, .type t, .type n, b, rfl, .ty n, ty H1 e, k, q H1 (Ex.refl _)⟩
theorem rc_isiI (h : Tg H x) : RC (rIsi K) [x, .ty "int"] H (.bl (isI x)) := fun H1 e Q q => by
  obtain ⟨t, a, b, _⟩ := (h.ex e).tyi (K := K)
  exact ⟨x, .ty "int", .type t, .type "int", _, rfl, .ty _, a, b, q H1 (Ex.refl _)⟩
theorem rc_isiB (h : Tg H x) : RC (rIsi K) [x, .ty "bool"] H (.bl (isB x)) := fun H1 e Q q => by
  obtain ⟨t, a, _, b⟩ := (h.ex e).tyi (K := K)
  exact ⟨x, .ty "bool", .type t, .type "bool", _, rfl, .ty _, a, b, q H1 (Ex.refl _)⟩
/-- a chain of two comparisons of ints -/
theorem ev_chain {f g : Int → Int → Bool} {a b c : Int} (ha : Ev ta σ H (.int a)) (hb : Ev tb σ H (.int b)) (hc : Ev tc σ H (.int c)) :
    Ev (tChain (rI0 fun i j => .bl (f i j)) (rI0 fun i j => .bl (g i j)) ta tb tc) σ H (.bl (f a b && g b c)) := fun H1 e Q q => by
  refine ha H1 e _ fun H2 e2 => hb H2 (e.trans e2) _ fun H3 e3 => ⟨a, b, rfl, rfl, f a b, rfl, ?_⟩
  cases h : f a b with
  | true =>
    rw [h] at q
    exact iteT (hc H3 ((e.trans e2).trans e3) _ fun H4 e4 => ⟨b, c, rfl, rfl, q H4 ((e2.trans e3).trans e4)⟩)
  | false =>
    rw [h] at q
    exact iteF (q H3 (e2.trans e3))
end
/-! ### exceptions of own classes -/
structure Ec (K : PySem.W.Frag) (mg : Str → Option Value) (nm : Str) (C : Addr) : Prop where
  g : mg nm = some (.ref C)
  x : PySem.W.excIn K C [.type "ValueError", .type "Exception", .type "BaseException", .type "object"] "ValueError.__new__" = true
  k : PySem.W.keepIn K (.ref C) = true
  b : PySem.W.subIn K (.ref C) (.type "BaseException") = some true
  t : PySem.W.typeIn K (.ref C) = some (.type "type")
theorem Ec.r {X : Cx} {nm : Str} {C : Addr} (h : Ec X.K X.mg nm C) : Raises X (.ref C) := raises_own h.b h.t
/-! ### heaps: tuples never change -/
def Tx (H H' : Hp) : Prop := ∀ a xs, H a = some (.tup xs) → H' a = some (.tup xs)
theorem Tx.of {H H' : Hp} (e : Ex H H') : Tx H H' := fun _ _ h => e _ _ h
theorem Tx.refl (H : Hp) : Tx H H := fun _ _ h => h
theorem Tx.trans {H H1 H2 : Hp} (a : Tx H H1) (b : Tx H1 H2) : Tx H H2 := fun _ _ h => b _ _ (a _ _ h)
theorem Tx.lst {H : Hp} {l : Addr} {xs ys : List V} (h : H l = some (.lst xs)) : Tx H (upd H l (.lst ys)) := fun a zs e => by
  have : a ≠ l := fun z => by
    rw [z, h] at e
    cases e
  rw [upd_ne this]
  exact e
section
variable {K : PySem.W.Frag} {σ : L2.St} {H H' : Hp} {ta tb te tc tl : TE} {t : TT} {x y z v : V} {D : Ends} {tu tz : TS}
/-- a value of which φ holds -/
def EvR (te : TE) (σ : L2.St) (H : Hp) (φ : V → Hp → Prop) : Prop := ∀ H1, Ex H H1 → ∀ Q : VK, (∀ y H2, Ex H1 H2 → φ y H2 → Q y H2) → te σ H1 Q
/-- a new list of which ψ holds -/
def EvN (te : TE) (σ : L2.St) (H : Hp) (ψ : List V → Hp → Prop) : Prop := ∀ H1, Ex H H1 → ∀ Q : VK, (∀ l ys H2, H1 l = none → Ex H1 H2 → H2 l = some (.lst ys) → ψ ys H2 → Q (.ref l) H2) → te σ H1 Q
/-- some tuple, some list (that is read) -/
def EvSt (te : TE) (σ : L2.St) (H : Hp) (xs : List V) : Prop := ∀ H1, Ex H H1 → ∀ Q : VK, (∀ a H2, Ex H1 H2 → H2 a = some (.tup xs) → Q (.ref a) H2) → te σ H1 Q
def EvSl (K : PySem.W.Frag) (te : TE) (σ : L2.St) (H : Hp) (xs : List V) : Prop := ∀ H1, Ex H H1 → ∀ Q : VK, (∀ a H2, Ex H1 H2 → SqL K H2 a xs → Q (.ref a) H2) → te σ H1 Q
theorem est_of {a : Addr} {xs : List V} (h : Ev te σ H (.ref a)) (hx : H a = some (.tup xs)) : EvSt te σ H xs := fun H1 e _ q => h H1 e _ fun H2 e2 => q a H2 e2 (e2 _ _ (e _ _ hx))
theorem est_u {xs : List V} (h : EvU te σ H xs) : EvSt te σ H xs := fun H1 e _ q => h H1 e _ fun p H2 _ e2 h2 => q p H2 e2 h2
theorem esl_of {a : Addr} {xs : List V} (h : Ev te σ H (.ref a)) (hx : SqL K H a xs) : EvSl K te σ H xs := fun H1 e _ q => h H1 e _ fun H2 e2 => q a H2 e2 (ex_l (e.trans e2) hx)
theorem esl_l {xs : List V} (h : EvL te σ H xs) : EvSl K te σ H xs := fun H1 e _ q => h H1 e _ fun p H2 _ e2 h2 => q p H2 e2 (sq_of h2)
theorem er_of (h : Ev te σ H v) : EvR te σ H (fun y _ => y = v) := fun H1 e Q q => h H1 e Q fun H2 e2 => q v H2 e2 rfl
theorem EvN.l {xs : List V} (h : EvN te σ H (fun ys _ => ys = xs)) : EvL te σ H xs := fun H1 e Q q => h H1 e Q fun l ys H2 hl e2 h2 eq => by
  subst eq
  exact q l H2 hl e2 h2
/-! ### comprehensions -/
structure Cp {α : Type} (H : Hp) (Dl : Addr) (φ : α → V → Hp → Prop) (done : List α) (H' : Hp) : Prop where
  new : H Dl = none
  ex : Ex H H'
  at_ : ∃ ys, H' Dl = some (.lst ys) ∧ Paired (fun c z => φ c z H') done ys
theorem paired_mono {α β : Type} {F G : α → β → Prop} : ∀ {l₁ : List α} {l₂ : List β}, Paired F l₁ l₂ → (∀ a b, F a b → G a b) → Paired G l₁ l₂
  | _, _, .nil, _ => .nil
  | _, _, .cons r t, f => .cons (f _ _ r) (paired_mono t f)
theorem paired_snoc {α β : Type} {F : α → β → Prop} {a : α} {b : β} (h : F a b) : ∀ {l₁ : List α} {l₂ : List β}, Paired F l₁ l₂ → Paired F (l₁ ++ [a]) (l₂ ++ [b])
  | _, _, .nil => .cons h .nil
  | _, _, .cons r t => .cons r (paired_snoc h t)
theorem paired_len {α β : Type} {F : α → β → Prop} : ∀ {l₁ : List α} {l₂ : List β}, Paired F l₁ l₂ → l₁.length = l₂.length
  | _, _, .nil => rfl
  | _, _, .cons _ t => by rw [List.length_cons, List.length_cons, paired_len t]
theorem paired_eq {α β : Type} {g : α → β} : ∀ {l₁ : List α} {l₂ : List β}, Paired (fun c z => z = g c) l₁ l₂ → l₂ = l₁.map g
  | _, _, .nil => rfl
  | _, _, .cons r t => by rw [List.map_cons, ← paired_eq t, r]
theorem cp_turn {α : Type} {Dl : Addr} {φ : α → V → Hp → Prop} {done : List α} {c : α} {b : Bool} {σ2 : L2.St} (mono : ∀ c y H1 H2, Tx H1 H2 → φ c y H1 → φ c y H2) (p : Cp H Dl φ done H') (hl : done.length ≤ 50000)
    (ht : EvT t σ2 H b) (he : b = true → EvR te σ2 H (φ c)) :
    t σ2 H' fun b' H3 => if b' = true then te σ2 H3 fun y H4 => ∃ acc, H4 Dl = some (.lst acc) ∧ acc.length < sizeLine ∧ Cp H Dl φ (if b = true then done ++ [c] else done) (upd H4 Dl (.lst (acc ++ [y]))) else Cp H Dl φ (if b = true then done ++ [c] else done) H3 := by
  obtain ⟨p1, p2, ys, p3, p4⟩ := p
  refine ht H' p2 _ fun H3 e3 => ?_
  cases hb : b with
  | true =>
    rw [if_pos rfl]
    refine he hb H3 (p2.trans e3) _ fun y H4 e4 hy => ⟨ys, e4 _ _ (e3 _ _ p3), sz_lt (by rw [← paired_len p4]; omega), p1, Ex.mut ((p2.trans e3).trans e4) p1, ys ++ [y], upd_same, ?_⟩
    have tx : Tx H4 (upd H4 Dl (.lst (ys ++ [y]))) := .lst (e4 _ _ (e3 _ _ p3))
    have p5 : Paired (fun c z => φ c z (upd H4 Dl (.lst (ys ++ [y])))) done ys := paired_mono p4 fun a z h => mono a z H' _ ((Tx.of (e3.trans e4)).trans tx) h
    exact paired_snoc (F := fun c z => φ c z (upd H4 Dl (.lst (ys ++ [y])))) (mono _ _ _ _ tx hy) p5
  | false =>
    rw [if_neg Bool.false_ne_true]
    exact ⟨p1, p2.trans e3, ys, e3 _ _ p3, paired_mono p4 fun a z h => mono a z H' _ (.of e3) h⟩
theorem filter_take {α : Type} {p : α → Bool} {cs : List α} {i : Nat} {c : α} (h : cs[i]? = some c) : (cs.take (i + 1)).filter p = if p c = true then (cs.take i).filter p ++ [c] else (cs.take i).filter p := by
  rw [List.take_add_one, h, List.filter_append]
  cases e : p c <;> simp [e]
theorem filter_len {α : Type} (p : α → Bool) (cs : List α) (i : Nat) : ((cs.take i).filter p).length ≤ cs.length := by
  have a := List.length_filter_le p (cs.take i)
  rw [List.length_take] at a
  omega
variable {α : Type} {cs : List α} {u : α → V} {j : Nat} {vs : List Nat}
/-- over a tuple -/
theorem en_lcT (p : α → Bool) (φ : α → V → Hp → Prop) (mono : ∀ c y H1 H2, Tx H1 H2 → φ c y H1 → φ c y H2) (h : EvSt tl σ H (cs.map u)) (hz : cs.length ≤ 40000) (hw : ∀ x, wipe ((wipe σ vs).set j (some x)) vs = wipe σ vs)
    (ht : ∀ c H1, Ex H H1 → c ∈ cs → EvT t ((wipe σ vs).set j (some (u c))) H1 (p c)) (he : ∀ c H1, Ex H H1 → c ∈ cs → p c = true → EvR te ((wipe σ vs).set j (some (u c))) H1 (φ c)) :
    EvN (tLc (iTup K tl) (gName j) t te vs) σ H (fun ys H2 => Paired (fun c z => φ c z H2) (cs.filter p) ys) := fun H0 e Q q => h H0 e _ fun a H1 e1 ha => ⟨a, rfl, ⟨_, st_of ha⟩, fun Dl hD =>
  lc_tup (xs := cs.map u) (fun i => Cp H1 Dl φ ((cs.take i).filter p)) ⟨hD, Ex.new hD, [], upd_same, .nil⟩ (fun i H' _ p => st_of (p.ex _ _ ha)) (fun i x H' hi cp => by
    rw [List.getElem?_map] at hi
    cases hc : cs[i]? with
    | none => rw [hc] at hi; cases hi
    | some c =>
      rw [hc] at hi
      cases hi
      have hm : c ∈ cs := List.mem_of_getElem? hc
      refine ⟨hw _, ?_⟩
      have := cp_turn (c := c) (b := p c) mono cp (by have := filter_len p cs i; omega) (ht c H1 (e.trans e1) hm) (he c H1 (e.trans e1) hm)
      rw [← filter_take hc] at this
      exact this)
    (fun H' cp => by
      obtain ⟨ys, h1, h2⟩ := cp.at_
      rw [List.length_map, List.take_length] at h2
      exact q Dl ys H' (fresh_back e1 cp.new) (e1.trans cp.ex) h1 h2)⟩
/-- over a list -/
theorem en_lcL (p : α → Bool) (φ : α → V → Hp → Prop) (mono : ∀ c y H1 H2, Tx H1 H2 → φ c y H1 → φ c y H2) (h : EvSl K tl σ H (cs.map u)) (hz : cs.length ≤ 40000) (hw : ∀ x, wipe ((wipe σ vs).set j (some x)) vs = wipe σ vs)
    (ht : ∀ c H1, Ex H H1 → c ∈ cs → EvT t ((wipe σ vs).set j (some (u c))) H1 (p c)) (he : ∀ c H1, Ex H H1 → c ∈ cs → p c = true → EvR te ((wipe σ vs).set j (some (u c))) H1 (φ c)) :
    EvN (tLc (iList K tl) (gName j) t te vs) σ H (fun ys H2 => Paired (fun c z => φ c z H2) (cs.filter p) ys) := fun H0 e Q q => h H0 e _ fun a H1 e1 ha => ⟨a, rfl, ⟨_, ha⟩, fun Dl hD =>
  lc_list (xs := cs.map u) (fun i => Cp H1 Dl φ ((cs.take i).filter p)) ⟨hD, Ex.new hD, [], upd_same, .nil⟩ (fun i H' _ p => ex_l p.ex ha) (fun i x H' hi cp => by
    rw [List.getElem?_map] at hi
    cases hc : cs[i]? with
    | none => rw [hc] at hi; cases hi
    | some c =>
      rw [hc] at hi
      cases hi
      have hm : c ∈ cs := List.mem_of_getElem? hc
      refine ⟨hw _, ?_⟩
      have := cp_turn (c := c) (b := p c) mono cp (by have := filter_len p cs i; omega) (ht c H1 (e.trans e1) hm) (he c H1 (e.trans e1) hm)
      rw [← filter_take hc] at this
      exact this)
    (fun H' cp => by
      obtain ⟨ys, h1, h2⟩ := cp.at_
      rw [List.length_map, List.take_length] at h2
      exact q Dl ys H' (fresh_back e1 cp.new) (e1.trans cp.ex) h1 h2)⟩
theorem range_at {n i : Nat} (h : i < n) : (List.range n)[i]? = some i := by rw [List.getElem?_range h]
/-- over range(lo, hi) -/
theorem en_lcR2 {ta : TA} {lo hi : Int} (p : Nat → Bool) (φ : Nat → V → Hp → Prop) (mono : ∀ c y H1 H2, Tx H1 H2 → φ c y H1 → φ c y H2) (h : EvA ta σ H [.int lo, .int hi]) (hn : -40000 ≤ lo ∧ lo ≤ 40000 ∧ -40000 ≤ hi ∧ hi ≤ 40000 ∧ hi ≤ lo + 40000) (hw : ∀ x, wipe ((wipe σ vs).set j (some x)) vs = wipe σ vs)
    (ht : ∀ (c : Nat) H1, Ex H H1 → lo + c < hi → EvT t ((wipe σ vs).set j (some (.int (lo + c)))) H1 (p c)) (he : ∀ (c : Nat) H1, Ex H H1 → lo + c < hi → p c = true → EvR te ((wipe σ vs).set j (some (.int (lo + c)))) H1 (φ c)) :
    EvN (tLc (iRng2 ta) (gName j) t te vs) σ H (fun ys H2 => Paired (fun c z => φ c z H2) ((List.range (hi - lo).toNat).filter p) ys) := fun H0 e Q q => h H0 e _ fun H1 e1 => ⟨lo, hi, rfl, ⟨by omega, by omega, by omega, by omega⟩, fun Dl hD =>
  lc_range (lo := lo) (n := (hi - lo).toNat) (fun i => Cp H1 Dl φ (((List.range (hi - lo).toNat).take i).filter p)) ⟨hD, Ex.new hD, [], upd_same, .nil⟩ (fun i H' hi' cp => by
    refine ⟨hw _, ?_⟩
    have := cp_turn (c := i) (b := p i) mono cp (by have := filter_len p (List.range (hi - lo).toNat) i; rw [List.length_range] at this; omega) (ht i H1 (e.trans e1) (by omega)) (he i H1 (e.trans e1) (by omega))
    rw [← filter_take (range_at hi')] at this
    exact this)
    (fun H' cp => by
      obtain ⟨ys, h1, h2⟩ := cp.at_
      rw [List.take_of_length_le (by rw [List.length_range]; exact Nat.le_refl _)] at h2
      exact q Dl ys H' (fresh_back e1 cp.new) (e1.trans cp.ex) h1 h2)⟩
/-- over range(n) -/
theorem en_lcR1 {ta : TA} {n : Nat} (p : Nat → Bool) (φ : Nat → V → Hp → Prop) (mono : ∀ c y H1 H2, Tx H1 H2 → φ c y H1 → φ c y H2) (h : EvA ta σ H [iv n]) (hn : n ≤ 40000) (hw : ∀ x, wipe ((wipe σ vs).set j (some x)) vs = wipe σ vs)
    (ht : ∀ (c : Nat) H1, Ex H H1 → c < n → EvT t ((wipe σ vs).set j (some (iv c))) H1 (p c)) (he : ∀ (c : Nat) H1, Ex H H1 → c < n → p c = true → EvR te ((wipe σ vs).set j (some (iv c))) H1 (φ c)) :
    EvN (tLc (iRng1 ta) (gName j) t te vs) σ H (fun ys H2 => Paired (fun c z => φ c z H2) ((List.range n).filter p) ys) := fun H0 e Q q => h H0 e _ fun H1 e1 => ⟨(n : Int), rfl, by omega, by omega, fun Dl hD =>
  lc_range (lo := 0) (n := (n : Int).toNat) (fun i => Cp H1 Dl φ (((List.range n).take i).filter p)) ⟨hD, Ex.new hD, [], upd_same, .nil⟩ (fun i H' hi' cp => by
    rw [show (V.int (0 + (i : Int))) = iv i by unfold iv; rw [Int.zero_add]]
    refine ⟨hw _, ?_⟩
    have := cp_turn (c := i) (b := p i) mono cp (by have := filter_len p (List.range n) i; rw [List.length_range] at this; omega) (ht i H1 (e.trans e1) (by omega)) (he i H1 (e.trans e1) (by omega))
    rw [← filter_take (range_at (show i < n by omega))] at this
    exact this)
    (fun H' cp => by
      obtain ⟨ys, h1, h2⟩ := cp.at_
      rw [Int.toNat_natCast, List.take_of_length_le (by rw [List.length_range]; exact Nat.le_refl _)] at h2
      exact q Dl ys H' (fresh_back e1 cp.new) (e1.trans cp.ex) h1 h2)⟩
/-- the elements are values: EvL -/
theorem EvN.vals {te : TE} {g : α → V} {ds : List α} (h : EvN te σ H (fun ys H2 => Paired (fun c z => z = g c) ds ys)) : EvL te σ H (ds.map g) := fun H1 e Q q => h H1 e Q fun l ys H2 hl e2 h2 pr => by
  rw [paired_eq pr] at h2
  exact q l H2 hl e2 h2
theorem el_tup (p : α → Bool) (g : α → V) (h : EvSt tl σ H (cs.map u)) (hz : cs.length ≤ 40000) (hw : ∀ x, wipe ((wipe σ vs).set j (some x)) vs = wipe σ vs)
    (ht : ∀ c H1, Ex H H1 → c ∈ cs → EvT t ((wipe σ vs).set j (some (u c))) H1 (p c)) (he : ∀ c H1, Ex H H1 → c ∈ cs → p c = true → Ev te ((wipe σ vs).set j (some (u c))) H1 (g c)) :
    EvL (tLc (iTup K tl) (gName j) t te vs) σ H ((cs.filter p).map g) := EvN.vals (en_lcT p (fun c z _ => z = g c) (fun _ _ _ _ _ h => h) h hz hw ht fun c H1 e hc hp => er_of (he c H1 e hc hp))
theorem el_lst' (p : α → Bool) (g : α → V) (h : EvSl K tl σ H (cs.map u)) (hz : cs.length ≤ 40000) (hw : ∀ x, wipe ((wipe σ vs).set j (some x)) vs = wipe σ vs)
    (ht : ∀ c H1, Ex H H1 → c ∈ cs → EvT t ((wipe σ vs).set j (some (u c))) H1 (p c)) (he : ∀ c H1, Ex H H1 → c ∈ cs → p c = true → Ev te ((wipe σ vs).set j (some (u c))) H1 (g c)) :
    EvL (tLc (iList K tl) (gName j) t te vs) σ H ((cs.filter p).map g) := EvN.vals (en_lcL p (fun c z _ => z = g c) (fun _ _ _ _ _ h => h) h hz hw ht fun c H1 e hc hp => er_of (he c H1 e hc hp))
theorem el_rng2 {ta : TA} {lo hi : Int} (p : Nat → Bool) (g : Nat → V) (h : EvA ta σ H [.int lo, .int hi]) (hn : -40000 ≤ lo ∧ lo ≤ 40000 ∧ -40000 ≤ hi ∧ hi ≤ 40000 ∧ hi ≤ lo + 40000) (hw : ∀ x, wipe ((wipe σ vs).set j (some x)) vs = wipe σ vs)
    (ht : ∀ (c : Nat) H1, Ex H H1 → lo + c < hi → EvT t ((wipe σ vs).set j (some (.int (lo + c)))) H1 (p c)) (he : ∀ (c : Nat) H1, Ex H H1 → lo + c < hi → p c = true → Ev te ((wipe σ vs).set j (some (.int (lo + c)))) H1 (g c)) :
    EvL (tLc (iRng2 ta) (gName j) t te vs) σ H (((List.range (hi - lo).toNat).filter p).map g) := EvN.vals (en_lcR2 p (fun c z _ => z = g c) (fun _ _ _ _ _ h => h) h hn hw ht fun c H1 e hc hp => er_of (he c H1 e hc hp))
theorem el_rng1 {ta : TA} {n : Nat} (p : Nat → Bool) (g : Nat → V) (h : EvA ta σ H [iv n]) (hn : n ≤ 40000) (hw : ∀ x, wipe ((wipe σ vs).set j (some x)) vs = wipe σ vs)
    (ht : ∀ (c : Nat) H1, Ex H H1 → c < n → EvT t ((wipe σ vs).set j (some (iv c))) H1 (p c)) (he : ∀ (c : Nat) H1, Ex H H1 → c < n → p c = true → Ev te ((wipe σ vs).set j (some (iv c))) H1 (g c)) :
    EvL (tLc (iRng1 ta) (gName j) t te vs) σ H (((List.range n).filter p).map g) := EvN.vals (en_lcR1 p (fun c z _ => z = g c) (fun _ _ _ _ _ h => h) h hn hw ht fun c H1 e hc hp => er_of (he c H1 e hc hp))
theorem et_yes : EvT tYes σ H true := fun H1 _ _ q => q H1 (Ex.refl _)
theorem filter_yes {α : Type} (l : List α) : l.filter (fun _ => true) = l := List.filter_eq_self.mpr fun _ _ => rfl
end
end Coin

/-! Rules of one's own: sum of a tuple, set of a list of ints, .. -/
namespace Coin
open PySem PySem.Spec PyProof.Rows L2
/-! ### sum(t), t a tuple of ints -/
def rSumT (K : PySem.W.Frag) : List V → Hp → VK → Prop := fun vs H Q => ∃ (a : Addr) (ns : List Int), vs = [V.ref a] ∧ SqT K H a (ns.map V.int) ∧ Q (.int ns.sum) H
theorem cr_sumT {X : Cx} (hc : X.calm = true) : CallR X (.builtin "sum") (rSumT X.K) := fun pins s σ H vs us Q I r h => by
  obtain ⟨a, ns, rfl, hs, q⟩ := h
  obtain ⟨its, rv, ht, _⟩ := I.tuple hs
  have hi := rv.ints
  rw [Vals.ref1 r]
  obtain ⟨xs, e⟩ := hi.allInts.items
  have hn : numsOf (intItems xs).toList = ns := e ▸ hi.numsOf
  rw [nums_intItems] at hn
  rw [e] at ht
  refine PySem.W.ktm_sumG (I.ok.hd hc) ht fun h' tk t' hk => ?_
  rw [preSum_eq, List.take_of_length_le (by simp), hn]
  exact ⟨.int _, H, I.kept hk, ⟨_, rfl⟩, q⟩
/-! ### set(xs), xs a list of ints -/
abbrev setO0 (w : World) : Obj := { cls := .type "set", dict := none, data := .set #[] 0 (.fresh 0 0 (!w.params.followText "set-order")) }
section
variable {P : Program} {w : World} {A : Around} {E : Value → Shared → Prop} {s : Shared}
set_option maxHeartbeats 8000000 in
theorem set_of_list {l : Addr} {items : Array Value} (ns : List Int) {Q : Value → Shared → Prop} (hh : A.handled = none) (hl : s.heap.IsList l items) (hit : IntsAre items.toList ns) (hb : ns.length + 1 < scanBound)
    (h : ∀ (h' : Heap) (tk c : Nat), SetR w h' s.heap.objs.size (fun j => decide (j ∈ ns)) c → c ≤ ns.length → (∀ b o, s.heap.get? b = some o → h'.get? b = some o) → Q (.ref s.heap.objs.size) { s with heap := h', toks := tk }) :
    wpAny (model P w) A (call (.type "set") [.ref l]) Q E s := by
  have hisz : items.size = ns.length := (Array.length_toList (xs := items)) ▸ hit.length
  obtain ⟨c, tl, hmro⟩ := PySem.F.called_set.mro
  have hmade := PySem.F.called_set.made
  have hsub := PySem.F.called_set.sub
  refine wpAny_call (codeAny_of_tree ?_)
  show wpAny _ _ (callAny (.type "set") _) _ _ _
  refine wpAny_pure ⟨Code.quiet_builtin _ (by decide +kernel), codeAny_builtin PySem.F.entry_type_call ?_⟩
  rw [Around.under_plain (weight_type_call_type "set" [.ref l] []) rfl]
  have a1 := PySem.F.called_set.notType
  have a2 := PySem.F.called_set.canCreate
  have a3 := PySem.F.typeCall_set_1 (.ref l)
  repeat (any_goals (first | assumption | wp_step))
  refine codeAny_mono (code_set_led1 (.ref l) (E := E) (Q₁ := fun obj s₁ => obj = .ref s.heap.objs.size ∧ s₁ = { s with heap := s.heap.push (setO0 w) }) ⟨rfl, rfl⟩) fun r s₁ hr => ?_
  cases r with
  | error e => exact hr
  | ok fl =>
    cases fl with
    | ret obj =>
      obtain ⟨rfl, rfl⟩ := hr
      have hS : (s.heap.push (setO0 w)).get? s.heap.objs.size = some (setO0 w) := Heap.get?_push_size _ rfl
      have hT : Shared.TypeIs { s with heap := s.heap.push (setO0 w) } (.ref s.heap.objs.size) "set" := ⟨_, hS, rfl⟩
      have b1 := PySem.F.called_set.init.lookup
      have b2 := PySem.F.called_set.init.bind (.ref s.heap.objs.size)
      repeat (any_goals (first | assumption | wp_step))
      refine codeAny_mono (codeAny_call_builtin (R := wants (fun r s₂ => r = .none ∧ ∃ h' tk c, s₂ = { s with heap := h', toks := tk } ∧ SetR w h' s.heap.objs.size (fun j => decide (j ∈ ns)) c ∧ c ≤ ns.length ∧
          ∀ b o, s.heap.get? b = some o → h'.get? b = some o) E) PySem.F.called_set.init.plain PySem.F.entry_set_init (check_set_init_1 hT ?_)) fun r₂ s₂ hr₂ => ?_
      · obtain ⟨⟨oc, od, odt, osl⟩, hol, hcl, nl, hdl⟩ := hl
        simp only at hcl hdl
        subst hcl hdl
        have c1 := Heap.get?_push_of_some (setO0 w) hol
        have c2 := PySem.F.sub_list_set
        have c3 := PySem.F.sub_list_frozenset
        have c4 : (Value.type "list" == Value.type "dict") = false := by decide
        have hl1 : (s.heap.push (setO0 w)).IsList l items := ⟨_, c1, rfl, nl, rfl⟩
        unfold Builtin.«set.__init__» noKeywords Builtin.Frozenset.updateFrom
        generalize hPI : pyIter = PI
        wp_walk
        subst hPI
        refine wpAny_pyIter_list hl1 (wpAny_bind (wpAny_runValue ?_))
        have hlS : l < s.heap.objs.size := Heap.lt_size hol
        have sz : (s.heap.push (setO0 w)).objs.size = s.heap.objs.size + 1 := Heap.size_push ..
        have d1 : A.in1.in1.in1.handled = none := by simp [hh]
        have d2 : l ≠ (s.heap.push (setO0 w)).objs.size := sz ▸ Nat.ne_of_lt (Nat.lt_succ_of_lt hlS)
        have d3 : s.heap.objs.size ∉ [(s.heap.push (setO0 w)).objs.size, l] := by
          rw [sz]
          simp only [List.mem_cons, List.not_mem_nil, or_false, not_or]
          exact ⟨Nat.ne_of_lt (Nat.lt_succ_self _), Nat.ne_of_gt hlS⟩
        have hval : ∀ (i : Nat) (v : Value), items[i]? = some v → ∃ k t, ns[i]? = some k ∧ v = .int k t := fun i v hv => by
          have hi : i < ns.length := hisz ▸ (Array.getElem?_eq_some_iff.mp hv).1
          obtain ⟨t, e⟩ := PyProof.Rows.IntsAre.int_at hit i v ((Array.getElem?_toList ..).trans hv)
          exact ⟨ns[i], t, List.getElem?_eq_getElem hi, by rw [e, List.getD_eq_getElem?_getD, List.getElem?_eq_getElem hi] <;> rfl⟩
        refine set_update_ints ((Walks.list d1 _ l d2 items).toS) s.heap.objs.size d3 ns hisz hb hval (items.size - 0) 0 _ (by omega) (Nat.zero_le _) ⟨⟨_, Heap.get?_push_size _ rfl, rfl, rfl⟩, hl1.push _⟩ ⟨0, Nat.le_refl 0, setR_new_at (Heap.get?_push_of_some _ hS)⟩ fun s' c' hm hc' hS' => ?_
        obtain ⟨h', g2, d', tk', os'⟩ := s'
        have eg : g2 = s.gens := hm.gens
        have ed : d' = s.drawn := hm.drawn
        have eo : os' = s.os := hm.os
        subst eg ed eo
        show wpAny _ _ _ _ _ _
        refine wpAny_pure ?_
        show wpAny _ _ (ret Value.none) _ _ _
        rw [hisz] at hc'
        refine wpAny_pure ⟨rfl, h', tk', c', rfl, hS', hc', fun b o e => ?_⟩
        have hb0 : b < s.heap.objs.size := Heap.lt_size e
        refine hm.heap b o ?_ (Heap.get?_push_of_some _ (Heap.get?_push_of_some _ e))
        rw [sz]
        simp only [List.mem_cons, List.not_mem_nil, or_false, not_or]
        exact ⟨Nat.ne_of_lt hb0, Nat.ne_of_lt (Nat.lt_succ_of_lt hb0)⟩
      · cases r₂ with
        | error e => exact hr₂
        | ok fl₂ =>
          cases fl₂ with
          | ret r =>
            obtain ⟨rfl, h', tk, c', rfl, hS', hc', hk'⟩ := hr₂
            repeat (any_goals (first | assumption | wp_step))
            exact h _ _ _ hS' hc' hk'
          | _ => exact hr₂.elim
    | _ => exact hr.elim
end
def rSetL (K : PySem.W.Frag) (w : World) : List V → Hp → VK → Prop := fun vs H Q => ∃ (l : Addr) (ns : List Int), vs = [V.ref l] ∧ SqL K H l (ns.map V.int) ∧ ns.length + 1 < scanBound ∧
  ∀ (a : Addr) (c : Nat), H a = none → c ≤ ns.length → Q (.ref a) (upd H a (SetO w a (fun j => decide (j ∈ ns)) c))
theorem cr_setL {X : Cx} (hc : X.calm = true) : CallR X (.type "set") (rSetL X.K X.w) := fun pins s σ H vs us Q I r h => by
  obtain ⟨l, ns, rfl, hs, hb, q⟩ := h
  obtain ⟨its, rv, hl, _⟩ := I.list hs
  rw [Vals.ref1 r]
  refine set_of_list ns (I.ok.hd hc) hl.isList rv.ints hb fun h' tk c R hc' hk => ?_
  exact ⟨.ref _, upd H s.heap.objs.size (SetO X.w s.heap.objs.size (fun j => decide (j ∈ ns)) c), I.laid (t' := tk) hk (Nat.le_refl _) (setO_new R), rfl, q _ c (I.hok.fresh (Nat.le_refl _)) hc'⟩
end Coin

/-! The mathematics of coins, in plain Lean: the fewest coins, the greatest first, first faults. -/
namespace Coin
/-! ### a least one -/
theorem least {p : Nat → Prop} : ∀ n, p n → ∃ m, p m ∧ ∀ k, p k → m ≤ k := by
  intro n
  induction n using Nat.strongRecOn with
  | ind n ih =>
    intro h
    by_cases q : ∃ k, k < n ∧ p k
    · obtain ⟨k, hk, pk⟩ := q
      exact ih k hk pk
    · exact ⟨n, h, fun k pk => by
        by_cases hk : k < n
        · exact absurd ⟨k, hk, pk⟩ q
        · omega⟩
/-- k coins of cs come to n -/
inductive Pay (cs : List Nat) : Nat → Nat → Prop
  | zero : Pay cs 0 0
  | step {k n c : Nat} : c ∈ cs → Pay cs k n → Pay cs (k + 1) (n + c)
theorem Pay.add {cs : List Nat} {k n j m : Nat} (h : Pay cs k n) (h' : Pay cs j m) : Pay cs (k + j) (n + m) := by
  induction h with
  | zero => simpa using h'
  | @step k n c hc _ ih =>
    have e1 : k + 1 + j = k + j + 1 := by omega
    have e2 : n + c + m = n + m + c := by omega
    rw [e1, e2]
    exact .step hc ih
theorem Pay.one {cs : List Nat} {c : Nat} (h : c ∈ cs) : Pay cs 1 c := by
  have := Pay.step h Pay.zero
  simpa using this
theorem Pay.ones {cs : List Nat} (h : 1 ∈ cs) : ∀ n, Pay cs n n
  | 0 => .zero
  | n + 1 => .step h (Pay.ones h n)
theorem Pay.times {cs : List Nat} {c : Nat} (h : c ∈ cs) : ∀ n, Pay cs n (n * c)
  | 0 => by simpa using Pay.zero
  | n + 1 => by
    have := Pay.step h (Pay.times h n)
    rw [Nat.succ_mul]
    exact this
theorem Pay.mono {cs ds : List Nat} (h : ∀ c ∈ cs, c ∈ ds) {k n : Nat} (p : Pay cs k n) : Pay ds k n := by
  induction p with
  | zero => exact .zero
  | step hc _ ih => exact .step (h _ hc) ih
/-- coins no greater than n do -/
theorem Pay.small {cs ds : List Nat} {k n : Nat} (h : ∀ c ∈ cs, c ≤ n → c ∈ ds) (p : Pay cs k n) : Pay ds k n := by
  have : ∀ m, n ≤ m → (∀ c ∈ cs, c ≤ m → c ∈ ds) → Pay ds k n := by
    clear h
    induction p with
    | zero => intro _ _ _; exact .zero
    | step hc _ ih =>
      intro m hm h
      exact .step (h _ hc (by omega)) (ih m (by omega) h)
  exact this n (Nat.le_refl _) h
theorem Pay.pos {cs : List Nat} {k n : Nat} (p : Pay cs k n) (h : 0 < n) : 0 < k := by
  cases p with
  | zero => omega
  | step _ _ => omega
/-- a coin is the last one -/
theorem Pay.cases {cs : List Nat} {k n : Nat} (p : Pay cs (k + 1) n) : ∃ c, c ∈ cs ∧ c ≤ n ∧ Pay cs k (n - c) := by
  cases p with
  | step hc q => exact ⟨_, hc, by omega, by rwa [Nat.add_sub_cancel]⟩
/-! ### the fewest -/
open Classical in
noncomputable def fw (cs : List Nat) (n : Nat) : Nat := if h : ∃ k, Pay cs k n then choose (least (p := fun k => Pay cs k n) _ (choose_spec h)) else 0
section
variable {cs : List Nat}
theorem fw_spec {n : Nat} (h : ∃ k, Pay cs k n) : Pay cs (fw cs n) n ∧ ∀ k, Pay cs k n → fw cs n ≤ k := by
  unfold fw
  rw [dif_pos h]
  exact Classical.choose_spec (least (p := fun k => Pay cs k n) _ (Classical.choose_spec h))
theorem fw_pay (h1 : 1 ∈ cs) (n : Nat) : Pay cs (fw cs n) n := (fw_spec ⟨n, Pay.ones h1 n⟩).1
theorem fw_le {k n : Nat} (p : Pay cs k n) : fw cs n ≤ k := (fw_spec ⟨k, p⟩).2 k p
theorem fw_zero : fw cs 0 = 0 := Nat.le_zero.mp (fw_le .zero)
theorem fw_add (h1 : 1 ∈ cs) (n m : Nat) : fw cs (n + m) ≤ fw cs n + fw cs m := fw_le ((fw_pay h1 n).add (fw_pay h1 m))
theorem fw_coin {c : Nat} (h : c ∈ cs) : fw cs c ≤ 1 := fw_le (.one h)
theorem fw_self (h1 : 1 ∈ cs) (n : Nat) : fw cs n ≤ n := fw_le (Pay.ones h1 n)
theorem fw_pos (h1 : 1 ∈ cs) {n : Nat} (h : 0 < n) : 0 < fw cs n := (fw_pay h1 n).pos h
/-- one coin less -/
theorem fw_step (h1 : 1 ∈ cs) {n c : Nat} (hc : c ∈ cs) (h : c ≤ n) : fw cs n ≤ fw cs (n - c) + 1 := by
  have := fw_le ((fw_pay h1 (n - c)).add (Pay.one hc))
  rwa [Nat.sub_add_cancel h] at this
/-- the last coin of a best way -/
theorem fw_ex (h1 : 1 ∈ cs) {n : Nat} (h : 0 < n) : ∃ c, c ∈ cs ∧ c ≤ n ∧ fw cs n = fw cs (n - c) + 1 := by
  have p := fw_pay h1 n
  have hp := p.pos h
  obtain ⟨k, e⟩ : ∃ k, fw cs n = k + 1 := ⟨fw cs n - 1, by omega⟩
  rw [e] at p
  obtain ⟨c, hc, hn, q⟩ := p.cases
  have a := fw_le q
  have b := fw_step h1 hc hn
  exact ⟨c, hc, hn, by omega⟩
/-- it is the minimum that the rows take -/
theorem fw_min (h1 : 1 ∈ cs) {n m : Nat} (h : 0 < n) (hm : ∃ c, c ∈ cs ∧ c ≤ n ∧ m = fw cs (n - c)) (hl : ∀ c, c ∈ cs → c ≤ n → m ≤ fw cs (n - c)) : m + 1 = fw cs n := by
  obtain ⟨c, hc, hn, e⟩ := hm
  obtain ⟨d, hd, hdn, e2⟩ := fw_ex h1 h
  have a := fw_step h1 hc hn
  have b := hl d hd hdn
  omega
theorem fw_small {ds : List Nat} (h1 : 1 ∈ cs) (h2 : 1 ∈ ds) {n : Nat} (h : ∀ c ∈ cs, c ≤ n → c ∈ ds) (h' : ∀ c ∈ ds, c ≤ n → c ∈ cs) : fw cs n = fw ds n := by
  have a := fw_le ((fw_pay h1 n).small h)
  have b := fw_le ((fw_pay h2 n).small h')
  omega
end
/-! ### the greatest first: coins from the greatest on -/
def gr : List Nat → Nat → List Nat
  | [], _ => []
  | d :: ds, n => n / d :: gr ds (n % d)
def dot : List Nat → List Nat → Nat
  | v :: vs, d :: ds => v * d + dot vs ds
  | _, _ => 0
/-- the way, as the coins rise -/
def taken (cs : List Nat) (n : Nat) : List Nat := (gr cs.reverse n).reverse
/-- how many coins -/
def gs (cs : List Nat) (n : Nat) : Nat := (taken cs n).sum
theorem gr_len : ∀ (ds : List Nat) (n : Nat), (gr ds n).length = ds.length
  | [], _ => rfl
  | d :: ds, n => by
    show (gr ds (n % d)).length + 1 = ds.length + 1
    rw [gr_len]
theorem taken_len (cs : List Nat) (n : Nat) : (taken cs n).length = cs.length := by
  unfold taken
  rw [List.length_reverse, gr_len, List.length_reverse]
theorem sum_rev : ∀ l : List Nat, l.reverse.sum = l.sum
  | [] => rfl
  | x :: r => by
    rw [List.reverse_cons, List.sum_append, sum_rev r, List.sum_cons, List.sum_cons, List.sum_nil]
    omega
theorem gs_eq (cs : List Nat) (n : Nat) : gs cs n = (gr cs.reverse n).sum := by
  unfold gs taken
  exact sum_rev _
/-- coins that fall to 1 -/
structure Fall (ds : List Nat) : Prop where
  fall : ds.Pairwise (fun a b => b < a)
  pos : ∀ d ∈ ds, 0 < d
theorem Fall.tail {d : Nat} {ds : List Nat} (h : Fall (d :: ds)) : Fall ds := ⟨(List.pairwise_cons.mp h.fall).2, fun x hx => h.pos x (List.mem_cons_of_mem _ hx)⟩
theorem Fall.lt {d : Nat} {ds : List Nat} (h : Fall (d :: ds)) : ∀ x ∈ ds, x < d := (List.pairwise_cons.mp h.fall).1
theorem gr_zero : ∀ ds : List Nat, gr ds 0 = List.replicate ds.length 0
  | [] => rfl
  | d :: ds => by
    show 0 / d :: gr ds (0 % d) = List.replicate (ds.length + 1) 0
    rw [Nat.zero_div, Nat.zero_mod, gr_zero ds]
    rfl
theorem dot_gr : ∀ (ds : List Nat), ds.getLast? = some 1 → ∀ n, dot (gr ds n) ds = n
  | [], h, _ => by cases h
  | [d], h, n => by
    have e : d = 1 := Option.some.inj h
    subst e
    show n / 1 * 1 + 0 = n
    omega
  | d :: e :: ds, h, n => by
    have h' : (e :: ds).getLast? = some 1 := by rwa [List.getLast?_cons_cons] at h
    show n / d * d + dot (gr (e :: ds) (n % d)) (e :: ds) = n
    rw [dot_gr (e :: ds) h']
    exact Nat.div_add_mod' n d
/-- a way pays -/
theorem pay_way {cs : List Nat} : ∀ (vs ds : List Nat), vs.length = ds.length → (∀ d ∈ ds, d ∈ cs) → Pay cs vs.sum (dot vs ds)
  | [], [], _, _ => .zero
  | v :: vs, d :: ds, h, hd => by
    have ih := pay_way (cs := cs) vs ds (by simpa using h) fun x hx => hd x (List.mem_cons_of_mem _ hx)
    rw [List.sum_cons]
    exact (Pay.times (hd d List.mem_cons_self) v).add ih
  | [], _ :: _, h, _ => by simp at h
  | _ :: _, [], h, _ => by simp at h
/-! ### a system -/
structure Sys (cs : List Nat) : Prop where
  one : cs.head? = some 1
  rise : cs.Pairwise (· < ·)
section
variable {cs : List Nat}
theorem Sys.mem1 (h : Sys cs) : 1 ∈ cs := List.mem_of_mem_head? (by rw [h.one]; rfl)
theorem Sys.ne (h : Sys cs) : cs ≠ [] := fun e => by
  have := h.one
  rw [e] at this
  cases this
theorem Sys.pos (h : Sys cs) : ∀ c ∈ cs, 0 < c := fun c hc => by
  obtain ⟨a, r, e⟩ := List.exists_cons_of_ne_nil h.ne
  have h1 := h.one
  have h2 := h.rise
  subst e
  have : a = 1 := Option.some.inj h1
  subst this
  rcases List.mem_cons.mp hc with e | q
  · omega
  · have := (List.pairwise_cons.mp h2).1 c q
    omega
theorem Sys.fall (h : Sys cs) : Fall cs.reverse := ⟨List.pairwise_reverse.mpr h.rise, fun d hd => h.pos d (List.mem_reverse.mp hd)⟩
theorem Sys.last1 (h : Sys cs) : cs.reverse.getLast? = some 1 := by
  rw [List.getLast?_reverse]
  exact h.one
theorem dot_taken (h : Sys cs) (n : Nat) : dot (gr cs.reverse n) cs.reverse = n := dot_gr _ h.last1 n
theorem gs_pay (h : Sys cs) (n : Nat) : Pay cs (gs cs n) n := by
  have := pay_way (cs := cs) (gr cs.reverse n) cs.reverse (gr_len _ _) fun d hd => List.mem_reverse.mp hd
  rwa [← gs_eq, dot_taken h] at this
theorem fw_le_gs (h : Sys cs) (n : Nat) : fw cs n ≤ gs cs n := fw_le (gs_pay h n)
end
/-! ### what the greatest first does, coin by coin -/
theorem gr_small : ∀ (as ds : List Nat) (n : Nat), (∀ a ∈ as, n < a) → gr (as ++ ds) n = List.replicate as.length 0 ++ gr ds n
  | [], _, _, _ => rfl
  | a :: as, ds, n, h => by
    have ha := h a List.mem_cons_self
    show n / a :: gr (as ++ ds) (n % a) = 0 :: (List.replicate as.length 0 ++ gr ds n)
    rw [Nat.div_eq_of_lt ha, Nat.mod_eq_of_lt ha, gr_small as ds n fun x hx => h x (List.mem_cons_of_mem _ hx)]
theorem sum_zeros (k : Nat) : (List.replicate k 0).sum = 0 := by
  induction k with
  | zero => rfl
  | succ k ih => rw [List.replicate_succ, List.sum_cons, ih]
/-- the greatest coin that is no greater is taken, then the rest is paid so -/
theorem gr_step {ds : List Nat} {d n : Nat} (f : Fall ds) (hd : d ∈ ds) (hn : d ≤ n) (hm : ∀ e ∈ ds, e ≤ n → e ≤ d) : (gr ds n).sum = (gr ds (n - d)).sum + 1 := by
  induction ds generalizing n with
  | nil => cases hd
  | cons a r ih =>
    have ha := f.pos a List.mem_cons_self
    by_cases q : a ≤ n
    · have e : a = d := by
        have h1 := hm a List.mem_cons_self q
        rcases List.mem_cons.mp hd with z | z
        · exact z.symm
        · have := f.lt d z
          omega
      subst e
      show n / a + (gr r (n % a)).sum = (n - a) / a + (gr r ((n - a) % a)).sum + 1
      have e1 : n / a = (n - a) / a + 1 := Nat.div_eq_sub_div ha hn
      have e2 : n % a = (n - a) % a := Nat.mod_eq_sub_mod hn
      rw [e1, e2]
      omega
    · have hd' : d ∈ r := by
        rcases List.mem_cons.mp hd with z | z
        · omega
        · exact z
      have := ih f.tail hd' hn fun e he hen => hm e (List.mem_cons_of_mem _ he) hen
      show n / a + (gr r (n % a)).sum = (n - d) / a + (gr r ((n - d) % a)).sum + 1
      rw [Nat.div_eq_of_lt (by omega), Nat.mod_eq_of_lt (by omega), Nat.div_eq_of_lt (show n - d < a by omega), Nat.mod_eq_of_lt (show n - d < a by omega)]
      omega
theorem gs_step {cs : List Nat} (h : Sys cs) {d n : Nat} (hd : d ∈ cs) (hn : d ≤ n) (hm : ∀ e ∈ cs, e ≤ n → e ≤ d) : gs cs n = gs cs (n - d) + 1 := by
  rw [gs_eq, gs_eq]
  exact gr_step h.fall (List.mem_reverse.mpr hd) hn fun e he => hm e (List.mem_reverse.mp he)
theorem gs_zero (cs : List Nat) : gs cs 0 = 0 := by
  rw [gs_eq, gr_zero]
  exact sum_zeros _
/-- some greatest coin -/
theorem big {cs : List Nat} (h1 : 1 ∈ cs) {n : Nat} (hn : 0 < n) : ∃ d, d ∈ cs ∧ d ≤ n ∧ ∀ e ∈ cs, e ≤ n → e ≤ d := by
  obtain ⟨m, ⟨hm, hmn⟩, hl⟩ := least (p := fun j => n - j ∈ cs ∧ j ≤ n) (n - 1) ⟨by rwa [show n - (n - 1) = 1 by omega], by omega⟩
  refine ⟨n - m, hm, by omega, fun e he hen => ?_⟩
  have := hl (n - e) ⟨by rwa [show n - (n - e) = e by omega], by omega⟩
  omega
theorem gs_small {cs ds : List Nat} (h : Sys cs) (h' : Sys ds) : ∀ n, (∀ c ∈ cs, c ≤ n → c ∈ ds) → (∀ c ∈ ds, c ≤ n → c ∈ cs) → gs cs n = gs ds n := by
  intro n
  induction n using Nat.strongRecOn with
  | ind n ih =>
    intro a b
    by_cases hn : n = 0
    · subst hn
      rw [gs_zero, gs_zero]
    · obtain ⟨d, hd, hdn, hm⟩ := big h.mem1 (Nat.pos_of_ne_zero hn)
      have hp := h.pos d hd
      rw [gs_step h hd hdn hm, gs_step h' (a d hd hdn) hdn fun e he hen => hm e (b e he hen) hen, ih (n - d) (by omega) (fun c hc q => a c hc (by omega)) fun c hc q => b c hc (by omega)]
theorem gs_coin {cs : List Nat} (h : Sys cs) {c : Nat} (hc : c ∈ cs) : gs cs c = 1 := by
  rw [gs_step h hc (Nat.le_refl _) fun e _ q => q, Nat.sub_self, gs_zero]
/-- below the greatest coin's next multiple -/
theorem gs_mul {cs : List Nat} (h : Sys cs) {c : Nat} (hc : c ∈ cs) (hm : ∀ e ∈ cs, e ≤ c) : ∀ (q r : Nat), r < c → gs cs (q * c + r) = q + gs cs r
  | 0, r, _ => by simp
  | q + 1, r, hr => by
    rw [gs_step h hc (by rw [Nat.succ_mul]; omega) fun e he _ => hm e he, show (q + 1) * c + r - c = q * c + r by rw [Nat.succ_mul]; omega, gs_mul h hc hm q r hr]
    omega
/-! ### faults -/
def Fault (cs : List Nat) (n : Nat) : Prop := fw cs n < gs cs n
structure First (cs : List Nat) (n : Nat) : Prop where
  fault : Fault cs n
  least : ∀ m, Fault cs m → n ≤ m
def Orderly (cs : List Nat) : Prop := ∀ n, ¬ Fault cs n
theorem first_ex {cs : List Nat} {n : Nat} (h : Fault cs n) : ∃ m, First cs m := by
  obtain ⟨m, a, b⟩ := least (p := Fault cs) n h
  exact ⟨m, a, b⟩
theorem ok_of {cs : List Nat} (h : Sys cs) {n : Nat} (q : ¬ Fault cs n) : fw cs n = gs cs n := by
  have := fw_le_gs h n
  unfold Fault at q
  omega
/-- the first fault is below the sum of the two greatest coins: c the greatest, b at least every other -/
theorem first_lt {cs : List Nat} (h : Sys cs) {n b c : Nat} (f : First cs n) (hc : c ∈ cs) (hm : ∀ e ∈ cs, e ≤ c) (hb : ∀ e ∈ cs, e ≠ c → e ≤ b) : n < b + c := by
  by_cases q : n < b + c
  · exact q
  · have q : b + c ≤ n := Nat.le_of_not_lt q
    exfalso
    have cp := h.pos c hc
    have no : ∀ m, m < n → fw cs m = gs cs m := fun m hm' => ok_of h fun z => absurd (f.least m z) (by omega)
    have hg := gs_step h hc (show c ≤ n by omega) fun e he _ => hm e he
    obtain ⟨e, he, hen, e1⟩ := fw_ex h.mem1 (show 0 < n by omega)
    have ep := h.pos e he
    have ft := f.fault
    unfold Fault at ft
    by_cases ec : e = c
    · subst ec
      have := no (n - e) (by omega)
      omega
    · have hb' := hb e he ec
      have e2 := no (n - e) (by omega)
      have e3 := gs_step h hc (show c ≤ n - e by omega) fun x hx _ => hm x hx
      have e4 := no (n - e - c) (by omega)
      have e5 := no (n - c) (by omega)
      have e6 := fw_step h.mem1 he (show e ≤ n - c by omega)
      rw [show n - c - e = n - e - c by omega] at e6
      omega
end Coin
namespace Coin
/-- the fewest coins of each sum to n -/
noncomputable def row (cs : List Nat) (n : Nat) : List Nat := (List.range (n + 1)).map (fw cs)
theorem row_zero (cs : List Nat) : row cs 0 = [0] := by
  show [fw cs 0] = [0]
  rw [fw_zero]
theorem row_succ (cs : List Nat) (n : Nat) : row cs (n + 1) = row cs n ++ [fw cs (n + 1)] := by
  unfold row
  rw [List.range_succ (n := n + 1), List.map_append]
  rfl
theorem row_len (cs : List Nat) (n : Nat) : (row cs n).length = n + 1 := by
  unfold row
  rw [List.length_map, List.length_range]
theorem row_get {cs : List Nat} {n i : Nat} (h : i ≤ n) : (row cs n)[i]? = some (fw cs i) := by
  unfold row
  rw [List.getElem?_map, List.getElem?_range (by omega)]
  rfl
/-- one turn of the greatest first: the way so far -/
theorem gr_append : ∀ (as bs : List Nat) (n : Nat), gr (as ++ bs) n = gr as n ++ gr bs (as.foldl (fun r d => r % d) n)
  | [], _, _ => rfl
  | a :: as, bs, n => by
    show n / a :: gr (as ++ bs) (n % a) = n / a :: (gr as (n % a) ++ gr bs (as.foldl (fun r d => r % d) (n % a)))
    rw [gr_append as bs]
end Coin
namespace Coin
/-- behind i turns: the way so far, what is left -/
def tkF (cs : List Nat) (n i : Nat) : List Nat := List.replicate (cs.length - i) 0 ++ (gr (cs.reverse.take i) n).reverse
def tkR (cs : List Nat) (n i : Nat) : Nat := (cs.reverse.take i).foldl (fun r d => r % d) n
theorem tkF_zero (cs : List Nat) (n : Nat) : tkF cs n 0 = cs.map fun _ => 0 := by
  unfold tkF
  rw [List.take_zero, Nat.sub_zero]
  show List.replicate cs.length 0 ++ [] = _
  rw [List.append_nil, List.map_const']
theorem tkF_end (cs : List Nat) (n : Nat) : tkF cs n cs.length = taken cs n := by
  unfold tkF taken
  rw [Nat.sub_self, List.take_of_length_le (by rw [List.length_reverse]; exact Nat.le_refl _)]
  rfl
theorem tkF_len {cs : List Nat} {n i : Nat} (h : i ≤ cs.length) : (tkF cs n i).length = cs.length := by
  unfold tkF
  rw [List.length_append, List.length_replicate, List.length_reverse, gr_len, List.length_take, List.length_reverse]
  omega
theorem rev_at {cs : List Nat} {i : Nat} (h : i < cs.length) : cs.reverse[i]? = cs[cs.length - 1 - i]? := by
  rw [List.getElem?_reverse h]
theorem tk_take {cs : List Nat} {i c : Nat} (h : i < cs.length) (hc : cs[cs.length - 1 - i]? = some c) : cs.reverse.take (i + 1) = cs.reverse.take i ++ [c] := by
  rw [List.take_add_one, rev_at h, hc]
  rfl
theorem tkR_succ {cs : List Nat} {n i c : Nat} (h : i < cs.length) (hc : cs[cs.length - 1 - i]? = some c) : tkR cs n (i + 1) = tkR cs n i % c := by
  unfold tkR
  rw [tk_take h hc, List.foldl_append]
  rfl
theorem tkF_succ {cs : List Nat} {n i c : Nat} (h : i < cs.length) (hc : cs[cs.length - 1 - i]? = some c) : tkF cs n (i + 1) = (tkF cs n i).set (cs.length - 1 - i) (tkR cs n i / c) := by
  unfold tkF
  rw [tk_take h hc, gr_append, List.reverse_append, show cs.length - i = cs.length - (i + 1) + 1 by omega, List.replicate_succ', List.append_assoc]
  rw [List.set_append_right _ _ (by rw [List.length_replicate]; omega), List.length_replicate, show cs.length - 1 - i - (cs.length - (i + 1)) = 0 by omega]
  rfl
end Coin
namespace Coin
/-- one coin of the greatest kind less: by the coins' places -/
theorem gr_at {ds : List Nat} (f : Fall ds) {n d j : Nat} (hj : ds[j]? = some d) (hn : d ≤ n) (hm : ∀ e ∈ ds, e ≤ n → e ≤ d) (k : Nat) : (gr ds n).getD k 0 = (gr ds (n - d)).getD k 0 + if k = j then 1 else 0 := by
  induction ds generalizing n j k with
  | nil => simp at hj
  | cons a r ih =>
    have ha := f.pos a List.mem_cons_self
    have hd := List.mem_of_getElem? hj
    by_cases q : a ≤ n
    · have h1 := hm a List.mem_cons_self q
      have e : a = d := by
        rcases List.mem_cons.mp hd with z | z
        · exact z.symm
        · have := f.lt d z
          omega
      subst e
      have hj0 : j = 0 := by
        cases j with
        | zero => rfl
        | succ j =>
          have : a ∈ r := List.mem_of_getElem? (by simpa using hj)
          have := f.lt a this
          omega
      subst hj0
      have e1 : n / a = (n - a) / a + 1 := Nat.div_eq_sub_div ha hn
      have e2 : n % a = (n - a) % a := Nat.mod_eq_sub_mod hn
      show (n / a :: gr r (n % a)).getD k 0 = ((n - a) / a :: gr r ((n - a) % a)).getD k 0 + _
      rw [e1, e2]
      cases k with
      | zero => rfl
      | succ k => rfl
    · cases j with
      | zero =>
        have : a = d := by simpa using hj
        omega
      | succ j =>
        have hj' : r[j]? = some d := by simpa using hj
        show (n / a :: gr r (n % a)).getD k 0 = ((n - d) / a :: gr r ((n - d) % a)).getD k 0 + _
        rw [Nat.div_eq_of_lt (by omega), Nat.mod_eq_of_lt (by omega), Nat.div_eq_of_lt (show n - d < a by omega), Nat.mod_eq_of_lt (show n - d < a by omega)]
        cases k with
        | zero => simp
        | succ k =>
          have := ih f.tail hj' hn (fun e he hen => hm e (List.mem_cons_of_mem _ he) hen) k
          simpa using this
theorem getD_rev {l : List Nat} {k : Nat} (h : k < l.length) : l.reverse.getD k 0 = l.getD (l.length - 1 - k) 0 := by
  rw [List.getD_eq_getElem?_getD, List.getElem?_reverse h, List.getD_eq_getElem?_getD]
theorem taken_at {cs : List Nat} (h : Sys cs) {n c j : Nat} (hj : cs[j]? = some c) (hn : c ≤ n) (hm : ∀ e ∈ cs, e ≤ n → e ≤ c) {k : Nat} (hk : k < cs.length) : (taken cs n).getD k 0 = (taken cs (n - c)).getD k 0 + if k = j then 1 else 0 := by
  have hl := fun m => gr_len cs.reverse m
  have hl2 := List.length_reverse (as := cs)
  have hjl : j < cs.length := (List.getElem?_eq_some_iff.mp hj).1
  unfold taken
  rw [getD_rev (by rw [hl, hl2]; exact hk), getD_rev (by rw [hl, hl2]; exact hk), hl, hl, hl2]
  have hr : cs.reverse[cs.length - 1 - j]? = some c := by
    rw [List.getElem?_reverse (by omega), show cs.length - 1 - (cs.length - 1 - j) = j by omega, hj]
  rw [gr_at h.fall hr hn (fun e he => hm e (List.mem_reverse.mp he))]
  congr 1
  by_cases e : k = j
  · subst e; simp
  · rw [if_neg e, if_neg (by omega)]
theorem taken_zero (cs : List Nat) : taken cs 0 = List.replicate cs.length 0 := by
  unfold taken
  rw [gr_zero, List.length_reverse, List.reverse_replicate]
end Coin
namespace Coin
/-! ### the way by the fewest -/
/-- how often the coin c is taken of n, while the fewest fall by one -/
noncomputable def bfK (cs : List Nat) (c n : Nat) : Nat :=
  if h : 0 < c ∧ c ≤ n ∧ fw cs (n - c) + 1 = fw cs n then bfK cs c (n - c) + 1 else 0
termination_by n
decreasing_by omega
theorem bfK_yes {cs : List Nat} {c n : Nat} (h0 : 0 < c) (h1 : c ≤ n) (h2 : fw cs (n - c) + 1 = fw cs n) : bfK cs c n = bfK cs c (n - c) + 1 := by
  rw [bfK, dif_pos ⟨h0, h1, h2⟩]
theorem bfK_no {cs : List Nat} {c n : Nat} (h : ¬ (c ≤ n ∧ fw cs (n - c) + 1 = fw cs n)) : bfK cs c n = 0 := by
  rw [bfK, dif_neg fun z => h z.2]
/-- behind it the coin does not lessen the fewest -/
theorem bfK_end {cs : List Nat} {c : Nat} (h0 : 0 < c) : ∀ n, bfK cs c n * c ≤ n ∧ fw cs (n - bfK cs c n * c) + bfK cs c n = fw cs n ∧ ¬ (c ≤ n - bfK cs c n * c ∧ fw cs (n - bfK cs c n * c - c) + 1 = fw cs (n - bfK cs c n * c)) := by
  intro n
  induction n using Nat.strongRecOn with
  | ind n ih =>
    by_cases h : c ≤ n ∧ fw cs (n - c) + 1 = fw cs n
    · obtain ⟨a, b, d⟩ := ih (n - c) (by omega)
      rw [bfK_yes h0 h.1 h.2, Nat.succ_mul]
      rw [show n - (bfK cs c (n - c) * c + c) = n - c - bfK cs c (n - c) * c by omega]
      exact ⟨by omega, by omega, d⟩
    · rw [bfK_no h, Nat.zero_mul, Nat.sub_zero]
      exact ⟨Nat.zero_le _, rfl, h⟩
noncomputable def bf (cs : List Nat) : List Nat → Nat → List Nat
  | [], _ => []
  | d :: ds, n => bfK cs d n :: bf cs ds (n - bfK cs d n * d)
noncomputable def bfLeft (cs : List Nat) (as : List Nat) (n : Nat) : Nat := as.foldl (fun r d => r - bfK cs d r * d) n
noncomputable def byFew (cs : List Nat) (n : Nat) : List Nat := (bf cs cs.reverse n).reverse
theorem bf_len (cs : List Nat) : ∀ (ds : List Nat) (n : Nat), (bf cs ds n).length = ds.length
  | [], _ => rfl
  | d :: ds, n => by
    show (bf cs ds _).length + 1 = ds.length + 1
    rw [bf_len cs ds]
theorem byFew_len (cs : List Nat) (n : Nat) : (byFew cs n).length = cs.length := by
  unfold byFew
  rw [List.length_reverse, bf_len, List.length_reverse]
theorem bf_append (cs : List Nat) : ∀ (as bs : List Nat) (n : Nat), bf cs (as ++ bs) n = bf cs as n ++ bf cs bs (bfLeft cs as n)
  | [], _, _ => rfl
  | a :: as, bs, n => by
    show bfK cs a n :: bf cs (as ++ bs) (n - bfK cs a n * a) = bfK cs a n :: (bf cs as (n - bfK cs a n * a) ++ bf cs bs (bfLeft cs as (n - bfK cs a n * a)))
    rw [bf_append cs as bs]
/-- what is left of n behind coins: what is paid, how many, and none of these coins lessens it -/
theorem bfLeft_spec {cs : List Nat} (h1 : 1 ∈ cs) : ∀ (as : List Nat), (∀ a ∈ as, 0 < a ∧ a ∈ cs) → ∀ n, dot (bf cs as n) as + bfLeft cs as n = n ∧ (bf cs as n).sum + fw cs (bfLeft cs as n) = fw cs n ∧ ∀ a ∈ as, ¬ (a ≤ bfLeft cs as n ∧ fw cs (bfLeft cs as n - a) + 1 = fw cs (bfLeft cs as n))
  | [], _, n => ⟨Nat.zero_add _, Nat.zero_add _, fun _ h => by cases h⟩
  | a :: as, h, n => by
    obtain ⟨a0, ac⟩ := h a List.mem_cons_self
    obtain ⟨e1, e2, e3⟩ := bfK_end (cs := cs) a0 n
    obtain ⟨i1, i2, i3⟩ := bfLeft_spec h1 as (fun x hx => h x (List.mem_cons_of_mem _ hx)) (n - bfK cs a n * a)
    show bfK cs a n * a + dot (bf cs as (n - bfK cs a n * a)) as + bfLeft cs as (n - bfK cs a n * a) = n ∧ (bfK cs a n :: bf cs as (n - bfK cs a n * a)).sum + fw cs (bfLeft cs as (n - bfK cs a n * a)) = fw cs n ∧ _
    rw [List.sum_cons]
    refine ⟨by omega, by omega, fun x hx => ?_⟩
    rcases List.mem_cons.mp hx with e | hx
    · subst e
      rintro ⟨q1, q2⟩
      -- the coin would have lessened what was left ahead of the smaller coins, too
      generalize hL0 : n - bfK cs x n * x = L0 at *
      have hL : bfLeft cs (x :: as) n = bfLeft cs as L0 := by
        show bfLeft cs as (n - bfK cs x n * x) = _
        rw [hL0]
      rw [hL] at q1 q2
      have hle : bfLeft cs as L0 ≤ L0 := by omega
      have hp : Pay cs (bf cs as L0).sum (dot (bf cs as L0) as) := pay_way _ _ (bf_len _ _ _) fun d hd => (h d (List.mem_cons_of_mem _ hd)).2
      have s1 : fw cs (L0 - x) ≤ fw cs (bfLeft cs as L0 - x) + (bf cs as L0).sum := by
        have := fw_le ((fw_pay h1 (bfLeft cs as L0 - x)).add hp)
        rwa [show bfLeft cs as L0 - x + dot (bf cs as L0) as = L0 - x by omega] at this
      have s2 := fw_step h1 ac (show x ≤ L0 by omega)
      exact e3 ⟨by omega, by omega⟩
    · exact i3 x hx
theorem bfLeft_zero {cs : List Nat} (h : Sys cs) (n : Nat) : bfLeft cs cs.reverse n = 0 := by
  obtain ⟨_, _, c⟩ := bfLeft_spec h.mem1 cs.reverse (fun a ha => ⟨h.pos a (List.mem_reverse.mp ha), List.mem_reverse.mp ha⟩) n
  by_cases e : bfLeft cs cs.reverse n = 0
  · exact e
  · obtain ⟨d, hd, hdn, he⟩ := fw_ex h.mem1 (Nat.pos_of_ne_zero e)
    exact absurd ⟨hdn, he.symm⟩ (c d (List.mem_reverse.mpr hd))
theorem byFew_dot {cs : List Nat} (h : Sys cs) (n : Nat) : dot (bf cs cs.reverse n) cs.reverse = n := by
  have := (bfLeft_spec h.mem1 cs.reverse (fun a ha => ⟨h.pos a (List.mem_reverse.mp ha), List.mem_reverse.mp ha⟩) n).1
  rw [bfLeft_zero h] at this
  exact this
theorem byFew_sum {cs : List Nat} (h : Sys cs) (n : Nat) : (byFew cs n).sum = fw cs n := by
  have := (bfLeft_spec h.mem1 cs.reverse (fun a ha => ⟨h.pos a (List.mem_reverse.mp ha), List.mem_reverse.mp ha⟩) n).2.1
  rw [bfLeft_zero h, fw_zero] at this
  unfold byFew
  rw [sum_rev]
  exact this
/-- behind i turns -/
noncomputable def bfF (cs : List Nat) (n i : Nat) : List Nat := List.replicate (cs.length - i) 0 ++ (bf cs (cs.reverse.take i) n).reverse
noncomputable def bfR (cs : List Nat) (n i : Nat) : Nat := bfLeft cs (cs.reverse.take i) n
theorem bfF_zero (cs : List Nat) (n : Nat) : bfF cs n 0 = cs.map fun _ => 0 := by
  unfold bfF
  rw [List.take_zero, Nat.sub_zero]
  show List.replicate cs.length 0 ++ [] = _
  rw [List.append_nil, List.map_const']
theorem bfF_end (cs : List Nat) (n : Nat) : bfF cs n cs.length = byFew cs n := by
  unfold bfF byFew
  rw [Nat.sub_self, List.take_of_length_le (by rw [List.length_reverse]; exact Nat.le_refl _)]
  rfl
theorem bfF_len {cs : List Nat} {n i : Nat} (h : i ≤ cs.length) : (bfF cs n i).length = cs.length := by
  unfold bfF
  rw [List.length_append, List.length_replicate, List.length_reverse, bf_len, List.length_take, List.length_reverse]
  omega
theorem bfR_zero (cs : List Nat) (n : Nat) : bfR cs n 0 = n := rfl
theorem bfR_succ {cs : List Nat} {n i c : Nat} (h : i < cs.length) (hc : cs[cs.length - 1 - i]? = some c) : bfR cs n (i + 1) = bfR cs n i - bfK cs c (bfR cs n i) * c := by
  unfold bfR bfLeft
  rw [tk_take h hc, List.foldl_append]
  rfl
theorem bfF_succ {cs : List Nat} {n i c : Nat} (h : i < cs.length) (hc : cs[cs.length - 1 - i]? = some c) : bfF cs n (i + 1) = (bfF cs n i).set (cs.length - 1 - i) (bfK cs c (bfR cs n i)) := by
  unfold bfF
  rw [tk_take h hc, bf_append, List.reverse_append, show cs.length - i = cs.length - (i + 1) + 1 by omega, List.replicate_succ', List.append_assoc]
  rw [List.set_append_right _ _ (by rw [List.length_replicate]; omega), List.length_replicate, show cs.length - 1 - i - (cs.length - (i + 1)) = 0 by omega]
  rfl
theorem bfF_at {cs : List Nat} {n i : Nat} (h : i < cs.length) : (bfF cs n i)[cs.length - 1 - i]? = some 0 := by
  unfold bfF
  rw [List.getElem?_append_left (by rw [List.length_replicate]; omega), List.getElem?_replicate, if_pos (by omega)]
/-- the place of a coin in the whole way -/
theorem byFew_at {cs : List Nat} {n i c : Nat} (h : i < cs.length) (hc : cs[cs.length - 1 - i]? = some c) : (byFew cs n)[cs.length - 1 - i]? = some (bfK cs c (bfR cs n i)) := by
  unfold byFew bfR
  have hl := bf_len cs cs.reverse n
  rw [List.length_reverse] at hl
  rw [List.getElem?_reverse (by omega), hl, show cs.length - 1 - (cs.length - 1 - i) = i by omega]
  have e : cs.reverse = cs.reverse.take i ++ (c :: cs.reverse.drop (i + 1)) := by
    have := List.take_append_drop (i + 1) cs.reverse
    rw [tk_take h hc, List.append_assoc] at this
    exact this.symm
  have e2 : (cs.reverse.take i).length = i := by rw [List.length_take, List.length_reverse]; omega
  have e3 : bf cs cs.reverse n = bf cs (cs.reverse.take i ++ (c :: cs.reverse.drop (i + 1))) n := congrArg (fun z => bf cs z n) e
  rw [e3, bf_append, List.getElem?_append_right (by rw [bf_len, e2]; exact Nat.le_refl _), bf_len, e2, Nat.sub_self]
  rfl
/-- the sum that a way pays, as the coins rise -/
theorem dot_append : ∀ (as bs cs ds : List Nat), as.length = cs.length → dot (as ++ bs) (cs ++ ds) = dot as cs + dot bs ds
  | [], _, [], _, _ => (Nat.zero_add _).symm
  | a :: as, bs, c :: cs, ds, h => by
    show a * c + dot (as ++ bs) (cs ++ ds) = a * c + dot as cs + dot bs ds
    rw [dot_append as bs cs ds (by simpa using h)]
    omega
  | [], _, _ :: _, _, h => by simp at h
  | _ :: _, _, [], _, h => by simp at h
theorem dot_rev : ∀ (as cs : List Nat), as.length = cs.length → dot as.reverse cs.reverse = dot as cs
  | [], [], _ => rfl
  | a :: as, c :: cs, h => by
    rw [List.reverse_cons, List.reverse_cons, dot_append _ _ _ _ (by simpa using h), dot_rev as cs (by simpa using h)]
    show dot as cs + (a * c + 0) = a * c + dot as cs
    omega
  | [], _ :: _, h => by simp at h
  | _ :: _, [], h => by simp at h
theorem dot_zip : ∀ (as cs : List Nat), (List.zipWith (fun a c => a * c) as cs).sum = dot as cs
  | [], _ => by simp [dot]
  | _ :: _, [] => by simp [dot]
  | a :: as, c :: cs => by
    rw [List.zipWith_cons_cons, List.sum_cons, dot_zip as cs]
    rfl
theorem byFew_pays {cs : List Nat} (h : Sys cs) (n : Nat) : dot (byFew cs n) cs = n := by
  rw [← dot_rev _ _ (byFew_len cs n)]
  unfold byFew
  rw [List.reverse_reverse, byFew_dot h]
theorem taken_pays {cs : List Nat} (h : Sys cs) (n : Nat) : dot (taken cs n) cs = n := by
  rw [← dot_rev _ _ (taken_len cs n)]
  unfold taken
  rw [List.reverse_reverse, dot_taken h]
end Coin

namespace Coin
open PySem PySem.Spec PyProof.Rows L2 Evl
theorem ivs_int (ns : List Nat) : ivs ns = (ns.map fun n : Nat => (n : Int)).map V.int := by
  unfold ivs
  rw [List.map_map]
  rfl
theorem isum : ∀ ns : List Nat, (ns.map fun n : Nat => (n : Int)).sum = ((ns.sum : Nat) : Int)
  | [] => rfl
  | n :: r => by
    rw [List.map_cons, List.sum_cons, List.sum_cons, isum r]
    omega
theorem ivs_len (ns : List Nat) : (ivs ns).length = ns.length := List.length_map ..
theorem ivs_get {ns : List Nat} {i : Nat} {n : Nat} (h : ns[i]? = some n) : (ivs ns)[i]? = some (iv n) := by
  unfold ivs
  rw [List.getElem?_map, h]
  rfl
theorem at_ivs {ns : List Nat} {i n : Nat} (h : ns[i]? = some n) : atI (ivs ns) (i : Int) = some (iv n) := atI_nat (ivs_get h)
section
variable {K : PySem.W.Frag} {σ : L2.St} {H H' : Hp} {ta tb te tc tl : TE} {t : TT} {x y z v : V} {D : Ends} {tu tz : TS}
/-! ### built-ins of a tuple, a list -/
theorem ev_lenT {xs : List V} (h : EvSt te σ H xs) : Ev (tCB (rLenS K) (tCons te tNil)) σ H (iv xs.length) := fun H1 e Q q => h H1 e _ fun a H2 e2 ha => ⟨a, xs, rfl, .inr (st_of ha), q H2 e2⟩
theorem ev_lenL {xs : List V} (h : EvSl K te σ H xs) : Ev (tCB (rLenS K) (tCons te tNil)) σ H (iv xs.length) := fun H1 e Q q => h H1 e _ fun a H2 e2 ha => ⟨a, xs, rfl, .inl ha, q H2 e2⟩
theorem ev_sumT {ns : List Nat} (h : EvSt te σ H (ivs ns)) : Ev (tCB (rSumT K) (tCons te tNil)) σ H (iv ns.sum) := fun H1 e Q q => h H1 e _ fun a H2 e2 ha => ⟨a, ns.map fun n : Nat => (n : Int), rfl, by rw [← ivs_int]; exact st_of ha, by rw [isum]; exact q H2 e2⟩
theorem ev_sumL {ns : List Nat} (h : EvSl K te σ H (ivs ns)) : Ev (tCB (rSum K) (tCons te tNil)) σ H (iv ns.sum) := fun H1 e Q q => h H1 e _ fun a H2 e2 ha => ⟨a, ns.map fun n : Nat => (n : Int), rfl, by rw [← ivs_int]; exact ha, by rw [isum]; exact q H2 e2⟩
theorem ev_min {ns : List Nat} {m : Nat} (h : EvSl K te σ H (ivs ns)) (hm : m ∈ ns) (hl : ∀ y ∈ ns, m ≤ y) : Ev (tCB (rMin K) (tCons te tNil)) σ H (iv m) := fun H1 e Q q => h H1 e _ fun a H2 e2 ha =>
  ⟨a, ns.map fun n : Nat => (n : Int), rfl, by rw [← ivs_int]; exact ha, by rw [List.length_map]; exact List.length_pos_of_mem hm, fun j hj hjl => by
    obtain ⟨n, hn, rfl⟩ := List.mem_map.mp hj
    have h1 := hl n hn
    have h2 := hjl (m : Int) (List.mem_map.mpr ⟨m, hm, rfl⟩)
    have : n = m := by omega
    subst this
    exact q H2 e2⟩
theorem ev_max {ns : List Nat} {m : Nat} (h : EvSl K te σ H (ivs ns)) (hm : m ∈ ns) (hl : ∀ y ∈ ns, y ≤ m) : Ev (tCB (rMax K) (tCons te tNil)) σ H (iv m) := fun H1 e Q q => h H1 e _ fun a H2 e2 ha =>
  ⟨a, ns.map fun n : Nat => (n : Int), rfl, by rw [← ivs_int]; exact ha, by rw [List.length_map]; exact List.length_pos_of_mem hm, fun j hj hjl => by
    obtain ⟨n, hn, rfl⟩ := List.mem_map.mp hj
    have h1 := hl n hn
    have h2 := hjl (m : Int) (List.mem_map.mpr ⟨m, hm, rfl⟩)
    have : n = m := by omega
    subst this
    exact q H2 e2⟩
theorem ev_ixL {xs : List V} {i : Int} (ha : EvSl K ta σ H xs) (hb : Ev tb σ H (.int i)) (hi : atI xs i = some v) : Ev (tOp (rIxL K) ta tb) σ H v := fun H1 e Q q => ha H1 e _ fun a H2 e2 h2 =>
  hb H2 (e.trans e2) _ fun H3 e3 => ⟨a, xs, i, v, rfl, rfl, ex_l e3 h2, hi, q H3 (e2.trans e3)⟩
theorem ev_ixT {xs : List V} {i : Int} (ha : EvSt ta σ H xs) (hb : Ev tb σ H (.int i)) (hi : atI xs i = some v) : Ev (tOp (rIxT K) ta tb) σ H v := fun H1 e Q q => ha H1 e _ fun a H2 e2 h2 =>
  hb H2 (e.trans e2) _ fun H3 e3 => ⟨a, xs, i, v, rfl, rfl, st_of (e3 _ _ h2), hi, q H3 (e2.trans e3)⟩
/-- tuple(xs), list(t) -/
def rTupS (K : PySem.W.Frag) : List V → Hp → VK → Prop := fun xs H Q => ∃ p ys, xs = [.ref p] ∧ ((SqL K H p ys ∧ ∀ l, H l = none → Q (.ref l) (upd H l (.tup ys))) ∨ (SqT K H p ys ∧ Q (.ref p) H))
theorem est_tup {xs : List V} (h : EvSl K te σ H xs) : EvSt (tCB (rTupS K) (tCons te tNil)) σ H xs := fun H1 e Q q => h H1 e _ fun a H2 e2 ha => ⟨a, xs, rfl, .inl ⟨ha, fun l hl => q l _ (e2.trans (Ex.new hl)) upd_same⟩⟩
theorem el_ofT {xs : List V} (h : EvSt te σ H xs) : EvL (tCB (rListS K) (tCons te tNil)) σ H xs := fun H1 e Q q => h H1 e _ fun a H2 e2 ha => ⟨a, xs, rfl, .inr (st_of ha), fun l hl => q l _ (fresh_back e2 hl) (e2.trans (Ex.new hl)) upd_same⟩
/-- a tuple's slice, two tuples together -/
theorem est_slA {xs : List V} {lo hi : Option Int} {t1 t2 : TO} (h : EvSt te σ H xs) (h1 : EvO t1 σ H lo) (h2 : EvO t2 σ H hi) : EvSt (tSl (rSlA K) te t1 t2) σ H (cutV xs lo hi) := fun H1 e Q q => h H1 e _ fun a H2 e2 ha =>
  h1 H2 (e.trans e2) _ fun H3 e3 => h2 H3 ((e.trans e2).trans e3) _ fun H4 e4 => ⟨a, xs, rfl, st_of (e4 _ _ (e3 _ _ ha)), fun ⟨z1, z2⟩ => by
    refine q a H4 ((e2.trans e3).trans e4) ?_
    have : cutV xs lo hi = xs := by
      unfold cutV
      rw [z1, z2, List.drop_zero, Nat.sub_zero]
      exact List.take_length
    rw [this]
    exact e4 _ _ (e3 _ _ ha), fun _ p hp => q p _ ((e2.trans e3).trans (e4.trans (Ex.new hp))) upd_same⟩
theorem est_cat {xs ys : List V} (ha : EvSt ta σ H xs) (hb : EvSt tb σ H ys) (hz : xs.length + ys.length ≤ 100000) : EvSt (tOp (rCatA K) ta tb) σ H (xs ++ ys) := fun H1 e Q q => ha H1 e _ fun a H2 e2 h2 => hb H2 (e.trans e2) _ fun b H3 e3 h3 =>
  ⟨a, b, xs, ys, rfl, rfl, st_of (e3 _ _ h2), st_of h3, sz_of hz, fun z => q b H3 (e2.trans e3) (by rw [z]; exact h3), fun _ z => q a H3 (e2.trans e3) (by rw [z, List.append_nil]; exact e3 _ _ h2), fun _ _ p hp => q p _ ((e2.trans e3).trans (Ex.new hp)) upd_same⟩
theorem est_disp {ts : TA} {vs : List V} (h : EvA ts σ H vs) (hl : vs.length ≤ 100000) : EvSt (tTup ts) σ H vs := est_u (eu_tup h hl)
/-! ### calls -/
def SpSt (sp : Sp) (vs : List V) (H : Hp) (xs : List V) : Prop := ∀ H1, Ex H H1 → ∀ Q : VK, (∀ p H2, Ex H1 H2 → H2 p = some (.tup xs) → Q (.ref p) H2) → ∀ E : XK, sp vs H1 Q E
theorem est_call {sp : Sp} {vs xs : List V} {E : XK} {ts : TA} (h : EvA ts σ H vs) (hs : SpSt sp vs H xs) : EvSt (tCall sp [] E ts) σ H xs := fun H1 e Q q => h H1 e _ fun H2 e2 => by
  rw [List.append_nil]
  exact hs H2 (e.trans e2) Q (fun p H3 e3 h3 => q p H3 (e2.trans e3) h3) E
theorem evc {sp : Sp} {vs : List V} {E : XK} {ts : TA} (h : EvA ts σ H vs) (hs : SpV sp vs H z) : Ev (tCall sp [] E ts) σ H z := ev_call h (by rw [List.append_nil]; exact hs)
theorem elc {sp : Sp} {vs xs : List V} {E : XK} {ts : TA} (h : EvA ts σ H vs) (hs : SpL sp vs H xs) : EvL (tCall sp [] E ts) σ H xs := el_call h (by rw [List.append_nil]; exact hs)
/-- arguments, one of them some tuple, some list -/
def EvAr (ts : TA) (σ : L2.St) (H : Hp) (φ : List V → Hp → Prop) : Prop := ∀ H1, Ex H H1 → ∀ Q : List V → Hp → Prop, (∀ vs H2, Ex H1 H2 → φ vs H2 → Q vs H2) → ts σ H1 Q
theorem ear_of {ts : TA} {vs : List V} (h : EvA ts σ H vs) : EvAr ts σ H (fun ws _ => ws = vs) := fun H1 e Q q => h H1 e Q fun H2 e2 => q _ _ e2 rfl
theorem ear_tup {ts : TA} {xs : List V} {vs : List V} (h : EvSt te σ H xs) (hr : EvA ts σ H vs) : EvAr (tCons te ts) σ H (fun ws H2 => ∃ a, ws = .ref a :: vs ∧ H2 a = some (.tup xs)) := fun H1 e Q q => h H1 e _ fun a H2 e2 ha =>
  hr H2 (e.trans e2) _ fun H3 e3 => q _ H3 (e2.trans e3) ⟨a, rfl, e3 _ _ ha⟩
theorem ear_lst {ts : TA} {xs : List V} {vs : List V} (h : EvSl K te σ H xs) (hr : EvA ts σ H vs) : EvAr (tCons te ts) σ H (fun ws H2 => ∃ a, ws = .ref a :: vs ∧ SqL K H2 a xs) := fun H1 e Q q => h H1 e _ fun a H2 e2 ha =>
  hr H2 (e.trans e2) _ fun H3 e3 => q _ H3 (e2.trans e3) ⟨a, rfl, ex_l e3 ha⟩
theorem evcT {sp : Sp} {vs xs : List V} {E : XK} {ts : TA} (h : EvSt te σ H xs) (hr : EvA ts σ H vs) (hs : ∀ a H1, Ex H H1 → H1 a = some (.tup xs) → SpV sp (.ref a :: vs) H1 z) : Ev (tCall sp [] E (tCons te ts)) σ H z := fun H1 e Q q =>
  h H1 e _ fun a H2 e2 ha => hr H2 (e.trans e2) _ fun H3 e3 => by
    show sp ((.ref a :: vs) ++ []) H3 Q E
    rw [List.append_nil]
    exact hs a H3 ((e.trans e2).trans e3) (e3 _ _ ha) H3 (Ex.refl _) Q (fun H4 e4 => q H4 ((e2.trans e3).trans e4)) E
theorem estcT {sp : Sp} {vs xs ys : List V} {E : XK} {ts : TA} (h : EvSt te σ H xs) (hr : EvA ts σ H vs) (hs : ∀ a H1, Ex H H1 → H1 a = some (.tup xs) → SpSt sp (.ref a :: vs) H1 ys) : EvSt (tCall sp [] E (tCons te ts)) σ H ys := fun H1 e Q q =>
  h H1 e _ fun a H2 e2 ha => hr H2 (e.trans e2) _ fun H3 e3 => by
    show sp ((.ref a :: vs) ++ []) H3 Q E
    rw [List.append_nil]
    exact hs a H3 ((e.trans e2).trans e3) (e3 _ _ ha) H3 (Ex.refl _) Q (fun p H4 e4 h4 => q p H4 ((e2.trans e3).trans e4) h4) E
theorem elcT {sp : Sp} {vs xs ys : List V} {E : XK} {ts : TA} (h : EvSt te σ H xs) (hr : EvA ts σ H vs) (hs : ∀ a H1, Ex H H1 → H1 a = some (.tup xs) → SpL sp (.ref a :: vs) H1 ys) : EvL (tCall sp [] E (tCons te ts)) σ H ys := fun H1 e Q q =>
  h H1 e _ fun a H2 e2 ha => hr H2 (e.trans e2) _ fun H3 e3 => by
    show sp ((.ref a :: vs) ++ []) H3 Q E
    rw [List.append_nil]
    exact hs a H3 ((e.trans e2).trans e3) (e3 _ _ ha) H3 (Ex.refl _) Q (fun p H4 hp e4 h4 => q p H4 (fresh_back (e2.trans e3) hp) ((e2.trans e3).trans e4) h4) E
/-! ### statements -/
theorem s_asgT {i : Nat} {xs : List V} (h : EvSt te σ H xs) (k : ∀ a H1, Ex H H1 → H1 a = some (.tup xs) → D.nx (σ.set i (some (.ref a))) H1) : tAsg te (gName i) D σ H := h H (Ex.refl H) _ fun a H1 e ha => k a H1 e ha
theorem q_asgT {i : Nat} {xs : List V} (h : EvSt te σ H xs) (k : ∀ a H1, Ex H H1 → H1 a = some (.tup xs) → tz D (σ.set i (some (.ref a))) H1) : tSeq (tAsg te (gName i)) tz D σ H := s_asgT (D := { D with nx := tz D }) h k
theorem s_retT {xs : List V} (h : EvSt te σ H xs) (k : ∀ a H1, Ex H H1 → H1 a = some (.tup xs) → D.rt (.ref a) H1) : tRet te D σ H := h H (Ex.refl H) _ fun a H1 e ha => k a H1 e ha
/-- range(lo, hi, c) -/
theorem s_forRC {ts : TA} {j : Nat} {lo hi c : Int} {n : Nat} (h : EvA ts σ H [.int lo, .int hi, .int c]) (hn : RgC lo hi c n) (Pv : Nat → L2.St → Hp → Prop) (h0 : ∀ H1, Ex H H1 → Pv 0 σ H1)
    (hs : ∀ (i : Nat) σ' H', i < n → Pv i σ' H' → tu { D with nx := Pv (i + 1), ct := Pv (i + 1), bk := D.nx } (σ'.set j (some (.int (lo + (i : Int) * c)))) H') (hd : ∀ σ' H', Pv n σ' H' → D.nx σ' H') : tFor (iRng3 ts) (gName j) tu D σ H :=
  h H (Ex.refl H) _ fun H1 e => ⟨lo, hi, c, n, rfl, hn, for_rangeC Pv (h0 H1 e) (fun i σ' H' hi p => hs i σ' H' hi p) hd⟩
theorem q_forRC {ts : TA} {j : Nat} {lo hi c : Int} {n : Nat} (h : EvA ts σ H [.int lo, .int hi, .int c]) (hn : RgC lo hi c n) (Pv : Nat → L2.St → Hp → Prop) (h0 : ∀ H1, Ex H H1 → Pv 0 σ H1)
    (hs : ∀ (i : Nat) σ' H', i < n → Pv i σ' H' → tu { D with nx := Pv (i + 1), ct := Pv (i + 1), bk := tz D } (σ'.set j (some (.int (lo + (i : Int) * c)))) H') (hd : ∀ σ' H', Pv n σ' H' → tz D σ' H') : tSeq (tFor (iRng3 ts) (gName j) tu) tz D σ H :=
  s_forRC (D := { D with nx := tz D }) h hn Pv h0 hs hd
/-- downwards from n - 1 to 0 -/
theorem rg_down (n : Nat) (hn : n ≤ 100000) : RgC ((n : Int) - 1) (-1) (-1) n := by
  have := RgC.neg (i := (n : Int) - 1) (j := -1) (by omega) (by omega) (by decide) (by decide)
  rwa [show ((n : Int) - 1 - -1).toNat = n by omega] at this
/-- over a tuple made on the way -/
theorem s_forNT {g : TG} {xs : List V} (h : EvSt tl σ H xs) (Pv : Addr → Nat → L2.St → Hp → Prop) (h0 : ∀ p H1, Ex H H1 → H1 p = some (.tup xs) → Pv p 0 σ H1) (hl : ∀ p i σ' H', Pv p i σ' H' → H' p = some (.tup xs))
    (hs : ∀ p i x σ' H', xs[i]? = some x → Pv p i σ' H' → g x σ' H' fun σ2 H2 => tu { D with nx := Pv p (i + 1), ct := Pv p (i + 1), bk := D.nx } σ2 H2) (hd : ∀ p σ' H', Pv p xs.length σ' H' → D.nx σ' H') : tFor (iTup K tl) g tu D σ H :=
  h H (Ex.refl H) _ fun a H1 e ha => ⟨a, rfl, ⟨xs, st_of ha⟩, for_tup (xs := xs) (Pv a) (h0 a H1 e ha) (fun i σ' H' _ p => st_of (hl a i σ' H' p)) (hs a) (hd a)⟩
theorem q_forNT {g : TG} {xs : List V} (h : EvSt tl σ H xs) (Pv : Addr → Nat → L2.St → Hp → Prop) (h0 : ∀ p H1, Ex H H1 → H1 p = some (.tup xs) → Pv p 0 σ H1) (hl : ∀ p i σ' H', Pv p i σ' H' → H' p = some (.tup xs))
    (hs : ∀ p i x σ' H', xs[i]? = some x → Pv p i σ' H' → g x σ' H' fun σ2 H2 => tu { D with nx := Pv p (i + 1), ct := Pv p (i + 1), bk := tz D } σ2 H2) (hd : ∀ p σ' H', Pv p xs.length σ' H' → tz D σ' H') : tSeq (tFor (iTup K tl) g tu) tz D σ H :=
  s_forNT (D := { D with nx := tz D }) h Pv h0 hl hs hd
end
/-! ### systems among things -/
def okRest : Int → List V → Bool
  | _, [] => true
  | p, .int i :: r => decide (p + 1 ≤ i) && decide (i ≤ 200) && okRest i r
  | _, _ :: _ => false
def isSys : List V → Bool
  | .int i :: r => decide (i = 1) && (decide (r.length ≤ 7) && okRest i r)
  | _ => false
/-- a thing, and whether it is a tuple of which φ says so -/
inductive Fv (φ : List V → Bool) (H : Hp) : V → Bool → Prop where
  | tup {a : Addr} {xs : List V} {b : Bool} (e : H a = some (.tup xs)) (f : ∀ y ∈ xs, Tg H y) (q : φ xs = b) : Fv φ H (.ref a) b
  | lst {a : Addr} {xs : List V} (e : H a = some (.lst xs)) : Fv φ H (.ref a) false
  | non : Fv φ H .non false
  | bl (b : Bool) : Fv φ H (.bl b) false
  | int (i : Int) : Fv φ H (.int i) false
  | str (x : Str) : Fv φ H (.str x) false
/-- .. and whether it is a system -/
abbrev Sv : Hp → V → Bool → Prop := Fv isSys
theorem Fv.ex {φ : List V → Bool} {H H' : Hp} {x : V} {b : Bool} (e : Ex H H') (h : Fv φ H x b) : Fv φ H' x b := by
  cases h with
  | tup h f q => exact .tup (e _ _ h) (fun y hy => (f y hy).ex e) q
  | lst h => exact .lst (e _ _ h)
  | non => exact .non
  | bl b => exact .bl b
  | int i => exact .int i
  | str x => exact .str x
structure Good (cs : List Nat) : Prop extends Sys cs where
  le : ∀ c ∈ cs, c ≤ 200
  len : cs.length ≤ 8
theorem okRest_good : ∀ (p : Nat) (r : List Nat), (∀ c ∈ r, p < c) → r.Pairwise (· < ·) → (∀ c ∈ r, c ≤ 200) → okRest (p : Int) (ivs r) = true
  | _, [], _, _, _ => rfl
  | p, c :: r, h, hp, hl => by
    obtain ⟨h1, h2⟩ := List.pairwise_cons.mp hp
    have := h c List.mem_cons_self
    have := hl c List.mem_cons_self
    show (decide ((p : Int) + 1 ≤ (c : Int)) && decide ((c : Int) ≤ 200) && okRest (c : Int) (ivs r)) = true
    rw [decide_eq_true (by omega), decide_eq_true (by omega), okRest_good c r h1 h2 fun x hx => hl x (List.mem_cons_of_mem _ hx)]
    rfl
theorem Good.isSys {cs : List Nat} (g : Good cs) : isSys (ivs cs) = true := by
  obtain ⟨a, r, e⟩ := List.exists_cons_of_ne_nil g.ne
  have h1 := g.one
  have h2 := g.rise
  have h3 := g.le
  have h4 := g.len
  subst e
  have : a = 1 := Option.some.inj h1
  subst this
  obtain ⟨p1, p2⟩ := List.pairwise_cons.mp h2
  show (decide (((1 : Nat) : Int) = 1) && (decide ((ivs r).length ≤ 7) && okRest ((1 : Nat) : Int) (ivs r))) = true
  rw [okRest_good 1 r p1 p2 fun x hx => h3 x (List.mem_cons_of_mem _ hx), ivs_len, decide_eq_true (show r.length ≤ 7 by rw [List.length_cons] at h4; omega)]
  rfl
theorem tg_ivs {H : Hp} {ns : List Nat} : ∀ y ∈ ivs ns, Tg H y := fun y hy => by
  obtain ⟨n, _, rfl⟩ := List.mem_map.mp hy
  exact .int _
theorem Sv.good {H : Hp} {a : Addr} {cs : List Nat} (e : H a = some (.tup (ivs cs))) (g : Good cs) : Sv H (.ref a) true :=
  Fv.tup e tg_ivs g.isSys
theorem Tg.vals {H : Hp} {n : Nat} : Tg H (iv n) := .int _
theorem rc_isiT {K : PySem.W.Frag} {H : Hp} {a : Addr} {xs : List V} (e : H a = some (.tup xs)) : RC (rIsi K) [.ref a, .ty "tuple"] H (.bl true) := rc_isi (t := "tuple") (fun H1 e1 => .base (.tup (e1 _ _ e))) (kit_ty (r := true) (by decide +kernel))
theorem rc_isiL {K : PySem.W.Frag} {H : Hp} {a : Addr} {xs : List V} (e : H a = some (.lst xs)) : RC (rIsi K) [.ref a, .ty "list"] H (.bl true) := rc_isi (t := "list") (fun H1 e1 => .base (.lst (e1 _ _ e))) (kit_ty (r := true) (by decide +kernel))
theorem rc_isiN {φ : List V → Bool} {K : PySem.W.Frag} {H : Hp} {x : V} (h : Fv φ H x false) (n : ∀ a xs, x = .ref a → H a ≠ some (.tup xs)) : RC (rIsi K) [x, .ty "tuple"] H (.bl false) := by
  cases h with
  | tup e f q => exact absurd e (n _ _ rfl)
  | lst e => exact rc_isi (t := "list") (fun H1 e1 => .base (.lst (e1 _ _ e))) (kit_ty (r := false) (by decide +kernel))
  | non => exact rc_isi (t := "NoneType") (fun H1 _ => .base .non) (kit_ty (r := false) (by decide +kernel))
  | bl b => exact rc_isi (t := "bool") (fun H1 _ => .base (.bl b)) (kit_ty (r := false) (by decide +kernel))
  | int i => exact rc_isi (t := "int") (fun H1 _ => .base (.int i)) (kit_ty (r := false) (by decide +kernel))
  | str x => exact rc_isi (t := "str") (fun H1 _ => .base (.str x)) (kit_ty (r := false) (by decide +kernel))
/-! ### rules with the written part by name -/
section
variable {X : Cx} (K : PySem.W.Frag)
theorem ixLK (h : X.K = K := by rfl) : IxR X (rIxL K) := h ▸ ix_list
theorem ixTK (h : X.K = K := by rfl) : IxR X (rIxT K) := h ▸ ix_tup
theorem lenK (h : X.K = K := by rfl) : CallR X (.builtin "len") (rLenS K) := h ▸ call_len_seq
theorem sumK (hc : X.calm = true := by rfl) (h : X.K = K := by rfl) : CallR X (.builtin "sum") (rSum K) := h ▸ cr_sum hc
theorem sumTK (hc : X.calm = true := by rfl) (h : X.K = K := by rfl) : CallR X (.builtin "sum") (rSumT K) := h ▸ cr_sumT hc
theorem minK (hc : X.calm = true := by rfl) (h : X.K = K := by rfl) : CallR X (.builtin "min") (rMin K) := h ▸ cr_min hc
theorem maxK (hc : X.calm = true := by rfl) (h : X.K = K := by rfl) : CallR X (.builtin "max") (rMax K) := h ▸ cr_max hc
theorem isiK (h : X.K = K := by rfl) : CallR X (.builtin "isinstance") (rIsi K) := h ▸ call_isi
theorem tupK (h : X.K = K := by rfl) : CallR X (.type "tuple") (rTupS K) := h ▸ call_tuple_of
theorem listK (h : X.K = K := by rfl) : CallR X (.type "list") (rListS K) := h ▸ call_list_of
theorem setK (hc : X.calm = true := by rfl) (h : X.K = K := by rfl) : CallR X (.type "set") (rSetL K X.w) := h ▸ cr_setL hc
theorem sortK (h : X.K = K := by rfl) : CallR X (.builtin "sorted") (rSortedI K) := h ▸ cr_sortedI
theorem catK (h : X.K = K := by rfl) : OpR X (binaryOp .Add) (rCatA K) := h ▸ op_catA
theorem slAK (h : X.K = K := by rfl) : SlR X (rSlA K) := h ▸ sl_tupA
theorem slLK (h : X.K = K := by rfl) : SlR X (rSlL K) := h ▸ sl_list
theorem eqDK (hu : X.A.units + 64 < cLine) (h : X.K = K := by rfl) : OpR X (compareOp .Eq) (rEqD K) := h ▸ op_eqD hu
theorem neDK (hu : X.A.units + 64 < cLine) (h : X.K = K := by rfl) : OpR X (compareOp .NotEq) (rNeD K) := h ▸ op_neD hu
theorem inK (h : X.K = K := by rfl) : OpR X (compareOp .In) (rIn K false) := h ▸ op_in_seq
theorem notInK (h : X.K = K := by rfl) : OpR X (compareOp .NotIn) (rIn K true) := h ▸ op_notIn_seq
end
/-! ### operators of natural numbers -/
theorem ivs_snoc (ns : List Nat) (n : Nat) : ivs (ns ++ [n]) = ivs ns ++ [iv n] := List.map_append ..
section
variable {H : Hp} {a b : Nat}
theorem dec_eq {p q : Prop} [Decidable p] [Decidable q] (h : p ↔ q) : decide p = decide q := decide_eq_decide.mpr h
theorem rvn_add : RV (rI0 fun i j => .int (i + j)) (iv a) (iv b) H (iv (a + b)) := fun H1 e Q q => ⟨a, b, rfl, rfl, q H1 (Ex.refl _)⟩
theorem rvn_sub (h : b ≤ a) : RV (rI0 fun i j => .int (i - j)) (iv a) (iv b) H (iv (a - b)) := fun H1 e Q q => ⟨a, b, rfl, rfl, by
  have := q H1 (Ex.refl _)
  unfold iv at this
  rwa [show ((a - b : Nat) : Int) = (a : Int) - (b : Int) by omega] at this⟩
theorem rvn_mul (h : a ≤ 1000000000) : RV (rI CMul fun i j => .int (i * j)) (iv a) (iv b) H (iv (a * b)) := fun H1 e Q q => ⟨a, b, rfl, rfl, .inl ⟨by omega, by omega⟩, by
  have := q H1 (Ex.refl _)
  unfold iv at this
  rwa [Int.natCast_mul] at this⟩
theorem rvn_div (h : 0 < b) (h2 : b ≤ 1000000000) : RV (rI CDiv fun i j => .int (i / j)) (iv a) (iv b) H (iv (a / b)) := fun H1 e Q q => ⟨a, b, rfl, rfl, ⟨by omega, by omega⟩, by
  have := q H1 (Ex.refl _)
  unfold iv at this
  rwa [Int.natCast_ediv] at this⟩
theorem rvn_mod (h : 0 < b) : RV (rI (fun _ j => 0 < j) fun i j => .int (i % j)) (iv a) (iv b) H (iv (a % b)) := fun H1 e Q q => ⟨a, b, rfl, rfl, by omega, by
  have := q H1 (Ex.refl _)
  unfold iv at this
  rwa [Int.natCast_emod] at this⟩
theorem rvn_le : RV (rI0 fun i j => .bl (decide (i ≤ j))) (iv a) (iv b) H (.bl (decide (a ≤ b))) := fun H1 e Q q => ⟨a, b, rfl, rfl, by
  have := q H1 (Ex.refl _)
  rwa [dec_eq (show a ≤ b ↔ (a : Int) ≤ (b : Int) by omega)] at this⟩
theorem rvn_lt : RV (rI0 fun i j => .bl (decide (i < j))) (iv a) (iv b) H (.bl (decide (a < b))) := fun H1 e Q q => ⟨a, b, rfl, rfl, by
  have := q H1 (Ex.refl _)
  rwa [dec_eq (show a < b ↔ (a : Int) < (b : Int) by omega)] at this⟩
theorem rvn_ge : RV (rI0 fun i j => .bl (decide (j ≤ i))) (iv a) (iv b) H (.bl (decide (b ≤ a))) := fun H1 e Q q => ⟨a, b, rfl, rfl, by
  have := q H1 (Ex.refl _)
  rwa [dec_eq (show b ≤ a ↔ (b : Int) ≤ (a : Int) by omega)] at this⟩
theorem rvn_gt : RV (rI0 fun i j => .bl (decide (j < i))) (iv a) (iv b) H (.bl (decide (b < a))) := fun H1 e Q q => ⟨a, b, rfl, rfl, by
  have := q H1 (Ex.refl _)
  rwa [dec_eq (show b < a ↔ (b : Int) < (a : Int) by omega)] at this⟩
theorem iv_inj {a b : Nat} : iv a = iv b ↔ a = b := ⟨fun h => by
  have := V.int.inj h
  omega, fun h => by rw [h]⟩
theorem rvn_eq : RV rEq (iv a) (iv b) H (.bl (decide (a = b))) := fun H1 e Q q => ⟨rfl, by
  have := q H1 (Ex.refl _)
  rwa [dec_eq (iv_inj (a := a) (b := b)).symm] at this⟩
theorem rvn_ne : RV rNe (iv a) (iv b) H (.bl (!decide (a = b))) := fun H1 e Q q => ⟨rfl, by
  have := q H1 (Ex.refl _)
  rwa [dec_eq (iv_inj (a := a) (b := b)).symm] at this⟩
end
/-- a name's value by its slot -/
theorem vr {σ : L2.St} {H : Hp} {i : Nat} (v : V) (h : σ[i]? = some (some v) := by rfl) : Ev (tVar i) σ H v := ev_var h
theorem cn {σ : L2.St} {H : Hp} (n : Nat) : Ev (tC (.int (n : Int))) σ H (iv n) := ev_c
/-! ### the law's script, its numbers -/
def cell (ns : List Int) (k : Nat) : Int := ns.getD k 0
def mix (c : Int) (p m : Nat) : Nat := (c * 48271 % (p : Int) % (m : Int)).toNat
theorem mix_lt (c : Int) (p m : Nat) (h : 0 < m) : mix c p m < m := by
  unfold mix
  have := Int.emod_nonneg (c * 48271 % (p : Int)) (show (m : Int) ≠ 0 by omega)
  have := Int.emod_lt_of_pos (c * 48271 % (p : Int)) (show (0 : Int) < (m : Int) by omega)
  omega
theorem mix_eq (c : Int) (p m : Nat) (h : 0 < m) : c * 48271 % (p : Int) % (m : Int) = (mix c p m : Int) := by
  unfold mix
  have := Int.emod_nonneg (c * 48271 % (p : Int)) (show (m : Int) ≠ 0 by omega)
  omega
/-- what the laws take for a system -/
structure Nice (cs : List Nat) : Prop extends Sys cs where
  le : ∀ c ∈ cs, c ≤ 46
  len : cs.length ≤ 6
theorem Nice.good {cs : List Nat} (h : Nice cs) : Good cs := ⟨h.toSys, fun c hc => by have := h.le c hc; omega, by have := h.len; omega⟩
/-- some tuple of numbers of which φ holds -/
def EvRt (te : TE) (σ : L2.St) (H : Hp) (φ : List Nat → Prop) : Prop := ∀ H1, Ex H H1 → ∀ Q : VK, (∀ cs a H2, φ cs → Ex H1 H2 → H2 a = some (.tup (ivs cs)) → Q (.ref a) H2) → te σ H1 Q
theorem nat_of_int : ∀ {ns : List Int}, (∀ x ∈ ns, 0 ≤ x) → ∃ cs : List Nat, ns = cs.map fun n : Nat => (n : Int)
  | [], _ => ⟨[], rfl⟩
  | x :: r, h => by
    obtain ⟨cs, e⟩ := nat_of_int (ns := r) fun y hy => h y (List.mem_cons_of_mem _ hy)
    have := h x List.mem_cons_self
    exact ⟨x.toNat :: cs, by rw [List.map_cons, ← e, Int.toNat_of_nonneg this]⟩
/-- tuple(sorted(set(xs))) -/
theorem ert_sortset {K : PySem.W.Frag} {w : World} {σ : L2.St} {H : Hp} {te : TE} {ns : List Nat} (h : EvSl K te σ H (ivs ns)) (hl : ns.length < 60) :
    EvRt (tCB (rTupS K) (tCons (tCB (rSortedSet w) (tCons (tCB (rSetL K w) (tCons te tNil)) tNil)) tNil)) σ H (fun cs => cs.Pairwise (· < ·) ∧ (∀ x, x ∈ cs ↔ x ∈ ns) ∧ cs.length ≤ ns.length) := fun H1 e Q q =>
  h H1 e _ fun l H2 e2 hl2 => ⟨l, ns.map fun n : Nat => (n : Int), rfl, by rw [← ivs_int]; exact hl2, by rw [List.length_map]; exact Nat.lt_of_lt_of_le (Nat.succ_lt_succ hl) (by decide), fun a c ha hc =>
    ⟨a, _, c, rfl, upd_same, by rw [List.length_map] at hc; omega, fun ns' p hp hm hlen hp0 => by
      obtain ⟨cs, rfl⟩ := nat_of_int (ns := ns') fun x hx => by
        have := of_decide_eq_true ((hm x).mp hx)
        obtain ⟨n, _, rfl⟩ := List.mem_map.mp this
        omega
      refine ⟨p, _, rfl, .inl ⟨sq_of upd_same, fun t ht => ?_⟩⟩
      have e3 : Ex H2 (upd H2 a (SetO w a (fun j => decide (j ∈ ns.map fun n : Nat => (n : Int))) c)) := Ex.new ha
      refine q cs t _ ⟨?_, fun x => ?_, ?_⟩ (e2.trans ((e3.trans (Ex.new hp0)).trans (Ex.new ht))) (by rw [upd_same, ivs_int])
      · have := List.pairwise_map.mp hp
        exact this.imp fun h => by omega
      · have := hm (x : Int)
        rw [List.mem_map, decide_eq_true_iff, List.mem_map] at this
        exact ⟨fun hx => by
          obtain ⟨y, hy, e⟩ := this.mp ⟨x, hx, rfl⟩
          have : y = x := by omega
          exact this ▸ hy, fun hx => by
          obtain ⟨y, hy, e⟩ := this.mpr ⟨x, hx, rfl⟩
          have : y = x := by omega
          exact this ▸ hy⟩
      · rw [List.length_map] at hlen hc
        omega⟩⟩
/-- a set that rises from 1 on -/
theorem sys_of {cs ns : List Nat} (h1 : cs.Pairwise (· < ·)) (h2 : ∀ x, x ∈ cs ↔ x ∈ ns) (h3 : 1 ∈ ns) (h4 : ∀ x ∈ ns, 0 < x) : Sys cs := ⟨by
  have m := (h2 1).mpr h3
  cases cs with
  | nil => cases m
  | cons a r =>
    have ha := h4 a ((h2 a).mp List.mem_cons_self)
    rcases List.mem_cons.mp m with e | e
    · rw [← e]; rfl
    · have := (List.pairwise_cons.mp h1).1 1 e
      omega, h1⟩
/-! ### data: numbers, lists and tuples of them -/
def dn (n : Nat) : PyData := .int (n : Int)
def dl (ns : List Nat) : PyData := .list (ns.map dn)
def dt (ns : List Nat) : PyData := .tuple (ns.map dn)
def dlt (xss : List (List Nat)) : PyData := .list (xss.map dt)
theorem canAll {α : Type} {f : α → PyData} (h : ∀ a, (f a).canLay0 = true) : ∀ l : List α, PyData.canLayAll0 (l.map f) = true
  | [] => by simp only [List.map_nil, PyData.canLayAll0]
  | a :: r => by simp only [List.map_cons, PyData.canLayAll0, h a, canAll h r, Bool.and_self]
theorem depAll {α : Type} {f : α → PyData} {k : Nat} (h : ∀ a, (f a).depth ≤ k) : ∀ l : List α, PyData.depthAll (l.map f) ≤ k
  | [] => by simp only [List.map_nil, PyData.depthAll]; exact Nat.zero_le _
  | a :: r => by
    simp only [List.map_cons, PyData.depthAll]
    exact Nat.max_le.mpr ⟨h a, depAll h r⟩
theorem can_dn (n : Nat) : (dn n).canLay0 = true := by unfold dn; simp only [PyData.canLay0]
theorem dep_dn (n : Nat) : (dn n).depth ≤ 0 := by unfold dn; simp only [PyData.depth]; exact Nat.le_refl _
theorem can_dl (ns : List Nat) : (dl ns).canLay0 = true := by unfold dl; simp only [PyData.canLay0]; exact canAll can_dn ns
theorem can_dt (ns : List Nat) : (dt ns).canLay0 = true := by unfold dt; simp only [PyData.canLay0]; exact canAll can_dn ns
theorem dep_dl (ns : List Nat) : (dl ns).depth ≤ 1 := by unfold dl; simp only [PyData.depth]; exact Nat.succ_le_succ (depAll dep_dn ns)
theorem dep_dt (ns : List Nat) : (dt ns).depth ≤ 1 := by unfold dt; simp only [PyData.depth]; exact Nat.succ_le_succ (depAll dep_dn ns)
theorem can_dlt (ns : List (List Nat)) : (dlt ns).canLay0 = true := by unfold dlt; simp only [PyData.canLay0]; exact canAll can_dt ns
theorem dep_dlt (ns : List (List Nat)) : (dlt ns).depth ≤ 2 := by unfold dlt; simp only [PyData.depth]; exact Nat.succ_le_succ (depAll dep_dt ns)
theorem shaped_of {d : PyData} {k : Nat} (h1 : d.canLay0 = true) (h2 : d.depth ≤ k) (h3 : k ≤ 64) : SeqAt.shaped d = true := by
  unfold SeqAt.shaped
  rw [h1, decide_eq_true (Nat.le_trans h2 h3)]
  rfl
theorem eqvAll_map {α : Type} [DecidableEq α] {f : α → PyData} (h : ∀ a b, PyData.eqv (f a) (f b) = decide (a = b)) : ∀ xs ys : List α, PyData.eqvAll (xs.map f) (ys.map f) = decide (xs = ys)
  | [], [] => by simp [PyData.eqvAll]
  | [], _ :: _ => by simp [PyData.eqvAll]
  | _ :: _, [] => by simp [PyData.eqvAll]
  | a :: r, b :: t => by
    simp only [List.map_cons, PyData.eqvAll, h, eqvAll_map h r t]
    by_cases e1 : a = b <;> by_cases e2 : r = t <;> simp [e1, e2]
theorem eqv_dn (a b : Nat) : PyData.eqv (dn a) (dn b) = decide (a = b) := by
  unfold dn
  simp only [PyData.eqv]
  by_cases e : a = b
  · subst e; simp
  · have : ¬ ((a : Int) = (b : Int)) := by omega
    simp [e, this]
theorem eqv_dl (a b : List Nat) : PyData.eqv (dl a) (dl b) = decide (a = b) := by unfold dl; simp only [PyData.eqv]; exact eqvAll_map eqv_dn a b
theorem eqv_dt (a b : List Nat) : PyData.eqv (dt a) (dt b) = decide (a = b) := by unfold dt; simp only [PyData.eqv]; exact eqvAll_map eqv_dn a b
theorem eqv_dlt (a b : List (List Nat)) : PyData.eqv (dlt a) (dlt b) = decide (a = b) := by unfold dlt; simp only [PyData.eqv]; exact eqvAll_map eqv_dt a b
section
variable {K : PySem.W.Frag} {σ : L2.St} {H H' : Hp} {ta tb te : TE}
theorem dp_all : ∀ ns : List Nat, DpAll K H (ivs ns) (ns.map dn)
  | [] => .nil
  | n :: r => .cons (.int _) (dp_all r)
theorem dp_l {a : Addr} {ns : List Nat} (h : SqL K H a (ivs ns)) : Dp K H (.ref a) (dl ns) := .lst h (dp_all ns)
theorem dp_t {a : Addr} {ns : List Nat} (h : H a = some (.tup (ivs ns))) : Dp K H (.ref a) (dt ns) := .tup (st_of h) (dp_all ns)
/-- an address that holds such a tuple -/
def TupN (c : List Nat) (z : V) (H : Hp) : Prop := ∃ a, z = .ref a ∧ H a = some (.tup (ivs c))
theorem TupN.mono : ∀ (c : List Nat) (y : V) (H1 H2 : Hp), Tx H1 H2 → TupN c y H1 → TupN c y H2 := fun _ _ _ _ t ⟨a, e, h⟩ => ⟨a, e, t _ _ h⟩
theorem dp_allT : ∀ {xss : List (List Nat)} {ys : List V}, Paired (fun c z => TupN c z H) xss ys → DpAll K H ys (xss.map dt)
  | _, _, .nil => .nil
  | _, _, .cons ⟨_, e, h⟩ t => .cons (by rw [e]; exact dp_t h) (dp_allT t)
theorem dp_lt {a : Addr} {xss : List (List Nat)} {ys : List V} (h : SqL K H a ys) (p : Paired (fun c z => TupN c z H) xss ys) : Dp K H (.ref a) (dlt xss) := .lst h (dp_allT p)
theorem rv_eqD {x y : V} {d e : PyData} {b : Bool} (hx : ∀ H1, Ex H H1 → Dp K H1 x d) (hy : ∀ H1, Ex H H1 → Dp K H1 y e) (sd : SeqAt.shaped d = true) (se : SeqAt.shaped e = true) (hb : PyData.eqv d e = b) : RV (rEqD K) x y H (.bl b) :=
  fun H1 e1 Q q => ⟨d, e, hx H1 e1, hy H1 e1, sd, se, by rw [hb]; exact q H1 (Ex.refl _)⟩
theorem rv_neD {x y : V} {d e : PyData} {b : Bool} (hx : ∀ H1, Ex H H1 → Dp K H1 x d) (hy : ∀ H1, Ex H H1 → Dp K H1 y e) (sd : SeqAt.shaped d = true) (se : SeqAt.shaped e = true) (hb : PyData.eqv d e = b) : RV (rNeD K) x y H (.bl (!b)) :=
  fun H1 e1 Q q => ⟨d, e, hx H1 e1, hy H1 e1, sd, se, by rw [hb]; exact q H1 (Ex.refl _)⟩
/-- lists of numbers compared -/
theorem ev_eqL {a b : List Nat} (ha : EvSl K ta σ H (ivs a)) (hb : EvSl K tb σ H (ivs b)) : Ev (tOp (rEqD K) ta tb) σ H (.bl (decide (a = b))) := fun H1 e Q q => ha H1 e _ fun p H2 e2 h2 => hb H2 (e.trans e2) _ fun p' H3 e3 h3 =>
  ⟨dl a, dl b, dp_l (ex_l e3 h2), dp_l h3, shaped_of (can_dl a) (dep_dl a) (by decide), shaped_of (can_dl b) (dep_dl b) (by decide), by rw [eqv_dl]; exact q H3 (e2.trans e3)⟩
theorem ev_neL {a b : List Nat} (ha : EvSl K ta σ H (ivs a)) (hb : EvSl K tb σ H (ivs b)) : Ev (tOp (rNeD K) ta tb) σ H (.bl (!decide (a = b))) := fun H1 e Q q => ha H1 e _ fun p H2 e2 h2 => hb H2 (e.trans e2) _ fun p' H3 e3 h3 =>
  ⟨dl a, dl b, dp_l (ex_l e3 h2), dp_l h3, shaped_of (can_dl a) (dep_dl a) (by decide), shaped_of (can_dl b) (dep_dl b) (by decide), by rw [eqv_dl]; exact q H3 (e2.trans e3)⟩
theorem ev_eqT {a b : List Nat} (ha : EvSt ta σ H (ivs a)) (hb : EvSt tb σ H (ivs b)) : Ev (tOp (rEqD K) ta tb) σ H (.bl (decide (a = b))) := fun H1 e Q q => ha H1 e _ fun p H2 e2 h2 => hb H2 (e.trans e2) _ fun p' H3 e3 h3 =>
  ⟨dt a, dt b, dp_t (e3 _ _ h2), dp_t h3, shaped_of (can_dt a) (dep_dt a) (by decide), shaped_of (can_dt b) (dep_dt b) (by decide), by rw [eqv_dt]; exact q H3 (e2.trans e3)⟩
theorem ev_neT {a b : List Nat} (ha : EvSt ta σ H (ivs a)) (hb : EvSt tb σ H (ivs b)) : Ev (tOp (rNeD K) ta tb) σ H (.bl (!decide (a = b))) := fun H1 e Q q => ha H1 e _ fun p H2 e2 h2 => hb H2 (e.trans e2) _ fun p' H3 e3 h3 =>
  ⟨dt a, dt b, dp_t (e3 _ _ h2), dp_t h3, shaped_of (can_dt a) (dep_dt a) (by decide), shaped_of (can_dt b) (dep_dt b) (by decide), by rw [eqv_dt]; exact q H3 (e2.trans e3)⟩
end
/-! ### in the laws -/
def sp_law (K : PySem.W.Frag) : Sp := fun vs H Q _ => ∃ (a : Addr) (ns : List Int), vs = [.ref a] ∧ SqL K H a (ns.map V.int) ∧ ns.length ≤ 63 ∧ ∀ H', Q (.bl true) H'
def modc (c : Int) (m : Nat) : Nat := (c % (m : Int)).toNat
theorem modc_lt (c : Int) {m : Nat} (h : 0 < m) : modc c m < m := by
  unfold modc
  have := Int.emod_nonneg c (show (m : Int) ≠ 0 by omega)
  have := Int.emod_lt_of_pos c (show (0 : Int) < (m : Int) by omega)
  omega
section
variable {K : PySem.W.Frag} {σ : L2.St} {H H' : Hp} {ta tb te : TE}
theorem rv_modc {c : Int} {m : Nat} (h : 0 < m) : RV (rI (fun _ j => 0 < j) fun i j => .int (i % j)) (.int c) (iv m) H (iv (modc c m)) := fun H1 e Q q => ⟨c, m, rfl, rfl, by omega, by
  have := q H1 (Ex.refl _)
  unfold iv modc at this
  rwa [Int.toNat_of_nonneg (Int.emod_nonneg c (by omega))] at this⟩
/-- int(test) -/
theorem ev_intB {b : Bool} (h : Ev te σ H (.bl b)) : Ev (tCB (fun xs H Q => (∃ i, xs = [.int i] ∧ Q (.int i) H) ∨ ∃ k, xs = [.bl k] ∧ Q (.int (if k then 1 else 0)) H) (tCons te tNil)) σ H (iv (if b = true then 1 else 0)) :=
  ev_cb (ea_cons h ea_nil) fun H1 e Q q => .inr ⟨b, rfl, by
    have := q H1 (Ex.refl _)
    cases b <;> exact this⟩
end
section
variable {K : PySem.W.Frag} {σ : L2.St} {H H' : Hp} {ta tb te : TE}
theorem ev_lenN {ns : List Nat} (h : EvSt te σ H (ivs ns)) : Ev (tCB (rLenS K) (tCons te tNil)) σ H (iv ns.length) := by
  have := ev_lenT (K := K) h
  rwa [ivs_len] at this
theorem ev_lenNL {ns : List Nat} (h : EvSl K te σ H (ivs ns)) : Ev (tCB (rLenS K) (tCons te tNil)) σ H (iv ns.length) := by
  have := ev_lenL (K := K) h
  rwa [ivs_len] at this
end
/-! ### at the end -/
theorem cx_none {P : Program} {w : World} {H : Hp} {s : Shared} {e : Value} {s' : Shared} (c : L2.CX P w [] H s (fun _ _ _ => False) e s') : False := by
  obtain ⟨_, _, _, _, _, _, _, _, _, _, _, _, h⟩ := c
  exact h
structure Ks (mg : Str → Option Value) (x : Str) (z : Str) : Prop where
  ex : ∃ t, mg x = some (.str z t)
theorem pe_ks {X : Cx} {x z : Str} {pos : Pos} (hg : Gl X x) (c : Ks X.mg x z) (hdb : (x == ("__debug__" : Str)) = false := by decide) : PE X (.Name x pos) (tC (.str z)) := by
  obtain ⟨t, h⟩ := c.ex
  exact pe_glob hg h ⟨t, rfl⟩ hdb
/-! ### a list's truth; zip of two tuples -/
theorem pgTupK {X : Cx} {pos : Pos} (K : PySem.W.Frag) {es : List Expr} {k : Nat} {t : TGs} {n : Nat} (hc : X.calm = true) (h : PGs X es t) (hK : X.K = K := by rfl)
    (hn : (assignEach es X.env).length = n := by rfl) (hst : (assignEach es X.env).findIdx? (·.1) = none := by rfl) : PG X (.Tuple es k pos) (gTup K n t) := hK ▸ pg_tup hc h hn hst
section
variable {K : PySem.W.Frag} {σ : L2.St} {H H' : Hp} {ta te : TE} {ts : TA}
theorem et_list {xs : List V} (h : EvSl K te σ H xs) : EvT (fun σ H Q => te σ H fun x H' => ∃ k, TruV K x H' k ∧ Q k H') σ H (!xs.isEmpty) := fun H1 e Q q => h H1 e _ fun a H2 e2 ha => ⟨!xs.isEmpty, .inl ⟨xs, ha, rfl⟩, q H2 e2⟩
theorem el_zip {as bs : List Nat} {a b : Addr} {i j : Nat} {vs : List Nat} (g : Nat → Nat → Nat) (hl : as.length = bs.length) (hz : as.length ≤ 40000) (h : EvA ts σ H [.ref a, .ref b]) (ha : H a = some (.tup (ivs as))) (hb : H b = some (.tup (ivs bs)))
    (hw : ∀ x y, wipe (((wipe σ vs).set i (some x)).set j (some y)) vs = wipe σ vs) (he : ∀ x y H1, Ex H H1 → x ∈ as → y ∈ bs → Ev te (((wipe σ vs).set i (some (iv x))).set j (some (iv y))) H1 (iv (g x y))) :
    EvL (tLc (RZ.iZipA K ts) (gTup K 2 (gCons (gName i) (gCons (gName j) gNil))) tYes te vs) σ H (ivs (List.zipWith g as bs)) := fun H0 e Q q => h H0 e _ fun H1 e1 => by
  have ha1 := e1 _ _ (e _ _ ha)
  have hb1 := e1 _ _ (e _ _ hb)
  refine ⟨a, b, ivs as, ivs bs, rfl, .inr ⟨st_of ha1, st_of hb1, fun Dl hD => ?_⟩⟩
  refine ⟨fun k m H' => m = as.length - k ∧ k ≤ as.length ∧ Ex H1 H' ∧ H' Dl = some (.lst (ivs ((List.zipWith g as bs).take k))), ⟨as.length, rfl, Nat.zero_le _, Ex.new hD, upd_same⟩, fun k m H' hW => ?_⟩
  obtain ⟨rfl, hk, eH, hq⟩ := hW
  have ha2 := st_of (K := K) (eH _ _ ha1)
  have hb2 := st_of (K := K) (eH _ _ hb1)
  by_cases hlt : k < as.length
  · have hx := ivs_get (List.getElem?_eq_getElem hlt)
    have hy := ivs_get (List.getElem?_eq_getElem (show k < bs.length by omega))
    refine .inr ⟨⟨_, _, _, _, ha2, hb2, hx, hy⟩, fun H2 => Ex H1 H2 ∧ H2 Dl = some (.lst (ivs ((List.zipWith g as bs).take (k + 1)))), fun H2 hN => ⟨as.length - (k + 1), by omega, rfl, hlt, hN.1, hN.2⟩, fun v H2 hv => ?_⟩
    obtain ⟨T, x', y', rfl, nT, rfl, f1, f2⟩ := hv
    have ex : x' = iv as[k] := Option.some.inj ((f1 _ ha2).symm.trans hx)
    have ey : y' = iv bs[k] := Option.some.inj ((f2 _ hb2).symm.trans hy)
    subst ex ey
    refine ⟨T, _, rfl, st_of upd_same, rfl, _, _, rfl, _, _, rfl, rfl, hw _ _, ?_⟩
    show te _ _ _
    refine he as[k] bs[k] _ ((e.trans e1).trans (eH.trans (Ex.new nT))) (List.getElem_mem _) (List.getElem_mem _) _ (Ex.refl _) _ fun H4 e4 => ?_
    have hD4 := e4 _ _ (Ex.new nT _ _ hq)
    refine ⟨_, hD4, sz_lt (by rw [ivs_len, List.length_take]; omega), Ex.mut ((eH.trans (Ex.new nT)).trans e4) hD, ?_⟩
    rw [upd_same, List.take_add_one, List.getElem?_zipWith, List.getElem?_eq_getElem hlt, List.getElem?_eq_getElem (show k < bs.length by omega)]
    show some (HO.lst (ivs _ ++ [iv (g as[k] bs[k])])) = some (HO.lst (ivs (_ ++ [g as[k] bs[k]])))
    rw [ivs_snoc]
  · have ek : k = as.length := by omega
    subst ek
    refine .inl ⟨⟨_, _, ha2, hb2, .inl (by rw [ivs_len]; exact Nat.le_refl _)⟩, ?_⟩
    rw [List.take_of_length_le (by rw [List.length_zipWith]; omega)] at hq
    exact q Dl H' (fresh_back e1 hD) (e1.trans eH) hq
end
section
variable {K : PySem.W.Frag} {σ : L2.St} {H H' : Hp} {tl : TE} {D : Ends} {tu tz : TS}
/-- a loop over a tuple, the target a name -/
theorem s_forTn {a : Addr} {xs : List V} {j : Nat} (h : Ev tl σ H (.ref a)) (hx : H a = some (.tup xs)) (Pv : Nat → L2.St → Hp → Prop) (h0 : ∀ H1, Ex H H1 → Pv 0 σ H1) (hl : ∀ i σ' H', Pv i σ' H' → H' a = some (.tup xs))
    (hs : ∀ i x σ' H', xs[i]? = some x → Pv i σ' H' → tu { D with nx := Pv (i + 1), ct := Pv (i + 1), bk := D.nx } (σ'.set j (some x)) H') (hd : ∀ σ' H', Pv xs.length σ' H' → D.nx σ' H') : tFor (iTup K tl) (gName j) tu D σ H :=
  s_forT h (st_of hx) Pv h0 (fun i σ' H' _ p => st_of (hl i σ' H' p)) hs hd
theorem q_forTn {a : Addr} {xs : List V} {j : Nat} (h : Ev tl σ H (.ref a)) (hx : H a = some (.tup xs)) (Pv : Nat → L2.St → Hp → Prop) (h0 : ∀ H1, Ex H H1 → Pv 0 σ H1) (hl : ∀ i σ' H', Pv i σ' H' → H' a = some (.tup xs))
    (hs : ∀ i x σ' H', xs[i]? = some x → Pv i σ' H' → tu { D with nx := Pv (i + 1), ct := Pv (i + 1), bk := tz D } (σ'.set j (some x)) H') (hd : ∀ σ' H', Pv xs.length σ' H' → tz D σ' H') : tSeq (tFor (iTup K tl) (gName j) tu) tz D σ H :=
  s_forTn (D := { D with nx := tz D }) h hx Pv h0 hl hs hd
end
end Coin

namespace Coin
open PySem PySem.Spec PyProof.Rows L2 Evl
def topS (i : Nat) : Stmt := PySem.Challenge.pw_tillcoins_k02_fewest_coins.main.body.getD i (.Pass ⟨0, 0, 0, 0⟩)
abbrev s_is_within : Stmt := topS 8
abbrev s_is_system : Stmt := topS 9
abbrev s_checked : Stmt := topS 10
abbrev s_look : Stmt := topS 13
abbrev s_fewest_up_to : Stmt := topS 14
abbrev s_fewest : Stmt := topS 15
abbrev s_by_fewest : Stmt := topS 16
abbrev s_sum_of : Stmt := topS 17
abbrev s__law_cell : Stmt := topS 19
abbrev s__law_mix : Stmt := topS 20
abbrev s__law_whole : Stmt := topS 21
abbrev s__law_system : Stmt := topS 22
abbrev s__law_few : Stmt := topS 23
abbrev s_law : Stmt := topS 24
section
variable {P : Program} {w : World} {K : PySem.W.Frag} {mg : Str → Option Value} {base : Heap}
/-! ### is_within -/
theorem sc_is_within : FnScope ["thing", "low", "high"] ["thing", "low", "high"] (defScope s_is_within) := ⟨rfl, rfl, rfl, by decide +kernel, rfl, by decide +kernel, by decide +kernel⟩
def within (x : V) (lo hi : Int) : Bool := match x with
  | .int i => decide (lo ≤ i) && decide (i ≤ hi)
  | _ => false
def sp_is_within : Sp := fun vs H Q _ => ∃ x lo hi, vs = [x, .int lo, .int hi] ∧ Tg H x ∧ ∀ H', Ex H H' → Q (.bl (within x lo hi)) H'
theorem v_is_within {H : Hp} {x : V} {lo hi : Int} {b : Bool} (h : Tg H x) (e : within x lo hi = b) : SpV sp_is_within [x, .int lo, .int hi] H (.bl b) := fun H1 e1 Q q E => ⟨x, lo, hi, rfl, h.ex e1, fun H2 e2 => e ▸ q H2 e2⟩
theorem ok_is_within {f : Addr} {fd : FuncData} (F : Fun K "is_within" "is_within" s_is_within f fd) (B : Bi mg) : FnOk P w K mg base (L2.CX P w) 1 f fd ["thing", "low", "high"] sp_is_within := by
  refine F.okX sc_is_within (fun vs H Q E h => ?_) (fun cdv A outer s H vs Q E hr h => ?_)
  · obtain ⟨x, lo, hi, rfl, _⟩ := h
    rfl
  · obtain ⟨x, lo, hi, rfl, hx, q⟩ := h
    have nd := sc_is_within.nd
    refine ⟨_, (pss_one (ps_ret (pe_and (pe_callB (isiK K) (by rfl) B.isinstance (by decide +kernel) (pa_cons (pv 0) (pa_cons (pe_bltn (by rfl) B.int (by decide +kernel) (show RelV (.ty "int") _ from rfl)) pa_nil))) (pe_and (pe_not (pe_callB (isiK K) (by rfl) B.isinstance (by decide +kernel) (pa_cons (pv 0) (pa_cons (pe_bltn (by rfl) B.bool (by decide +kernel) (show RelV (.ty "bool") _ from rfl)) pa_nil)))) (pe_one (pe_chain op_le op_le (pv 1) (pv 0) (pv 2))))))), ?_⟩
    refine s_ret (v := .bl (isI x && (!isB x && within x lo hi))) (ev_andV (ev_cb (ea_cons (ev_var rfl) (ea_cons ev_c ea_nil)) (rc_isiI hx)) fun h1 => ev_andV (ev_notV (ev_cb (ea_cons (ev_var rfl) (ea_cons ev_c ea_nil)) (rc_isiB hx))) fun h2 => ?_) fun H1 e1 => ?_
    · cases x with
      | int i => exact ev_chain (ev_var rfl) (ev_var rfl) (ev_var rfl)
      | _ => simp [isI, isB] at h1 h2
    · have e : (isI x && (!isB x && within x lo hi)) = within x lo hi := by cases x <;> simp [isI, isB, within]
      rw [e]
      exact q H1 e1

/-! ### is_system -/
theorem sc_is_system : FnScope ["thing", "at"] ["thing"] (defScope s_is_system) := ⟨rfl, rfl, rfl, by decide +kernel, rfl, by decide +kernel, by decide +kernel⟩
def sp_is_system : Sp := fun vs H Q _ => ∃ x b, vs = [x] ∧ Sv H x b ∧ ∀ H', Ex H H' → Q (.bl b) H'
theorem v_is_system {H : Hp} {x : V} {b : Bool} (h : Sv H x b) : SpV sp_is_system [x] H (.bl b) := fun H1 e1 Q q E => ⟨x, b, rfl, h.ex e1, fun H2 e2 => q H2 e2⟩
theorem ok_is_system {f : Addr} {fd : FuncData} (F : Fun K "is_system" "is_system" s_is_system f fd) (B : Bi mg) (h_is_within : Hs P w K mg base 1 "is_within" sp_is_within) (c_MOST_COINS : Kc mg "MOST_COINS" 8) (c_MOST_COIN : Kc mg "MOST_COIN" 200) :
    FnOk P w K mg base (L2.CX P w) 2 f fd ["thing"] sp_is_system := by
  refine F.okX sc_is_system (fun vs H Q E h => ?_) (fun cdv A outer s H vs Q E hr h => ?_)
  · obtain ⟨x, b, rfl, _⟩ := h
    rfl
  · obtain ⟨x, b, rfl, hx, q⟩ := h
    have nd := sc_is_system.nd
    refine ⟨_, (pss_cons (ps_if (PW.pt (pw_or (pt_not (pt_val (pe_callB (isiK K) (by rfl) B.isinstance (by decide +kernel) (pa_cons (pv 0) (pa_cons (pe_bltn (by rfl) B.tuple (by decide +kernel) (show RelV (.ty "tuple") _ from rfl)) pa_nil))))) (pw_or1 (pt_not (pt_chain op_le op_le pe_int (pe_callB (lenK K) (by rfl) B.len (by decide +kernel) (pa_cons (pv 0) pa_nil)) (pe_kc (by rfl) c_MOST_COINS))))))
      (pss_one (ps_ret pe_bl)) pss_nil)
      (pss_cons (ps_if (pt_not (pt_val (pe_h h_is_within hr (by decide) (by rfl) passE (pa_cons (pe_ix (ixTK K) (pv 0) pe_int (fun _ _ => rfl)) (pa_cons pe_int (pa_cons pe_int pa_nil))))))
      (pss_one (ps_ret pe_bl)) pss_nil)
      (pss_cons (ps_for (passes_of rfl) rfl (pi_range2 (by rfl) B.range (pa_cons pe_int (pa_cons (pe_callB (lenK K) (by rfl) B.len (by decide +kernel) (pa_cons (pv 0) pa_nil)) pa_nil))) (pg_name (i := 1) nd rfl (Or.inl rfl))
      (pss_one (ps_if (pt_not (pt_val (pe_h h_is_within hr (by decide) (by rfl) passE (pa_cons (pe_ix (ixTK K) (pv 0) (pv 1) (fun _ _ => rfl)) (pa_cons (pe_op op_add (pe_ix (ixTK K) (pv 0) (pe_op op_sub (pv 1) pe_int) (fun _ _ => rfl)) pe_int) (pa_cons (pe_kc (by rfl) c_MOST_COIN) pa_nil))))))
      (pss_one (ps_ret pe_bl)) pss_nil)))
      (pss_one (ps_ret pe_bl))))), ?_⟩
    by_cases hT : ∃ a xs, x = .ref a ∧ H a = some (.tup xs)
    · obtain ⟨a, xs, rfl, ha⟩ := hT
      have hf : ∀ y ∈ xs, Tg H y := by
        cases hx with
        | tup e f _ => rw [ha] at e; cases e; exact f
        | lst e => rw [ha] at e; cases e
      have hb : b = isSys xs := by
        cases hx with
        | tup e f q => rw [ha] at e; cases e; exact q.symm
        | lst e => rw [ha] at e; cases e
      subst hb
      refine q_when (b := !true || !(decide ((1 : Int) ≤ (xs.length : Int)) && decide ((xs.length : Int) ≤ 8))) (et_or (et_not (et_B (ev_cb (ea_cons (ev_var rfl) (ea_cons ev_c ea_nil)) (rc_isiT ha)))) fun _ => et_not (et_test (ev_chain ev_c (ev_lenT (est_of (ev_var rfl) ha)) ev_c))) (fun h1 H1 e1 => ?_) (fun h1 H1 e1 => ?_)
      · refine s_ret ev_c fun H2 e2 => ?_
        have : isSys xs = false := by
          cases xs with
          | nil => rfl
          | cons y r =>
            rw [List.length_cons] at h1
            simp only [Bool.not_true, Bool.false_or, Bool.not_eq_true', Bool.and_eq_false_iff, decide_eq_false_iff_not] at h1
            have h2 : ¬ r.length ≤ 7 := by omega
            unfold isSys
            split
            · rename_i i r' hh
              cases hh
              rw [decide_eq_false h2, Bool.false_and, Bool.and_false]
            · rfl
        rw [this] at q
        exact q H2 (e1.trans e2)
      · simp only [Bool.not_true, Bool.false_or, Bool.not_eq_false', Bool.and_eq_true, decide_eq_true_eq] at h1
        obtain ⟨y, r, rfl⟩ : ∃ y r, xs = y :: r := by
          cases xs with
          | nil => simp at h1
          | cons y r => exact ⟨y, r, rfl⟩
        rw [List.length_cons] at h1
        have h7 : r.length ≤ 7 := by omega
        have ha1 := e1 _ _ ha
        have fy := hf y List.mem_cons_self
        refine q_when (b := !within y 1 1) (et_not (et_B (evc (ea_cons (ev_ixT (est_of (ev_var rfl) ha1) ev_c (atI_nat (j := 0) rfl)) (ea_cons ev_c (ea_cons ev_c ea_nil))) (v_is_within (fy.ex e1) rfl)))) (fun h2 H2 e2 => ?_) (fun h2 H2 e2 => ?_)
        · refine s_ret ev_c fun H3 e3 => ?_
          have : isSys (y :: r) = false := by
            cases y with
            | int i =>
              simp only [within, Bool.not_eq_true', Bool.and_eq_false_iff, decide_eq_false_iff_not] at h2
              have : ¬ i = 1 := by omega
              show (decide (i = 1) && _) = false
              rw [decide_eq_false this, Bool.false_and]
            | _ => rfl
          rw [this] at q
          exact q H3 ((e1.trans e2).trans e3)
        · have hy : y = .int 1 := by
            cases y with
            | int i =>
              simp only [within, Bool.not_eq_false', Bool.and_eq_true, decide_eq_true_eq] at h2
              rw [show i = 1 by omega]
            | _ => simp [within] at h2
          subst hy
          have hsys : isSys (.int 1 :: r) = okRest 1 r := by
            show (decide ((1 : Int) = 1) && (decide (r.length ≤ 7) && okRest 1 r)) = okRest 1 r
            rw [decide_eq_true rfl, decide_eq_true h7, Bool.true_and, Bool.true_and]
          rw [hsys] at q
          have e02 := e1.trans e2
          have ha2 := e02 _ _ ha
          refine q_forR2 (lo := 1) (n := ((r.length + 1 : Nat) : Int)) (ea_cons ev_c (ea_cons (ev_lenT (est_of (ev_var rfl) ha2)) ea_nil)) (by omega) (fun i σ' H' => Ex H H' ∧ ∃ u p, σ' = [some (.ref a), u] ∧ (.int 1 :: r)[i]? = some (.int p) ∧ okRest 1 r = okRest p (r.drop i)) (fun H3 e3 => ⟨e02.trans e3, _, 1, rfl, rfl, rfl⟩) (fun i σ' H' hi ⟨e3, u, p, hσ, hp, ho⟩ => ?_) (fun σ' H' ⟨e3, u, p, hσ, hp, ho⟩ => ?_)
          · subst hσ
            have hi' : i < r.length := by omega
            have hy := List.getElem?_eq_getElem hi'
            have hyr : (V.int 1 :: r)[i + 1]? = some r[i] := hy
            have ha3 := e3 _ _ ha
            have fz := (hf r[i] (List.mem_cons_of_mem _ (List.getElem_mem hi'))).ex e3
            have hd : r.drop i = r[i] :: r.drop (i + 1) := List.drop_eq_getElem_cons hi'
            refine s_when (b := !within r[i] (p + 1) 200) (et_not (et_B (evc (ea_cons (ev_ixT (est_of (ev_var rfl) ha3) (ev_var (v := .int (1 + (i : Int))) rfl) (by rw [show (1 : Int) + (i : Int) = ((i + 1 : Nat) : Int) by omega]; exact atI_nat hyr)) (ea_cons (ev_op (ev_ixT (est_of (ev_var rfl) ha3) (ev_op (ev_var (v := .int (1 + (i : Int))) rfl) ev_c rv_I0) (by rw [show (1 : Int) + (i : Int) - 1 = (i : Int) by omega]; exact atI_nat hp)) ev_c rv_I0) (ea_cons ev_c ea_nil))) (v_is_within fz rfl)))) (fun h3 H4 e4 => ?_) (fun h3 H4 e4 => ?_)
            · refine s_ret ev_c fun H5 e5 => ?_
              have : okRest 1 r = false := by
                rw [ho, hd]
                generalize hz : r[i] = z at h3
                cases z with
                | int k =>
                  show (within (.int k) (p + 1) 200 && okRest k (r.drop (i + 1))) = false
                  rw [Bool.not_eq_true'] at h3
                  rw [h3, Bool.false_and]
                | _ => rfl
              rw [this] at q
              exact q H5 ((e3.trans e4).trans e5)
            · refine ⟨e3.trans e4, some (.int (1 + (i : Int))), ?_⟩
              generalize hz : r[i] = z at h3
              cases z with
              | int k =>
                refine ⟨k, rfl, by rw [hyr, hz], ?_⟩
                rw [ho, hd, hz]
                show (within (.int k) (p + 1) 200 && okRest k (r.drop (i + 1))) = _
                rw [Bool.not_eq_false'] at h3
                rw [h3, Bool.true_and]
              | _ => simp [within] at h3
          · refine s_ret ev_c fun H4 e4 => ?_
            rw [show (((r.length + 1 : Nat) : Int) - 1).toNat = r.length by omega, List.drop_of_length_le (Nat.le_refl _)] at ho
            rw [ho] at q
            exact q H4 (e3.trans e4)
    · have hn : ∀ a xs, x = .ref a → H a ≠ some (.tup xs) := fun a xs e h => hT ⟨a, xs, e, h⟩
      have hb : b = false := by
        cases hx with
        | tup e f _ => exact absurd e (hn _ _ rfl)
        | _ => rfl
      subst hb
      refine q_when (b := true) (et_is (et_or (et_not (et_B (ev_cb (ea_cons (ev_var rfl) (ea_cons ev_c ea_nil)) (rc_isiN hx hn)))) (b := false) fun h => absurd h (by decide)) rfl) (fun _ H1 e1 => s_ret ev_c fun H2 e2 => q H2 (e1.trans e2)) fun h => absurd h (by decide)

/-! ### checked -/
theorem sc_checked : FnScope ["system"] ["system"] (defScope s_checked) := ⟨rfl, rfl, rfl, by decide +kernel, rfl, by decide +kernel, by decide +kernel⟩
def sp_checked (CS : Addr) : Sp := fun vs H Q E => ∃ x b, vs = [x] ∧ Sv H x b ∧ (b = true → ∀ H', Ex H H' → Q x H') ∧ (b = false → ∀ H', Ex H H' → E (.ref CS) none H')
theorem v_checked {CS : Addr} {H : Hp} {x : V} (h : Sv H x true) : SpV (sp_checked CS) [x] H x := fun H1 e1 Q q E => ⟨x, true, rfl, h.ex e1, fun _ H2 e2 => q H2 e2, fun z => (by cases z)⟩
theorem ok_checked {f : Addr} {fd : FuncData} {CS : Addr} (F : Fun K "checked" "checked" s_checked f fd) (h_is_system : Hs P w K mg base 2 "is_system" sp_is_system) (x_BadSystem : Ec K mg "BadSystem" CS) : FnOk P w K mg base (L2.CX P w) 3 f fd ["system"] (sp_checked CS) := by
  refine F.okX sc_checked (fun vs H Q E h => ?_) (fun cdv A outer s H vs Q E hr h => ?_)
  · obtain ⟨x, b, rfl, _⟩ := h
    rfl
  · obtain ⟨x, b, rfl, hx, q1, q2⟩ := h
    have nd := sc_checked.nd
    refine ⟨_, (pss_cons (ps_if (pt_not (pt_val (pe_h h_is_system hr (by decide) (by rfl) passE (pa_cons (pv 0) pa_nil))))
      (pss_one (ps_raise rfl (takes_of rfl rfl rfl rfl) (pmk_own PySem.F.excBase_ValueError x_BadSystem.x x_BadSystem.g x_BadSystem.k x_BadSystem.r (by rfl)))) pss_nil)
      (pss_one (ps_ret (pv 0)))), ?_⟩
    refine q_when (b := !b) (et_not (et_B (evc (ea_cons (ev_var rfl) ea_nil) (v_is_system hx)))) (fun h1 H1 e1 => ?_) (fun h1 H1 e1 => ?_)
    · exact q2 (by simpa using h1) H1 e1
    · exact s_ret (ev_var rfl) fun H2 e2 => q1 (by simpa using h1) H2 (e1.trans e2)

/-! ### look -/
theorem sc_look : FnScope ["system", "number"] ["system", "number"] (defScope s_look) := ⟨rfl, rfl, rfl, by decide +kernel, rfl, by decide +kernel, by decide +kernel⟩
def sp_look (CS CB : Addr) : Sp := fun vs H Q E => ∃ x y b, vs = [x, y] ∧ Sv H x b ∧ (b = true → Tg H y) ∧ (b = true → within y 0 2000 = true → ∀ H', Ex H H' → Q .non H') ∧ (b = true → within y 0 2000 = false → ∀ H', Ex H H' → E (.ref CB) none H') ∧ (b = false → ∀ H', Ex H H' → E (.ref CS) none H')
theorem v_look {CS CB : Addr} {H : Hp} {x y : V} (h : Sv H x true) (hy : Tg H y) (hw : within y 0 2000 = true) : SpV (sp_look CS CB) [x, y] H .non := fun H1 e1 Q q E =>
  ⟨x, y, true, rfl, h.ex e1, fun _ => hy.ex e1, fun _ _ H2 e2 => q H2 e2, fun _ z => (by rw [hw] at z; cases z), fun z => (by cases z)⟩
theorem within_iv {n lo hi : Nat} (h1 : lo ≤ n) (h2 : n ≤ hi) : within (iv n) (lo : Int) (hi : Int) = true := by
  show (decide ((lo : Int) ≤ (n : Int)) && decide ((n : Int) ≤ (hi : Int))) = true
  rw [decide_eq_true (by omega), decide_eq_true (by omega)]
  rfl
theorem ok_look {f : Addr} {fd : FuncData} {CS CB : Addr} (F : Fun K "look" "look" s_look f fd) (h_checked : Hs P w K mg base 3 "checked" (sp_checked CS)) (h_is_within : Hs P w K mg base 1 "is_within" sp_is_within) (c_MOST_SUM : Kc mg "MOST_SUM" 2000) (x_BadSum : Ec K mg "BadSum" CB) :
    FnOk P w K mg base (L2.CX P w) 4 f fd ["system", "number"] (sp_look CS CB) := by
  refine F.okX sc_look (fun vs H Q E h => ?_) (fun cdv A outer s H vs Q E hr h => ?_)
  · obtain ⟨x, y, b, rfl, _⟩ := h
    rfl
  · obtain ⟨x, y, b, rfl, hx, hy, q1, q2, q3⟩ := h
    have nd := sc_look.nd
    refine ⟨_, (pss_cons (ps_expr (pe_h h_checked hr (by decide) (by rfl) passE (pa_cons (pv 0) pa_nil)))
      (pss_one (ps_if (pt_not (pt_val (pe_h h_is_within hr (by decide) (by rfl) passE (pa_cons (pv 1) (pa_cons pe_int (pa_cons (pe_kc (by rfl) c_MOST_SUM) pa_nil))))))
      (pss_one (ps_raise rfl (takes_of rfl rfl rfl rfl) (pmk_own PySem.F.excBase_ValueError x_BadSum.x x_BadSum.g x_BadSum.k x_BadSum.r (by rfl)))) pss_nil))), ?_⟩
    cases b with
    | false => exact ⟨x, rfl, x, false, rfl, hx, fun z => (by cases z), fun _ H' e => q3 rfl H' e⟩
    | true =>
      refine q_drop (evc (ea_cons (ev_var rfl) ea_nil) (v_checked hx)) fun H1 e1 => ?_
      refine s_when (b := !within y 0 2000) (et_not (et_B (evc (ea_cons (ev_var rfl) (ea_cons ev_c (ea_cons ev_c ea_nil))) (v_is_within ((hy rfl).ex e1) rfl)))) (fun h1 H2 e2 => ?_) (fun h1 H2 e2 => ?_)
      · exact q2 rfl (by simpa using h1) H2 (e1.trans e2)
      · exact q1 rfl (by simpa using h1) H2 (e1.trans e2)

/-! ### fewest_up_to -/
theorem sc_fewest_up_to : FnScope ["system", "last", "found", "number", "coin"] ["system", "last"] (defScope s_fewest_up_to) := ⟨rfl, rfl, rfl, by decide +kernel, rfl, by decide +kernel, by decide +kernel⟩
def sp_fewest_up_to : Sp := fun vs H Q _ => ∃ a cs n, vs = [.ref a, iv n] ∧ H a = some (.tup (ivs cs)) ∧ Sys cs ∧ cs.length ≤ 1000 ∧ n ≤ 4000 ∧ ∀ p H', H p = none → Ex H H' → H' p = some (.lst (ivs (row cs n))) → Q (.ref p) H'
theorem v_fewest_up_to {H : Hp} {a : Addr} {cs : List Nat} {n : Nat} (ha : H a = some (.tup (ivs cs))) (hs : Sys cs) (hl : cs.length ≤ 1000) (hn : n ≤ 4000) : SpL sp_fewest_up_to [.ref a, iv n] H (ivs (row cs n)) :=
  fun H1 e1 Q q E => ⟨a, cs, n, rfl, e1 _ _ ha, hs, hl, hn, fun p H' hp e hq => q p H' hp e hq⟩
theorem ok_fewest_up_to {f : Addr} {fd : FuncData} (F : Fun K "fewest_up_to" "fewest_up_to" s_fewest_up_to f fd) (B : Bi mg) : FnOk P w K mg base (L2.CX P w) 1 f fd ["system", "last"] sp_fewest_up_to := by
  refine F.okX sc_fewest_up_to (fun vs H Q E h => ?_) (fun cdv A outer s H vs Q E hr h => ?_)
  · obtain ⟨a, cs, n, rfl, _⟩ := h
    rfl
  · obtain ⟨a, cs, n, rfl, ha, hs, hl, hn, q⟩ := h
    have nd := sc_fewest_up_to.nd
    refine ⟨_, (pss_cons (ps_set (i := 2) nd rfl (Or.inr rfl) (pe_lst (pa_cons pe_int pa_nil)))
      (pss_cons (ps_for (passes_of rfl) rfl (pi_range2 (by rfl) B.range (pa_cons pe_int (pa_cons (pe_op op_add (pv 1) pe_int) pa_nil))) (pg_name (i := 3) nd rfl (Or.inr rfl))
      (pss_one (ps_expr (pe_bm PySem.F.plainAttrs_list PySem.F.slot_list_append PySem.F.type_list_append mt_append (pv 2) (pa_cons (pe_op op_add (pe_callB (minK K) (by rfl) B.min (by decide +kernel) (pa_cons (pe_lc (own := [("coin", 4)]) (g := gName 4) rfl nd (pi_tup (pv 0)) (blkOk_by (own := [("coin", 4)]) (N := ["system", "last", "found", "number", "coin"]) (sc := defScope s_fewest_up_to) (by decide +kernel)) (fun _ _ _ _ _ => (pg_name (i := 4) nd rfl (Or.inl rfl))) (fun _ _ _ _ _ => (pts_one (pt_cmpR op_le (pv 4) (pv 3) (nomark _)))) (fun _ _ _ _ _ => (pe_ix (ixLK K) (pv 2) (pe_op op_sub (pv 3) (pv 4)) (fun _ _ => rfl)))) pa_nil)) pe_int) pa_nil)))))
      (pss_one (ps_ret (pv 2))))), ?_⟩
    refine q_asgL (el_lst (ea_cons ev_c ea_nil) (by decide)) fun p H1 hp e1 h1 => ?_
    refine q_forR2 (lo := 1) (n := ((n + 1 : Nat) : Int)) (ea_cons ev_c (ea_cons (ev_op (ev_var rfl) ev_c rv_I0) ea_nil)) (by omega) (fun i σ' H' => Ex H H' ∧ H' p = some (.lst (ivs (row cs i))) ∧ ∃ u1 u2, σ' = [some (.ref a), some (iv n), some (.ref p), u1, u2]) (fun H2 e2 => ⟨e1.trans e2, by rw [e2 _ _ h1, row_zero]; rfl, _, _, rfl⟩) (fun i σ' H' hi ⟨eH, hq, u1, u2, hσ⟩ => ?_) (fun σ' H' ⟨eH, hq, u1, u2, hσ⟩ => ?_)
    · subst hσ
      rw [show (V.int (1 + (i : Int))) = iv (i + 1) by unfold iv; congr 1; omega]
      have hm : ∃ m, (∃ c, c ∈ cs ∧ c ≤ i + 1 ∧ m = fw cs (i + 1 - c)) ∧ ∀ c, c ∈ cs → c ≤ i + 1 → m ≤ fw cs (i + 1 - c) := by
        obtain ⟨m, ⟨c, h1, h2, h3⟩, h4⟩ := least (p := fun m => ∃ c, c ∈ cs ∧ c ≤ i + 1 ∧ m = fw cs (i + 1 - c)) _ ⟨1, hs.mem1, by omega, rfl⟩
        exact ⟨m, ⟨c, h1, h2, h3⟩, fun c hc hl => h4 _ ⟨c, hc, hl, rfl⟩⟩
      obtain ⟨m, hm1, hm2⟩ := hm
      have hfw := fw_min hs.mem1 (Nat.succ_pos i) hm1 hm2
      refine s_app hq (vr (.ref p)) (v := iv (fw cs (i + 1))) (ev_is (ev_op (ev_min (ns := (cs.filter fun c : Nat => decide (c ≤ i + 1)).map fun c => fw cs (i + 1 - c)) (m := m) (esl_l (by
        unfold ivs
        rw [List.map_map]
        refine el_tup (fun c : Nat => decide (c ≤ i + 1)) _ (est_of (vr (.ref a)) (eH _ _ ha)) (by omega) (fun _ => rfl) (fun c H2 e2 hc => et_test (ev_op (vr (iv c)) (vr (iv (i + 1))) rvn_le)) (fun c H2 e2 hc hp => ?_)
        have hp := of_decide_eq_true hp
        have hc0 := hs.pos c hc
        exact ev_ixL (esl_of (vr (.ref p)) (sq_of (e2 _ _ hq))) (ev_op (vr (iv (i + 1))) (vr (iv c)) (rvn_sub hp)) (at_ivs (row_get (by omega))))) ?_ ?_) (cn 1) rvn_add) ?_) (by rw [ivs_len, row_len]; omega) fun H2 e2 => ?_
      · obtain ⟨c, c1, c2, c3⟩ := hm1
        exact List.mem_map.mpr ⟨c, List.mem_filter.mpr ⟨c1, decide_eq_true (by omega)⟩, c3.symm⟩
      · intro y hy
        obtain ⟨c, c1, rfl⟩ := List.mem_map.mp hy
        obtain ⟨c2, c3⟩ := List.mem_filter.mp c1
        exact hm2 c c2 (of_decide_eq_true c3)
      · rw [← hfw]
      · refine ⟨Ex.mut (eH.trans e2) hp, ?_, _, _, rfl⟩
        rw [upd_same, row_succ, ivs_snoc]
    · subst hσ
      rw [show (((n + 1 : Nat) : Int) - 1).toNat = n by omega] at hq
      exact s_ret (ev_var rfl) fun H2 e2 => q p H2 hp (eH.trans e2) (e2 _ _ hq)

/-! ### fewest -/
theorem sc_fewest : FnScope ["system", "number"] ["system", "number"] (defScope s_fewest) := ⟨rfl, rfl, rfl, by decide +kernel, rfl, by decide +kernel, by decide +kernel⟩
def sp_fewest (CS CB : Addr) : Sp := fun vs H Q E => ∃ x y b, vs = [x, y] ∧ Sv H x b ∧ (b = true → Tg H y) ∧ (b = true → within y 0 2000 = true → ∃ a cs n, x = .ref a ∧ y = iv n ∧ H a = some (.tup (ivs cs)) ∧ Good cs ∧ ∀ H', Ex H H' → Q (iv (fw cs n)) H') ∧
  (b = true → within y 0 2000 = false → ∀ H', Ex H H' → E (.ref CB) none H') ∧ (b = false → ∀ H', Ex H H' → E (.ref CS) none H')
theorem v_fewest {CS CB : Addr} {H : Hp} {a : Addr} {cs : List Nat} {n : Nat} (ha : H a = some (.tup (ivs cs))) (g : Good cs) (hn : n ≤ 2000) : SpV (sp_fewest CS CB) [.ref a, iv n] H (iv (fw cs n)) := fun H1 e1 Q q E =>
  ⟨.ref a, iv n, true, rfl, (Sv.good ha g).ex e1, fun _ => .int _, fun _ _ => ⟨a, cs, n, rfl, rfl, e1 _ _ ha, g, fun H2 e2 => q H2 e2⟩, fun _ z => (by rw [show within (iv n) 0 2000 = true from within_iv (lo := 0) (hi := 2000) (Nat.zero_le _) hn] at z; cases z), fun z => (by cases z)⟩
theorem within_le {n : Nat} {hi : Nat} (h : within (iv n) 0 (hi : Int) = true) : n ≤ hi := by
  unfold within iv at h
  simp only [Bool.and_eq_true, decide_eq_true_eq] at h
  omega
theorem ok_fewest {f : Addr} {fd : FuncData} {CS CB : Addr} (F : Fun K "fewest" "fewest" s_fewest f fd) (h_look : Hs P w K mg base 4 "look" (sp_look CS CB)) (h_fewest_up_to : Hs P w K mg base 1 "fewest_up_to" sp_fewest_up_to) :
    FnOk P w K mg base (L2.CX P w) 5 f fd ["system", "number"] (sp_fewest CS CB) := by
  refine F.okX sc_fewest (fun vs H Q E h => ?_) (fun cdv A outer s H vs Q E hr h => ?_)
  · obtain ⟨x, y, b, rfl, _⟩ := h
    rfl
  · obtain ⟨x, y, b, rfl, hx, hy, q0, q1, q2⟩ := h
    have nd := sc_fewest.nd
    refine ⟨_, (pss_cons (ps_expr (pe_h h_look hr (by decide) (by rfl) passE (pa_cons (pv 0) (pa_cons (pv 1) pa_nil))))
      (pss_one (ps_ret (pe_ix (ixLK K) (pe_h h_fewest_up_to hr (by decide) (by rfl) passE (pa_cons (pv 0) (pa_cons (pv 1) pa_nil))) (pv 1) (fun _ _ => rfl))))), ?_⟩
    refine ⟨x, rfl, y, rfl, x, y, b, rfl, hx, hy, fun hb hw H1 e1 => ?_, fun hb hw H1 e1 => q1 hb hw H1 e1, fun hb H1 e1 => q2 hb H1 e1⟩
    obtain ⟨a, cs, n, rfl, rfl, ha, g, q⟩ := q0 hb hw
    have hn : n ≤ 2000 := within_le (hi := 2000) hw
    have hl := g.len
    exact s_ret (ev_ixL (esl_l (elc (ea_cons (vr (.ref a)) (ea_cons (vr (iv n)) ea_nil)) (v_fewest_up_to (e1 _ _ ha) g.toSys (by omega) (by omega)))) (vr (iv n)) (at_ivs (row_get (Nat.le_refl n)))) fun H2 e2 => q H2 (e1.trans e2)

/-! ### by_fewest -/
theorem sc_by_fewest : FnScope ["system", "number", "rows", "found", "coin", "left", "at"] ["system", "number"] (defScope s_by_fewest) := ⟨rfl, rfl, rfl, by decide +kernel, rfl, by decide +kernel, by decide +kernel⟩
def sp_by_fewest (CS CB : Addr) : Sp := fun vs H Q E => ∃ x y b, vs = [x, y] ∧ Sv H x b ∧ (b = true → Tg H y) ∧ (b = true → within y 0 2000 = true → ∃ a cs n, x = .ref a ∧ y = iv n ∧ H a = some (.tup (ivs cs)) ∧ Good cs ∧ ∀ p H', Ex H H' → H' p = some (.tup (ivs (byFew cs n))) → Q (.ref p) H') ∧
  (b = true → within y 0 2000 = false → ∀ H', Ex H H' → E (.ref CB) none H') ∧ (b = false → ∀ H', Ex H H' → E (.ref CS) none H')
theorem v_by_fewest {CS CB : Addr} {H : Hp} {a : Addr} {cs : List Nat} {n : Nat} (ha : H a = some (.tup (ivs cs))) (g : Good cs) (hn : n ≤ 2000) : SpSt (sp_by_fewest CS CB) [.ref a, iv n] H (ivs (byFew cs n)) := fun H1 e1 Q q E =>
  ⟨.ref a, iv n, true, rfl, (Sv.good ha g).ex e1, fun _ => .int _, fun _ _ => ⟨a, cs, n, rfl, rfl, e1 _ _ ha, g, fun p H2 e2 h2 => q p H2 e2 h2⟩, fun _ z => (by rw [show within (iv n) 0 2000 = true from within_iv (lo := 0) (hi := 2000) (Nat.zero_le _) hn] at z; cases z), fun z => (by cases z)⟩
theorem ok_by_fewest {f : Addr} {fd : FuncData} {CS CB : Addr} (F : Fun K "by_fewest" "by_fewest" s_by_fewest f fd) (B : Bi mg) (h_look : Hs P w K mg base 4 "look" (sp_look CS CB)) (h_fewest_up_to : Hs P w K mg base 1 "fewest_up_to" sp_fewest_up_to) :
    FnOk P w K mg base (L2.CX P w) 5 f fd ["system", "number"] (sp_by_fewest CS CB) := by
  refine F.okX sc_by_fewest (fun vs H Q E h => ?_) (fun cdv A outer s H vs Q E hr h => ?_)
  · obtain ⟨x, y, b, rfl, _⟩ := h
    rfl
  · obtain ⟨x, y, b, rfl, hx, hy, q0, q1, q2⟩ := h
    have nd := sc_by_fewest.nd
    refine ⟨_, (pss_cons (ps_expr (pe_h h_look hr (by decide) (by rfl) passE (pa_cons (pv 0) (pa_cons (pv 1) pa_nil))))
      (pss_cons (ps_set (i := 2) nd rfl (Or.inl rfl) (pe_h h_fewest_up_to hr (by decide) (by rfl) passE (pa_cons (pv 0) (pa_cons (pv 1) pa_nil))))
      (pss_cons (ps_setLc (i := 3) (own := [("coin", 4)]) (g := gName 4) (tt := tYes) rfl nd rfl rfl (sw_true rfl rfl rfl (by decide +kernel)) (pi_tup (pv 0)) (blkOk_by (own := [("coin", 4)]) (N := ["system", "number", "rows", "found", "coin", "left", "at"]) (sc := defScope s_by_fewest) (by decide +kernel)) (fun _ _ _ _ _ => (pg_name (i := 4) nd rfl (Or.inl rfl))) (fun _ _ _ _ _ => pts_nil) (fun _ _ _ _ _ => pe_int))
      (pss_cons (ps_set (i := 5) nd rfl (Or.inl rfl) (pv 1))
      (pss_cons (ps_for (passes_of rfl) rfl (pi_range3 (by rfl) B.range (pa_cons (pe_op op_sub (pe_callB (lenK K) (by rfl) B.len (by decide +kernel) (pa_cons (pv 0) pa_nil)) pe_int) (pa_cons (pe_un un_neg pe_int) (pa_cons (pe_un un_neg pe_int) pa_nil)))) (pg_name (i := 6) nd rfl (Or.inl rfl))
      (pss_one (ps_while (passes_of rfl) (PW.pt (pw_and (pt_cmpR op_ge (pv 5) (pe_ix (ixTK K) (pv 0) (pv 6) (fun _ _ => rfl)) (nomark _)) (pw_and1 (pt_cmpR op_eq (pe_ix (ixLK K) (pv 2) (pe_op op_sub (pv 5) (pe_ix (ixTK K) (pv 0) (pv 6) (fun _ _ => rfl))) (fun _ _ => rfl)) (pe_op op_sub (pe_ix (ixLK K) (pv 2) (pv 5) (fun _ _ => rfl)) pe_int) (nomark _)))))
      (pss_cons (ps_asg (pe_op op_add (pe_ix (ixLK K) (pv 3) (pv 6) (fun _ _ => rfl)) pe_int) (pg_sub (pv 3) (pv 6) set_list))
      (pss_one (ps_set (i := 5) nd rfl (Or.inl rfl) (pe_op op_sub (pv 5) (pe_ix (ixTK K) (pv 0) (pv 6) (fun _ _ => rfl)))))))))
      (pss_one (ps_ret (pe_callTy (tupK K) (by rfl) B.tuple (by decide +kernel) (pa_cons (pv 3) pa_nil))))))))), ?_⟩
    refine ⟨x, rfl, y, rfl, x, y, b, rfl, hx, hy, fun hb hw H1 e1 => ?_, fun hb hw H1 e1 => q1 hb hw H1 e1, fun hb H1 e1 => q2 hb H1 e1⟩
    obtain ⟨a, cs, n, rfl, rfl, ha, g, q⟩ := q0 hb hw
    have hn : n ≤ 2000 := within_le (hi := 2000) hw
    have hl := g.len
    have hS := g.toSys
    have ha1 := e1 _ _ ha
    refine q_asgL (elc (ea_cons (vr (.ref a)) (ea_cons (vr (iv n)) ea_nil)) (v_fewest_up_to ha1 hS (by omega) (by omega))) fun r H2 hr2 e2 h2 => ?_
    refine q_asgL (el_tup (fun _ : Nat => true) (fun _ => iv 0) (est_of (vr (.ref a)) (e2 _ _ ha1)) (by omega) (fun _ => rfl) (fun c H1 e1 _ => et_yes) (fun c H1 e1 _ _ => cn 0)) fun p H3 hp e3 h3 => ?_
    rw [filter_yes] at h3
    have e02 := e1.trans e2
    have hp0 : H p = none := fresh_back e02 hp
    refine q_asg (vr (iv n)) fun H4 e4 => ?_
    have hrow : Ex H2 H2 := Ex.refl _
    refine q_forRC (ea_cons (ev_op (ev_lenN (est_of (vr (.ref a)) (e4 _ _ (e3 _ _ (e2 _ _ ha1))))) ev_c rv_I0) (ea_cons (ev_un ev_c ru_neg) (ea_cons (ev_un ev_c ru_neg) ea_nil))) (rg_down cs.length (by omega))
      (fun i σ' H' => i ≤ cs.length ∧ Ex H2 H' ∧ H' p = some (.lst (ivs (bfF cs n i))) ∧ bfR cs n i ≤ n ∧ ∃ u4 u6, σ' = [some (.ref a), some (iv n), some (.ref r), some (.ref p), u4, some (iv (bfR cs n i)), u6]) (fun H5 e5 => ⟨Nat.zero_le _, e3.trans (e4.trans e5), ?_, Nat.le_refl _, _, _, rfl⟩) (fun i σ' H' hi hW => ?_) (fun σ' H' hW => ?_)
    · rw [e5 _ _ (e4 _ _ h3), bfF_zero]
      unfold ivs
      rw [List.map_map]
      rfl
    · obtain ⟨hle, eH, hq, hln, u4, u6, hσ⟩ := hW
      subst hσ
      obtain ⟨c, hci⟩ : ∃ c, cs[cs.length - 1 - i]? = some c := ⟨_, List.getElem?_eq_getElem (by omega)⟩
      have hcm := List.mem_of_getElem? hci
      have c0 := hS.pos c hcm
      rw [show (V.int ((cs.length : Int) - 1 + (i : Int) * -1)) = iv (cs.length - 1 - i) by unfold iv; congr 1; omega]
      generalize hL0 : bfR cs n i = L0 at hln
      -- within: j taken, L left
      refine s_while (fun L σ2 H5 => ∃ j, σ2 = [some (.ref a), some (iv n), some (.ref r), some (.ref p), u4, some (iv L), some (iv (cs.length - 1 - i))] ∧ Ex H2 H5 ∧ H5 p = some (.lst (ivs ((bfF cs n i).set (cs.length - 1 - i) j))) ∧ L ≤ L0 ∧ j * c + L = L0 ∧ j + bfK cs c L = bfK cs c L0) L0 ⟨0, rfl, eH, ?_, Nat.le_refl _, by omega, by omega⟩ (fun L σ2 H5 hV => ?_)
      · rw [hq]
        congr 2
        refine congrArg ivs ?_
        refine List.ext_getElem? fun k => ?_
        rw [List.getElem?_set]
        by_cases hk : cs.length - 1 - i = k
        · subst hk
          rw [if_pos rfl, bfF_at hi]
          rw [if_pos (by rw [bfF_len (by omega)]; omega)]
        · rw [if_neg hk]
      · obtain ⟨j, rfl, eH5, hq5, hL, hj1, hj2⟩ := hV
        have eH05 := e02.trans eH5
        have hr5 := eH5 _ _ h2
        have hix := fun H6 (e6 : Ex H5 H6) => ev_ixT (K := K) (ta := tVar 0) (tb := tVar 6) (σ := [some (.ref a), some (iv n), some (.ref r), some (.ref p), u4, some (iv L), some (iv (cs.length - 1 - i))]) (est_of (vr (.ref a)) (e6 _ _ (eH05 _ _ ha))) (vr (iv (cs.length - 1 - i))) (at_ivs hci)
        refine ⟨decide (c ≤ L) && decide (fw cs (L - c) = fw cs L - 1), et_and (et_test (ev_op (vr (iv L)) (hix H5 (Ex.refl _)) rvn_ge)) (fun hcL => ?_), fun ht H6 e6 => ?_, fun ht H6 e6 => ?_⟩
        · have hcL := of_decide_eq_true hcL
          have hpos := fw_pos hS.mem1 (show 0 < L by omega)
          exact et_test (ev_op (ev_ixL (esl_of (vr (.ref r)) (sq_of hr5)) (ev_op (vr (iv L)) (hix H5 (Ex.refl _)) (rvn_sub hcL)) (at_ivs (row_get (by omega)))) (ev_op (ev_ixL (esl_of (vr (.ref r)) (sq_of hr5)) (vr (iv L)) (at_ivs (row_get (by omega)))) (cn 1) (rvn_sub hpos)) rvn_eq)
        · rw [Bool.and_eq_true, decide_eq_true_iff, decide_eq_true_iff] at ht
          have hpos := fw_pos hS.mem1 (show 0 < L by omega)
          have hk := bfK_yes c0 ht.1 (by omega : fw cs (L - c) + 1 = fw cs L)
          have hq6 := e6 _ _ hq5
          have hset : ((bfF cs n i).set (cs.length - 1 - i) j)[cs.length - 1 - i]? = some j := by rw [List.getElem?_set, if_pos rfl, if_pos (by rw [bfF_len (by omega)]; omega)]
          refine ⟨_, fun σ3 H7 h => h, ?_⟩
          refine q_setL hq6 (ev_op (ev_ixL (esl_of (vr (.ref p)) (sq_of hq6)) (vr (iv (cs.length - 1 - i))) (at_ivs hset)) (cn 1) rvn_add) (vr (.ref p)) (vr (iv (cs.length - 1 - i))) (by rw [ivs_len, List.length_set, bfF_len (by omega)]; omega) fun H7 e7 => ?_
          have hp2 : H2 p = none := hp
          have e8 : Ex H2 (upd H7 p (.lst ((ivs ((bfF cs n i).set (cs.length - 1 - i) j)).set (cs.length - 1 - i) (iv (j + 1))))) := Ex.mut (eH5.trans (e6.trans e7)) hp2
          refine s_asg (ev_op (vr (iv L)) (ev_ixT (est_of (vr (.ref a)) (e8 _ _ (e2 _ _ ha1))) (vr (iv (cs.length - 1 - i))) (at_ivs hci)) (rvn_sub ht.1)) fun H8 e9 => ?_
          refine ⟨L - c, by omega, j + 1, rfl, e8.trans e9, ?_, by omega, by rw [Nat.succ_mul]; omega, by omega⟩
          rw [e9 _ _ upd_same]
          unfold ivs
          rw [List.map_set, List.set_set, List.map_set]
        · have hno : ¬ (c ≤ L ∧ fw cs (L - c) + 1 = fw cs L) := by
            rintro ⟨h1, h3⟩
            rw [Bool.and_eq_false_iff, decide_eq_false_iff_not, decide_eq_false_iff_not] at ht
            rcases ht with ht | ht
            · exact ht h1
            · exact ht (by omega)
          rw [bfK_no hno] at hj2
          have hj : j = bfK cs c L0 := by omega
          refine ⟨by omega, eH5.trans e6, ?_, ?_, u4, some (iv (cs.length - 1 - i)), ?_⟩
          · rw [e6 _ _ hq5, bfF_succ hi hci, hL0, hj]
          · rw [bfR_succ hi hci, hL0]
            omega
          · rw [bfR_succ hi hci, hL0, ← hj, show L0 - j * c = L by omega]
    · obtain ⟨hle, eH, hq, hln, u4, u6, hσ⟩ := hW
      subst hσ
      rw [bfF_end] at hq
      exact s_retT (est_tup (esl_of (vr (.ref p)) (sq_of hq))) fun b H5 e5 h5 => q b H5 (e02.trans (eH.trans e5)) h5

/-! ### sum_of -/
theorem sc_sum_of : FnScope ["system", "way", "often", "coin"] ["system", "way"] (defScope s_sum_of) := ⟨rfl, rfl, rfl, by decide +kernel, rfl, by decide +kernel, by decide +kernel⟩
def wayOk (m : Nat) (xs : List V) : Bool := decide (xs.length = m) && xs.all fun y => within y 0 2000
def sp_sum_of (CS CW : Addr) : Sp := fun vs H Q E => ∃ x y b, vs = [x, y] ∧ Sv H x b ∧ (b = false → ∀ H', Ex H H' → E (.ref CS) none H') ∧
  (b = true → ∃ a cs c, x = .ref a ∧ H a = some (.tup (ivs cs)) ∧ Good cs ∧ Fv (wayOk cs.length) H y c ∧ (c = false → ∀ H', Ex H H' → E (.ref CW) none H') ∧ (c = true → ∃ p way, y = .ref p ∧ H p = some (.tup (ivs way)) ∧ ∀ H', Ex H H' → Q (iv (dot way cs)) H'))
theorem all_within : ∀ {ns : List Nat}, (∀ n ∈ ns, n ≤ 2000) → (ivs ns).all (fun y => within y 0 2000) = true
  | [], _ => rfl
  | n :: r, h => by
    show (within (iv n) 0 2000 && (ivs r).all fun y => within y 0 2000) = true
    rw [show within (iv n) 0 2000 = true from within_iv (lo := 0) (hi := 2000) (Nat.zero_le _) (h n List.mem_cons_self), all_within fun x hx => h x (List.mem_cons_of_mem _ hx)]
    rfl
theorem v_sum_of {CS CW : Addr} {H : Hp} {a p : Addr} {cs way : List Nat} (ha : H a = some (.tup (ivs cs))) (g : Good cs) (hp : H p = some (.tup (ivs way))) (hl : way.length = cs.length) (hw : ∀ n ∈ way, n ≤ 2000) : SpV (sp_sum_of CS CW) [.ref a, .ref p] H (iv (dot way cs)) := fun H1 e1 Q q E =>
  ⟨.ref a, .ref p, true, rfl, (Sv.good ha g).ex e1, fun z => (by cases z), fun _ => ⟨a, cs, true, rfl, e1 _ _ ha, g, .tup (e1 _ _ hp) tg_ivs (by unfold wayOk; rw [ivs_len, decide_eq_true hl, all_within hw]; rfl), fun z => (by cases z), fun _ => ⟨p, way, rfl, e1 _ _ hp, fun H2 e2 => q H2 e2⟩⟩⟩
theorem ok_sum_of {f : Addr} {fd : FuncData} {CS CW : Addr} (F : Fun K "sum_of" "sum_of" s_sum_of f fd) (B : Bi mg) (h_checked : Hs P w K mg base 3 "checked" (sp_checked CS)) (h_is_within : Hs P w K mg base 1 "is_within" sp_is_within) (c_MOST_SUM : Kc mg "MOST_SUM" 2000) (x_BadWay : Ec K mg "BadWay" CW) :
    FnOk P w K mg base (L2.CX P w) 5 f fd ["system", "way"] (sp_sum_of CS CW) := by
  refine F.okX sc_sum_of (fun vs H Q E h => ?_) (fun cdv A outer s H vs Q E hr h => ?_)
  · obtain ⟨x, y, b, rfl, _⟩ := h
    rfl
  · obtain ⟨x, y, b, rfl, hx, q1, q2⟩ := h
    have nd := sc_sum_of.nd
    refine ⟨_, (pss_cons (ps_expr (pe_h h_checked hr (by decide) (by rfl) passE (pa_cons (pv 0) pa_nil)))
      (pss_cons (ps_if (PW.pt (pw_or (pt_not (pt_val (pe_callB (isiK K) (by rfl) B.isinstance (by decide +kernel) (pa_cons (pv 1) (pa_cons (pe_bltn (by rfl) B.tuple (by decide +kernel) (show RelV (.ty "tuple") _ from rfl)) pa_nil))))) (pw_or1 (pt_cmpR op_ne (pe_callB (lenK K) (by rfl) B.len (by decide +kernel) (pa_cons (pv 1) pa_nil)) (pe_callB (lenK K) (by rfl) B.len (by decide +kernel) (pa_cons (pv 0) pa_nil)) (nomark _)))))
      (pss_one (ps_raise rfl (takes_of rfl rfl rfl rfl) (pmk_own PySem.F.excBase_ValueError x_BadWay.x x_BadWay.g x_BadWay.k x_BadWay.r (by rfl)))) pss_nil)
      (pss_cons (ps_for (passes_of rfl) rfl (pi_tup (pv 1)) (pg_name (i := 2) nd rfl (Or.inl rfl))
      (pss_one (ps_if (pt_not (pt_val (pe_h h_is_within hr (by decide) (by rfl) passE (pa_cons (pv 2) (pa_cons pe_int (pa_cons (pe_kc (by rfl) c_MOST_SUM) pa_nil))))))
      (pss_one (ps_raise rfl (takes_of rfl rfl rfl rfl) (pmk_own PySem.F.excBase_ValueError x_BadWay.x x_BadWay.g x_BadWay.k x_BadWay.r (by rfl)))) pss_nil)))
      (pss_one (ps_ret (pe_callB (sumK K) (by rfl) B.sum (by decide +kernel) (pa_cons (pe_lc (own := [("often", 2), ("coin", 3)]) (tt := tYes) rfl nd (RZ.pi_zipA (by rfl) B.zip (pa_cons (pv 1) (pa_cons (pv 0) pa_nil))) (blkOk_by (own := [("often", 2), ("coin", 3)]) (N := ["system", "way", "often", "coin"]) (sc := defScope s_sum_of) (by decide +kernel)) (fun _ _ _ _ _ => (pgTupK (n := 2) K rfl (pgs_cons (pg_name (i := 2) nd rfl (Or.inl rfl)) (pgs_cons (pg_name (i := 3) nd rfl (Or.inl rfl)) pgs_nil)))) (fun _ _ _ _ _ => pts_nil) (fun _ _ _ _ _ => (pe_op op_mul (pv 2) (pv 3)))) pa_nil))))))), ?_⟩
    cases b with
    | false => exact ⟨x, rfl, x, false, rfl, hx, fun z => (by cases z), fun _ H' e => q1 rfl H' e⟩
    | true =>
      obtain ⟨a, cs, c, rfl, ha, g, hy, q3, q4⟩ := q2 rfl
      refine q_drop (evc (ea_cons (vr (.ref a)) ea_nil) (v_checked hx)) fun H1 e1 => ?_
      by_cases hT : ∃ p xs, y = .ref p ∧ H p = some (.tup xs)
      · obtain ⟨p, xs, rfl, hp⟩ := hT
        have hf : ∀ z ∈ xs, Tg H z := by
          cases hy with
          | tup e f _ => rw [hp] at e; cases e; exact f
          | lst e => rw [hp] at e; cases e
        have hc : c = wayOk cs.length xs := by
          cases hy with
          | tup e f q => rw [hp] at e; cases e; exact q.symm
          | lst e => rw [hp] at e; cases e
        have hp1 := e1 _ _ hp
        have ha1 := e1 _ _ ha
        refine q_when (b := !true || !decide (xs.length = cs.length)) (et_or (et_not (et_B (ev_cb (ea_cons (vr (.ref p)) (ea_cons ev_c ea_nil)) (rc_isiT hp1)))) fun _ => et_test (ev_op (ev_lenT (est_of (vr (.ref p)) hp1)) (ev_lenN (est_of (vr (.ref a)) ha1)) rvn_ne)) (fun h1 H2 e2 => ?_) (fun h1 H2 e2 => ?_)
        · have h1 : ¬ xs.length = cs.length := by simpa using h1
          refine q3 ?_ H2 (e1.trans e2)
          rw [hc]
          unfold wayOk
          rw [decide_eq_false h1, Bool.false_and]
        · have h1 : xs.length = cs.length := by simpa using h1
          have hc' : c = xs.all fun y => within y 0 2000 := by
            rw [hc]
            unfold wayOk
            rw [decide_eq_true h1, Bool.true_and]
          have hl := g.len
          have e02 := e1.trans e2
          refine q_forTn (vr (.ref p)) (e02 _ _ hp) (fun i σ' H' => Ex H H' ∧ (xs.take i).all (fun y => within y 0 2000) = true ∧ ∃ u2 u3, σ' = [some (.ref a), some (.ref p), u2, u3]) (fun H3 e3 => ⟨e02.trans e3, rfl, _, _, rfl⟩) (fun i σ' H' hW => hW.1 _ _ hp) (fun i z σ' H' hz hW => ?_) (fun σ' H' hW => ?_)
          · obtain ⟨eH, hall, u2, u3, rfl⟩ := hW
            have fz := (hf z (List.mem_of_getElem? hz)).ex eH
            refine s_when (b := !within z 0 2000) (et_not (et_B (evc (ea_cons (vr z) (ea_cons ev_c (ea_cons ev_c ea_nil))) (v_is_within fz rfl)))) (fun h2 H3 e3 => ?_) (fun h2 H3 e3 => ?_)
            · refine q3 ?_ H3 (eH.trans e3)
              rw [hc', List.all_eq_false]
              exact ⟨z, List.mem_of_getElem? hz, by simpa using h2⟩
            · refine ⟨eH.trans e3, ?_, some z, u3, rfl⟩
              rw [List.take_add_one, hz, List.all_append, hall]
              simpa using h2
          · obtain ⟨eH, hall, u2, u3, rfl⟩ := hW
            rw [List.take_length] at hall
            obtain ⟨p', way, e, hp', q⟩ := q4 (by rw [hc', hall])
            cases e
            rw [hp] at hp'
            have hxs : xs = ivs way := by cases hp'; rfl
            have hlw : way.length = cs.length := by rw [← h1, hxs, ivs_len]
            have hw2 : ∀ n ∈ way, n ≤ 2000 := fun n hn => by
              have := List.all_eq_true.mp hall (iv n) (by rw [hxs]; exact List.mem_map.mpr ⟨n, hn, rfl⟩)
              exact within_le (hi := 2000) this
            refine s_ret (v := iv (dot way cs)) (ev_is (ev_sumL (esl_l (el_zip (fun x y => x * y) hlw (by omega) (ea_cons (vr (.ref p)) (ea_cons (vr (.ref a)) ea_nil)) (by rw [← hxs]; exact eH _ _ hp) (eH _ _ ha) (fun _ _ => rfl) (fun x y H4 e4 hx _ => ev_op (vr (iv x)) (vr (iv y)) (rvn_mul (by have := hw2 x hx; omega)))))) (by rw [dot_zip])) fun H3 e3 => q H3 (eH.trans e3)
      · have hn : ∀ p xs, y = .ref p → H p ≠ some (.tup xs) := fun p xs e h => hT ⟨p, xs, e, h⟩
        have hcf : c = false := by
          cases hy with
          | tup e f _ => exact absurd e (hn _ _ rfl)
          | _ => rfl
        subst hcf
        have hn1 : ∀ p xs, y = .ref p → H1 p ≠ some (.tup xs) := fun p xs e h => by
          cases hy with
          | tup e' f _ => exact absurd e' (hn _ _ rfl)
          | lst e' =>
            cases e
            rw [e1 _ _ e'] at h
            cases h
          | _ => cases e
        exact q_when (b := true) (et_is (et_or (et_not (et_B (ev_cb (ea_cons (vr y) (ea_cons ev_c ea_nil)) (rc_isiN (hy.ex e1) hn1)))) (b := false) fun h => absurd h (by decide)) rfl) (fun _ H2 e2 => q3 rfl H2 (e1.trans e2)) fun h => absurd h (by decide)

/-! ### _law_cell -/
theorem sc__law_cell : FnScope ["_law_script", "_law_k"] ["_law_script", "_law_k"] (defScope s__law_cell) := ⟨rfl, rfl, rfl, by decide +kernel, rfl, by decide +kernel, by decide +kernel⟩
def sp_cell (K : PySem.W.Frag) : Sp := fun vs H Q _ => ∃ (a : Addr) (ns : List Int) (k : Nat), vs = [.ref a, iv k] ∧ SqL K H a (ns.map V.int) ∧ ∀ H', Ex H H' → Q (.int (cell ns k)) H'
theorem v_cell {H : Hp} {a : Addr} {ns : List Int} {k : Nat} (ha : SqL K H a (ns.map V.int)) : SpV (sp_cell K) [.ref a, iv k] H (.int (cell ns k)) := fun H1 e1 Q q E => ⟨a, ns, k, rfl, ex_l e1 ha, fun H2 e2 => q H2 e2⟩
theorem ok__law_cell {f : Addr} {fd : FuncData} (F : Fun K "_law_cell" "_law_cell" s__law_cell f fd) (B : Bi mg) : FnOk P w K mg base (L2.CX P w) 1 f fd ["_law_script", "_law_k"] (sp_cell K) := by
  refine F.okX sc__law_cell (fun vs H Q E h => ?_) (fun cdv A outer s H vs Q E hr h => ?_)
  · obtain ⟨a, ns, k, rfl, _⟩ := h
    rfl
  · obtain ⟨a, ns, k, rfl, ha, q⟩ := h
    have nd := sc__law_cell.nd
    refine ⟨_, (pss_cons (ps_if (pt_cmpR op_lt (pv 1) (pe_callB (lenK K) (by rfl) B.len (by decide +kernel) (pa_cons (pv 0) pa_nil)) (nomark _))
      (pss_one (ps_ret (pe_ix (ixLK K) (pv 0) (pv 1) (fun _ _ => rfl)))) pss_nil)
      (pss_one (ps_ret pe_int))), ?_⟩
    refine q_when (et_test (ev_op (vr (iv k)) (ev_lenL (esl_of (vr (.ref a)) ha)) rvn_lt)) (fun h1 H1 e1 => ?_) (fun h1 H1 e1 => ?_)
    · have h1 := of_decide_eq_true h1
      rw [List.length_map] at h1
      have hg : (ns.map V.int)[k]? = some (.int (cell ns k)) := by
        unfold cell
        rw [List.getElem?_map, List.getD_eq_getElem?_getD, List.getElem?_eq_getElem h1]
        rfl
      exact s_ret (ev_ixL (esl_of (vr (.ref a)) (ex_l e1 ha)) (vr (iv k)) (atI_nat hg)) fun H2 e2 => q H2 (e1.trans e2)
    · have h1 := of_decide_eq_false h1
      rw [List.length_map] at h1
      have hg : cell ns k = 0 := by
        unfold cell
        rw [List.getD_eq_getElem?_getD, List.getElem?_eq_none (by omega)]
        rfl
      rw [hg] at q
      exact s_ret ev_c fun H2 e2 => q H2 (e1.trans e2)

/-! ### _law_mix -/
theorem sc__law_mix : FnScope ["_law_cell_here", "_law_prime", "_law_many"] ["_law_cell_here", "_law_prime", "_law_many"] (defScope s__law_mix) := ⟨rfl, rfl, rfl, by decide +kernel, rfl, by decide +kernel, by decide +kernel⟩
def sp_mix : Sp := fun vs H Q _ => ∃ c p m, vs = [.int c, iv p, iv m] ∧ 0 < p ∧ 0 < m ∧ ∀ H', Ex H H' → Q (iv (mix c p m)) H'
theorem v_mix {H : Hp} {c : Int} {p m : Nat} (hp : 0 < p) (hm : 0 < m) : SpV sp_mix [.int c, iv p, iv m] H (iv (mix c p m)) := fun H1 e1 Q q E => ⟨c, p, m, rfl, hp, hm, fun H2 e2 => q H2 e2⟩
theorem ok__law_mix {f : Addr} {fd : FuncData} (F : Fun K "_law_mix" "_law_mix" s__law_mix f fd) : FnOk P w K mg base (L2.CX P w) 1 f fd ["_law_cell_here", "_law_prime", "_law_many"] sp_mix := by
  refine F.okX sc__law_mix (fun vs H Q E h => ?_) (fun cdv A outer s H vs Q E hr h => ?_)
  · obtain ⟨c, p, m, rfl, _⟩ := h
    rfl
  · obtain ⟨c, p, m, rfl, hp, hm, q⟩ := h
    have nd := sc__law_mix.nd
    refine ⟨_, (pss_one (ps_ret (pe_op op_mod (pe_op op_mod (pe_op op_mul (pv 0) pe_int) (pv 1)) (pv 2)))), ?_⟩
    refine s_ret (ev_op (ev_op (ev_op (vr (.int c)) ev_c (rv_I (.inr ⟨by decide, by decide⟩))) (vr (.int (p : Int))) (rv_I (by omega))) (vr (.int (m : Int))) (rv_I (by omega))) fun H1 e1 => ?_
    have := q H1 e1
    unfold iv at this
    rwa [← mix_eq c p m hm] at this

/-! ### _law_whole -/
theorem sc__law_whole : FnScope ["_law_found"] ["_law_found"] (defScope s__law_whole) := ⟨rfl, rfl, rfl, by decide +kernel, rfl, by decide +kernel, by decide +kernel⟩
def whole (x : V) : Bool := isI x && !isB x
def sp_whole : Sp := fun vs H Q _ => ∃ x, vs = [x] ∧ Tg H x ∧ ∀ H', Ex H H' → Q (.bl (whole x)) H'
theorem v_whole {H : Hp} {x : V} {b : Bool} (h : Tg H x) (e : whole x = b) : SpV sp_whole [x] H (.bl b) := fun H1 e1 Q q E => ⟨x, rfl, h.ex e1, fun H2 e2 => e ▸ q H2 e2⟩
theorem ok__law_whole {f : Addr} {fd : FuncData} (F : Fun K "_law_whole" "_law_whole" s__law_whole f fd) (B : Bi mg) : FnOk P w K mg base (L2.CX P w) 1 f fd ["_law_found"] sp_whole := by
  refine F.okX sc__law_whole (fun vs H Q E h => ?_) (fun cdv A outer s H vs Q E hr h => ?_)
  · obtain ⟨x, rfl, _⟩ := h
    rfl
  · obtain ⟨x, rfl, hx, q⟩ := h
    have nd := sc__law_whole.nd
    refine ⟨_, (pss_one (ps_ret (pe_and (pe_callB (isiK K) (by rfl) B.isinstance (by decide +kernel) (pa_cons (pv 0) (pa_cons (pe_bltn (by rfl) B.int (by decide +kernel) (show RelV (.ty "int") _ from rfl)) pa_nil))) (pe_one (pe_not (pe_callB (isiK K) (by rfl) B.isinstance (by decide +kernel) (pa_cons (pv 0) (pa_cons (pe_bltn (by rfl) B.bool (by decide +kernel) (show RelV (.ty "bool") _ from rfl)) pa_nil)))))))), ?_⟩
    exact s_ret (ev_andV (ev_cb (ea_cons (vr x) (ea_cons ev_c ea_nil)) (rc_isiI hx)) fun _ => ev_notV (ev_cb (ea_cons (vr x) (ea_cons ev_c ea_nil)) (rc_isiB hx))) fun H1 e1 => q H1 e1

/-! ### _law_system -/
theorem sc__law_system : FnScope ["_law_script", "_law_at", "_law_cell_here", "_law_most", "_law_found", "_law_k"] ["_law_script", "_law_at"] (defScope s__law_system) := ⟨rfl, rfl, rfl, by decide +kernel, rfl, by decide +kernel, by decide +kernel⟩
def sp_system (K : PySem.W.Frag) : Sp := fun vs H Q _ => ∃ (a : Addr) (ns : List Int) (k : Nat), vs = [.ref a, iv k] ∧ SqL K H a (ns.map V.int) ∧ ns.length ≤ 63 ∧ ∀ cs p H', Nice cs → Ex H H' → H' p = some (.tup (ivs cs)) → Q (.ref p) H'
theorem atN_last (ns : List Nat) (n : Nat) : atI (ivs (ns ++ [n])) (-1) = some (iv n) := by
  rw [ivs_snoc]
  exact atI_last _ _
theorem ok__law_system {f : Addr} {fd : FuncData} (F : Fun K "_law_system" "_law_system" s__law_system f fd) (B : Bi mg) (h__law_cell : Hs P w K mg base 1 "_law_cell" (sp_cell K)) (h__law_mix : Hs P w K mg base 1 "_law_mix" sp_mix) :
    FnOk P w K mg base (L2.CX P w) 2 f fd ["_law_script", "_law_at"] (sp_system K) := by
  refine F.okX sc__law_system (fun vs H Q E h => ?_) (fun cdv A outer s H vs Q E hr h => ?_)
  · obtain ⟨a, ns, k, rfl, _⟩ := h
    rfl
  · obtain ⟨a, ns, k, rfl, ha, hlen, q⟩ := h
    have nd := sc__law_system.nd
    refine ⟨_, (pss_cons (ps_set (i := 2) nd rfl (Or.inl rfl) (pe_h h__law_cell hr (by decide) (by rfl) passE (pa_cons (pv 0) (pa_cons (pv 1) pa_nil))))
      (pss_cons (ps_set (i := 3) nd rfl (Or.inl rfl) (pe_ix (ixLK K) (pe_lst (pa_cons pe_int (pa_cons pe_int (pa_cons pe_int pa_nil)))) (pe_h h__law_mix hr (by decide) (by rfl) passE (pa_cons (pv 2) (pa_cons pe_int (pa_cons pe_int pa_nil)))) (fun _ _ => rfl)))
      (pss_cons (ps_if (pt_cmpR op_gt (pe_callB (lenK K) (by rfl) B.len (by decide +kernel) (pa_cons (pv 0) pa_nil)) pe_int (nomark _))
      (pss_one (ps_set (i := 3) nd rfl (Or.inl rfl) pe_int)) pss_nil)
      (pss_cons (ps_set (i := 4) nd rfl (Or.inl rfl) (pe_lst (pa_cons pe_int pa_nil)))
      (pss_cons (ps_for (passes_of rfl) rfl (pi_range1 (by rfl) B.range (pa_cons (pe_h h__law_mix hr (by decide) (by rfl) passE (pa_cons (pv 2) (pa_cons pe_int (pa_cons pe_int pa_nil)))) pa_nil)) (pg_name (i := 5) nd rfl (Or.inl rfl))
      (pss_one (ps_expr (pe_bm PySem.F.plainAttrs_list PySem.F.slot_list_append PySem.F.type_list_append mt_append (pv 4) (pa_cons (pe_op op_add pe_int (pe_h h__law_mix hr (by decide) (by rfl) passE (pa_cons (pe_op op_add (pe_h h__law_cell hr (by decide) (by rfl) passE (pa_cons (pv 0) (pa_cons (pe_op op_add (pe_op op_add (pv 1) pe_int) (pv 5)) pa_nil))) (pe_op op_mul (pe_op op_mul pe_int (pv 5)) (pv 5))) (pa_cons pe_int (pa_cons (pv 3) pa_nil))))) pa_nil)))))
      (pss_cons (ps_if (pt_cmpR op_eq (pe_h h__law_mix hr (by decide) (by rfl) passE (pa_cons (pv 2) (pa_cons pe_int (pa_cons pe_int pa_nil)))) pe_int (nomark _))
      (pss_cons (ps_set (i := 4) nd rfl (Or.inl rfl) (pe_lst (pa_cons pe_int pa_nil)))
      (pss_one (ps_for (passes_of rfl) rfl (pi_range1 (by rfl) B.range (pa_cons (pe_op op_add pe_int (pe_h h__law_mix hr (by decide) (by rfl) passE (pa_cons (pv 2) (pa_cons pe_int (pa_cons pe_int pa_nil))))) pa_nil)) (pg_name (i := 5) nd rfl (Or.inl rfl))
      (pss_one (ps_expr (pe_bm PySem.F.plainAttrs_list PySem.F.slot_list_append PySem.F.type_list_append mt_append (pv 4) (pa_cons (pe_op op_sub (pe_op op_add (pe_op op_mul (pe_ix (ixLK K) (pv 4) (pe_un un_neg pe_int) (fun _ _ => rfl)) pe_int) (pe_h h__law_mix hr (by decide) (by rfl) passE (pa_cons (pe_h h__law_cell hr (by decide) (by rfl) passE (pa_cons (pv 0) (pa_cons (pe_op op_add (pe_op op_add (pv 1) pe_int) (pv 5)) pa_nil))) (pa_cons pe_int (pa_cons pe_int pa_nil))))) (pe_callTy call_int1 (by rfl) B.int (by decide +kernel) (pa_cons (pe_cmpR op_gt (pv 5) pe_int (nomark _)) pa_nil))) pa_nil))))))) pss_nil)
      (pss_one (ps_ret (pe_callTy (tupK K) (by rfl) B.tuple (by decide +kernel) (pa_cons (pe_callB (cr_sortedSet rfl) (by rfl) B.sorted (by decide +kernel) (pa_cons (pe_callTy (setK K) (by rfl) B.set (by decide +kernel) (pa_cons (pv 4) pa_nil)) pa_nil)) pa_nil)))))))))), ?_⟩
    have hmix := fun (σ : L2.St) (H1 : Hp) (i p m : Nat) (c : Int) (hσ : σ[i]? = some (some (.int c))) (hp : 0 < p) (hm : 0 < m) => evc (E := E) (ea_cons (ev_var (H := H1) hσ) (ea_cons (cn p) (ea_cons (cn m) ea_nil))) (v_mix (c := c) hp hm)
    refine q_asg (evc (ea_cons (vr (.ref a)) (ea_cons (vr (iv k)) ea_nil)) (v_cell ha)) fun H1 e1 => ?_
    have hm3 := mix_lt (cell ns k) 9949 3 (by decide)
    obtain ⟨most, hmost, hm0, hm29⟩ : ∃ most, [7, 13, 29][mix (cell ns k) 9949 3]? = some most ∧ 0 < most ∧ most ≤ 29 := by
      generalize mix (cell ns k) 9949 3 = z at hm3
      have : z = 0 ∨ z = 1 ∨ z = 2 := by omega
      rcases this with rfl | rfl | rfl
      · exact ⟨7, rfl, by decide, by decide⟩
      · exact ⟨13, rfl, by decide, by decide⟩
      · exact ⟨29, rfl, by decide, by decide⟩
    refine q_asg (v := iv most) (ev_ixL (esl_l (el_lst (ea_cons (cn 7) (ea_cons (cn 13) (ea_cons (cn 29) ea_nil))) (by decide))) (hmix _ _ 2 9949 3 _ rfl (by decide) (by decide)) (at_ivs (ns := [7, 13, 29]) hmost)) fun H2 e2 => ?_
    have e02 := e1.trans e2
    refine q_when (et_test (ev_op (ev_lenL (esl_of (vr (.ref a)) (ex_l e02 ha))) (cn 63) rvn_gt)) (fun h3 H3 e3 => absurd (of_decide_eq_true h3) (by rw [List.length_map]; omega)) fun _ H3 e3 => ?_
    have e03 := e02.trans e3
    refine q_asgL (el_lst (ea_cons (cn 1) ea_nil) (by decide)) fun p H4 hp4 e4 h4 => ?_
    have hn6 := mix_lt (cell ns k) 9973 6 (by decide)
    refine q_forR1 (j := 5) (n := (mix (cell ns k) 9973 6 : Int)) (ea_cons (hmix _ _ 2 9973 6 _ rfl (by decide) (by decide)) ea_nil) (by omega)
      (fun i σ' H' => Ex H3 H' ∧ ∃ xs u, σ' = [some (.ref a), some (iv k), some (.int (cell ns k)), some (iv most), some (.ref p), u] ∧ H' p = some (.lst (ivs xs)) ∧ xs.length = i + 1 ∧ 1 ∈ xs ∧ ∀ x ∈ xs, 0 < x ∧ x ≤ 46)
      (fun H5 e5 => ⟨e4.trans e5, [1], none, rfl, e5 _ _ h4, rfl, List.mem_cons_self, fun x hx => by rw [List.mem_singleton.mp hx]; exact ⟨by decide, by decide⟩⟩) (fun i σ' H' hi hW => ?_) (fun σ' H' hW => ?_)
    · obtain ⟨eH, xs, u, rfl, hq, hl, hx1, hx2⟩ := hW
      have e0 := e03.trans eH
      have hm := mix_lt (cell ns (k + 1 + i) + 17 * (i : Int) * (i : Int)) 9967 most hm0
      refine s_app hq (vr (.ref p)) (v := iv (2 + mix (cell ns (k + 1 + i) + 17 * (i : Int) * (i : Int)) 9967 most)) (ev_op (cn 2) (evc (ea_cons (ev_op (evc (ea_cons (vr (.ref a)) (ea_cons (ev_op (ev_op (vr (iv k)) (cn 1) rvn_add) (vr (iv i)) rvn_add) ea_nil)) (v_cell (ex_l e0 ha)))
        (ev_op (ev_op ev_c (vr (.int (i : Int))) (rv_I (.inl ⟨by decide, by decide⟩))) (vr (.int (i : Int))) (rv_I (.inr ⟨by omega, by omega⟩))) rv_I0) (ea_cons (cn 9967) (ea_cons (vr (iv most)) ea_nil))) (v_mix (by decide) hm0)) rvn_add) (by rw [ivs_len]; omega) fun H5 e5 => ?_
      refine ⟨Ex.mut (eH.trans e5) hp4, xs ++ [2 + mix (cell ns (k + 1 + i) + 17 * (i : Int) * (i : Int)) 9967 most], some (iv i), rfl, by rw [upd_same, ivs_snoc], by rw [List.length_append, hl]; rfl, List.mem_append_left _ hx1, fun x hx => ?_⟩
      rcases List.mem_append.mp hx with h | h
      · exact hx2 x h
      · rw [List.mem_singleton.mp h]
        omega
    · obtain ⟨eH, xs, u, rfl, hq, hl, hx1, hx2⟩ := hW
      have e0 := e03.trans eH
      rw [show ((mix (cell ns k) 9973 6 : Nat) : Int).toNat = mix (cell ns k) 9973 6 from rfl] at hl
      -- what follows, from either list
      have fin : ∀ (t : TS) (hne : t = tRet (tCB (rTupS K) (tCons (tCB (rSortedSet w) (tCons (tCB (rSetL K w) (tCons (tVar 4) tNil)) tNil)) tNil))) (D : Ends) (hD : D.rt = Q) (σ : L2.St) (H' : Hp) (p' : Addr) (ys : List Nat), σ[4]? = some (some (.ref p')) → Ex H H' → H' p' = some (.lst (ivs ys)) → ys.length ≤ 6 → 1 ∈ ys → (∀ x ∈ ys, 0 < x ∧ x ≤ 46) → t D σ H' := by
        intro t hne D hD σ H' p' ys hσ eH' hp' hl' h1 h2
        subst hne
        refine ert_sortset (K := K) (w := w) (esl_of (ev_var hσ) (sq_of hp')) (by omega) H' (Ex.refl _) _ fun cs b H'' hcs e'' hb => ?_
        rw [hD]
        exact q cs b H'' ⟨sys_of hcs.1 hcs.2.1 h1 fun x hx => (h2 x hx).1, fun c hc => (h2 c ((hcs.2.1 c).mp hc)).2, by have := hcs.2.2; omega⟩ (eH'.trans e'') hb
      refine q_when (et_test (ev_op (hmix _ _ 2 9941 5 _ rfl (by decide) (by decide)) (cn 1) rvn_eq)) (fun _ H5 e5 => ?_) (fun _ H5 e5 => fin _ rfl _ rfl _ _ p xs rfl (e0.trans e5) (e5 _ _ hq) (by omega) hx1 hx2)
      have e05 := e0.trans e5
      refine q_asgL (el_lst (ea_cons (cn 1) ea_nil) (by decide)) fun p2 H6 hp6 e6 h6 => ?_
      have hn4 := mix_lt (cell ns k) 9973 4 (by decide)
      refine s_forR1 (j := 5) (n := ((1 + mix (cell ns k) 9973 4 : Nat) : Int)) (ea_cons (ev_op (cn 1) (hmix _ _ 2 9973 4 _ rfl (by decide) (by decide)) rvn_add) ea_nil) (by omega)
        (fun i σ' H' => Ex H5 H' ∧ ∃ ys z u, σ' = [some (.ref a), some (iv k), some (.int (cell ns k)), some (iv most), some (.ref p2), u] ∧ H' p2 = some (.lst (ivs (ys ++ [z]))) ∧ ys.length = i ∧ 0 < z ∧ z + 2 ≤ 3 * 2 ^ i ∧ 1 ∈ ys ++ [z] ∧ ∀ x ∈ ys ++ [z], 0 < x ∧ x ≤ 46)
        (fun H7 e7 => ⟨e6.trans e7, [], 1, _, rfl, e7 _ _ h6, rfl, by decide, by decide, List.mem_cons_self, fun x hx => by rw [List.mem_singleton.mp hx]; exact ⟨by decide, by decide⟩⟩) (fun i σ' H' hi hW => ?_) (fun σ' H' hW => ?_)
      · obtain ⟨eH', ys, z, u, rfl, hq', hl', hz0, hz, h1, h2⟩ := hW
        have e0' := e05.trans eH'
        have hm := mix_lt (cell ns (k + 1 + i)) 9931 3 (by decide)
        have hz46 := (h2 z (List.mem_append_right _ List.mem_cons_self)).2
        have hi4 : i + 1 ≤ 4 := by omega
        have hpow : (3 : Nat) * 2 ^ (i + 1) ≤ 48 := Nat.mul_le_mul_left 3 (Nat.pow_le_pow_right (by decide) hi4)
        have hpow2 : (3 : Nat) * 2 ^ (i + 1) = 2 * (3 * 2 ^ i) := by rw [Nat.pow_succ]; omega
        let d := if 0 < i then 1 else 0
        have hd : d ≤ 1 := by show (if 0 < i then 1 else 0) ≤ 1; split <;> omega
        have hint : Ev (tCB (fun xs H Q => (∃ i, xs = [.int i] ∧ Q (.int i) H) ∨ ∃ k, xs = [.bl k] ∧ Q (.int (if k then 1 else 0)) H) (tCons (tOp (rI0 fun i j => .bl (decide (j < i))) (tVar 5) (tC (.int 0))) tNil)) [some (.ref a), some (iv k), some (.int (cell ns k)), some (iv most), some (.ref p2), some (.int (i : Int))] H' (iv d) :=
          ev_cb (ea_cons (ev_op (vr (iv i)) (cn 0) rvn_gt) ea_nil) fun H8 e8 Q' q' => .inr ⟨_, rfl, by
            have := q' H8 (Ex.refl _)
            show Q' (V.int (if decide (0 < i) = true then 1 else 0)) H8
            have e : (V.int (if decide (0 < i) = true then 1 else 0)) = iv d := by
              show _ = V.int ((if 0 < i then 1 else 0 : Nat) : Int)
              by_cases h : 0 < i <;> simp [h]
            rw [e]
            exact this⟩
        refine s_app hq' (vr (.ref p2)) (v := iv (z * 2 + mix (cell ns (k + 1 + i)) 9931 3 - d)) (ev_op (ev_op (ev_op (ev_ixL (esl_of (vr (.ref p2)) (sq_of hq')) (ev_un ev_c ru_neg) (atN_last ys z)) (cn 2) (rvn_mul (by omega))) (evc (ea_cons (evc (ea_cons (vr (.ref a)) (ea_cons (ev_op (ev_op (vr (iv k)) (cn 1) rvn_add) (vr (iv i)) rvn_add) ea_nil)) (v_cell (ex_l e0' ha))) (ea_cons (cn 9931) (ea_cons (cn 3) ea_nil))) (v_mix (by decide) (by decide))) rvn_add) hint (rvn_sub (by omega))) (by rw [ivs_len, List.length_append, hl']; show i + 1 < _; omega) fun H7 e7 => ?_
        refine ⟨Ex.mut (eH'.trans e7) hp6, ys ++ [z], z * 2 + mix (cell ns (k + 1 + i)) 9931 3 - d, some (iv i), rfl, by rw [upd_same, ivs_snoc (ys ++ [z])], by rw [List.length_append, hl']; rfl, by omega, by omega, List.mem_append_left _ h1, fun x hx => ?_⟩
        rcases List.mem_append.mp hx with h | h
        · exact h2 x h
        · rw [List.mem_singleton.mp h]
          exact ⟨by omega, by omega⟩
      · obtain ⟨eH', ys, z, u, rfl, hq', hl', hz0, hz, h1, h2⟩ := hW
        exact fin _ rfl _ rfl _ _ p2 (ys ++ [z]) rfl (e05.trans eH') hq' (by rw [List.length_append]; show ys.length + 1 ≤ 6; rw [hl']; have : (((1 + mix (cell ns k) 9973 4 : Nat) : Int)).toNat = 1 + mix (cell ns k) 9973 4 := rfl; omega) h1 h2

/-! ### _law_few -/
theorem sc__law_few : FnScope ["_law_system_here", "_law_last", "_law_found", "_law_number", "_law_coin"] ["_law_system_here", "_law_last"] (defScope s__law_few) := ⟨rfl, rfl, rfl, by decide +kernel, rfl, by decide +kernel, by decide +kernel⟩
def sp_few : Sp := fun vs H Q _ => ∃ a cs n, vs = [.ref a, iv n] ∧ H a = some (.tup (ivs cs)) ∧ Sys cs ∧ cs.length ≤ 1000 ∧ n ≤ 4000 ∧ ∀ p H', H p = none → Ex H H' → H' p = some (.lst (ivs (row cs n))) → Q (.ref p) H'
theorem v_few {H : Hp} {a : Addr} {cs : List Nat} {n : Nat} (ha : H a = some (.tup (ivs cs))) (hs : Sys cs) (hl : cs.length ≤ 1000) (hn : n ≤ 4000) : SpL sp_few [.ref a, iv n] H (ivs (row cs n)) :=
  fun H1 e1 Q q E => ⟨a, cs, n, rfl, e1 _ _ ha, hs, hl, hn, fun p H' hp e hq => q p H' hp e hq⟩
theorem ok__law_few {f : Addr} {fd : FuncData} (F : Fun K "_law_few" "_law_few" s__law_few f fd) (B : Bi mg) : FnOk P w K mg base (L2.CX P w) 1 f fd ["_law_system_here", "_law_last"] sp_few := by
  refine F.okX sc__law_few (fun vs H Q E h => ?_) (fun cdv A outer s H vs Q E hr h => ?_)
  · obtain ⟨a, cs, n, rfl, _⟩ := h
    rfl
  · obtain ⟨a, cs, n, rfl, ha, hs, hl, hn, q⟩ := h
    have nd := sc__law_few.nd
    refine ⟨_, (pss_cons (ps_set (i := 2) nd rfl (Or.inr rfl) (pe_lst (pa_cons pe_int pa_nil)))
      (pss_cons (ps_for (passes_of rfl) rfl (pi_range2 (by rfl) B.range (pa_cons pe_int (pa_cons (pe_op op_add (pv 1) pe_int) pa_nil))) (pg_name (i := 3) nd rfl (Or.inr rfl))
      (pss_one (ps_expr (pe_bm PySem.F.plainAttrs_list PySem.F.slot_list_append PySem.F.type_list_append mt_append (pv 2) (pa_cons (pe_op op_add pe_int (pe_callB (minK K) (by rfl) B.min (by decide +kernel) (pa_cons (pe_lc (own := [("_law_coin", 4)]) (g := gName 4) rfl nd (pi_tup (pv 0)) (blkOk_by (own := [("_law_coin", 4)]) (N := ["_law_system_here", "_law_last", "_law_found", "_law_number", "_law_coin"]) (sc := defScope s__law_few) (by decide +kernel)) (fun _ _ _ _ _ => (pg_name (i := 4) nd rfl (Or.inl rfl))) (fun _ _ _ _ _ => (pts_one (pt_cmpR op_le (pv 4) (pv 3) (nomark _)))) (fun _ _ _ _ _ => (pe_ix (ixLK K) (pv 2) (pe_op op_sub (pv 3) (pv 4)) (fun _ _ => rfl)))) pa_nil))) pa_nil)))))
      (pss_one (ps_ret (pv 2))))), ?_⟩
    refine q_asgL (el_lst (ea_cons ev_c ea_nil) (by decide)) fun p H1 hp e1 h1 => ?_
    refine q_forR2 (lo := 1) (n := ((n + 1 : Nat) : Int)) (ea_cons ev_c (ea_cons (ev_op (ev_var rfl) ev_c rv_I0) ea_nil)) (by omega) (fun i σ' H' => Ex H H' ∧ H' p = some (.lst (ivs (row cs i))) ∧ ∃ u1 u2, σ' = [some (.ref a), some (iv n), some (.ref p), u1, u2]) (fun H2 e2 => ⟨e1.trans e2, by rw [e2 _ _ h1, row_zero]; rfl, _, _, rfl⟩) (fun i σ' H' hi ⟨eH, hq, u1, u2, hσ⟩ => ?_) (fun σ' H' ⟨eH, hq, u1, u2, hσ⟩ => ?_)
    · subst hσ
      rw [show (V.int (1 + (i : Int))) = iv (i + 1) by unfold iv; congr 1; omega]
      have hm : ∃ m, (∃ c, c ∈ cs ∧ c ≤ i + 1 ∧ m = fw cs (i + 1 - c)) ∧ ∀ c, c ∈ cs → c ≤ i + 1 → m ≤ fw cs (i + 1 - c) := by
        obtain ⟨m, ⟨c, h1, h2, h3⟩, h4⟩ := least (p := fun m => ∃ c, c ∈ cs ∧ c ≤ i + 1 ∧ m = fw cs (i + 1 - c)) _ ⟨1, hs.mem1, by omega, rfl⟩
        exact ⟨m, ⟨c, h1, h2, h3⟩, fun c hc hl => h4 _ ⟨c, hc, hl, rfl⟩⟩
      obtain ⟨m, hm1, hm2⟩ := hm
      have hfw := fw_min hs.mem1 (Nat.succ_pos i) hm1 hm2
      refine s_app hq (vr (.ref p)) (v := iv (fw cs (i + 1))) (ev_is (ev_op (cn 1) (ev_min (ns := (cs.filter fun c : Nat => decide (c ≤ i + 1)).map fun c => fw cs (i + 1 - c)) (m := m) (esl_l (by
        unfold ivs
        rw [List.map_map]
        refine el_tup (fun c : Nat => decide (c ≤ i + 1)) _ (est_of (vr (.ref a)) (eH _ _ ha)) (by omega) (fun _ => rfl) (fun c H2 e2 hc => et_test (ev_op (vr (iv c)) (vr (iv (i + 1))) rvn_le)) (fun c H2 e2 hc hp => ?_)
        have hp := of_decide_eq_true hp
        have hc0 := hs.pos c hc
        exact ev_ixL (esl_of (vr (.ref p)) (sq_of (e2 _ _ hq))) (ev_op (vr (iv (i + 1))) (vr (iv c)) (rvn_sub hp)) (at_ivs (row_get (by omega))))) ?_ ?_) rvn_add) ?_) (by rw [ivs_len, row_len]; omega) fun H2 e2 => ?_
      · obtain ⟨c, c1, c2, c3⟩ := hm1
        exact List.mem_map.mpr ⟨c, List.mem_filter.mpr ⟨c1, decide_eq_true (by omega)⟩, c3.symm⟩
      · intro y hy
        obtain ⟨c, c1, rfl⟩ := List.mem_map.mp hy
        obtain ⟨c2, c3⟩ := List.mem_filter.mp c1
        exact hm2 c c2 (of_decide_eq_true c3)
      · rw [← hfw, Nat.add_comm]
      · refine ⟨Ex.mut (eH.trans e2) hp, ?_, _, _, rfl⟩
        rw [upd_same, row_succ, ivs_snoc]
    · subst hσ
      rw [show (((n + 1 : Nat) : Int) - 1).toNat = n by omega] at hq
      exact s_ret (ev_var rfl) fun H2 e2 => q p H2 hp (eH.trans e2) (e2 _ _ hq)

/-! ### law -/
theorem sc_law : FnScope ["_law_script", "_law_system_here", "_law_number", "_law_rows", "_law_found", "_law_told", "_law_often", "_law_left", "_law_at"] ["_law_script"] (defScope s_law) := ⟨rfl, rfl, rfl, by decide +kernel, rfl, by decide +kernel, by decide +kernel⟩
theorem getD_some {l : List Nat} {i : Nat} (h : i < l.length) : l[i]? = some (l.getD i 0) := by
  rw [List.getD_eq_getElem?_getD, List.getElem?_eq_getElem h]
  rfl
theorem le_sum : ∀ {l : List Nat} {x : Nat}, x ∈ l → x ≤ l.sum
  | y :: r, x, h => by
    rw [List.sum_cons]
    rcases List.mem_cons.mp h with e | h
    · omega
    · have := le_sum h
      omega
theorem ok_law {f : Addr} {fd : FuncData} {CS CB CW : Addr} (F : Fun K "law" "law" s_law f fd) (B : Bi mg) (h__law_cell : Hs P w K mg base 1 "_law_cell" (sp_cell K)) (h__law_system : Hs P w K mg base 2 "_law_system" (sp_system K)) (h__law_whole : Hs P w K mg base 1 "_law_whole" sp_whole)
    (h__law_few : Hs P w K mg base 1 "_law_few" sp_few) (h_fewest : Hs P w K mg base 5 "fewest" (sp_fewest CS CB)) (h_by_fewest : Hs P w K mg base 5 "by_fewest" (sp_by_fewest CS CB)) (h_sum_of : Hs P w K mg base 5 "sum_of" (sp_sum_of CS CW)) :
    FnOk P w K mg base (L2.CX P w) 6 f fd ["_law_script"] (sp_law K) := by
  refine F.okX sc_law (fun vs H Q E h => ?_) (fun cdv A outer s H vs Q E hr h => ?_)
  · obtain ⟨a, ns, rfl, _⟩ := h
    rfl
  · obtain ⟨a, ns, rfl, ha, hlen, q⟩ := h
    have nd := sc_law.nd
    refine ⟨_, (pss_cons (ps_set (i := 1) nd rfl (Or.inl rfl) (pe_h h__law_system hr (by decide) (by rfl) passE (pa_cons (pv 0) (pa_cons pe_int pa_nil))))
      (pss_cons (ps_set (i := 2) nd rfl (Or.inl rfl) (pe_op op_mod (pe_h h__law_cell hr (by decide) (by rfl) passE (pa_cons (pv 0) (pa_cons pe_int pa_nil))) (pe_ix (ixLK K) (pe_lst (pa_cons pe_int (pa_cons pe_int (pa_cons pe_int (pa_cons pe_int pa_nil))))) (pe_op op_mod (pe_h h__law_cell hr (by decide) (by rfl) passE (pa_cons (pv 0) (pa_cons pe_int pa_nil))) pe_int) (fun _ _ => rfl))))
      (pss_cons (ps_set (i := 3) nd rfl (Or.inl rfl) (pe_h h__law_few hr (by decide) (by rfl) passE (pa_cons (pv 1) (pa_cons (pv 2) pa_nil))))
      (pss_cons (ps_set (i := 4) nd rfl (Or.inl rfl) (pe_h h_fewest hr (by decide) (by rfl) passE (pa_cons (pv 1) (pa_cons (pv 2) pa_nil))))
      (pss_cons (ps_set (i := 5) nd rfl (Or.inl rfl) (pe_h h_by_fewest hr (by decide) (by rfl) passE (pa_cons (pv 1) (pa_cons (pv 2) pa_nil))))
      (pss_cons (ps_if (PW.pt (pw_or (pt_not (pt_val (pe_h h__law_whole hr (by decide) (by rfl) passE (pa_cons (pv 4) pa_nil)))) (pw_or (pt_cmpR op_ne (pv 4) (pe_ix (ixLK K) (pv 3) (pv 2) (fun _ _ => rfl)) (nomark _)) (pw_or (pt_not (pt_val (pe_callB (isiK K) (by rfl) B.isinstance (by decide +kernel) (pa_cons (pv 5) (pa_cons (pe_bltn (by rfl) B.tuple (by decide +kernel) (show RelV (.ty "tuple") _ from rfl)) pa_nil))))) (pw_or1 (pt_cmpR op_ne (pe_callB (lenK K) (by rfl) B.len (by decide +kernel) (pa_cons (pv 5) pa_nil)) (pe_callB (lenK K) (by rfl) B.len (by decide +kernel) (pa_cons (pv 1) pa_nil)) (nomark _)))))))
      (pss_one (ps_ret pe_bl)) pss_nil)
      (pss_cons (ps_if (PW.pt (pw_or (pt_truth (pe_lc (own := [("_law_often", 6)]) (g := gName 6) rfl nd (pi_tup (pv 5)) (blkOk_by (own := [("_law_often", 6)]) (N := ["_law_script", "_law_system_here", "_law_number", "_law_rows", "_law_found", "_law_told", "_law_often", "_law_left", "_law_at"]) (sc := defScope s_law) (by decide +kernel)) (fun _ _ _ _ _ => (pg_name (i := 6) nd rfl (Or.inl rfl))) (fun _ _ _ _ _ => (pts_one (PW.pt (pw_or (pt_not (pt_val (pe_h h__law_whole hr (by decide) (by rfl) passF (pa_cons (pv 6) pa_nil)))) (pw_or1 (pt_cmpR op_lt (pv 6) pe_int (nomark _))))))) (fun _ _ _ _ _ => (pv 6))) (by intro _; rfl)) (pw_or1 (pt_cmpR op_ne (pe_callB (sumTK K) (by rfl) B.sum (by decide +kernel) (pa_cons (pv 5) pa_nil)) (pv 4) (nomark _)))))
      (pss_one (ps_ret pe_bl)) pss_nil)
      (pss_cons (ps_if (pt_cmpR op_ne (pe_h h_sum_of hr (by decide) (by rfl) passE (pa_cons (pv 1) (pa_cons (pv 5) pa_nil))) (pv 2) (nomark _))
      (pss_one (ps_ret pe_bl)) pss_nil)
      (pss_cons (ps_set (i := 7) nd rfl (Or.inl rfl) (pv 2))
      (pss_cons (ps_for (passes_of rfl) rfl (pi_range3 (by rfl) B.range (pa_cons (pe_op op_sub (pe_callB (lenK K) (by rfl) B.len (by decide +kernel) (pa_cons (pv 1) pa_nil)) pe_int) (pa_cons (pe_un un_neg pe_int) (pa_cons (pe_un un_neg pe_int) pa_nil)))) (pg_name (i := 8) nd rfl (Or.inl rfl))
      (pss_cons (ps_set (i := 7) nd rfl (Or.inl rfl) (pe_op op_sub (pv 7) (pe_op op_mul (pe_ix (ixTK K) (pv 5) (pv 8) (fun _ _ => rfl)) (pe_ix (ixTK K) (pv 1) (pv 8) (fun _ _ => rfl)))))
      (pss_one (ps_if (PW.pt (pw_or (pt_cmpR op_lt (pv 7) pe_int (nomark _)) (pw_or1 (PW.pt (pw_and (pt_cmpR op_ge (pv 7) (pe_ix (ixTK K) (pv 1) (pv 8) (fun _ _ => rfl)) (nomark _)) (pw_and1 (pt_cmpR op_eq (pe_ix (ixLK K) (pv 3) (pv 7) (fun _ _ => rfl)) (pe_op op_add (pe_ix (ixLK K) (pv 3) (pe_op op_sub (pv 7) (pe_ix (ixTK K) (pv 1) (pv 8) (fun _ _ => rfl))) (fun _ _ => rfl)) pe_int) (nomark _))))))))
      (pss_one (ps_ret pe_bl)) pss_nil))))
      (pss_one (ps_ret pe_bl)))))))))))), ?_⟩
    refine ⟨.ref a, rfl, a, ns, 2, rfl, ha, hlen, fun cs b H1 hN e1 hb => ?_⟩
    have g := hN.good
    have hS := hN.toSys
    have hl := hN.len
    obtain ⟨m, hm, hm0, hm1⟩ : ∃ m, ([201, 201, 201, 2001] : List Nat)[modc (cell ns 1) 4]? = some m ∧ 0 < m ∧ m ≤ 2001 := by
      have := modc_lt (cell ns 1) (m := 4) (by decide)
      generalize modc (cell ns 1) 4 = z at this
      have : z = 0 ∨ z = 1 ∨ z = 2 ∨ z = 3 := by omega
      rcases this with rfl | rfl | rfl | rfl
      · exact ⟨201, rfl, by decide, by decide⟩
      · exact ⟨201, rfl, by decide, by decide⟩
      · exact ⟨201, rfl, by decide, by decide⟩
      · exact ⟨2001, rfl, by decide, by decide⟩
    have ha1 := ex_l e1 ha
    refine q_asg (v := iv (modc (cell ns 0) m)) (ev_op (evc (ea_cons (vr (.ref a)) (ea_cons (cn 0) ea_nil)) (v_cell ha1)) (ev_ixL (v := iv m) (esl_l (el_lst (ea_cons (cn 201) (ea_cons (cn 201) (ea_cons (cn 201) (ea_cons (cn 2001) ea_nil)))) (by decide))) (ev_op (evc (ea_cons (vr (.ref a)) (ea_cons (cn 1) ea_nil)) (v_cell ha1)) (cn 4) (rv_modc (by decide))) (at_ivs (ns := [201, 201, 201, 2001]) hm)) (rv_modc hm0)) fun H2 e2 => ?_
    have hn := modc_lt (cell ns 0) hm0
    generalize modc (cell ns 0) m = n at hn
    have hb2 := e2 _ _ hb
    refine q_asgL (elc (ea_cons (vr (.ref b)) (ea_cons (vr (iv n)) ea_nil)) (v_few hb2 hS (by omega) (by omega))) fun r H3 hr3 e3 h3 => ?_
    have hb3 := e3 _ _ hb2
    refine q_asg (evc (ea_cons (vr (.ref b)) (ea_cons (vr (iv n)) ea_nil)) (v_fewest hb3 g (by omega))) fun H4 e4 => ?_
    have hb4 := e4 _ _ hb3
    refine q_asgT (est_call (ea_cons (vr (.ref b)) (ea_cons (vr (iv n)) ea_nil)) (v_by_fewest hb4 g (by omega))) fun t H5 e5 ht => ?_
    have hb5 := e5 _ _ hb4
    have h5 := e5 _ _ (e4 _ _ h3)
    have hlt := byFew_len cs n
    have hsum := byFew_sum hS n
    have hfw := fw_self hS.mem1 n
    have hent : ∀ x ∈ byFew cs n, x ≤ 2000 := fun x hx => by
      have := le_sum hx
      omega
    refine q_when (b := !true || (!decide (fw cs n = fw cs n) || (!true || !decide ((byFew cs n).length = cs.length)))) (et_or (et_not (et_B (evc (ea_cons (vr (iv (fw cs n))) ea_nil) (v_whole (.int _) rfl)))) fun _ => et_or (et_test (ev_op (vr (iv (fw cs n))) (ev_ixL (esl_of (vr (.ref r)) (sq_of h5)) (vr (iv n)) (at_ivs (row_get (Nat.le_refl n)))) rvn_ne)) fun _ => et_or (et_not (et_B (ev_cb (ea_cons (vr (.ref t)) (ea_cons ev_c ea_nil)) (rc_isiT ht)))) fun _ => et_test (ev_op (ev_lenN (est_of (vr (.ref t)) ht)) (ev_lenN (est_of (vr (.ref b)) hb5)) rvn_ne)) (fun h => absurd h (by simp [hlt])) fun _ H6 e6 => ?_
    have ht6 := e6 _ _ ht
    refine q_when (b := !(((byFew cs n).filter fun _ => false).map iv).isEmpty || !decide ((byFew cs n).sum = fw cs n)) (et_or (et_list (esl_l (el_tup (fun _ : Nat => false) iv (est_of (vr (.ref t)) ht6) (by omega) (fun _ => rfl) (fun c H7 e7 _ => et_is (et_or (et_not (et_B (evc (ea_cons (vr (iv c)) ea_nil) (v_whole (.int _) rfl)))) fun _ => et_test (ev_op (vr (iv c)) (cn 0) rvn_lt)) (by rw [show whole (iv c) = true from rfl]; simp)) (fun c H7 e7 _ h => absurd h (by decide))))) fun _ => et_test (ev_op (ev_sumT (est_of (vr (.ref t)) ht6)) (vr (iv (fw cs n))) rvn_ne)) (fun h => absurd h (by simp [hsum])) fun _ H7 e7 => ?_
    have hb7 := e7 _ _ (e6 _ _ hb5)
    have ht7 := e7 _ _ ht6
    refine q_when (b := !decide (dot (byFew cs n) cs = n)) (et_test (ev_op (evc (ea_cons (vr (.ref b)) (ea_cons (vr (.ref t)) ea_nil)) (v_sum_of hb7 g ht7 hlt hent)) (vr (iv n)) rvn_ne)) (fun h => absurd h (by simp [byFew_pays hS n])) fun _ H8 e8 => ?_
    refine q_asg (vr (iv n)) fun H9 e9 => ?_
    have e79 := e8.trans e9
    have hb9 := e79 _ _ hb7
    have ht9 := e79 _ _ ht7
    have hr9 := e79 _ _ (e7 _ _ (e6 _ _ h5))
    have hspec := bfLeft_spec (cs := cs) hS.mem1
    refine q_forRC (ea_cons (ev_op (ev_lenN (est_of (vr (.ref b)) hb9)) ev_c rv_I0) (ea_cons (ev_un ev_c ru_neg) (ea_cons (ev_un ev_c ru_neg) ea_nil))) (rg_down cs.length (by omega))
      (fun i σ' H' => i ≤ cs.length ∧ Ex H9 H' ∧ bfR cs n i ≤ n ∧ ∃ u6 u8, σ' = [some (.ref a), some (.ref b), some (iv n), some (.ref r), some (iv (fw cs n)), some (.ref t), u6, some (iv (bfR cs n i)), u8]) (fun H10 e10 => ⟨Nat.zero_le _, e10, Nat.le_refl _, _, _, rfl⟩) (fun i σ' H' hi hW => ?_) (fun σ' H' hW => s_ret ev_c fun H10 _ => q H10)
    obtain ⟨hle, eH, hLn, u6, u8, rfl⟩ := hW
    obtain ⟨c, hci⟩ : ∃ c, cs[cs.length - 1 - i]? = some c := ⟨_, List.getElem?_eq_getElem (by omega)⟩
    have hcm := List.mem_of_getElem? hci
    have c0 := hS.pos c hcm
    have c46 := hN.le c hcm
    rw [show (V.int ((cs.length : Int) - 1 + (i : Int) * -1)) = iv (cs.length - 1 - i) by unfold iv; congr 1; omega]
    have hti := byFew_at (n := n) hi hci
    obtain ⟨k1, k2, k3⟩ := bfK_end (cs := cs) c0 (bfR cs n i)
    have hR := bfR_succ (n := n) hi hci
    have hk2000 := hent _ (List.mem_of_getElem? hti)
    have hix := fun (σ : L2.St) H6 (e6 : Ex H9 H6) (h1 : σ[1]? = some (some (.ref b))) (h8 : σ[8]? = some (some (iv (cs.length - 1 - i)))) => ev_ixT (K := K) (ta := tVar 1) (tb := tVar 8) (est_of (ev_var h1) (e6 _ _ hb9)) (ev_var h8) (at_ivs hci)
    refine q_asg (v := iv (bfR cs n (i + 1))) (ev_is (ev_op (vr (iv (bfR cs n i))) (ev_op (ev_ixT (est_of (vr (.ref t)) (eH _ _ ht9)) (vr (iv (cs.length - 1 - i))) (at_ivs hti)) (hix _ H' eH rfl rfl) (rvn_mul (by omega))) (rvn_sub k1)) (by rw [hR])) fun H10 e10 => ?_
    have eH10 := eH.trans e10
    rw [← hR] at k2 k3
    have hle2 : bfR cs n (i + 1) ≤ n := by omega
    generalize bfR cs n (i + 1) = L at k2 k3 hle2 ⊢
    refine s_when (b := false) (et_is (et_or (et_test (ev_op (vr (iv L)) (cn 0) rvn_lt)) fun _ => et_and (et_test (ev_op (vr (iv L)) (hix _ H10 eH10 rfl rfl) rvn_ge)) (b := decide (fw cs L = fw cs (L - c) + 1)) fun hcL => ?_) ?_) (fun h => absurd h (by decide)) fun _ H11 e11 => ⟨hi, eH10.trans e11, hle2, u6, some (iv (cs.length - 1 - i)), rfl⟩
    · have hcL := of_decide_eq_true hcL
      exact et_test (ev_op (ev_ixL (esl_of (vr (.ref r)) (sq_of (eH10 _ _ hr9))) (vr (iv L)) (at_ivs (row_get hle2))) (ev_op (ev_ixL (esl_of (vr (.ref r)) (sq_of (eH10 _ _ hr9))) (ev_op (vr (iv L)) (hix _ H10 eH10 rfl rfl) (rvn_sub hcL)) (at_ivs (row_get (by omega)))) (cn 1) rvn_add) rvn_eq)
    · rw [decide_eq_false (Nat.not_lt_zero L), Bool.false_or, Bool.and_eq_false_iff, decide_eq_false_iff_not, decide_eq_false_iff_not]
      by_cases h : c ≤ L
      · exact .inr fun z => k3 ⟨h, z.symm⟩
      · exact .inl h

end
theorem all_mk {P : Program} {w : World} {K : PySem.W.Frag} {h : Heap} {mg : Str → Option Value} {fa : Addr} (X : K.In h) (G : h.Ns mainGlobals mg) (hfa : mg "law" = some (.ref fa))
    {f_is_within : Addr} {od_is_within an_is_within : Option Addr} {sl_is_within : Array (Option Value)} {oc_is_within kV_is_within dc_is_within pm_is_within cd_is_within ct_is_within : Value}
    (a_is_within : PySem.W.nsIn K mainGlobals "is_within" = some (some (.ref f_is_within))) (l_is_within : K.lookup f_is_within = some ⟨oc_is_within, od_is_within, .func (PySem.W.fnOf "is_within" "is_within" (defArgs s_is_within) (defBody s_is_within) (defScope s_is_within) .none kV_is_within dc_is_within pm_is_within an_is_within cd_is_within ct_is_within), sl_is_within⟩) (q_is_within : PySem.W.codeIn K cd_is_within "is_within" = true) (k_is_within : PySem.W.keepIn K (.ref f_is_within) = true)
    {f_is_system : Addr} {od_is_system an_is_system : Option Addr} {sl_is_system : Array (Option Value)} {oc_is_system kV_is_system dc_is_system pm_is_system cd_is_system ct_is_system : Value}
    (a_is_system : PySem.W.nsIn K mainGlobals "is_system" = some (some (.ref f_is_system))) (l_is_system : K.lookup f_is_system = some ⟨oc_is_system, od_is_system, .func (PySem.W.fnOf "is_system" "is_system" (defArgs s_is_system) (defBody s_is_system) (defScope s_is_system) .none kV_is_system dc_is_system pm_is_system an_is_system cd_is_system ct_is_system), sl_is_system⟩) (q_is_system : PySem.W.codeIn K cd_is_system "is_system" = true) (k_is_system : PySem.W.keepIn K (.ref f_is_system) = true)
    {f_checked : Addr} {od_checked an_checked : Option Addr} {sl_checked : Array (Option Value)} {oc_checked kV_checked dc_checked pm_checked cd_checked ct_checked : Value}
    (a_checked : PySem.W.nsIn K mainGlobals "checked" = some (some (.ref f_checked))) (l_checked : K.lookup f_checked = some ⟨oc_checked, od_checked, .func (PySem.W.fnOf "checked" "checked" (defArgs s_checked) (defBody s_checked) (defScope s_checked) .none kV_checked dc_checked pm_checked an_checked cd_checked ct_checked), sl_checked⟩) (q_checked : PySem.W.codeIn K cd_checked "checked" = true) (k_checked : PySem.W.keepIn K (.ref f_checked) = true)
    {f_look : Addr} {od_look an_look : Option Addr} {sl_look : Array (Option Value)} {oc_look kV_look dc_look pm_look cd_look ct_look : Value}
    (a_look : PySem.W.nsIn K mainGlobals "look" = some (some (.ref f_look))) (l_look : K.lookup f_look = some ⟨oc_look, od_look, .func (PySem.W.fnOf "look" "look" (defArgs s_look) (defBody s_look) (defScope s_look) .none kV_look dc_look pm_look an_look cd_look ct_look), sl_look⟩) (q_look : PySem.W.codeIn K cd_look "look" = true) (k_look : PySem.W.keepIn K (.ref f_look) = true)
    {f_fewest_up_to : Addr} {od_fewest_up_to an_fewest_up_to : Option Addr} {sl_fewest_up_to : Array (Option Value)} {oc_fewest_up_to kV_fewest_up_to dc_fewest_up_to pm_fewest_up_to cd_fewest_up_to ct_fewest_up_to : Value}
    (a_fewest_up_to : PySem.W.nsIn K mainGlobals "fewest_up_to" = some (some (.ref f_fewest_up_to))) (l_fewest_up_to : K.lookup f_fewest_up_to = some ⟨oc_fewest_up_to, od_fewest_up_to, .func (PySem.W.fnOf "fewest_up_to" "fewest_up_to" (defArgs s_fewest_up_to) (defBody s_fewest_up_to) (defScope s_fewest_up_to) .none kV_fewest_up_to dc_fewest_up_to pm_fewest_up_to an_fewest_up_to cd_fewest_up_to ct_fewest_up_to), sl_fewest_up_to⟩) (q_fewest_up_to : PySem.W.codeIn K cd_fewest_up_to "fewest_up_to" = true) (k_fewest_up_to : PySem.W.keepIn K (.ref f_fewest_up_to) = true)
    {f_fewest : Addr} {od_fewest an_fewest : Option Addr} {sl_fewest : Array (Option Value)} {oc_fewest kV_fewest dc_fewest pm_fewest cd_fewest ct_fewest : Value}
    (a_fewest : PySem.W.nsIn K mainGlobals "fewest" = some (some (.ref f_fewest))) (l_fewest : K.lookup f_fewest = some ⟨oc_fewest, od_fewest, .func (PySem.W.fnOf "fewest" "fewest" (defArgs s_fewest) (defBody s_fewest) (defScope s_fewest) .none kV_fewest dc_fewest pm_fewest an_fewest cd_fewest ct_fewest), sl_fewest⟩) (q_fewest : PySem.W.codeIn K cd_fewest "fewest" = true) (k_fewest : PySem.W.keepIn K (.ref f_fewest) = true)
    {f_by_fewest : Addr} {od_by_fewest an_by_fewest : Option Addr} {sl_by_fewest : Array (Option Value)} {oc_by_fewest kV_by_fewest dc_by_fewest pm_by_fewest cd_by_fewest ct_by_fewest : Value}
    (a_by_fewest : PySem.W.nsIn K mainGlobals "by_fewest" = some (some (.ref f_by_fewest))) (l_by_fewest : K.lookup f_by_fewest = some ⟨oc_by_fewest, od_by_fewest, .func (PySem.W.fnOf "by_fewest" "by_fewest" (defArgs s_by_fewest) (defBody s_by_fewest) (defScope s_by_fewest) .none kV_by_fewest dc_by_fewest pm_by_fewest an_by_fewest cd_by_fewest ct_by_fewest), sl_by_fewest⟩) (q_by_fewest : PySem.W.codeIn K cd_by_fewest "by_fewest" = true) (k_by_fewest : PySem.W.keepIn K (.ref f_by_fewest) = true)
    {f_sum_of : Addr} {od_sum_of an_sum_of : Option Addr} {sl_sum_of : Array (Option Value)} {oc_sum_of kV_sum_of dc_sum_of pm_sum_of cd_sum_of ct_sum_of : Value}
    (a_sum_of : PySem.W.nsIn K mainGlobals "sum_of" = some (some (.ref f_sum_of))) (l_sum_of : K.lookup f_sum_of = some ⟨oc_sum_of, od_sum_of, .func (PySem.W.fnOf "sum_of" "sum_of" (defArgs s_sum_of) (defBody s_sum_of) (defScope s_sum_of) .none kV_sum_of dc_sum_of pm_sum_of an_sum_of cd_sum_of ct_sum_of), sl_sum_of⟩) (q_sum_of : PySem.W.codeIn K cd_sum_of "sum_of" = true) (k_sum_of : PySem.W.keepIn K (.ref f_sum_of) = true)
    {f__law_cell : Addr} {od__law_cell an__law_cell : Option Addr} {sl__law_cell : Array (Option Value)} {oc__law_cell kV__law_cell dc__law_cell pm__law_cell cd__law_cell ct__law_cell : Value}
    (a__law_cell : PySem.W.nsIn K mainGlobals "_law_cell" = some (some (.ref f__law_cell))) (l__law_cell : K.lookup f__law_cell = some ⟨oc__law_cell, od__law_cell, .func (PySem.W.fnOf "_law_cell" "_law_cell" (defArgs s__law_cell) (defBody s__law_cell) (defScope s__law_cell) .none kV__law_cell dc__law_cell pm__law_cell an__law_cell cd__law_cell ct__law_cell), sl__law_cell⟩) (q__law_cell : PySem.W.codeIn K cd__law_cell "_law_cell" = true) (k__law_cell : PySem.W.keepIn K (.ref f__law_cell) = true)
    {f__law_mix : Addr} {od__law_mix an__law_mix : Option Addr} {sl__law_mix : Array (Option Value)} {oc__law_mix kV__law_mix dc__law_mix pm__law_mix cd__law_mix ct__law_mix : Value}
    (a__law_mix : PySem.W.nsIn K mainGlobals "_law_mix" = some (some (.ref f__law_mix))) (l__law_mix : K.lookup f__law_mix = some ⟨oc__law_mix, od__law_mix, .func (PySem.W.fnOf "_law_mix" "_law_mix" (defArgs s__law_mix) (defBody s__law_mix) (defScope s__law_mix) .none kV__law_mix dc__law_mix pm__law_mix an__law_mix cd__law_mix ct__law_mix), sl__law_mix⟩) (q__law_mix : PySem.W.codeIn K cd__law_mix "_law_mix" = true) (k__law_mix : PySem.W.keepIn K (.ref f__law_mix) = true)
    {f__law_whole : Addr} {od__law_whole an__law_whole : Option Addr} {sl__law_whole : Array (Option Value)} {oc__law_whole kV__law_whole dc__law_whole pm__law_whole cd__law_whole ct__law_whole : Value}
    (a__law_whole : PySem.W.nsIn K mainGlobals "_law_whole" = some (some (.ref f__law_whole))) (l__law_whole : K.lookup f__law_whole = some ⟨oc__law_whole, od__law_whole, .func (PySem.W.fnOf "_law_whole" "_law_whole" (defArgs s__law_whole) (defBody s__law_whole) (defScope s__law_whole) .none kV__law_whole dc__law_whole pm__law_whole an__law_whole cd__law_whole ct__law_whole), sl__law_whole⟩) (q__law_whole : PySem.W.codeIn K cd__law_whole "_law_whole" = true) (k__law_whole : PySem.W.keepIn K (.ref f__law_whole) = true)
    {f__law_system : Addr} {od__law_system an__law_system : Option Addr} {sl__law_system : Array (Option Value)} {oc__law_system kV__law_system dc__law_system pm__law_system cd__law_system ct__law_system : Value}
    (a__law_system : PySem.W.nsIn K mainGlobals "_law_system" = some (some (.ref f__law_system))) (l__law_system : K.lookup f__law_system = some ⟨oc__law_system, od__law_system, .func (PySem.W.fnOf "_law_system" "_law_system" (defArgs s__law_system) (defBody s__law_system) (defScope s__law_system) .none kV__law_system dc__law_system pm__law_system an__law_system cd__law_system ct__law_system), sl__law_system⟩) (q__law_system : PySem.W.codeIn K cd__law_system "_law_system" = true) (k__law_system : PySem.W.keepIn K (.ref f__law_system) = true)
    {f__law_few : Addr} {od__law_few an__law_few : Option Addr} {sl__law_few : Array (Option Value)} {oc__law_few kV__law_few dc__law_few pm__law_few cd__law_few ct__law_few : Value}
    (a__law_few : PySem.W.nsIn K mainGlobals "_law_few" = some (some (.ref f__law_few))) (l__law_few : K.lookup f__law_few = some ⟨oc__law_few, od__law_few, .func (PySem.W.fnOf "_law_few" "_law_few" (defArgs s__law_few) (defBody s__law_few) (defScope s__law_few) .none kV__law_few dc__law_few pm__law_few an__law_few cd__law_few ct__law_few), sl__law_few⟩) (q__law_few : PySem.W.codeIn K cd__law_few "_law_few" = true) (k__law_few : PySem.W.keepIn K (.ref f__law_few) = true)
    {f_law : Addr} {od_law an_law : Option Addr} {sl_law : Array (Option Value)} {oc_law kV_law dc_law pm_law cd_law ct_law : Value}
    (a_law : PySem.W.nsIn K mainGlobals "law" = some (some (.ref f_law))) (l_law : K.lookup f_law = some ⟨oc_law, od_law, .func (PySem.W.fnOf "law" "law" (defArgs s_law) (defBody s_law) (defScope s_law) .none kV_law dc_law pm_law an_law cd_law ct_law), sl_law⟩) (q_law : PySem.W.codeIn K cd_law "law" = true) (k_law : PySem.W.keepIn K (.ref f_law) = true)
    {CE : Addr} (a_TillError : PySem.W.nsIn K mainGlobals "TillError" = some (some (.ref CE))) (e_TillError : PySem.W.excIn K CE [.type "ValueError", .type "Exception", .type "BaseException", .type "object"] "ValueError.__new__" = true) (k_TillError : PySem.W.keepIn K (.ref CE) = true) (b_TillError : PySem.W.subIn K (.ref CE) (.type "BaseException") = some true) (t_TillError : PySem.W.typeIn K (.ref CE) = some (.type "type"))
    {CS : Addr} (a_BadSystem : PySem.W.nsIn K mainGlobals "BadSystem" = some (some (.ref CS))) (e_BadSystem : PySem.W.excIn K CS [.type "ValueError", .type "Exception", .type "BaseException", .type "object"] "ValueError.__new__" = true) (k_BadSystem : PySem.W.keepIn K (.ref CS) = true) (b_BadSystem : PySem.W.subIn K (.ref CS) (.type "BaseException") = some true) (t_BadSystem : PySem.W.typeIn K (.ref CS) = some (.type "type"))
    {CB : Addr} (a_BadSum : PySem.W.nsIn K mainGlobals "BadSum" = some (some (.ref CB))) (e_BadSum : PySem.W.excIn K CB [.type "ValueError", .type "Exception", .type "BaseException", .type "object"] "ValueError.__new__" = true) (k_BadSum : PySem.W.keepIn K (.ref CB) = true) (b_BadSum : PySem.W.subIn K (.ref CB) (.type "BaseException") = some true) (t_BadSum : PySem.W.typeIn K (.ref CB) = some (.type "type"))
    {CW : Addr} (a_BadWay : PySem.W.nsIn K mainGlobals "BadWay" = some (some (.ref CW))) (e_BadWay : PySem.W.excIn K CW [.type "ValueError", .type "Exception", .type "BaseException", .type "object"] "ValueError.__new__" = true) (k_BadWay : PySem.W.keepIn K (.ref CW) = true) (b_BadWay : PySem.W.subIn K (.ref CW) (.type "BaseException") = some true) (t_BadWay : PySem.W.typeIn K (.ref CW) = some (.type "type"))
    {tk_MOST_COINS : Tok} (a_MOST_COINS : PySem.W.nsIn K mainGlobals "MOST_COINS" = some (some (.int 8 tk_MOST_COINS)))
    {tk_MOST_COIN : Tok} (a_MOST_COIN : PySem.W.nsIn K mainGlobals "MOST_COIN" = some (some (.int 200 tk_MOST_COIN)))
    {tk_MOST_SUM : Tok} (a_MOST_SUM : PySem.W.nsIn K mainGlobals "MOST_SUM" = some (some (.int 2000 tk_MOST_SUM)))
    (z_len : PySem.W.nsIn K mainGlobals "len" = some none)
    (z_range : PySem.W.nsIn K mainGlobals "range" = some none)
    (z_tuple : PySem.W.nsIn K mainGlobals "tuple" = some none)
    (z_sum : PySem.W.nsIn K mainGlobals "sum" = some none)
    (z_min : PySem.W.nsIn K mainGlobals "min" = some none)
    (z_max : PySem.W.nsIn K mainGlobals "max" = some none)
    (z_isinstance : PySem.W.nsIn K mainGlobals "isinstance" = some none)
    (z_int : PySem.W.nsIn K mainGlobals "int" = some none)
    (z_bool : PySem.W.nsIn K mainGlobals "bool" = some none)
    (z_str : PySem.W.nsIn K mainGlobals "str" = some none)
    (z_list : PySem.W.nsIn K mainGlobals "list" = some none)
    (z_set : PySem.W.nsIn K mainGlobals "set" = some none)
    (z_sorted : PySem.W.nsIn K mainGlobals "sorted" = some none)
    (z_zip : PySem.W.nsIn K mainGlobals "zip" = some none)
    (z_abs : PySem.W.nsIn K mainGlobals "abs" = some none)
    (z_ValueError : PySem.W.nsIn K mainGlobals "ValueError" = some none)
    : ∃ fd : FuncData, (∀ (s : Shared) (v : Value), BindsTo s fd ⟨[v], []⟩ [("_law_script", v)]) ∧ ∀ base : Heap, K.In base → base.Ns mainGlobals mg → FnOk P w K mg base (L2.CX P w) 6 fa fd ["_law_script"] (sp_law K) := by
  have e := hfa.symm.trans (PySem.W.mg_of X G a_law)
  cases e
  have x_TillError : Ec K mg "TillError" CE := ⟨PySem.W.mg_of X G a_TillError, e_TillError, k_TillError, b_TillError, t_TillError⟩
  have x_BadSystem : Ec K mg "BadSystem" CS := ⟨PySem.W.mg_of X G a_BadSystem, e_BadSystem, k_BadSystem, b_BadSystem, t_BadSystem⟩
  have x_BadSum : Ec K mg "BadSum" CB := ⟨PySem.W.mg_of X G a_BadSum, e_BadSum, k_BadSum, b_BadSum, t_BadSum⟩
  have x_BadWay : Ec K mg "BadWay" CW := ⟨PySem.W.mg_of X G a_BadWay, e_BadWay, k_BadWay, b_BadWay, t_BadWay⟩
  have c_MOST_COINS : Kc mg "MOST_COINS" 8 := ⟨⟨_, PySem.W.mg_of X G a_MOST_COINS⟩⟩
  have c_MOST_COIN : Kc mg "MOST_COIN" 200 := ⟨⟨_, PySem.W.mg_of X G a_MOST_COIN⟩⟩
  have c_MOST_SUM : Kc mg "MOST_SUM" 2000 := ⟨⟨_, PySem.W.mg_of X G a_MOST_SUM⟩⟩
  have B : Bi mg := ⟨PySem.W.mg_none_of X G z_len, PySem.W.mg_none_of X G z_range, PySem.W.mg_none_of X G z_tuple, PySem.W.mg_none_of X G z_sum, PySem.W.mg_none_of X G z_min, PySem.W.mg_none_of X G z_max, PySem.W.mg_none_of X G z_isinstance, PySem.W.mg_none_of X G z_int, PySem.W.mg_none_of X G z_bool, PySem.W.mg_none_of X G z_str, PySem.W.mg_none_of X G z_list, PySem.W.mg_none_of X G z_set, PySem.W.mg_none_of X G z_sorted, PySem.W.mg_none_of X G z_zip, PySem.W.mg_none_of X G z_abs, PySem.W.mg_none_of X G z_ValueError⟩
  have F_is_within := fun_mk (st := s_is_within) l_is_within q_is_within k_is_within
  have F_is_system := fun_mk (st := s_is_system) l_is_system q_is_system k_is_system
  have F_checked := fun_mk (st := s_checked) l_checked q_checked k_checked
  have F_look := fun_mk (st := s_look) l_look q_look k_look
  have F_fewest_up_to := fun_mk (st := s_fewest_up_to) l_fewest_up_to q_fewest_up_to k_fewest_up_to
  have F_fewest := fun_mk (st := s_fewest) l_fewest q_fewest k_fewest
  have F_by_fewest := fun_mk (st := s_by_fewest) l_by_fewest q_by_fewest k_by_fewest
  have F_sum_of := fun_mk (st := s_sum_of) l_sum_of q_sum_of k_sum_of
  have F__law_cell := fun_mk (st := s__law_cell) l__law_cell q__law_cell k__law_cell
  have F__law_mix := fun_mk (st := s__law_mix) l__law_mix q__law_mix k__law_mix
  have F__law_whole := fun_mk (st := s__law_whole) l__law_whole q__law_whole k__law_whole
  have F__law_system := fun_mk (st := s__law_system) l__law_system q__law_system k__law_system
  have F__law_few := fun_mk (st := s__law_few) l__law_few q__law_few k__law_few
  have F_law := fun_mk (st := s_law) l_law q_law k_law
  refine ⟨PySem.W.fnOf "law" "law" (defArgs s_law) (defBody s_law) (defScope s_law) .none kV_law dc_law pm_law an_law cd_law ct_law, fun s v => .of_eq rfl, fun base _ _ => ?_⟩
  have h_is_within : Hs P w K mg base 1 "is_within" sp_is_within := ⟨⟨_, _, _, ok_is_within F_is_within (B := B), PySem.W.mg_of X G a_is_within, k_is_within, F_is_within.binds (ps := ["thing", "low", "high"]) fun _ _ _ _ _ _ us hl => match us, hl with | [_, _, _], _ => rfl⟩⟩
  have h_is_system : Hs P w K mg base 2 "is_system" sp_is_system := ⟨⟨_, _, _, ok_is_system F_is_system (B := B) (h_is_within := h_is_within) (c_MOST_COINS := c_MOST_COINS) (c_MOST_COIN := c_MOST_COIN), PySem.W.mg_of X G a_is_system, k_is_system, F_is_system.binds (ps := ["thing"]) fun _ _ _ _ _ _ us hl => match us, hl with | [_], _ => rfl⟩⟩
  have h_checked : Hs P w K mg base 3 "checked" (sp_checked CS) := ⟨⟨_, _, _, ok_checked F_checked (h_is_system := h_is_system) (x_BadSystem := x_BadSystem), PySem.W.mg_of X G a_checked, k_checked, F_checked.binds (ps := ["system"]) fun _ _ _ _ _ _ us hl => match us, hl with | [_], _ => rfl⟩⟩
  have h_look : Hs P w K mg base 4 "look" (sp_look CS CB) := ⟨⟨_, _, _, ok_look F_look (h_checked := h_checked) (h_is_within := h_is_within) (c_MOST_SUM := c_MOST_SUM) (x_BadSum := x_BadSum), PySem.W.mg_of X G a_look, k_look, F_look.binds (ps := ["system", "number"]) fun _ _ _ _ _ _ us hl => match us, hl with | [_, _], _ => rfl⟩⟩
  have h_fewest_up_to : Hs P w K mg base 1 "fewest_up_to" sp_fewest_up_to := ⟨⟨_, _, _, ok_fewest_up_to F_fewest_up_to (B := B), PySem.W.mg_of X G a_fewest_up_to, k_fewest_up_to, F_fewest_up_to.binds (ps := ["system", "last"]) fun _ _ _ _ _ _ us hl => match us, hl with | [_, _], _ => rfl⟩⟩
  have h_fewest : Hs P w K mg base 5 "fewest" (sp_fewest CS CB) := ⟨⟨_, _, _, ok_fewest F_fewest (h_look := h_look) (h_fewest_up_to := h_fewest_up_to), PySem.W.mg_of X G a_fewest, k_fewest, F_fewest.binds (ps := ["system", "number"]) fun _ _ _ _ _ _ us hl => match us, hl with | [_, _], _ => rfl⟩⟩
  have h_by_fewest : Hs P w K mg base 5 "by_fewest" (sp_by_fewest CS CB) := ⟨⟨_, _, _, ok_by_fewest F_by_fewest (B := B) (h_look := h_look) (h_fewest_up_to := h_fewest_up_to), PySem.W.mg_of X G a_by_fewest, k_by_fewest, F_by_fewest.binds (ps := ["system", "number"]) fun _ _ _ _ _ _ us hl => match us, hl with | [_, _], _ => rfl⟩⟩
  have h_sum_of : Hs P w K mg base 5 "sum_of" (sp_sum_of CS CW) := ⟨⟨_, _, _, ok_sum_of F_sum_of (B := B) (h_checked := h_checked) (h_is_within := h_is_within) (c_MOST_SUM := c_MOST_SUM) (x_BadWay := x_BadWay), PySem.W.mg_of X G a_sum_of, k_sum_of, F_sum_of.binds (ps := ["system", "way"]) fun _ _ _ _ _ _ us hl => match us, hl with | [_, _], _ => rfl⟩⟩
  have h__law_cell : Hs P w K mg base 1 "_law_cell" (sp_cell K) := ⟨⟨_, _, _, ok__law_cell F__law_cell (B := B), PySem.W.mg_of X G a__law_cell, k__law_cell, F__law_cell.binds (ps := ["_law_script", "_law_k"]) fun _ _ _ _ _ _ us hl => match us, hl with | [_, _], _ => rfl⟩⟩
  have h__law_mix : Hs P w K mg base 1 "_law_mix" sp_mix := ⟨⟨_, _, _, ok__law_mix F__law_mix, PySem.W.mg_of X G a__law_mix, k__law_mix, F__law_mix.binds (ps := ["_law_cell_here", "_law_prime", "_law_many"]) fun _ _ _ _ _ _ us hl => match us, hl with | [_, _, _], _ => rfl⟩⟩
  have h__law_whole : Hs P w K mg base 1 "_law_whole" sp_whole := ⟨⟨_, _, _, ok__law_whole F__law_whole (B := B), PySem.W.mg_of X G a__law_whole, k__law_whole, F__law_whole.binds (ps := ["_law_found"]) fun _ _ _ _ _ _ us hl => match us, hl with | [_], _ => rfl⟩⟩
  have h__law_system : Hs P w K mg base 2 "_law_system" (sp_system K) := ⟨⟨_, _, _, ok__law_system F__law_system (B := B) (h__law_cell := h__law_cell) (h__law_mix := h__law_mix), PySem.W.mg_of X G a__law_system, k__law_system, F__law_system.binds (ps := ["_law_script", "_law_at"]) fun _ _ _ _ _ _ us hl => match us, hl with | [_, _], _ => rfl⟩⟩
  have h__law_few : Hs P w K mg base 1 "_law_few" sp_few := ⟨⟨_, _, _, ok__law_few F__law_few (B := B), PySem.W.mg_of X G a__law_few, k__law_few, F__law_few.binds (ps := ["_law_system_here", "_law_last"]) fun _ _ _ _ _ _ us hl => match us, hl with | [_, _], _ => rfl⟩⟩
  exact ok_law F_law (B := B) (h__law_cell := h__law_cell) (h__law_system := h__law_system) (h__law_whole := h__law_whole) (h__law_few := h__law_few) (h_fewest := h_fewest) (h_by_fewest := h_by_fewest) (h_sum_of := h_sum_of)
end Coin
open PySem PySem.W PyProof.Rows
set_option maxHeartbeats 0 in
theorem PySem.Challenge.cw_tillcoins_k02_fewest_coins_holds : PySem.Challenge.rw_tillcoins_k02_fewest_coins.Holds := by
  w_on; o_law; k_head; (case hw => w_witness2)
  k_fill
  refine L2.walk_of (l := PySem.Challenge.rw_tillcoins_k02_fewest_coins) (n := 63) (k := 6) (x := "_law_script") (CX := fun w => L2.CX (PySem.Challenge.rw_tillcoins_k02_fewest_coins).prog w) (sp := fun w => Coin.sp_law _) rfl (by decide) rfl ⟨rfl, by decide, by decide⟩ (fun w h Y => PySem.W.kIn_of Y) ?F (fun _ _ a ns hl _ hS => ⟨a, ns, rfl, hS, hl, fun _ => rfl⟩) (fun _ _ _ _ _ z => Coin.cx_none z)
  case F =>
    intro w mg fa h KX G hmg
    refine' Coin.all_mk KX G hmg ?a_is_within ?l_is_within ?q_is_within ?k_is_within ?a_is_system ?l_is_system ?q_is_system ?k_is_system ?a_checked ?l_checked ?q_checked ?k_checked ?a_look ?l_look ?q_look ?k_look ?a_fewest_up_to ?l_fewest_up_to ?q_fewest_up_to ?k_fewest_up_to ?a_fewest ?l_fewest ?q_fewest ?k_fewest ?a_by_fewest ?l_by_fewest ?q_by_fewest ?k_by_fewest ?a_sum_of ?l_sum_of ?q_sum_of ?k_sum_of ?a__law_cell ?l__law_cell ?q__law_cell ?k__law_cell ?a__law_mix ?l__law_mix ?q__law_mix ?k__law_mix ?a__law_whole ?l__law_whole ?q__law_whole ?k__law_whole ?a__law_system ?l__law_system ?q__law_system ?k__law_system ?a__law_few ?l__law_few ?q__law_few ?k__law_few ?a_law ?l_law ?q_law ?k_law ?a_TillError ?e_TillError ?k_TillError ?b_TillError ?t_TillError ?a_BadSystem ?e_BadSystem ?k_BadSystem ?b_BadSystem ?t_BadSystem ?a_BadSum ?e_BadSum ?k_BadSum ?b_BadSum ?t_BadSum ?a_BadWay ?e_BadWay ?k_BadWay ?b_BadWay ?t_BadWay ?a_MOST_COINS ?a_MOST_COIN ?a_MOST_SUM ?z_len ?z_range ?z_tuple ?z_sum ?z_min ?z_max ?z_isinstance ?z_int ?z_bool ?z_str ?z_list ?z_set ?z_sorted ?z_zip ?z_abs ?z_ValueError
    (case a_is_within => k_is)
    (case l_is_within => k_is)
    (case q_is_within => k_is)
    (case k_is_within => k_is)
    (case a_is_system => k_is)
    (case l_is_system => k_is)
    (case q_is_system => k_is)
    (case k_is_system => k_is)
    (case a_checked => k_is)
    (case l_checked => k_is)
    (case q_checked => k_is)
    (case k_checked => k_is)
    (case a_look => k_is)
    (case l_look => k_is)
    (case q_look => k_is)
    (case k_look => k_is)
    (case a_fewest_up_to => k_is)
    (case l_fewest_up_to => k_is)
    (case q_fewest_up_to => k_is)
    (case k_fewest_up_to => k_is)
    (case a_fewest => k_is)
    (case l_fewest => k_is)
    (case q_fewest => k_is)
    (case k_fewest => k_is)
    (case a_by_fewest => k_is)
    (case l_by_fewest => k_is)
    (case q_by_fewest => k_is)
    (case k_by_fewest => k_is)
    (case a_sum_of => k_is)
    (case l_sum_of => k_is)
    (case q_sum_of => k_is)
    (case k_sum_of => k_is)
    (case a__law_cell => k_is)
    (case l__law_cell => k_is)
    (case q__law_cell => k_is)
    (case k__law_cell => k_is)
    (case a__law_mix => k_is)
    (case l__law_mix => k_is)
    (case q__law_mix => k_is)
    (case k__law_mix => k_is)
    (case a__law_whole => k_is)
    (case l__law_whole => k_is)
    (case q__law_whole => k_is)
    (case k__law_whole => k_is)
    (case a__law_system => k_is)
    (case l__law_system => k_is)
    (case q__law_system => k_is)
    (case k__law_system => k_is)
    (case a__law_few => k_is)
    (case l__law_few => k_is)
    (case q__law_few => k_is)
    (case k__law_few => k_is)
    (case a_law => k_is)
    (case l_law => k_is)
    (case q_law => k_is)
    (case k_law => k_is)
    (case a_TillError => k_is)
    (case e_TillError => k_exc)
    (case k_TillError => k_is)
    (case b_TillError => k_is)
    (case t_TillError => k_is)
    (case a_BadSystem => k_is)
    (case e_BadSystem => k_exc)
    (case k_BadSystem => k_is)
    (case b_BadSystem => k_is)
    (case t_BadSystem => k_is)
    (case a_BadSum => k_is)
    (case e_BadSum => k_exc)
    (case k_BadSum => k_is)
    (case b_BadSum => k_is)
    (case t_BadSum => k_is)
    (case a_BadWay => k_is)
    (case e_BadWay => k_exc)
    (case k_BadWay => k_is)
    (case b_BadWay => k_is)
    (case t_BadWay => k_is)
    (case a_MOST_COINS => k_is)
    (case a_MOST_COIN => k_is)
    (case a_MOST_SUM => k_is)
    (case z_len => k_is)
    (case z_range => k_is)
    (case z_tuple => k_is)
    (case z_sum => k_is)
    (case z_min => k_is)
    (case z_max => k_is)
    (case z_isinstance => k_is)
    (case z_int => k_is)
    (case z_bool => k_is)
    (case z_str => k_is)
    (case z_list => k_is)
    (case z_set => k_is)
    (case z_sorted => k_is)
    (case z_zip => k_is)
    (case z_abs => k_is)
    (case z_ValueError => k_is)
