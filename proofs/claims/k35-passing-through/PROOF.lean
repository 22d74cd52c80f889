import PyProof.Rows.All
import Wide.All
import OpenK.AllK
import Wide.FinOn
import KE.KStateDown
import HandS.ForMost
import HandS.Evl
import HandS.Defaults
import HandS.Codes
import HandS.Property
import HandS.DictComp
import HandS.SetKeys
import HandS.Style
import HandS.NoneIn
import HandS.Conv
import HandS.More
import HandS.IsInst
import HandS.SortRule
import HandS.Set
import HandS.SetFor
import HandS.Strs
import HandS.Head0
import HandS.Head1
import HandS.Head2
import HandS.HeadEnd
import HandS.HeadHook1
import HandS.HeadHook2
import PySem.Challenge.RW_metersure_k35_whole_passing_through_smal
set_option Elab.async false
set_option linter.all false
set_option maxRecDepth 100000
set_option maxHeartbeats 4000000
/-! Mathematics of flows on lines: excess, cuts, pushes. Core Lean alone. -/
namespace MsM
universe u
variable {α : Type} [DecidableEq α]

/-- a line: name, tail, head -/
structure Ln (α : Type) where
  n : α
  t : α
  h : α
deriving DecidableEq

/-- sums over a list -/
def sumOf {β : Type} (f : β → Int) : List β → Int
  | [] => 0
  | x :: r => f x + sumOf f r
section
variable {β : Type} {f g : β → Int} {l : List β}
theorem sumOf_nil : sumOf f [] = 0 := rfl
theorem sumOf_cons {x : β} : sumOf f (x :: l) = f x + sumOf f l := rfl
theorem sumOf_append {l' : List β} : sumOf f (l ++ l') = sumOf f l + sumOf f l' := by
  induction l with
  | nil => simp [sumOf]
  | cons x r ih => simp only [List.cons_append, sumOf, ih]; omega
theorem sumOf_le (h : ∀ x ∈ l, f x ≤ g x) : sumOf f l ≤ sumOf g l := by
  induction l with
  | nil => exact Int.le_refl _
  | cons x r ih =>
    have h1 := h x (by simp)
    have h2 := ih fun y hy => h y (by simp [hy])
    simp only [sumOf]; omega
theorem sumOf_congr (h : ∀ x ∈ l, f x = g x) : sumOf f l = sumOf g l := by
  induction l with
  | nil => rfl
  | cons x r ih =>
    have h1 := h x (by simp)
    have h2 := ih fun y hy => h y (by simp [hy])
    simp only [sumOf]; omega
theorem sumOf_add : sumOf (fun x => f x + g x) l = sumOf f l + sumOf g l := by
  induction l with
  | nil => rfl
  | cons x r ih => simp only [sumOf, ih]; omega
theorem sumOf_sub : sumOf (fun x => f x - g x) l = sumOf f l - sumOf g l := by
  induction l with
  | nil => rfl
  | cons x r ih => simp only [sumOf, ih]; omega
theorem sumOf_zero (h : ∀ x ∈ l, f x = 0) : sumOf f l = 0 := by
  induction l with
  | nil => rfl
  | cons x r ih =>
    have h1 := h x (by simp)
    have h2 := ih fun y hy => h y (by simp [hy])
    simp only [sumOf]; omega
theorem sumOf_nonneg (h : ∀ x ∈ l, 0 ≤ f x) : 0 ≤ sumOf f l := by
  induction l with
  | nil => exact Int.le_refl _
  | cons x r ih =>
    have h1 := h x (by simp)
    have h2 := ih fun y hy => h y (by simp [hy])
    simp only [sumOf]; omega
theorem sumOf_pos_of_mem (h : ∀ x ∈ l, 0 ≤ f x) {y : β} (hy : y ∈ l) : f y ≤ sumOf f l := by
  induction l with
  | nil => simp at hy
  | cons x r ih =>
    have h1 := h x (by simp)
    have h2 := fun y hy => h y (List.mem_cons_of_mem x hy)
    have h3 := sumOf_nonneg h2
    simp only [sumOf]
    rcases List.mem_cons.mp hy with e | e
    · subst e; omega
    · have := ih h2 e; omega
theorem sumOf_perm {l' : List β} (p : l.Perm l') : sumOf f l = sumOf f l' := by
  induction p with
  | nil => rfl
  | cons x _ ih => simp only [sumOf, ih]
  | swap x y l => simp only [sumOf]; omega
  | trans _ _ i1 i2 => rw [i1, i2]
theorem sumOf_eq_sum : sumOf f l = (l.map f).sum := by
  induction l with
  | nil => rfl
  | cons x r ih => simp only [sumOf, List.map_cons, List.sum_cons, ih]
theorem sumOf_filter (p : β → Bool) : sumOf f (l.filter p) = sumOf (fun x => if p x = true then f x else 0) l := by
  induction l with
  | nil => rfl
  | cons x r ih =>
    by_cases hp : p x = true
    · rw [List.filter_cons_of_pos hp]; simp only [sumOf, ih, hp, if_true]
    · rw [List.filter_cons_of_neg hp]; simp only [sumOf, ih, hp]; simp
end

/-- one place's share in a sum over places that differ -/
theorem sum_single {ks : List α} (nd : ks.Nodup) {a : α} (ha : a ∈ ks) (R : α → Bool) (v : Int) :
    sumOf (fun k => if R k = true then (if a = k then v else 0) else 0) ks = if R a = true then v else 0 := by
  induction ks with
  | nil => simp at ha
  | cons x r ih =>
    obtain ⟨nx, nr⟩ := List.nodup_cons.mp nd
    simp only [sumOf]
    by_cases e : a = x
    · subst e
      have z : sumOf (fun k => if R k = true then (if a = k then v else 0) else 0) r = 0 := sumOf_zero fun y hy => by
        have : a ≠ y := fun q => nx (q ▸ hy)
        simp [this]
      rw [z]
      simp
    · have hr : a ∈ r := by
        rcases List.mem_cons.mp ha with q | q
        · exact absurd q e
        · exact q
      rw [ih nr hr]
      simp [e]

/-- what comes to a place less what goes from it -/
def exc (ls : List (Ln α)) (f : α → Int) (k : α) : Int := sumOf (fun l => (if l.h = k then f l.n else 0) - (if l.t = k then f l.n else 0)) ls

/-- the excess of a set of places is what comes into it less what leaves it -/
theorem exc_set {ks : List α} (nd : ks.Nodup) (R : α → Bool) (f : α → Int) : ∀ (ls : List (Ln α)), (∀ l ∈ ls, l.h ∈ ks ∧ l.t ∈ ks) →
    sumOf (fun k => if R k = true then exc ls f k else 0) ks = sumOf (fun l => (if R l.h = true then f l.n else 0) - (if R l.t = true then f l.n else 0)) ls
  | [], _ => by
    rw [sumOf_zero]
    · rfl
    · intro x _; simp [exc, sumOf]
  | l :: r, h => by
    have ih := exc_set nd R f r fun x hx => h x (List.mem_cons_of_mem l hx)
    obtain ⟨h1, h2⟩ := h l (by simp)
    have e : sumOf (fun k => if R k = true then exc (l :: r) f k else 0) ks = sumOf (fun k => ((if R k = true then (if l.h = k then f l.n else 0) else 0) - (if R k = true then (if l.t = k then f l.n else 0) else 0)) + (if R k = true then exc r f k else 0)) ks := by
      apply sumOf_congr
      intro k _
      by_cases hR : R k = true
      · simp only [hR, if_true, exc, sumOf]
      · simp [hR]
    rw [e, sumOf_add, sumOf_sub, sum_single nd h1 R, sum_single nd h2 R, ih]
    simp only [sumOf]

/-- a cut: if f is as great as it can be into R, and as small out of it, no g within the limits has a greater excess in R -/
theorem cut_le {ks : List α} (nd : ks.Nodup) (R : α → Bool) {f g : α → Int} {ls : List (Ln α)} (hk : ∀ l ∈ ls, l.h ∈ ks ∧ l.t ∈ ks)
    (hin : ∀ l ∈ ls, R l.h = true → R l.t = false → g l.n ≤ f l.n) (hout : ∀ l ∈ ls, R l.t = true → R l.h = false → f l.n ≤ g l.n) :
    sumOf (fun k => if R k = true then exc ls g k else 0) ks ≤ sumOf (fun k => if R k = true then exc ls f k else 0) ks := by
  rw [exc_set nd R f ls hk, exc_set nd R g ls hk]
  apply sumOf_le
  intro l hl
  cases h1 : R l.h <;> cases h2 : R l.t
  · simp
  · have := hout l hl h2 h1; simp; omega
  · have := hin l hl h1 h2; simp; omega
  · simp

/-! ### pushing -/
/-- an arc: from, to, name, sign (1 or -1), room -/
structure Arc (α : Type) where
  f : α
  t : α
  n : α
  s : Int
  r : Int
deriving DecidableEq

def upF (f : α → Int) (n : α) (v : Int) : α → Int := fun m => if m = n then v else f m
/-- the flows when an amount is pushed along arcs -/
def pushed (f : α → Int) (amt : Int) : List (Arc α) → (α → Int)
  | [] => f
  | a :: r => pushed (upF f a.n (f a.n + a.s * amt)) amt r

/-- an arc of the lines at the flows -/
def IsArc (ls : List (Ln α)) (lo hi f : α → Int) (a : Arc α) : Prop :=
  ∃ l ∈ ls, a.n = l.n ∧ ((a.f = l.t ∧ a.t = l.h ∧ a.s = 1 ∧ a.r = hi l.n - f l.n ∧ f l.n < hi l.n) ∨ (a.f = l.h ∧ a.t = l.t ∧ a.s = -1 ∧ a.r = f l.n - lo l.n ∧ lo l.n < f l.n))
theorem IsArc.room {ls : List (Ln α)} {lo hi f : α → Int} {a : Arc α} (h : IsArc ls lo hi f a) : 0 < a.r := by
  obtain ⟨l, _, _, h | h⟩ := h <;> omega

theorem exc_up {ls : List (Ln α)} (nd : (ls.map (·.n)).Nodup) {f : α → Int} {l : Ln α} (hl : l ∈ ls) (d : Int) (k : α) :
    exc ls (upF f l.n (f l.n + d)) k = exc ls f k + (if l.h = k then d else 0) - (if l.t = k then d else 0) := by
  induction ls with
  | nil => simp at hl
  | cons x r ih =>
    have nd' : (x.n :: r.map (·.n)).Nodup := nd
    obtain ⟨nx, nr⟩ := List.nodup_cons.mp nd'
    simp only [exc, sumOf]
    rcases List.mem_cons.mp hl with e | e
    · subst e
      have z : sumOf (fun y : Ln α => (if y.h = k then upF f l.n (f l.n + d) y.n else 0) - (if y.t = k then upF f l.n (f l.n + d) y.n else 0)) r = sumOf (fun y : Ln α => (if y.h = k then f y.n else 0) - (if y.t = k then f y.n else 0)) r := by
        apply sumOf_congr
        intro y hy
        have : y.n ≠ l.n := fun q => nx (q ▸ List.mem_map_of_mem hy)
        simp [upF, this]
      rw [z]
      simp only [upF, if_true]
      split <;> split <;> omega
    · have := ih nr e
      simp only [exc] at this
      rw [this]
      have : x.n ≠ l.n := fun q => nx (q ▸ List.mem_map_of_mem e)
      simp only [upF, this, if_false]
      omega

/-- arcs one behind the other, from a place to a place -/
inductive Chain : α → List (Arc α) → α → Prop
  | nil (p : α) : Chain p [] p
  | cons {a : Arc α} {r : List (Arc α)} {q : α} (h : Chain a.t r q) : Chain a.f (a :: r) q

def OfLine (ls : List (Ln α)) (a : Arc α) : Prop := ∃ l ∈ ls, a.n = l.n ∧ ((a.f = l.t ∧ a.t = l.h ∧ a.s = 1) ∨ (a.f = l.h ∧ a.t = l.t ∧ a.s = -1))
theorem IsArc.ofLine {ls : List (Ln α)} {lo hi f : α → Int} {a : Arc α} (h : IsArc ls lo hi f a) : OfLine ls a := by
  obtain ⟨l, hl, e, h | h⟩ := h
  · exact ⟨l, hl, e, .inl ⟨h.1, h.2.1, h.2.2.1⟩⟩
  · exact ⟨l, hl, e, .inr ⟨h.1, h.2.1, h.2.2.1⟩⟩

theorem exc_push {ls : List (Ln α)} (nd : (ls.map (·.n)).Nodup) (amt : Int) : ∀ {way : List (Arc α)} {p q : α} (f : α → Int), Chain p way q → (∀ a ∈ way, OfLine ls a) → ∀ k,
    exc ls (pushed f amt way) k = exc ls f k + (if q = k then amt else 0) - (if p = k then amt else 0)
  | [], p, q, f, c, _, k => by
    cases c
    simp only [pushed]
    omega
  | a :: r, p, q, f, c, h, k => by
    cases c with
    | cons c' =>
      have ih := exc_push nd amt (upF f a.n (f a.n + a.s * amt)) c' (fun b hb => h b (List.mem_cons_of_mem a hb)) k
      simp only [pushed]
      rw [ih]
      obtain ⟨l, hl, en, hh⟩ := h a (by simp)
      rw [en, exc_up nd hl]
      rcases hh with ⟨e1, e2, e3⟩ | ⟨e1, e2, e3⟩
      · rw [e1, e2, e3, Int.one_mul]
        split <;> split <;> split <;> omega
      · rw [e1, e2, e3, Int.neg_one_mul]
        split <;> split <;> split <;> omega

theorem pushed_out (amt : Int) : ∀ (way : List (Arc α)) (f : α → Int) (m : α), (∀ a ∈ way, a.n ≠ m) → pushed f amt way m = f m
  | [], f, m, _ => rfl
  | a :: r, f, m, h => by
    simp only [pushed]
    rw [pushed_out amt r _ m fun b hb => h b (List.mem_cons_of_mem a hb)]
    have : m ≠ a.n := fun q => h a (by simp) q.symm
    simp [upF, this]
theorem pushed_in (amt : Int) : ∀ (way : List (Arc α)) (f : α → Int), (way.map (·.n)).Nodup → ∀ a ∈ way, pushed f amt way a.n = f a.n + a.s * amt
  | [], f, _, a, h => by simp at h
  | b :: r, f, nd, a, h => by
    have nd' : (b.n :: r.map (·.n)).Nodup := nd
    obtain ⟨nx, nr⟩ := List.nodup_cons.mp nd'
    simp only [pushed]
    rcases List.mem_cons.mp h with e | e
    · subst e
      rw [pushed_out amt r _ a.n fun c hc q => nx (q ▸ List.mem_map_of_mem hc)]
      simp [upF]
    · rw [pushed_in amt r _ nr a e]
      have : a.n ≠ b.n := fun q => nx (q ▸ List.mem_map_of_mem e)
      simp [upF, this]

/-- flows within limits stay so -/
theorem pushed_within {ls : List (Ln α)} {lo hi f : α → Int} {way : List (Arc α)} {amt : Int} (nd : (way.map (·.n)).Nodup) (h : ∀ a ∈ way, IsArc ls lo hi f a) (ha : ∀ a ∈ way, amt ≤ a.r) (h0 : 0 ≤ amt)
    {m : α} (hm : lo m ≤ f m ∧ f m ≤ hi m) : lo m ≤ pushed f amt way m ∧ pushed f amt way m ≤ hi m := by
  by_cases e : ∃ a ∈ way, a.n = m
  · obtain ⟨a, hw, e⟩ := e
    subst e
    rw [pushed_in amt way f nd a hw]
    obtain ⟨l, hl, en, hh⟩ := h a hw
    have hr := ha a hw
    rcases hh with ⟨_, _, e3, e4, _⟩ | ⟨_, _, e3, e4, _⟩
    · rw [e3, Int.one_mul]; rw [en] at hm ⊢; omega
    · rw [e3, Int.neg_one_mul]; rw [en] at hm ⊢; omega
  · rw [pushed_out amt way f m fun a ha' q => e ⟨a, ha', q⟩]
    exact hm

/-! ### ways with rising ranks -/
/-- along the way the rank rises -/
def Rising (rk : α → Nat) (way : List (Arc α)) : Prop := ∀ a ∈ way, rk a.f < rk a.t
theorem chain_rank {rk : α → Nat} : ∀ {way : List (Arc α)} {p q : α}, Chain p way q → Rising rk way → ∀ a ∈ way, rk p < rk a.t
  | [], _, _, _, _, a, h => by simp at h
  | b :: r, p, q, c, hr, a, h => by
    cases c with
    | cons c' =>
      have h1 := hr b (by simp)
      rcases List.mem_cons.mp h with e | e
      · subst e; exact h1
      · have := chain_rank c' (fun x hx => hr x (List.mem_cons_of_mem b hx)) a e
        omega
theorem chain_rank_f {rk : α → Nat} : ∀ {way : List (Arc α)} {p q : α}, Chain p way q → Rising rk way → ∀ a ∈ way, rk p ≤ rk a.f
  | [], _, _, _, _, a, h => by simp at h
  | b :: r, p, q, c, hr, a, h => by
    cases c with
    | cons c' =>
      have h1 := hr b (by simp)
      rcases List.mem_cons.mp h with e | e
      · subst e; exact Nat.le_refl _
      · have := chain_rank_f c' (fun x hx => hr x (List.mem_cons_of_mem b hx)) a e
        omega
/-- a rising way meets each line at most once -/
theorem way_names {ls : List (Ln α)} (nd : (ls.map (·.n)).Nodup) {rk : α → Nat} : ∀ {way : List (Arc α)} {p q : α}, Chain p way q → Rising rk way → (∀ a ∈ way, OfLine ls a) → (way.map (·.n)).Nodup
  | [], _, _, _, _, _ => List.nodup_nil
  | b :: r, p, q, c, hr, ho => by
    cases c with
    | cons c' =>
      have hr' : Rising rk r := fun x hx => hr x (List.mem_cons_of_mem b hx)
      have ih := way_names nd c' hr' fun x hx => ho x (List.mem_cons_of_mem b hx)
      show (b.n :: r.map (·.n)).Nodup
      refine List.nodup_cons.mpr ⟨fun hm => ?_, ih⟩
      obtain ⟨a, ha, ea⟩ := List.mem_map.mp hm
      have ea : a.n = b.n := ea
      obtain ⟨l1, hl1, e1, o1⟩ := ho b (by simp)
      obtain ⟨l2, hl2, e2, o2⟩ := ho a (List.mem_cons_of_mem b ha)
      have el : l1 = l2 := by
        have hn : l1.n = l2.n := by rw [← e1, ← e2, ea]
        obtain ⟨i, hi, q1⟩ := List.mem_iff_getElem.mp hl1
        obtain ⟨j, hj, q2⟩ := List.mem_iff_getElem.mp hl2
        have hij : (ls.map (·.n))[i]'(by simpa using hi) = (ls.map (·.n))[j]'(by simpa using hj) := by
          simp only [List.getElem_map, q1, q2, hn]
        have : i = j := (List.getElem_inj nd).mp hij
        subst this
        rw [← q1, ← q2]
      subst el
      have k1 := hr b (by simp)
      have k2 := hr' a ha
      have k3 := chain_rank_f c' hr' a ha
      rcases o1 with ⟨p1, p2, _⟩ | ⟨p1, p2, _⟩ <;> rcases o2 with ⟨p3, p4, _⟩ | ⟨p3, p4, _⟩ <;> (rw [p1, p2] at k1; rw [p3, p4] at k2; rw [p2, p3] at k3; omega)

/-! ### a list that differs, within another -/
theorem nodup_le_of_subset : ∀ {l l' : List α}, l.Nodup → (∀ x ∈ l, x ∈ l') → l.length ≤ l'.length
  | [], _, _, _ => Nat.zero_le _
  | a :: r, l', nd, h => by
    obtain ⟨na, nr⟩ := List.nodup_cons.mp nd
    have ha : a ∈ l' := h a (by simp)
    have := nodup_le_of_subset (l := r) (l' := l'.erase a) nr fun x hx => by
      have hne : x ≠ a := fun q => na (q ▸ hx)
      exact (List.mem_erase_of_ne hne).mpr (h x (List.mem_cons_of_mem a hx))
    rw [List.length_erase_of_mem ha] at this
    have hp : 0 < l'.length := List.length_pos_of_mem ha
    simp only [List.length_cons]
    omega
end MsM

set_option maxHeartbeats 4000000
/-! The text by places, defs as bundles, own rules beside the layer's. -/
namespace Ms
open PySem PySem.Spec PyProof.Rows L2
open C8 (Cal Mak Met pe_c pe_mk pe_mt pe_mt0 pe_gc)

def top (i : Nat) : Stmt := PySem.Challenge.pw_metersure_k35_whole_passing_through_smal.main.body.getD i (.Pass ⟨0, 0, 0, 0⟩)

/-- what the module's names stand for: built-ins that nobody binds anew, constants -/
structure Glb (mg : Str → Option Value) : Prop where
  len : mg "len" = none
  abs : mg "abs" = none
  int : mg "int" = none
  min : mg "min" = none
  max : mg "max" = none
  sum : mg "sum" = none
  all : mg "all" = none
  sorted : mg "sorted" = none
  list : mg "list" = none
  dict : mg "dict" = none
  repr : mg "repr" = none
  isinstance : mg "isinstance" = none
  set : mg "set" = none
  range : mg "range" = none
  c_LETTERS : ∃ u, mg "LETTERS" = some u ∧ RelV (.str "abcdefghijklmnopqrstuvwxyz0123456789") u
  c_MOST_FLOW : ∃ u, mg "MOST_FLOW" = some u ∧ RelV (.int 1000000) u
  c_MOST_KNOTS : ∃ u, mg "MOST_KNOTS" = some u ∧ RelV (.int 24) u
  c_MOST_STREAMS : ∃ u, mg "MOST_STREAMS" = some u ∧ RelV (.int 60) u
  c_APART : ∃ u, mg "APART" = some u ∧ RelV (.str "") u

/-- a def of the module as it stands behind the top: its object, its name, its binding -/
structure Dn (K : PySem.W.Frag) (mg : Str → Option Value) (x : Str) (st : Stmt) (ps : List Str) : Prop where
  ex : ∃ (f : Addr) (fd : FuncData), FunD K x x (defArgs st) (defBody st) (defScope st) [] [] f fd ∧ mg x = some (.ref f) ∧ Binds K fd ps []
/-- a method of the class at C -/
structure Mn (K : PySem.W.Frag) (C : Addr) (m qual : Str) (st : Stmt) (ps : List Str) : Prop where
  ex : ∃ (f : Addr) (fd : FuncData), Cls K C ∧ Meth K C m f ∧ FunD K m qual (defArgs st) (defBody st) (defScope st) [] [] f fd ∧ Binds K fd ps []
/-- a class with an __init__ -/
structure Kn (K : PySem.W.Frag) (mg : Str → Option Value) (x : Str) (C : Addr) (qual : Str) (st : Stmt) (ps : List Str) : Prop where
  ex : ∃ (f : Addr) (fd : FuncData), Mk K C f ∧ FunD K "__init__" qual (defArgs st) (defBody st) (defScope st) [] [] f fd ∧ mg x = some (.ref C) ∧ Binds K fd ps []
/-- a property of the class at C by its getter -/
structure Rn (K : PySem.W.Frag) (C : Addr) (m qual : Str) (st : Stmt) (ps : List Str) : Prop where
  ex : ∃ (p g : Addr) (fd : FuncData), Cls K C ∧ PropOf K C m p g ∧ FunD K m qual (defArgs st) (defBody st) (defScope st) [] [] g fd ∧ Binds K fd ps []

/-- a property that keeps a promise -/
structure Prb (P : Program) (w : World) (K : PySem.W.Frag) (mg : Str → Option Value) (base : Heap) (k : Nat) (C : Addr) (m : Str) (sp : Sp) : Prop where
  ex : ∃ (p g : Addr) (fd : FuncData) (ps : List Str), Cls K C ∧ PropOf K C m p g ∧ FnOk P w K mg base L2.CX0 k g fd ps sp ∧ Binds K fd ps []

section
variable {P : Program} {w : World} {K : PySem.W.Frag} {mg : Str → Option Value} {base : Heap}
theorem fun_ok {x qual : Str} {st : Stmt} {f : Addr} {fd : FuncData} {N ps : List Str} {k : Nat} {sp : Sp} (F : FunD K x qual (defArgs st) (defBody st) (defScope st) [] [] f fd) (S : FnScope N ps (defScope st)) (len : ∀ vs H Q E, sp vs H Q E → vs.length = ps.length)
    (hbody : ∀ (f : Addr) (cdv : Value) (A : Around) (outer : List Env) (s : Shared) (H : Hp) (vs : List V) (Q : VK) (E : XK), Room k (A.deeper (envOfC qual (defScope st) s.heap.objs.size f cdv)) → sp vs H Q E →
      ∃ t, PSs (cxOf L2.CX0 P w K mg base N qual (defScope st) f cdv A outer s H E).nox (defBody st) t ∧ t { nx := fun _ H' => Q .non H', rt := Q } (start N vs) H) : FnOk P w K mg base L2.CX0 (k + 1) f fd ps sp :=
  F.ok S len fun cdv A outer s H vs Q E hr h => by
    obtain ⟨t, a, b⟩ := hbody f cdv A outer s H vs Q E hr h
    exact ⟨t, a.nox, b⟩
theorem Dn.cal {x : Str} {st : Stmt} {N ps : List Str} {k : Nat} {sp : Sp} (d : Dn K mg x st ps) (S : FnScope N ps (defScope st)) (len : ∀ vs H Q E, sp vs H Q E → vs.length = ps.length)
    (hbody : ∀ (f : Addr) (cdv : Value) (A : Around) (outer : List Env) (s : Shared) (H : Hp) (vs : List V) (Q : VK) (E : XK), Room k (A.deeper (envOfC x (defScope st) s.heap.objs.size f cdv)) → sp vs H Q E →
      ∃ t, PSs (cxOf L2.CX0 P w K mg base N x (defScope st) f cdv A outer s H E).nox (defBody st) t ∧ t { nx := fun _ H' => Q .non H', rt := Q } (start N vs) H) : Cal P w K mg base (k + 1) x sp [] := by
  obtain ⟨f, fd, F, hm, b⟩ := d.ex
  exact ⟨f, fd, ps, [], fun_ok F S len hbody, hm, F.kp, b, .nil⟩
theorem Mn.met {C : Addr} {m qual : Str} {st : Stmt} {N ps : List Str} {k : Nat} {sp : Sp} (d : Mn K C m qual st ps) (S : FnScope N ps (defScope st)) (len : ∀ vs H Q E, sp vs H Q E → vs.length = ps.length)
    (hbody : ∀ (f : Addr) (cdv : Value) (A : Around) (outer : List Env) (s : Shared) (H : Hp) (vs : List V) (Q : VK) (E : XK), Room k (A.deeper (envOfC qual (defScope st) s.heap.objs.size f cdv)) → sp vs H Q E →
      ∃ t, PSs (cxOf L2.CX0 P w K mg base N qual (defScope st) f cdv A outer s H E).nox (defBody st) t ∧ t { nx := fun _ H' => Q .non H', rt := Q } (start N vs) H) : Met P w K mg base (k + 1) C m sp [] := by
  obtain ⟨f, fd, c, me, F, b⟩ := d.ex
  exact ⟨f, fd, ps, [], c, me, fun_ok F S len hbody, b, .nil⟩
theorem Kn.mak {C : Addr} {x qual : Str} {st : Stmt} {N ps : List Str} {k : Nat} {sp : Sp} (d : Kn K mg x C qual st ps) (S : FnScope N ps (defScope st)) (len : ∀ vs H Q E, sp vs H Q E → vs.length = ps.length)
    (hbody : ∀ (f : Addr) (cdv : Value) (A : Around) (outer : List Env) (s : Shared) (H : Hp) (vs : List V) (Q : VK) (E : XK), Room k (A.deeper (envOfC qual (defScope st) s.heap.objs.size f cdv)) → sp vs H Q E →
      ∃ t, PSs (cxOf L2.CX0 P w K mg base N qual (defScope st) f cdv A outer s H E).nox (defBody st) t ∧ t { nx := fun _ H' => Q .non H', rt := Q } (start N vs) H) : Mak P w K mg base (k + 1) x C sp [] := by
  obtain ⟨f, fd, M, F, hm, b⟩ := d.ex
  exact ⟨f, fd, ps, [], M, fun_ok F S len hbody, hm, b, .nil⟩
theorem Rn.prb {C : Addr} {m qual : Str} {st : Stmt} {N ps : List Str} {k : Nat} {sp : Sp} (d : Rn K C m qual st ps) (S : FnScope N ps (defScope st)) (len : ∀ vs H Q E, sp vs H Q E → vs.length = ps.length)
    (hbody : ∀ (f : Addr) (cdv : Value) (A : Around) (outer : List Env) (s : Shared) (H : Hp) (vs : List V) (Q : VK) (E : XK), Room k (A.deeper (envOfC qual (defScope st) s.heap.objs.size f cdv)) → sp vs H Q E →
      ∃ t, PSs (cxOf L2.CX0 P w K mg base N qual (defScope st) f cdv A outer s H E).nox (defBody st) t ∧ t { nx := fun _ H' => Q .non H', rt := Q } (start N vs) H) : Prb P w K mg base (k + 1) C m sp := by
  obtain ⟨p, g, fd, c, hp, F, b⟩ := d.ex
  exact ⟨p, g, fd, ps, c, hp, fun_ok F S len hbody, b⟩
end
section
variable {X : Cx}
theorem pe_pr {k j : Nat} {C : Addr} {m : Str} {sp : Sp} {e : Expr} {pos : Pos} {ta : TE} (c : Prb X.prog X.w X.K X.mg X.base k C m sp) (hr : Room j X.A) (hk : k + 1 ≤ j) (he : PE X e ta)
    (hab : attributeBase e m X.env (eval e X.env) = eval e X.env) : PE X (.Attribute e m pos) (tProp C sp [] E0 ta) := by
  obtain ⟨p, g, fd, ps, cl, hp, F, b⟩ := c.ex
  exact pe_prop he cl hp F (hr.mono hk) b .nil pass0 hab
end
end Ms

set_option maxHeartbeats 4000000
/-! Rules of one's own: a dict comprehension that is given to a name, rules whose written part is named, a chain of three comparisons. -/
namespace Ms
open PySem PySem.Spec PyProof.Rows L2
section
variable {X : Cx}
theorem ps_setDc {i : Nat} {y : Str} {py : Pos} {kx vx tg iter : Expr} {ifs : List Expr} {scope : Scope} {own : List (Str × Nat)} {pos spos : Pos} {wi : TI} {g : TG} {tt : TT} {tk tv : TE} (cm : X.calm = true) (nd : X.N.Nodup) (hy : X.N[i]? = some y) (hyl : X.env.scope.names.lookup y = some .local)
    (hsw : swapsWith (.DictComp kx vx [⟨tg, iter, ifs, 0⟩] scope pos) (some (.Name y py)) spos.line X.env = pure true) (hi : PI X tg iter wi) (ok : BlkOk X.N X.env.scope scope own)
    (hg : ∀ (s : Shared) (H : Hp) (C : Addr) (cl : List (Str × Addr)) (fp : List Addr), PG (X.blk s H scope (compEnvC scope cl C X.env) fp) tg g)
    (ht : ∀ (s : Shared) (H : Hp) (C : Addr) (cl : List (Str × Addr)) (fp : List Addr), PTs (X.blk s H scope (compEnvC scope cl C X.env) fp) ifs tt)
    (hk : ∀ (s : Shared) (H : Hp) (C : Addr) (cl : List (Str × Addr)) (fp : List Addr), PE (X.blk s H scope (compEnvC scope cl C X.env) fp) kx tk)
    (hv : ∀ (s : Shared) (H : Hp) (C : Addr) (cl : List (Str × Addr)) (fp : List Addr), PE (X.blk s H scope (compEnvC scope cl C X.env) fp) vx tv) (hs : ∀ x, foldedSetIterable iter X.env x = pure x := by intro _; rfl) :
    PS X (.Assign [.Name y py] (.DictComp kx vx [⟨tg, iter, ifs, 0⟩] scope pos) spos) (tAsg (tDc wi g tt tk tv (own.map (·.2))) (gName i)) := by
  refine ⟨fun pins s σ H D I h => ?_⟩
  rw [exec_Assign_Name_used _ _ _ _ hsw]
  refine wpAny_bind (wpAny_standAt (wpAny_bind ?_))
  show wpAny _ X.A (do let _ ← comprehension (.DictComp kx vx [⟨tg, iter, ifs, 0⟩] scope pos) scope X.env (firstIterPos [⟨tg, iter, ifs, 0⟩] pos) newDict false (eval iter X.env) (some (assign (.Name y py) X.env))) _ _ s
  have h' : tDc wi g tt tk tv (own.map (·.2)) σ H (fun x H1 => gName i x σ H1 D.nx) := h
  refine wpAny_bind (thn (dc_core (Qf := fun _ s' => SP X pins D .next s') cm nd I hi ok hg ht hk hv hs h' fun L C s' m H' I' q hn f => ?_) fun _ s' hq => wpAny_pure (wpAny_pure hq))
  show wpAny _ _ (assign (.Name y py) X.env (.ref L)) _ _ _
  refine wpAny_assign_Name (store_ok2 (v := V.ref L) I' nd hy (.inl hyl) rfl (fun s2 I2 ⟨a, sb, ha⟩ => ?_) (.inr hyl))
  obtain ⟨f0, f1, f2, f3, f4, f5⟩ := f
  have haC : C ≠ a := by
    rcases ha with z | z
    · rw [z]; exact f1
    · exact fun e => f4 y a z e.symm
  refine ⟨m, hn.sameBut sb haC, fun h3 sb3 => ?_⟩
  exact ⟨_, H', I2.turned (t' := s2.toks) (fun b o hb e => (sb3.2 b hb).trans e) f0 f1 f3 f4 f5, q⟩
theorem swd_true {kx vx : Expr} {gs : List Comprehension} {scope : Scope} {pos py : Pos} {y : Str} {l : Nat} {env : Env} (hk : env.scope.kind = .function) (hy : env.scope.names.lookup y = some .local) (hl : (py.line == pos.line) = true)
    (ha : (scope.names.any fun (n, k) => n == y && (k == .local || k == .cell)) = false) : swapsWith (.DictComp kx vx gs scope pos) (some (.Name y py)) l env = pure true := by
  have ky : env.kindOf y = some .local := hy
  have hb : env.blockKind = .function := by unfold Env.blockKind; rw [hk]; rfl
  unfold swapsWith
  simp only [hb, ky, ha, Expr.pos, hl]
  rfl

/-! ### rules whose written part is named (a block's place hides it) -/
theorem ix_tupK (K : PySem.W.Frag) (h : X.K = K := by rfl) : IxR X (rIxT K) := by subst h; exact ix_tup
theorem ix_listK (K : PySem.W.Frag) (h : X.K = K := by rfl) : IxR X (rIxL K) := by subst h; exact ix_list
theorem in_seqK (K : PySem.W.Frag) (h : X.K = K := by rfl) : OpR X (compareOp .In) (rIn K false) := by subst h; exact op_in_seq
theorem notIn_seqK (K : PySem.W.Frag) (h : X.K = K := by rfl) : OpR X (compareOp .NotIn) (rIn K true) := by subst h; exact op_notIn_seq
theorem pg_tupK (K : PySem.W.Frag) {es : List Expr} {k : Nat} {t : TGs} {n : Nat} (hc : X.calm = true) (h : PGs X es t) (hn : (assignEach es X.env).length = n := by rfl) (hst : (assignEach es X.env).findIdx? (·.1) = none := by rfl) (e : X.K = K := by rfl) : PG X (.Tuple es k pos) (gTup K n t) := by
  subst e; exact pg_tup hc h hn hst
theorem len_seqK (K : PySem.W.Frag) (h : X.K = K := by rfl) : CallR X (.builtin "len") (fun xs H Q => ∃ p ys, xs = [.ref p] ∧ (SqL K H p ys ∨ SqT K H p ys) ∧ Q (.int ys.length) H) := by subst h; exact call_len_seq
theorem pe_fldK (K : PySem.W.Frag) {e : Expr} {f : Str} {pos : Pos} {ta : TE} (he : PE X e ta) (hb : attributeBase e f X.env (eval e X.env) = eval e X.env) (h : X.K = K := by rfl) : PE X (.Attribute e f pos) (tFld K ta f) := by subst h; exact pe_fld he hb

/-! ### a < b < c < d -/
def tChain3 (r r' r'' : R2) (ta tb tc td : TE) : TE := fun σ H Q => ta σ H fun x H1 => tb σ H1 fun y H2 => r x y H2 fun z H3 => ∃ k, z = .bl k ∧
  (if k = true then tc σ H3 fun u H4 => r' y u H4 fun z' H5 => ∃ k', z' = .bl k' ∧ (if k' = true then td σ H5 fun u' H6 => r'' u u' H6 Q else Q (.bl false) H5) else Q (.bl false) H3)
theorem pe_chain3 {op op' op'' : CmpOp} {a b c d : Expr} {pos : Pos} {ta tb tc td : TE} {r r' r'' : R2} (ho : OpR X (compareOp op) r) (ho' : OpR X (compareOp op') r') (ho'' : OpR X (compareOp op'') r'') (ha : PE X a ta) (hb : PE X b tb) (hc : PE X c tc) (hd : PE X d td)
    (hm : lastMarks [op, op', op''] [b, c, d] = false := by with_unfolding_all rfl) : PE X (.Compare a [op, op', op''] [b, c, d] pos) (tChain3 r r' r'' ta tb tc td) := by
  refine ⟨fun pins s σ H Q I h => ?_⟩
  refine Compare_chain (thn (ha.run pins s σ H _ I h) fun v s1 ⟨x, H1, I1, r1, q1⟩ => ?_) hm
  refine chain_link (thn (hb.run pins s1 σ H1 _ I1 q1) fun u s2 ⟨y, H2, I2, r2, q2⟩ => ?_)
  refine thn (ho pins s2 σ H2 x y v u _ I2 r1 r2 q2) fun d1 s3 ⟨z, H3, I3, r3, k, e, q3⟩ => ?_
  subst e
  cases r3
  refine wpAny_truthy_bool ?_
  cases k with
  | false => exact ite_ff ⟨.bl false, H3, I3, rfl, q3⟩
  | true =>
    refine ite_tt (chain_link (thn (hc.run pins s3 σ H3 _ I3 q3) fun u' s4 ⟨y', H4, I4, r4, q4⟩ => ?_))
    refine thn (ho' pins s4 σ H4 y y' u u' _ I4 r2 r4 q4) fun d2 s5 ⟨z', H5, I5, r5, k', e', q5⟩ => ?_
    subst e'
    cases r5
    refine wpAny_truthy_bool ?_
    cases k' with
    | false => exact ite_ff ⟨.bl false, H5, I5, rfl, q5⟩
    | true => exact ite_tt (chain_last (thn (hd.run pins s5 σ H5 _ I5 q5) fun w' s6 ⟨y2, H6, I6, r6, q6⟩ => ho'' pins s6 σ H6 y' y2 u' w' Q I6 r4 r6 q6))
/-! ### repr of a truth value -/
theorem call_repr_bool : CallR X (.builtin "repr") (fun xs H Q => ∃ b, xs = [.bl b] ∧ Q (.str (if b = true then "True" else "False")) H) := by
  intro pins s σ H xs us Q I r h
  obtain ⟨b, rfl, q⟩ := h
  obtain ⟨u, rfl, ru⟩ := vals1 r
  cases ru
  exact PySem.P.repr_of_bool ⟨.str _, H, I.tok _, ⟨_, rfl⟩, q⟩
end
/-! ### sorted of tuples whose first items are texts that differ -/
section
variable {prog : Program} {w : World} {A : Around} {s : Shared}
/-- v is a tuple: the text x, then flat things -/
def HdTx (h : Heap) (v : Value) (x : Str) : Prop := ∃ (a : Addr) (o : Obj) (xs : Array Value) (n : Nat) (t : Tok) (r : List Value) (rv : List V), v = .ref a ∧ h.get? a = some o ∧ o.cls = .type "tuple" ∧ o.data = .seq xs n ∧ xs.toList = .str x t :: r ∧ Vals rv r ∧ rv.all flatV = true
theorem HdTx.keeps {h h' : Heap} {v : Value} {x : Str} (p : HdTx h v x) (k : ∀ b o, h.get? b = some o → o.cls = .type "tuple" → h'.get? b = some o) : HdTx h' v x := by
  obtain ⟨a, o, xs, n, t, r, rv, e, ho, hc, z⟩ := p
  exact ⟨a, o, xs, n, t, r, rv, e, k a o ho hc, hc, z⟩
theorem heads_of {h : Heap} {k : Value → Str} : ∀ {vs : List Value}, (∀ v ∈ vs, HdTx h v (k v)) → ∃ fs : List Value, PySem.W.KatTups h vs fs ∧ fs.length = vs.length ∧ ∀ f ∈ fs, ∃ x t, f = Value.str x t
  | [], _ => ⟨[], PySem.W.KatTups.nil, rfl, fun _ m => by simp at m⟩
  | v :: vs, hp => by
    obtain ⟨fs, h1, h2, h3⟩ := heads_of (vs := vs) fun u m => hp u (List.mem_cons_of_mem _ m)
    obtain ⟨a, o, xs, n, t, r, rv, e, ho, hc, hd, hx, _⟩ := hp v (List.mem_cons_self ..)
    subst e
    have h0 : xs[0]? = some (.str (k (.ref a)) t) := by
      rw [← Array.getElem?_toList, hx]
      rfl
    refine ⟨_ :: fs, PySem.W.KatTups.cons ho hc hd h0 h1, by rw [List.length_cons, List.length_cons, h2], fun f m => ?_⟩
    rcases List.mem_cons.mp m with rfl | m
    · exact ⟨_, t, rfl⟩
    · exact h3 f m
def ltK (k : Value → Str) (v u : Value) : Bool := decide ((k v).cps.toList < (k u).cps.toList)
theorem swo_txt (k : Value → Str) : SrtO.Swo (ltK k) := by
  refine ⟨fun x y h => ?_, fun x y z h1 h2 => ?_⟩
  · have a := of_decide_eq_true h
    exact decide_eq_false (List.lt_asymm a)
  · have a : ¬ (k y).cps.toList < (k x).cps.toList := of_decide_eq_false h1
    have b : ¬ (k z).cps.toList < (k y).cps.toList := of_decide_eq_false h2
    have a' : (k x).cps.toList ≤ (k y).cps.toList := a
    have b' : (k y).cps.toList ≤ (k z).cps.toList := b
    have c : (k x).cps.toList ≤ (k z).cps.toList := List.le_trans a' b'
    exact decide_eq_false c
theorem same_rest {b fin : Bool} {Q : Bool → Shared → Prop} : ∀ {r : List Value} {rv : List V} (i : Nat), Vals rv r → rv.all flatV = true → Q fin s → PySem.W.KatLex prog w A b fin Q (r.zip r) i s
  | [], _, i, .nil, _, q => PySem.W.kat_nil q
  | u :: r, y :: rv, i, .cons ru rr, f, q => by
    rw [List.all_cons, Bool.and_eq_true] at f
    have e : eqV y y = true := by
      cases y with
      | non => rfl
      | bl b => exact beq_self_eq_true b
      | int i => exact beq_self_eq_true i
      | str z => exact beq_self_eq_true z
      | _ => exact absurd (show false = true from f.1) Bool.false_ne_true
    refine PySem.W.kat_cons (eqAt_V ru ru f.1 f.1 prog w _ _ ?_)
    rw [e]
    exact PySem.W.kat_yes (same_rest (i + 1) rr f.2 q)
theorem txt_cmp {vs : List Value} {k : Value → Str} (hp : ∀ v ∈ vs, HdTx s.heap v (k v)) (inj : ∀ v ∈ vs, ∀ u ∈ vs, k v = k u → v = u) : SrtO.Cmp prog w A s (tuples' true) (fun p => p.1 ∈ vs) (SrtO.lt2 (ltK k)) := by
  intro p q hm hm'
  have h1 := hp _ hm
  have h2 := hp _ hm'
  have hi := inj _ hm _ hm'
  show wpAny (model prog w) A (keyLt' (tuples' true) p.1 q.1) (fun r s' => s' = s ∧ r = ltK k p.1 q.1) (fun _ _ => False) s
  unfold ltK
  generalize p.1 = v at h1 hi ⊢
  generalize q.1 = u at h2 hi ⊢
  generalize ek : k v = x at h1 hi ⊢
  generalize ek' : k u = y at h2 hi ⊢
  by_cases exy : x = y
  · have evu : v = u := hi exy
    subst evu
    obtain ⟨a, o, xs, n, t, r, rv, e, ho, hc, hd, hx, rr, fl⟩ := h1
    subst e
    subst exy
    refine PySem.W.kat_lt ho hd ho hd ?_
    rw [hx]
    show PySem.W.KatLex prog w A true _ _ ((Value.str x t, Value.str x t) :: r.zip r) 0 s
    refine PySem.W.kat_cons (eqAt_V (y := .str x) (x := .str x) ⟨t, rfl⟩ ⟨t, rfl⟩ rfl rfl prog w _ _ ?_)
    have e0 : eqV (.str x) (.str x) = true := beq_self_eq_true x
    rw [e0]
    refine PySem.W.kat_yes (same_rest 1 rr fl ⟨rfl, ?_⟩)
    rw [decide_eq_false (Nat.lt_irrefl _), decide_eq_false (List.lt_irrefl _)]
  · obtain ⟨a, o, xs, n, t, r, rv, e, ho, hc, hd, hx, rr, fl⟩ := h1
    obtain ⟨a', o', xs', n', t', r', rv', e', ho', hc', hd', hx', rr', fl'⟩ := h2
    subst e
    subst e'
    refine PySem.W.kat_lt ho hd ho' hd' ?_
    rw [hx, hx']
    show PySem.W.KatLex prog w A true _ _ ((Value.str x t, Value.str y t') :: r.zip r') 0 s
    refine PySem.W.kat_cons (eqAt_V (y := .str x) (x := .str y) ⟨t, rfl⟩ ⟨t', rfl⟩ rfl rfl prog w _ _ ?_)
    have e0 : eqV (.str x) (.str y) = false := beq_eq_false_iff_ne.mpr exy
    rw [e0]
    exact PySem.W.kat_no (oneLt_str ⟨rfl, rfl⟩)
theorem txt_sortable {a : Addr} {vs : List Value} {k : Value → Str} (h0 : 0 < vs.length) (hp : ∀ v ∈ vs, HdTx s.heap v (k v)) (inj : ∀ v ∈ vs, ∀ u ∈ vs, k v = k u → v = u) (ha : ∀ o, s.heap.get? a = some o → o.cls ≠ .type "tuple") : SrtO.SortableO prog w A s a vs (ltK k) := by
  intro h' keep
  have hp' : ∀ v ∈ vs, HdTx h' v (k v) := fun v m => (hp v m).keeps fun b o e c => keep b o (fun z => by subst z; exact ha o e c) e
  obtain ⟨fs, h1, h2, h3⟩ := heads_of hp'
  refine ⟨tuples' true, fun Q E hq => ?_, txt_cmp hp' inj⟩
  refine PySem.W.kat_kind (T := .type "str") h1 (by omega) (fun f m => ?_) (by rfl) ?_
  · obtain ⟨x, t, rfl⟩ := h3 f m
    exact PySem.W.Looks.now
  · have e : (Value.type "str" != Value.type "tuple") = true := by decide +kernel
    rw [e]
    exact hq
end
section
variable {X : Cx}
/-- sorted(ts), ts tuples that begin with texts that differ: a new list of the same -/
def rSortedM (K : PySem.W.Frag) : List V → Hp → VK → Prop := fun vs H Q => ∃ (a : Addr) (ts : List V) (key : V → Str), vs = [V.ref a] ∧ SqL K H a ts ∧ (ts.map key).Nodup ∧
  (∀ v ∈ ts, ∃ t r, v = .ref t ∧ r.all flatV = true ∧ H t = some (.tup (.str (key v) :: r))) ∧ ∀ (ys : List V) (p : Addr), ys.Perm ts → H p = none → Q (.ref p) (upd H p (.lst ys))
theorem key_inj {α β : Type} {f : α → β} : ∀ {l : List α}, (l.map f).Nodup → ∀ x ∈ l, ∀ y ∈ l, f x = f y → x = y
  | [], _, x, hx, _, _, _ => by simp at hx
  | a :: l, h, x, hx, y, hy, e => by
    have h' : (f a :: l.map f).Nodup := h
    obtain ⟨h1, h2⟩ := List.nodup_cons.mp h'
    rcases List.mem_cons.mp hx with ex | hx'
    · rcases List.mem_cons.mp hy with ey | hy'
      · rw [ex, ey]
      · exact absurd (by rw [← ex, e]; exact List.mem_map_of_mem hy') h1
    · rcases List.mem_cons.mp hy with ey | hy'
      · exact absurd (by rw [← ey, ← e]; exact List.mem_map_of_mem hx') h1
      · exact key_inj h2 x hx' y hy' e
theorem cr_sortedM : CallR X (.builtin "sorted") (rSortedM X.K) := by
  intro pins s σ H vs us Q I r h
  obtain ⟨a, ts, key, rfl, hs, nd, hx, q⟩ := h
  obtain ⟨its, rv, hl, hz⟩ := I.list hs
  obtain ⟨u, rfl, ru⟩ := vals1 r
  obtain rfl : u = Value.ref a := ru
  obtain ⟨e1, e2⟩ := refs_back rv fun x m => by
    obtain ⟨t, _, e, _⟩ := hx x m
    exact ⟨t, e⟩
  have hd : ∀ v ∈ its, HdTx s.heap v (key (backV v)) := fun v hv => by
    obtain ⟨t, rfl⟩ := e2 v hv
    have hm : V.ref t ∈ ts := by rw [e1]; exact List.mem_map.mpr ⟨_, hv, rfl⟩
    obtain ⟨t', rr, e, fl, ht⟩ := hx _ hm
    cases e
    obtain ⟨_, its2, r2, o, ho, hc, n, hdd⟩ := I.hok _ _ ht
    cases r2 with
    | cons rs rr2 =>
      obtain ⟨tk, rfl⟩ := rs
      exact ⟨t, o, _, n, tk, _, rr, rfl, ho, hc, hdd, rfl, rr2, fl⟩
  have inj : ∀ v ∈ its, ∀ u ∈ its, key (backV v) = key (backV u) → v = u := fun v hv u hu e => by
    obtain ⟨t, rfl⟩ := e2 v hv
    obtain ⟨t', rfl⟩ := e2 u hu
    have m1 : V.ref t ∈ ts := by rw [e1]; exact List.mem_map.mpr ⟨_, hv, rfl⟩
    have m2 : V.ref t' ∈ ts := by rw [e1]; exact List.mem_map.mpr ⟨_, hu, rfl⟩
    have z : V.ref t = V.ref t' := key_inj nd _ m1 _ m2 e
    cases z
    rfl
  refine SrtO.sorted_ord (swo_txt fun u => key (backV u)) hl.isList (by rw [← rv.length]; exact hz) (fun h2 h1 a' ha kk => ?_) fun out hs1 hb => ?_
  · refine txt_sortable (s := { s with heap := h1 }) (by omega) (fun v hm => (hd v hm).keeps fun b o e _ => (kk b o e).2) inj fun o e => ?_
    have e' : some o = some (seqObj "list" its.toArray 0) := e.symm.trans ha
    cases e'
    intro c
    exact absurd (Value.type.inj c) (by decide)
  · have h3 : ∀ u ∈ out, ∃ a, u = Value.ref a := fun u hu => e2 u (hb.perm.mem_iff.mp hu)
    have pm : (out.map backV).Perm ts := by
      rw [e1]
      exact hb.perm.map backV
    obtain ⟨n, hn⟩ := sortedAll_at s.heap its out.toArray
    have kp : ∀ b o, s.heap.get? b = some o → (sortedAll s.heap its out.toArray).get? b = some o := fun b o e => sortedAll_old e
    refine ⟨.ref _, upd H (s.heap.objs.size + 1) (.lst (out.map backV)), I.laid (t' := s.toks) kp (Nat.le_succ _) ⟨?_, out, n, vals_back h3, hn⟩, rfl, q _ _ pm (I.hok.fresh (Nat.le_succ _))⟩
    rw [pm.length_eq]
    exact hz
end
section
variable {X : Cx}
theorem m2get {o e f : Expr} {apos cpos : Pos} (h1 : attributeBase o "get" X.env (eval o X.env) = eval o X.env := by rfl) (h2 : ((backTo cpos (starEach [e, f] X.env)).all (fun x => !x.1) && (backToKw cpos (keywordEach [] X.env)).all (fun x => x.1.isSome)
    && decide (([e, f] : List Expr).length + ([] : List Keyword).length + (if ([] : List Keyword).isEmpty then 0 else 1) < 30)) = true := by rfl) (h3 : (apos.endLine == cpos.line) = true := by rfl)
    (h4 : backTo cpos (starEach [e, f] X.env) = [(false, eval e X.env), (false, eval f X.env)] := by rfl) : M2 X o "get" apos e f cpos := ⟨h1, h2, h3, h4⟩
theorem m2sd {o e f : Expr} {apos cpos : Pos} (h1 : attributeBase o "setdefault" X.env (eval o X.env) = eval o X.env := by rfl) (h2 : ((backTo cpos (starEach [e, f] X.env)).all (fun x => !x.1) && (backToKw cpos (keywordEach [] X.env)).all (fun x => x.1.isSome)
    && decide (([e, f] : List Expr).length + ([] : List Keyword).length + (if ([] : List Keyword).isEmpty then 0 else 1) < 30)) = true := by rfl) (h3 : (apos.endLine == cpos.line) = true := by rfl)
    (h4 : backTo cpos (starEach [e, f] X.env) = [(false, eval e X.env), (false, eval f X.env)] := by rfl) : M2 X o "setdefault" apos e f cpos := ⟨h1, h2, h3, h4⟩
end
end Ms

set_option maxHeartbeats 4000000
/-! Sets of texts: made from a list, their length, sorted (after the layer's sets of ints, turned to texts). -/
namespace Ms
open PySem PySem.Spec PyProof.Rows L2
def keyS (e : Int × Value) : Str := match e.2 with | .str x _ => x | _ => Str.empty
def GoodS (w : World) (e : Int × Value) : Prop := ∃ x tk, e.2 = Value.str x tk ∧ e.1 = hashStr w x
/-- the set of texts at a: S its members, n their number -/
def SetS (w : World) (h : Heap) (a : Addr) (S : Str → Bool) (n : Nat) : Prop :=
  ∃ o es ep t, h.get? a = some o ∧ o.ExactSet ∧ o.data = .set es ep t ∧ (∀ e ∈ es.toList, GoodS w e) ∧ (es.toList.map keyS).Nodup ∧ (∀ k, S k = true ↔ k ∈ es.toList.map keyS) ∧
    es.size < scanBound ∧ t.fits es.size = true ∧ es.size = n ∧ Ris t.place.toList ∧ (w.params.followText "set-order" = true ∨ t.led = true)
section
variable {P : Program} {w : World} {h h' : Heap} {a : Addr} {S : Str → Bool} {n : Nat}
theorem SetS.at (R : SetS w h a S n) (k : ∀ o, h.get? a = some o → h'.get? a = some o) : SetS w h' a S n := by
  obtain ⟨o, es, ep, t, ho, r⟩ := R
  exact ⟨o, es, ep, t, k o ho, r⟩
theorem SetS.like {S' : Str → Bool} {n' : Nat} (R : SetS w h a S n) (e : ∀ k, S' k = S k) (en : n' = n) : SetS w h a S' n' := by
  have q : S' = S := funext e
  rw [q, en]
  exact R
theorem goodS_elems {l : List (Int × Value)} (g : ∀ e ∈ l, GoodS w e) : ElemsOf (PySem.strKind P w) l := fun e he => by
  obtain ⟨k, tk, h1, h2⟩ := g e he
  exact ⟨⟨k, by rw [h1]; exact strKind_is P w k tk, h2⟩, by rw [h1] <;> rfl⟩
theorem goodS_is {e : Int × Value} (g : GoodS w e) (k : Str) : (PySem.strKind P w).is k e.2 = true ↔ keyS e = k := by
  obtain ⟨k0, tk, h1, _⟩ := g
  unfold keyS
  rw [h1]
  constructor
  · intro q
    obtain ⟨t, e⟩ := Value.isStrOf_shape (x := k) (v := .str k0 tk) q
    cases e
    rfl
  · intro q
    have q : k0 = k := q
    rw [q]
    exact strKind_is P w k tk
theorem goodS_mem {l : List (Int × Value)} (g : ∀ e ∈ l, GoodS w e) (k : Str) : k ∈ l.map keyS ↔ ∃ e ∈ l, (PySem.strKind P w).is k e.2 = true := by
  rw [List.mem_map]
  exact ⟨fun ⟨e, he, q⟩ => ⟨e, he, (goodS_is (g e he) k).2 q⟩, fun ⟨e, he, q⟩ => ⟨e, he, (goodS_is (g e he) k).1 q⟩⟩
end
section
variable {P : Program} {w : World} {A : Around} {E : Value → Shared → Prop} {s : Shared} {a : Addr} {S : Str → Bool} {n : Nat}
theorem setS_tail {g : Bool → Sem Unit} (hg : ∀ (b : Bool) (s₁ : Shared) (Q' : Unit → Shared → Prop), Q' () s₁ → wpAny (model P w) A (g b) Q' E s₁)
    {o : Obj} {es : Array (Int × Value)} {ep : Nat} {t : SetTable} (ho : s.heap.get? a = some o) (hex : o.ExactSet) (hd : o.data = .set es ep t)
    {es1 : Array (Int × Value)} {t2 : SetTable} {S' : Str → Bool} (g1 : ∀ e ∈ es1.toList, GoodS w e) (nd1 : (es1.toList.map keyS).Nodup) (m1 : ∀ k, S' k = true ↔ k ∈ es1.toList.map keyS)
    (hb1 : es1.size < scanBound) (hf2 : t2.fits es1.size = true) (hr : Ris t2.place.toList) (hl : w.params.followText "set-order" = true ∨ t2.led = true) {wasDummy : Bool} {R : Option Bool → Shared → Prop}
    (hR : ∀ h', Heap.SameBut a s.heap h' → SetS w h' a S' es1.size → R (some true) { s with heap := h' }) :
    wpAny (model P w) A (do
        storeSet a es1 t2
        if (!wasDummy && t2.tooFull) = true then do
            g (relayAll t2 es1 (SetTable.grown es1.size)).2.2
            storeSet a (relayAll t2 es1 (SetTable.grown es1.size)).1 (relayAll t2 es1 (SetTable.grown es1.size)).2.1
            pure (some true)
          else pure (some true)) R E s := by
  refine wpAny_bind (wpAny_storeSet_of ho hd ?_ (fits_of_scanBound hb1))
  have ho1 := store_at (es' := es1) (t' := t2) ho hd
  have sb1 := Heap.SameBut.update s.heap a (Obj.putSet es1 t2)
  split
  · have pm := relayAll_perm t2 es1 (SetTable.grown es1.size)
    have hf3 := relayAll_fits t2 es1 (SetTable.grown es1.size)
    have hr3 := relayAll_ris t2 es1 (SetTable.grown es1.size)
    have hl3 := relayAll_led t2 es1 (SetTable.grown es1.size)
    generalize relayAll t2 es1 (SetTable.grown es1.size) = Z at pm hf3 hr3 hl3 ⊢
    obtain ⟨es2, t3, gave⟩ := Z
    dsimp only at pm hf3 hr3 hl3 ⊢
    have hsz : es2.size = es1.size := by rw [← Array.length_toList, pm.length_eq, Array.length_toList]
    have hb2 : es2.size < scanBound := by rw [hsz]; exact hb1
    refine wpAny_bind (hg _ _ _ (wpAny_bind (wpAny_storeSet_of ho1 rfl ?_ (fits_of_scanBound hb2))))
    have ho2 := store_at (es' := es2) (t' := t3) ho1 rfl
    refine wpAny_pure (hR _ (sb1.trans (Heap.SameBut.update _ a _)) ⟨_, es2, _, t3, ho2, hex, rfl, ?_, (pm.map keyS).nodup_iff.mpr nd1, ?_, hb2, hf3, hsz, hr3, ?_⟩)
    · exact fun e he => g1 e (pm.mem_iff.mp he)
    · exact fun k => (m1 k).trans (pm.map keyS).mem_iff.symm
    · exact hl.imp id fun z => by rw [hl3]; exact z
  · exact wpAny_pure (hR _ sb1 ⟨_, es1, _, t2, ho1, hex, rfl, g1, nd1, m1, hb1, hf2, rfl, hr, hl⟩)
theorem setS_add {k : Str} {tk : Tok} {Q : Bool → Shared → Prop} (R : SetS w s.heap a S n) (room : n + 1 < scanBound)
    (hQ : ∀ h' b, Heap.SameBut a s.heap h' → SetS w h' a (fun j => S j || decide (j = k)) (if S k = true then n else n + 1) → Q b { s with heap := h' }) :
    wpAny (model P w) A (setAddHashed a (.str k tk) ((PySem.strKind P w).hash k)) Q E s := by
  obtain ⟨o, es, ep, t, ho, hex, hd, g, nd, hm, hb, hf, hn, hr, hl⟩ := R
  have hkey : (PySem.strKind P w).is k (.str k tk) = true := strKind_is P w k tk
  have hsc : (Value.str k tk).scannable = true := rfl
  have hel : ElemsOf (PySem.strKind P w) es.toList := goodS_elems g
  unfold setAddHashed setAddHashedIn
  refine wpAny_holding (wpAny_bind (wpAny_setState_of ho hd hf ?_))
  dsimp only
  rw [byScan_of hsc hb hel]
  simp only [↓reduceIte]
  unfold setAddByScan
  refine wpAny_bind (wpAny_bind (wpAny_rule (wpAny_bind (wpAny_setScan_of hkey ho hd hf hel ?_))))
  cases hfi : List.findIdx? (fun e => (PySem.strKind P w).is k e.2) es.toList with
  | some j =>
    dsimp only
    obtain ⟨hj, pj, _⟩ := List.findIdx?_eq_some_iff_getElem.mp hfi
    have hSk : S k = true := (hm k).2 ((goodS_mem (P := P) (w := w) g k).2 ⟨es.toList[j], List.getElem_mem hj, pj⟩)
    refine wpAny_pure (wpAny_pure (hQ s.heap false (Heap.SameBut.refl a s.heap) ⟨o, es, ep, t, ho, hex, hd, g, nd, fun i => ?_, hb, hf, by rw [if_pos hSk]; exact hn, hr, hl⟩))
    rw [Bool.or_eq_true, decide_eq_true_eq, ← hm i]
    exact ⟨fun z => z.elim id (fun e => e ▸ hSk), .inl⟩
  | none =>
    dsimp only
    have hnk : k ∉ es.toList.map keyS := fun z => by
      obtain ⟨e, he, q⟩ := (goodS_mem (P := P) (w := w) g k).1 z
      have c := List.findIdx?_eq_none_iff.mp hfi e he
      rw [q] at c
      cases c
    have hSk : S k = false := by
      cases q : S k with
      | false => rfl
      | true => exact absurd ((hm k).1 q) hnk
    have hgw : ∀ (b : Bool) {s₁ : Shared} {Q' : Unit → Shared → Prop}, Q' () s₁ → wpAny (model P w) A (match b with | true => rule "set.scan.the-table-gave-way" | false => pure ()) Q' E s₁ :=
      fun b s₁ Q' q => by cases b <;> first | exact wpAny_pure q | exact wpAny_rule q
    have pm := layNew_perm t es ((PySem.strKind P w).hash k) (.str k tk)
    have hf1 := layNew_fits t es ((PySem.strKind P w).hash k) (.str k tk)
    have hr1 := layNew_ris t es ((PySem.strKind P w).hash k) (.str k tk) hr
    have hl1 := layNew_led t es ((PySem.strKind P w).hash k) (.str k tk)
    generalize layNew t es ((PySem.strKind P w).hash k) (.str k tk) = Z at pm hf1 hr1 hl1 ⊢
    obtain ⟨es1, t1, wasDummy, gave⟩ := Z
    dsimp only at pm hf1 hr1 hl1 ⊢
    rw [Array.toList_push] at pm
    have pc : es1.toList.Perm (((PySem.strKind P w).hash k, Value.str k tk) :: es.toList) := pm.trans (List.perm_append_singleton _ _)
    have pk : (es1.toList.map keyS).Perm (k :: es.toList.map keyS) := pc.map keyS
    have g1 : ∀ e ∈ es1.toList, GoodS w e := fun e he => by
      rcases List.mem_cons.mp (pc.mem_iff.mp he) with z | z
      · rw [z]; exact ⟨k, tk, rfl, rfl⟩
      · exact g e z
    have nd1 : (es1.toList.map keyS).Nodup := pk.nodup_iff.mpr (List.nodup_cons.mpr ⟨hnk, nd⟩)
    have m1 : ∀ i, (S i || decide (i = k)) = true ↔ i ∈ es1.toList.map keyS := fun i => by
      rw [Bool.or_eq_true, decide_eq_true_eq, hm i, pk.mem_iff, List.mem_cons]
      exact Or.comm
    have hsz : es1.size = n + 1 := by rw [← Array.length_toList, pc.length_eq, List.length_cons, Array.length_toList, hn]
    have hb1 : es1.size < scanBound := by rw [hsz]; exact room
    have hled : w.params.followText "set-order" = true ∨ t1.led = true := hl.imp id fun z => by rw [hl1]; exact z
    have fin : ∀ h' b, Heap.SameBut a s.heap h' → SetS w h' a (fun j => S j || decide (j = k)) es1.size → Q b { s with heap := h' } := fun h' b sb r =>
      hQ h' b sb (r.like (fun _ => rfl) (by rw [hSk, hsz]; rfl))
    refine wpAny_bind (hgw _ ?_)
    split
    · refine wpAny_bind ?_
      rw [hashByValue_scannable 8 hsc]
      refine wpAny_pure (setS_tail ?_ ho hex hd g1 nd1 m1 hb1 ?_ ?_ ?_ ?_)
      · intro b s₁ Q' q; cases b <;> first | exact wpAny_pure q | exact wpAny_rule q
      · first | (split <;> first | exact hf1 | exact SetTable.fits_plain_off hf1) | exact hf1
      · first | (split <;> exact hr1) | exact hr1
      · first | (split <;> exact hled) | exact hled
      · intro h' sb r; dsimp only; exact wpAny_pure (fin h' _ sb r)
    · refine wpAny_bind (wpAny_pure ?_)
      simp only [↓reduceIte]
      refine setS_tail ?_ ho hex hd g1 nd1 m1 hb1 hf1 hr1 hled ?_
      · intro b s₁ Q' q; cases b <;> first | exact wpAny_pure q | exact wpAny_rule q
      · intro h' sb r; dsimp only; exact wpAny_pure (fin h' _ sb r)
theorem setS_fresh {h : Heap} {a : Addr} (w : World) (ho : h.get? a = some { cls := .type "set", dict := none, data := .set #[] 0 (.fresh 0 0 (!w.params.followText "set-order")) }) : SetS w h a (fun _ => false) 0 :=
  ⟨_, #[], 0, _, ho, ⟨rfl, rfl, rfl⟩, rfl, (fun e he => by simp at he), (by simp), (fun k => by simp), (by decide), (by rfl), rfl, List.Pairwise.nil, by
    show _ ∨ (!w.params.followText "set-order") = true
    cases w.params.followText "set-order"
    · exact .inr rfl
    · exact .inl rfl⟩
/-- what the set has of the first i texts: all of them, nothing else; as many as there are where they differ -/
structure GotS (xs : List Str) (i : Nat) (S : Str → Bool) (n : Nat) : Prop where
  mem : ∀ k, S k = true ↔ k ∈ xs.take i
  le : n ≤ i
  eq : xs.Nodup → n = i
theorem GotS.step {xs : List Str} {i n : Nat} {S : Str → Bool} {x : Str} (g : GotS xs i S n) (h : xs[i]? = some x) : GotS xs (i + 1) (fun j => S j || decide (j = x)) (if S x = true then n else n + 1) := by
  have e : xs.take (i + 1) = xs.take i ++ [x] := by rw [List.take_add_one, h]; rfl
  refine ⟨fun k => ?_, ?_, fun nd => ?_⟩
  · rw [e, Bool.or_eq_true, decide_eq_true_eq, g.mem k, List.mem_append, List.mem_singleton]
  · have := g.le
    split <;> omega
  · have no : S x = false := by
      cases q : S x with
      | false => rfl
      | true =>
        have m := (g.mem x).1 q
        have nd2 : (xs.take i ++ [x]).Nodup := by rw [← e]; exact List.Sublist.nodup (List.take_sublist _ _) nd
        exact absurd rfl ((List.nodup_append.mp nd2).2.2 x m x (by simp))
    rw [no, g.eq nd]
    rfl
theorem setS_update {I : Addr} {fp wr : List Addr} {G : Array GenState → Array GenState → Prop} {n : Nat} {Pv : Nat → Value → Prop} {St : Nat → Shared → Prop} {R : Result → Shared → Prop}
    (W : WalksS P w A.in1 I fp wr G n Pv St) (D : Addr) (hSf : D ∉ fp) (xs : List Str) (hn : n = xs.length) (hfew : xs.length ≤ 200) (hval : ∀ i v, Pv i v → ∃ x t, xs[i]? = some x ∧ v = .str x t) :
    ∀ (k i : Nat) (s : Shared), n - i = k → i ≤ n → St i s → (∃ S m, SetS w s.heap D S m ∧ GotS xs i S m) →
      (∀ s' S m, Moved (D :: wr) G s s' → SetS w s'.heap D S m → GotS xs n S m → R (.ok (.ret .none)) s') →
      codeAny (model P w) A (.builtin "set.update.loop" ⟨[.ref D, .ref I], []⟩) R s := by
  have hSw : D ∉ wr := fun h => hSf (W.sub _ h)
  have hsub : ∀ b ∈ wr, b ∈ D :: wr := fun b hb => List.mem_cons_of_mem _ hb
  intro k
  induction k with
  | zero =>
    intro i s hk' hi hst ⟨S, m, hS, g⟩ hR
    have hin : i = n := by omega
    subst hin
    refine codeAny_builtin PyProof.Rows.F.entry_set_update_loop ?_
    rw [Around.under_plainId PyProof.Rows.F.plain_set_update_loop _]
    show wpAny _ A.in1 (pyNext (.ref I) >>= _) _ _ s
    refine wpAny_bind (W.done s _ _ hst fun s' hm => ?_)
    show wpAny _ A.in1 (ret Value.none) _ _ s'
    exact wpAny_pure (hR s' S m (hm.mono hsub) (hS.at fun o e => hm.heap D o hSw e) g)
  | succ k ih =>
    intro i s hk' hi hst ⟨S, m, hS, g⟩ hR
    have hlt : i < n := by omega
    refine codeAny_builtin PyProof.Rows.F.entry_set_update_loop ?_
    rw [Around.under_plainId PyProof.Rows.F.plain_set_update_loop _]
    show wpAny _ A.in1 (pyNext (.ref I) >>= _) _ _ s
    refine wpAny_bind (W.item i s _ _ hlt hst fun v s' hP hst' hm => ?_)
    obtain ⟨x, tk, hx, rfl⟩ := hval i v hP
    have hS' : SetS w s'.heap D S m := hS.at fun o e => hm.heap D o hSw e
    show wpAny _ A.in1 (holding [Value.str x tk] (setAdd D (.str x tk)) >>= _) _ _ s'
    refine wpAny_bind (wpAny_holding ?_)
    unfold setAdd
    refine wpAny_holding ?_
    refine wpAny_bind ((PySem.strKind P w).pyHash (k := x) (strKind_is _ _ _ _) ?_)
    refine setS_add (s := { s' with toks := s'.toks + 1 }) hS' (by have := g.le; unfold scanBound; omega) fun h' b hsb hS2 => ?_
    refine wpAny_pure ⟨plainId_quiet PyProof.Rows.F.plain_set_update_loop _, ih (i + 1) _ (by omega) hlt (W.frame _ s' _ _ hst' (Nat.le_succ _) fun b hb o e => ?_) ⟨_, _, hS2, g.step hx⟩ fun s'' S2 m2 hm'' hS'' g'' => ?_⟩
    · rw [hsb.2 b (fun h : b = D => hSf (by rw [← h]; exact hb))]; exact e
    · refine hR s'' S2 m2 (Moved.trans W.gtrans ((hm.mono hsub).then_heap (Nat.le_succ _) fun b o hb e => ?_) hm'') hS'' g''
      rw [hsb.2 b (fun h : b = D => hb (by rw [h]; exact List.mem_cons_self))]; exact e
set_option maxHeartbeats 8000000 in
theorem call_set_txt {l : Addr} {items : Array Value} (xs : List Str) {Q : Value → Shared → Prop} (hh : A.handled = none) (hl : s.heap.IsList l items) (hit : StrsAre items.toList xs) (hfew : xs.length ≤ 200)
    (h : ∀ (h' : Heap) (tk : Nat) S m, SetS w h' s.heap.objs.size S m → GotS xs xs.length S m → (∀ b o, s.heap.get? b = some o → h'.get? b = some o) → Q (.ref s.heap.objs.size) { s with heap := h', toks := tk }) :
    wpAny (model P w) A (call (.type "set") [.ref l]) Q E s := by
  have hisz : items.size = xs.length := by rw [← StrsAre.len_eq hit, Array.length_toList]
  obtain ⟨c, tl, hmro⟩ := PySem.F.called_set.mro
  have hmade := PySem.F.called_set.made
  have hsub := PySem.F.called_set.sub
  refine wpAny_call (codeAny_of_tree ?_)
  show wpAny _ _ (callAny (.type "set") _) _ _ _
  refine wpAny_pure ⟨Code.quiet_builtin _ (by decide +kernel), codeAny_builtin PySem.F.entry_type_call ?_⟩
  rw [Around.under_plain (weight_type_call_type "set" [.ref l] []) rfl]
  have h1 := PySem.F.called_set.notType
  have h2 := PySem.F.called_set.canCreate
  have hct := PySem.F.typeCall_set_1 (.ref l)
  repeat (any_goals (first | assumption | wp_step))
  refine codeAny_mono (code_set_led1 (.ref l) (E := E) (Q₁ := fun obj s₁ => obj = .ref s.heap.objs.size ∧ s₁ = { s with heap := s.heap.push { cls := .type "set", dict := none, data := .set #[] 0 (.fresh 0 0 (!w.params.followText "set-order")) } }) ⟨rfl, rfl⟩) fun r s₁ hr => ?_
  cases r with
  | error e => exact hr
  | ok fl =>
    cases fl with
    | ret obj =>
      obtain ⟨rfl, rfl⟩ := hr
      have hS : (s.heap.push { cls := .type "set", dict := none, data := .set #[] 0 (.fresh 0 0 (!w.params.followText "set-order")) }).get? s.heap.objs.size = some { cls := .type "set", dict := none, data := .set #[] 0 (.fresh 0 0 (!w.params.followText "set-order")) } := Heap.get?_push_size _ rfl
      have hT : Shared.TypeIs { s with heap := s.heap.push { cls := .type "set", dict := none, data := .set #[] 0 (.fresh 0 0 (!w.params.followText "set-order")) } } (.ref s.heap.objs.size) "set" := ⟨_, hS, rfl⟩
      have hli := PySem.F.called_set.init.lookup
      have hbi := PySem.F.called_set.init.bind (.ref s.heap.objs.size)
      repeat (any_goals (first | assumption | wp_step))
      refine codeAny_mono (codeAny_call_builtin (R := wants (fun r s₂ => r = .none ∧ ∃ h' tk S m, s₂ = { s with heap := h', toks := tk } ∧ SetS w h' s.heap.objs.size S m ∧ GotS xs xs.length S m ∧
          (∀ b o, s.heap.get? b = some o → h'.get? b = some o)) E) PySem.F.called_set.init.plain PySem.F.entry_set_init (check_set_init_1 hT ?_)) fun r₂ s₂ hr₂ => ?_
      · obtain ⟨ol, hol, hcl, nl, hdl⟩ := hl
        obtain ⟨ocls, odict, odata, oslots⟩ := ol
        simp only at hcl hdl
        subst hcl; subst hdl
        have hol' : (s.heap.push { cls := .type "set", dict := none, data := .set #[] 0 (.fresh 0 0 (!w.params.followText "set-order")) }).get? l = some { cls := .type "list", dict := odict, data := .seq items nl, slots := oslots } := Heap.get?_push_of_some _ hol
        have hsls := PySem.F.sub_list_set
        have hslf := PySem.F.sub_list_frozenset
        have hne : (Value.type "list" == Value.type "dict") = false := by decide
        have hl1 : (s.heap.push { cls := .type "set", dict := none, data := .set #[] 0 (.fresh 0 0 (!w.params.followText "set-order")) }).IsList l items := ⟨_, hol', rfl, nl, rfl⟩
        unfold Builtin.«set.__init__» noKeywords Builtin.Frozenset.updateFrom
        generalize hPI : pyIter = PI
        wp_walk
        subst hPI
        refine wpAny_pyIter_list hl1 ?_
        refine wpAny_bind (wpAny_runValue ?_)
        have hlS : l < s.heap.objs.size := Heap.lt_size hol
        have hh3 : A.in1.in1.in1.handled = none := by simp [hh]
        have hneI : l ≠ (s.heap.push { cls := .type "set", dict := none, data := .set #[] 0 (.fresh 0 0 (!w.params.followText "set-order")) }).objs.size := by
          rw [Heap.size_push]; exact Nat.ne_of_lt (Nat.lt_succ_of_lt hlS)
        have hSf : s.heap.objs.size ∉ [(s.heap.push { cls := .type "set", dict := none, data := .set #[] 0 (.fresh 0 0 (!w.params.followText "set-order")) }).objs.size, l] := by
          rw [Heap.size_push]; simp only [List.mem_cons, List.mem_singleton, List.not_mem_nil, or_false, not_or]
          exact ⟨Nat.ne_of_lt (Nat.lt_succ_self _), Nat.ne_of_gt hlS⟩
        have hval : ∀ (i : Nat) (v : Value), items[i]? = some v → ∃ x t, xs[i]? = some x ∧ v = .str x t := fun i v hv => by
          have q : items.toList[i]? = some v := by rw [Array.getElem?_toList]; exact hv
          obtain ⟨t, e⟩ := SS.strs_at hit i v q
          have hi : i < xs.length := by
            rw [← hisz]
            exact (Array.getElem?_eq_some_iff.mp hv).1
          refine ⟨xs[i], t, List.getElem?_eq_getElem hi, ?_⟩
          rw [e, List.getD_eq_getElem?_getD, List.getElem?_eq_getElem hi]
          rfl
        refine setS_update ((Walks.list hh3 _ l hneI items).toS) s.heap.objs.size
          hSf xs hisz hfew hval (items.size - 0) 0 _ (by omega) (Nat.zero_le _)
          ⟨⟨_, Heap.get?_push_size _ rfl, rfl, rfl⟩, (hl1.push _)⟩ ?hS0 ?hR
        case hS0 =>
          have hget : ((s.heap.push { cls := .type "set", dict := none, data := .set #[] 0 (.fresh 0 0 (!w.params.followText "set-order")) }).push { cls := .type "list_iterator", data := .fields #[.ref l, .int 0 0] }).get? s.heap.objs.size
              = some { cls := .type "set", dict := none, data := .set #[] 0 (.fresh 0 0 (!w.params.followText "set-order")) } := Heap.get?_push_of_some _ hS
          exact ⟨_, 0, setS_fresh w hget, ⟨fun k => by simp, Nat.le_refl _, fun _ => rfl⟩⟩
        case hR =>
          intro s' S m hm hS' g'
          obtain ⟨h', g2, d', tk', os'⟩ := s'
          have eg : g2 = s.gens := hm.gens
          have ed : d' = s.drawn := hm.drawn
          have eo : os' = s.os := hm.os
          subst eg; subst ed; subst eo
          show wpAny _ _ _ _ _ _
          refine wpAny_pure ?_
          show wpAny _ _ (ret Value.none) _ _ _
          rw [hisz] at g'
          refine wpAny_pure ⟨rfl, h', tk', S, m, rfl, hS', g', fun b o e => ?_⟩
          have hb : b < s.heap.objs.size := Heap.lt_size e
          have hb1 : b ≠ s.heap.objs.size := Nat.ne_of_lt hb
          have hb2 : b ≠ (s.heap.push { cls := .type "set", dict := none, data := .set #[] 0 (.fresh 0 0 (!w.params.followText "set-order")) }).objs.size := by
            rw [Heap.size_push]; exact Nat.ne_of_lt (Nat.lt_succ_of_lt hb)
          exact hm.heap b o (by simp only [List.mem_cons, List.mem_singleton, List.not_mem_nil, or_false, not_or]; exact ⟨hb1, hb2⟩) (Heap.get?_push_of_some _ (Heap.get?_push_of_some _ e))
      · cases r₂ with
        | error e => exact hr₂
        | ok fl₂ =>
          cases fl₂ with
          | ret r =>
            obtain ⟨rfl, h', tk, S, m, rfl, hS', g', hk'⟩ := hr₂
            repeat (any_goals (first | assumption | wp_step))
            exact h _ _ _ _ hS' g' hk'
          | _ => exact hr₂.elim
    | _ => exact hr.elim
/-! ### sorted of a set of texts -/
theorem strs_back : ∀ (l : List Value), (∀ v ∈ l, ∃ x t, v = Value.str x t) → ∃ ss, StrsAre l ss ∧ ∀ x ∈ ss, ∃ t, Value.str x t ∈ l
  | [], _ => ⟨[], .nil, fun x m => by simp at m⟩
  | v :: l, h => by
    obtain ⟨x, t, rfl⟩ := h v List.mem_cons_self
    obtain ⟨ss, r, q⟩ := strs_back l fun u hu => h u (List.mem_cons_of_mem _ hu)
    refine ⟨x :: ss, .cons x t r, fun y m => ?_⟩
    rcases List.mem_cons.mp m with rfl | m
    · exact ⟨t, List.mem_cons_self⟩
    · obtain ⟨t', z⟩ := q y m
      exact ⟨t', List.mem_cons_of_mem _ z⟩
def txtU (v : Value) : Str := match v with | .str x _ => x | _ => Str.empty
def ltU (v u : Value) : Bool := decide ((txtU v).cps.toList < (txtU u).cps.toList)
theorem swoU : SrtO.Swo ltU := by
  refine ⟨fun x y h => decide_eq_false (List.lt_asymm (of_decide_eq_true h)), fun x y z h1 h2 => ?_⟩
  have a : (txtU x).cps.toList ≤ (txtU y).cps.toList := of_decide_eq_false h1
  have b : (txtU y).cps.toList ≤ (txtU z).cps.toList := of_decide_eq_false h2
  have c : (txtU x).cps.toList ≤ (txtU z).cps.toList := List.le_trans a b
  exact decide_eq_false c
theorem txts_sortable {a : Addr} {vs : List Value} (h2 : 2 ≤ vs.length) (hp : ∀ v ∈ vs, ∃ x t, v = Value.str x t) : SrtO.SortableO P w A s a vs ltU := by
  intro h' keep
  refine ⟨oneType', fun Q E hq => ?_, fun p q hm hm' => ?_⟩
  · obtain ⟨ss, r, _⟩ := strs_back vs hp
    match vs, h2, r with
    | v1 :: v2 :: rest, _, r =>
      rw [keyKind_strs r]
      exact wpAny_pure hq
  · obtain ⟨x, t, e⟩ := hp _ hm
    obtain ⟨y, u, e'⟩ := hp _ hm'
    show wpAny (model P w) A (keyLt' oneType' p.1 q.1) (fun r s' => s' = _ ∧ r = ltU p.1 q.1) (fun _ _ => False) _
    rw [keyLt'_oneType, e, e']
    exact oneLt_str ⟨rfl, rfl⟩
theorem sorted_txtset {S : Str → Bool} {n : Nat} {Q : Value → Shared → Prop} (R : SetS w s.heap a S n) (hh : A.handled = none)
    (hQ : ∀ s' p (out : Array Value) (c : Nat) (ys : List Str), (∀ b o, s.heap.get? b = some o → s'.heap.get? b = some o) → s'.gens = s.gens → s'.os = s.os → s.heap.objs.size ≤ p →
      s'.heap.get? p = some (seqObj "list" out c) → StrsAre out.toList ys → (∀ x ∈ ys, S x = true) → ys.length = n → Q (.ref p) s') :
    wpAny (model P w) A (call (.builtin "sorted") [.ref a]) Q E s := by
  obtain ⟨o, es, ep, t, ho, hex, hd, g, nd, hm, hb, hf, hn, hr, hl⟩ := R
  refine Calls.call_function_entry kind_sorted plain_sorted entry_sorted (args_sorted1 _) ?_
  unfold Builtin.«sorted»
  refine wpAny_bind (m := checkCount "sorted" 1 1 _) (wpAny_pure ?_)
  refine wpAny_bind (collect_set (A := A.in1) hh ⟨o, ho, hex.1, hd⟩ hf hb hr hl fun s1 vs k1 hz g1 o1 pm => ?_)
  have hvl : vs.length = n := by rw [pm.length_eq, List.length_map, Array.length_toList]; exact hn
  have hvs : vs.length ≤ sizeLine := by rw [pm.length_eq, List.length_map, Array.length_toList]; exact fits_of_scanBound hb
  have hS : ∀ v ∈ vs, ∃ x t, v = Value.str x t ∧ S x = true := fun v hv => by
    obtain ⟨e, he, q⟩ := List.mem_map.mp (pm.mem_iff.mp hv)
    obtain ⟨k, tk, h1, _⟩ := g e he
    refine ⟨k, tk, by rw [← q]; exact h1, (hm k).2 (List.mem_map.mpr ⟨e, he, ?_⟩)⟩
    unfold keyS
    rw [h1]
  refine wpAny_bind (wpAny_newList ?_ hvs)
  have hoL : (s1.heap.push (seqObj "list" vs.toArray 0)).get? s1.heap.objs.size = some (seqObj "list" vs.toArray 0) := Heap.get?_push_size _ rfl
  refine wpAny_bind (wpAny_holding (wpAny_call_entry slot_list_sort ⟨_, hoL, rfl⟩ entry_list_sort (SrtO.list_sort_ord swoU hoL hvs (fun h2 => txts_sortable h2 fun v hv => by
    obtain ⟨x, t, e, _⟩ := hS v hv
    exact ⟨x, t, e⟩) fun out _ hb => ⟨_, rfl, ?_⟩) (args_list_sort _)))
  obtain ⟨c, hc⟩ := sortedHeap_at (vs := vs) (out := out.toArray) hoL
  have pm2 : out.Perm vs := hb.perm
  obtain ⟨ys, r, hy⟩ := strs_back out fun v hv => by
    obtain ⟨x, t, e, _⟩ := hS v (pm2.mem_iff.mp hv)
    exact ⟨x, t, e⟩
  refine wpAny_pure ⟨_, rfl, hQ _ s1.heap.objs.size out.toArray c ys (fun b u e => ?_) g1 o1 hz hc (by simpa using r) (fun x m => ?_) ?_⟩
  · have q := k1 b u e
    have hlt := Heap.lt_size q
    show (sortedHeap (s1.heap.push (seqObj "list" vs.toArray 0)) s1.heap.objs.size vs out.toArray).get? b = some u
    rw [sortedHeap_old (Nat.ne_of_lt hlt) (by rw [size_push']; exact Nat.lt_succ_of_lt hlt)]
    exact Heap.get?_push_of_some _ q
  · obtain ⟨t', z⟩ := hy x m
    obtain ⟨x', t2, e, q⟩ := hS _ (pm2.mem_iff.mp z)
    cases e
    exact q
  · rw [← StrsAre.len_eq r, pm2.length_eq]
    exact hvl
end
/-! ### as rules of the layer -/
/-- the set of texts at a, tracked -/
def SetXO (w : World) (a : Addr) (S : Str → Bool) (n : Nat) : HO := .ext fun h => SetS w h a S n
section
variable {X : Cx}
theorem setX_new {w : World} {P : Program} {H : Hp} {h : Heap} {a : Addr} {S : Str → Bool} {n : Nat} (R : SetS w h a S n) : ObjOk P w H h a (SetXO w a S n) := by
  have ⟨o, _, _, _, ho, _⟩ := R
  exact ⟨R, ⟨o, ho⟩, fun h1 h2 p k => SetS.at p k⟩
/-- set(xs), xs a list of texts -/
def rSetX (K : PySem.W.Frag) (w : World) : List V → Hp → VK → Prop := fun vs H Q => ∃ (l : Addr) (xs : List Str), vs = [V.ref l] ∧ SqL K H l (xs.map V.str) ∧ xs.length ≤ 200 ∧
  ∀ a S n, H a = none → GotS xs xs.length S n → Q (.ref a) (upd H a (SetXO w a S n))
theorem cr_setX (hc : X.calm = true) : CallR X (.type "set") (rSetX X.K X.w) := by
  intro pins s σ H xs us Q I r h
  obtain ⟨l, ys, rfl, hq, hz, q⟩ := h
  obtain ⟨u, rfl, ru⟩ := vals1 r
  obtain rfl : u = Value.ref l := ru
  obtain ⟨its, rv, pl, hz2⟩ := I.list hq
  refine call_set_txt ys (I.ok.hd hc) pl.isList (by simpa using strsAre_of rv) hz fun h' tk S m hS g hk => ?_
  have hn : H s.heap.objs.size = none := I.hok.fresh (Nat.le_refl _)
  exact ⟨.ref s.heap.objs.size, upd H s.heap.objs.size (SetXO X.w s.heap.objs.size S m), I.laid (t' := tk) hk (Nat.le_refl _) (setX_new hS), rfl, q _ _ _ hn g⟩
/-- sorted(set of texts) -/
def rSortedX (w : World) : List V → Hp → VK → Prop := fun vs H Q => ∃ (a : Addr) (S : Str → Bool) (n : Nat), vs = [V.ref a] ∧ H a = some (SetXO w a S n) ∧ n ≤ 200 ∧
  ∀ (ys : List Str) (p : Addr), (∀ y ∈ ys, S y = true) → ys.length = n → H p = none → Q (.ref p) (upd H p (.lst (ys.map V.str)))
theorem cr_sortedX (hc : X.calm = true) : CallR X (.builtin "sorted") (rSortedX X.w) := by
  intro pins s σ H vs us Q I r h
  obtain ⟨a, S, n, rfl, ha, hn, q⟩ := h
  have R : SetS X.w s.heap a S n := (I.hok a _ ha).1
  rw [Vals.ref1 r]
  refine sorted_txtset R (I.ok.hd hc) fun s' p out c ys k g o hp hg hi hs hl => ?_
  have hlen : (ys.map V.str).length ≤ sizeLine := by rw [List.length_map, hl, sizeLine_eq]; omega
  have hnp : H p = none := I.hok.fresh hp
  have vals : ∀ {us : List Value} {ys : List Str}, StrsAre us ys → Vals (ys.map V.str) us := fun {us ys} z => by
    induction z with
    | nil => exact .nil
    | cons x t _ ih => exact .cons ⟨t, rfl⟩ ih
  have J : Inv X pins σ (upd H p (.lst (ys.map V.str))) { s with heap := s'.heap, gens := s'.gens, drawn := s'.drawn, toks := s'.toks } :=
    I.call (ch := []) (Un.laid k hp hnp) (I.hok.laid k hp ⟨hlen, out.toList, c, vals hi, hg⟩) (by rw [g]; exact I.bare) (fun _ z => nomatch z)
  have e : s' = { s with heap := s'.heap, gens := s'.gens, drawn := s'.drawn, toks := s'.toks } := by
    cases s'
    cases s
    cases o
    rfl
  rw [e]
  exact ⟨.ref p, _, J, rfl, q ys p hs hl hnp⟩
/-- len(set(xs)), the texts differ -/
def tLenSetT (K : PySem.W.Frag) (ta : TE) : TE := fun σ H Q => ta σ H fun x H1 => ∃ (l : Addr) (xs : List Str), x = .ref l ∧ SqL K H1 l (xs.map V.str) ∧ xs.Nodup ∧ xs.length ≤ 200 ∧ Q (.int (xs.length : Nat)) H1
theorem pe_lenSetT {a : Expr} {ta : TE} {p p2 q pos : Pos} (hg : Gl X "len") (hm : X.mg "len" = none) (hg2 : Gl X "set") (hm2 : X.mg "set" = none) (ha : PE X a ta) (hc : X.calm = true := by rfl)
    (na : starEach [a] X.env = (false, eval a X.env) :: starEach [] X.env := by rfl) : PE X (.Call (.Name "len" p) [.Call (.Name "set" p2) [a] [] q] [] pos) (tLenSetT X.K ta) := by
  refine ⟨fun pins s σ H Q I h => ?_⟩
  refine Call_ (ld_blt I hg hm boot_len (PyProof.Rows.callWith_builtin1 (PyProof.Rows.args_cons ?_ rfl) rfl rfl))
  refine Call_ (ld_blt I hg2 hm2 boot_set (PyProof.Rows.callWith_type1 (PyProof.Rows.args_cons (thn (ha.run pins s σ H _ I h) fun v s1 ⟨x, H1, I1, r1, q1⟩ => PyProof.Rows.args_nil ?_) na) na rfl))
  obtain ⟨l, xs, rfl, hq, hnd, hl, q1⟩ := q1
  cases r1
  obtain ⟨its, r, pl, hz⟩ := I1.list hq
  refine call_set_txt xs (I1.ok.hd hc) pl.isList (by simpa using strsAre_of r) hl fun h' tk S m hS g hk => ?_
  refine PyProof.Rows.args_nil ?_
  obtain ⟨o, es, ep, t, ho, hex, hd, _, _, _, hb, hf, hn, _⟩ := hS
  have em : m = xs.length := g.eq hnd
  have I2 : Inv X pins σ H1 { s1 with heap := h', toks := tk } := I1.kept fun b o e => hk b o e
  exact call_len_set ho hex hd hf (by rw [hn, em] <;> omega) ⟨.int xs.length, H1, I2.tok _, ⟨_, by rw [hn, em]⟩, q1⟩
end
end Ms

set_option maxHeartbeats 4000000
/-! Heaps, lists and dicts as they stand for plain data; comprehensions and loops by what they make. -/
namespace Ms
open PySem PySem.Spec PyProof.Rows L2
open Evl (Ex)
section
variable {X : Cx}
/-- a thing just made, told to stand still from here on -/
def tFrz (td : TE) : TE := fun σ H Q => td σ H fun x H1 => ∃ d u, x = .ref d ∧ H1 d = some u ∧ Mut (some u) ∧ ∀ od, Q x (upd H1 d (.frz od u))
theorem pe_frz {e : Expr} {td : TE} (h : PE X e td) : PE X e (tFrz td) := by
  refine ⟨fun pins s σ H Q I hw => thn (h.run pins s σ H _ I hw) fun v s1 ⟨x, H1, I1, r, d, u, ex, hd, mu, q⟩ => ?_⟩
  obtain ⟨od, I2⟩ := I1.lock hd mu
  exact ⟨x, _, I2, r, q od⟩
end
/-! ### heaps that grow -/
theorem Ex.get {H H' : Hp} {a : Addr} {o : HO} (e : Ex H H') (h : H a = some o) : H' a = some o := e a o h
theorem Ex.free {H H' : Hp} (e : Ex H H') {p : Addr} (h : H' p = none) : H p = none := Evl.fresh_back e h
theorem Ex.seq {K : PySem.W.Frag} {H H' : Hp} {a : Addr} {xs : List V} (e : Ex H H') (h : SqL K H a xs) : SqL K H' a xs := Evl.ex_l e h
theorem Ex.new' {H H' : Hp} (e : Ex H H') {p : Addr} {o : HO} (h : H' p = none) : Ex H (upd H' p o) := e.trans (Evl.Ex.new h)
/-- all but p is kept -/
def ExB (p : Addr) (H H' : Hp) : Prop := ∀ b o, b ≠ p → H b = some o → H' b = some o
theorem ExB.of {p : Addr} {H H' : Hp} (e : Ex H H') : ExB p H H' := fun b o _ h => e b o h
theorem ExB.trans {p : Addr} {H H1 H2 : Hp} (a : ExB p H H1) (b : ExB p H1 H2) : ExB p H H2 := fun x o n h => b x o n (a x o n h)
theorem ExB.ex {p : Addr} {B H H' : Hp} (e : ExB p H H') (b : Ex B H) (n : B p = none) : Ex B H' := fun x o h => e x o (ne_of_none h n) (b x o h)
theorem ExB.upd {p : Addr} {H : Hp} {o : HO} : ExB p H (upd H p o) := fun b u n h => by rw [upd_ne n]; exact h
/-- H without what stands at p -/
def wo (H : Hp) (p : Addr) : Hp := fun b => if b = p then none else H b
theorem wo_none {H : Hp} {p : Addr} : wo H p p = none := by unfold wo; rw [if_pos rfl]
theorem wo_ne {H : Hp} {p b : Addr} (n : b ≠ p) : wo H p b = H b := by unfold wo; rw [if_neg n]
theorem wo_ex {H : Hp} {p : Addr} : Ex (wo H p) H := fun b o h => by
  unfold wo at h
  split at h
  · cases h
  · exact h
theorem ExB.wo {p : Addr} {H H' : Hp} (e : ExB p H H') : Ex (wo H p) H' := e.ex wo_ex wo_none

/-! ### a list of values that stands for a list of data -/
def LsR {α : Type} (R : V → α → Hp → Prop) (H : Hp) (vs : List V) (xs : List α) : Prop := vs.length = xs.length ∧ ∀ (i : Nat) (v : V), vs[i]? = some v → ∃ x, xs[i]? = some x ∧ R v x H
def Stb {α : Type} (R : V → α → Hp → Prop) : Prop := ∀ v x H H', Ex H H' → R v x H → R v x H'
section
variable {α β : Type} {R : V → α → Hp → Prop} {H H' : Hp} {vs : List V} {xs : List α}
theorem LsR.mono (hR : Stb R) (e : Ex H H') (h : LsR R H vs xs) : LsR R H' vs xs := ⟨h.1, fun i v hv => by
  obtain ⟨x, hx, r⟩ := h.2 i v hv
  exact ⟨x, hx, hR _ _ _ _ e r⟩⟩
theorem LsR.nil : LsR R H [] [] := ⟨rfl, fun i v h => by simp at h⟩
theorem LsR.snoc {v : V} {x : α} (h : LsR R H vs xs) (r : R v x H) : LsR R H (vs ++ [v]) (xs ++ [x]) := by
  refine ⟨by rw [List.length_append, List.length_append, h.1]; rfl, fun i u hu => ?_⟩
  by_cases hi : i < vs.length
  · rw [List.getElem?_append_left hi] at hu
    obtain ⟨y, hy, q⟩ := h.2 i u hu
    exact ⟨y, by rw [List.getElem?_append_left (by rw [← h.1]; exact hi)]; exact hy, q⟩
  · rw [List.getElem?_append_right (by omega)] at hu
    have e0 : i - vs.length = 0 := by
      have := (List.getElem?_eq_some_iff.mp hu).1
      rw [List.length_singleton] at this
      omega
    rw [e0] at hu
    cases hu
    exact ⟨x, by rw [List.getElem?_append_right (by rw [← h.1]; omega), ← h.1, e0]; rfl, r⟩
theorem LsR.cons {v : V} {x : α} (r : R v x H) (h : LsR R H vs xs) : LsR R H (v :: vs) (x :: xs) := by
  refine ⟨by rw [List.length_cons, List.length_cons, h.1], fun i u hu => ?_⟩
  cases i with
  | zero => cases hu; exact ⟨x, rfl, r⟩
  | succ i => exact h.2 i u hu
theorem LsR.tail {v : V} (h : LsR R H (v :: vs) xs) : ∃ x r, xs = x :: r ∧ R v x H ∧ LsR R H vs r := by
  cases xs with
  | nil => exact absurd h.1 (by simp)
  | cons x r =>
    obtain ⟨y, hy, q⟩ := h.2 0 v rfl
    cases hy
    exact ⟨x, r, rfl, q, by have := h.1; simpa using this, fun i u hu => h.2 (i + 1) u hu⟩
theorem LsR.app {vs' : List V} {xs' : List α} (h : LsR R H vs xs) (h' : LsR R H vs' xs') : LsR R H (vs ++ vs') (xs ++ xs') := by
  induction vs' generalizing vs xs xs' with
  | nil =>
    have : xs' = [] := List.eq_nil_of_length_eq_zero (by rw [← h'.1]; rfl)
    subst this
    rw [List.append_nil, List.append_nil]
    exact h
  | cons v r ih =>
    obtain ⟨x, r', rfl, q, h2⟩ := h'.tail
    have := ih (h.snoc q) h2
    rw [List.append_assoc, List.append_assoc] at this
    exact this
theorem LsR.at {i : Nat} {x : α} (h : LsR R H vs xs) (hx : xs[i]? = some x) : ∃ v, vs[i]? = some v ∧ R v x H := by
  have hi : i < vs.length := by rw [h.1]; exact (List.getElem?_eq_some_iff.mp hx).1
  obtain ⟨y, hy, r⟩ := h.2 i vs[i] (List.getElem?_eq_getElem hi)
  rw [hx] at hy
  cases hy
  exact ⟨vs[i], List.getElem?_eq_getElem hi, r⟩
/-- permuted values stand for permuted data -/
theorem LsR.perm {ys : List V} (p : ys.Perm vs) : ∀ {xs : List α}, LsR R H vs xs → ∃ zs, zs.Perm xs ∧ LsR R H ys zs := by
  induction p with
  | nil => exact fun {xs} h => ⟨xs, .refl _, h⟩
  | cons v p ih =>
    intro xs h
    obtain ⟨x, r, rfl, q, h2⟩ := h.tail
    obtain ⟨zs, p1, h3⟩ := ih h2
    exact ⟨x :: zs, p1.cons x, h3.cons q⟩
  | swap a b l =>
    intro xs h
    obtain ⟨x, r, rfl, q, h2⟩ := h.tail
    obtain ⟨y, r2, rfl, q2, h3⟩ := h2.tail
    exact ⟨y :: x :: r2, .swap .., (h3.cons q).cons q2⟩
  | trans p1 p2 i1 i2 =>
    intro xs h
    obtain ⟨z1, a1, b1⟩ := i2 h
    obtain ⟨z2, a2, b2⟩ := i1 b1
    exact ⟨z2, a2.trans a1, b2⟩
end
/-- texts, ints, truth values: the values themselves -/
theorem ls_str {H : Hp} {vs : List V} {xs : List Str} (h : LsR (fun v x _ => v = V.str x) H vs xs) : vs = xs.map V.str := by
  apply List.ext_getElem?
  intro i
  rw [List.getElem?_map]
  cases e : vs[i]? with
  | none =>
    have : vs.length ≤ i := List.getElem?_eq_none_iff.mp e
    rw [List.getElem?_eq_none_iff.mpr (by rw [← h.1]; exact this)]
    rfl
  | some v =>
    obtain ⟨x, hx, r⟩ := h.2 i v e
    rw [hx, r]
    rfl
theorem ls_int {H : Hp} {vs : List V} {xs : List Int} (h : LsR (fun v x _ => v = V.int x) H vs xs) : vs = xs.map V.int := by
  apply List.ext_getElem?
  intro i
  rw [List.getElem?_map]
  cases e : vs[i]? with
  | none =>
    have : vs.length ≤ i := List.getElem?_eq_none_iff.mp e
    rw [List.getElem?_eq_none_iff.mpr (by rw [← h.1]; exact this)]
    rfl
  | some v =>
    obtain ⟨x, hx, r⟩ := h.2 i v e
    rw [hx, r]
    rfl
theorem ls_bl {H : Hp} {vs : List V} {xs : List Bool} (h : LsR (fun v x _ => v = V.bl x) H vs xs) : vs = xs.map V.bl := by
  apply List.ext_getElem?
  intro i
  rw [List.getElem?_map]
  cases e : vs[i]? with
  | none =>
    have : vs.length ≤ i := List.getElem?_eq_none_iff.mp e
    rw [List.getElem?_eq_none_iff.mpr (by rw [← h.1]; exact this)]
    rfl
  | some v =>
    obtain ⟨x, hx, r⟩ := h.2 i v e
    rw [hx, r]
    rfl
theorem str_ls (H : Hp) (xs : List Str) : LsR (fun v x _ => v = V.str x) H (xs.map V.str) xs := ⟨List.length_map _, fun i v h => by
  rw [List.getElem?_map] at h
  cases e : xs[i]? with
  | none => rw [e] at h; cases h
  | some x => rw [e] at h; cases h; exact ⟨x, rfl, rfl⟩⟩
theorem int_ls (H : Hp) (xs : List Int) : LsR (fun v x _ => v = V.int x) H (xs.map V.int) xs := ⟨List.length_map _, fun i v h => by
  rw [List.getElem?_map] at h
  cases e : xs[i]? with
  | none => rw [e] at h; cases h
  | some x => rw [e] at h; cases h; exact ⟨x, rfl, rfl⟩⟩
theorem stb_str : Stb (fun v (x : Str) _ => v = V.str x) := fun _ _ _ _ _ h => h
theorem stb_int : Stb (fun v (x : Int) _ => v = V.int x) := fun _ _ _ _ _ h => h
theorem stb_bl : Stb (fun v (x : Bool) _ => v = V.bl x) := fun _ _ _ _ _ h => h
/-- tuples by an encoding -/
def TpR {α : Type} (enc : α → List V) : V → α → Hp → Prop := fun v x H => ∃ t, v = .ref t ∧ H t = some (.tup (enc x))
theorem stb_tp {α : Type} {enc : α → List V} : Stb (TpR enc) := fun _ _ _ _ e ⟨t, h1, h2⟩ => ⟨t, h1, e _ _ h2⟩
/-- what a relation says stays where only the list at D changes -/
def StbD {α : Type} (D : Addr) (R : V → α → Hp → Prop) : Prop := ∀ v x H H', (∃ l, H D = some (.lst l)) → ExB D H H' → R v x H → R v x H'
theorem std_str {D : Addr} : StbD D (fun v (x : Str) _ => v = V.str x) := fun _ _ _ _ _ _ h => h
theorem std_int {D : Addr} : StbD D (fun v (x : Int) _ => v = V.int x) := fun _ _ _ _ _ _ h => h
theorem std_bl {D : Addr} : StbD D (fun v (x : Bool) _ => v = V.bl x) := fun _ _ _ _ _ _ h => h
theorem std_tp {α : Type} {enc : α → List V} {D : Addr} : StbD D (TpR enc) := fun _ _ _ _ ⟨_, hl⟩ e ⟨t, h1, h2⟩ => ⟨t, h1, e _ _ (ne_of h2 hl (by intro z; cases z)) h2⟩
theorem LsR.monoD {α : Type} {R : V → α → Hp → Prop} {D : Addr} {H H' : Hp} {vs : List V} {xs : List α} (hR : StbD D R) (hl : ∃ l, H D = some (.lst l)) (e : ExB D H H') (h : LsR R H vs xs) : LsR R H' vs xs := ⟨h.1, fun i v hv => by
  obtain ⟨x, hx, r⟩ := h.2 i v hv
  exact ⟨x, hx, hR _ _ _ _ hl e r⟩⟩
/-! ### dicts by their keys in order -/
def DR (ks : List Str) (v : Str → V) : List (Key × V) := ks.map fun n => (Sum.inr n, v n)
theorem dr_keys (ks : List Str) (v : Str → V) : (DR ks v).map (·.1) = ks.map Sum.inr := by
  unfold DR
  rw [List.map_map]
  rfl
theorem dr_len (ks : List Str) (v : Str → V) : (DR ks v).length = ks.length := List.length_map _
theorem dr_in {n : Str} {v : Str → V} : ∀ {ks : List Str}, n ∈ ks → valV (DR ks v) (Sum.inr n : Key) = some (v n)
  | [], h => by simp at h
  | k :: r, h => by
    unfold valV DR
    rw [List.map_cons, List.find?_cons]
    by_cases e : k = n
    · subst e
      rw [decide_eq_true rfl]
      rfl
    · have e2 : ¬ (Sum.inr k : Key) = Sum.inr n := fun q => e (Sum.inr.inj q)
      rw [decide_eq_false e2]
      have hr : n ∈ r := by
        rcases List.mem_cons.mp h with q | q
        · exact absurd q.symm e
        · exact q
      exact dr_in hr
theorem dr_out {n : Str} {v : Str → V} : ∀ {ks : List Str}, n ∉ ks → valV (DR ks v) (Sum.inr n : Key) = none
  | [], _ => rfl
  | k :: r, h => by
    unfold valV DR
    rw [List.map_cons, List.find?_cons]
    have e : ¬ k = n := fun q => h (by rw [q]; exact List.mem_cons_self)
    have e2 : ¬ (Sum.inr k : Key) = Sum.inr n := fun q => e (Sum.inr.inj q)
    rw [decide_eq_false e2]
    exact dr_out fun q => h (List.mem_cons_of_mem _ q)
theorem dr_congr {ks : List Str} {v u : Str → V} (h : ∀ n ∈ ks, v n = u n) : DR ks v = DR ks u := List.map_congr_left fun n hn => by rw [h n hn]
theorem dr_old {ks : List Str} {v : Str → V} {n : Str} {x : V} (h : n ∈ ks) : putK (DR ks v) (Sum.inr n : Key) x = DR ks (fun m => if m = n then x else v m) := by
  unfold putK
  have e : (DR ks v).any (fun kv => decide (kv.1 = (Sum.inr n : Key))) = true := List.any_eq_true.mpr ⟨(Sum.inr n, v n), List.mem_map.mpr ⟨n, h, rfl⟩, decide_eq_true rfl⟩
  rw [if_pos e]
  unfold DR
  rw [List.map_map]
  refine List.map_congr_left fun m _ => ?_
  show (if (Sum.inr m : Key) = Sum.inr n then ((Sum.inr m : Key), x) else ((Sum.inr m : Key), v m)) = (Sum.inr m, if m = n then x else v m)
  by_cases e : m = n
  · subst e
    rw [if_pos rfl, if_pos rfl]
  · rw [if_neg e, if_neg fun q => e (Sum.inr.inj q)]
theorem dr_new {ks : List Str} {v : Str → V} {n : Str} {x : V} (h : n ∉ ks) : putK (DR ks v) (Sum.inr n : Key) x = DR (ks ++ [n]) (fun m => if m = n then x else v m) := by
  unfold putK
  have e : (DR ks v).any (fun kv => decide (kv.1 = (Sum.inr n : Key))) = false := List.any_eq_false.mpr fun p hp q => by
    obtain ⟨m, hm, rfl⟩ := List.mem_map.mp hp
    exact h ((Sum.inr.inj (of_decide_eq_true q) : m = n) ▸ hm)
  rw [e, if_neg Bool.false_ne_true]
  unfold DR
  rw [List.map_append]
  have e3 : ([n].map fun m => ((Sum.inr m : Key), if m = n then x else v m)) = [((Sum.inr n : Key), x)] := by simp
  rw [e3]
  congr 1
  refine List.map_congr_left fun m hm => ?_
  have : m ≠ n := fun q => h (q ▸ hm)
  show ((Sum.inr m : Key), v m) = (Sum.inr m, if m = n then x else v m)
  rw [if_neg this]
theorem dr_get {H : Hp} {a : Addr} {ks : List Str} {v : Str → V} {n : Str} (h : Rd H a (.dK (DR ks v))) (hn : n ∈ ks) : DGet H a (.str n) (some (v n)) := .inl ⟨_, Sum.inr n, h, rfl, (dr_in hn).symm⟩
theorem dr_no {H : Hp} {a : Addr} {ks : List Str} {v : Str → V} {n : Str} (h : Rd H a (.dK (DR ks v))) (hn : n ∉ ks) : DGet H a (.str n) none := .inl ⟨_, Sum.inr n, h, rfl, (dr_out hn).symm⟩
theorem dr_has {H : Hp} {a : Addr} {ks : List Str} {v : Str → V} {n : Str} (h : Rd H a (.dK (DR ks v))) : ∃ o, DGet H a (.str n) o ∧ o.isSome = decide (n ∈ ks) := by
  by_cases e : n ∈ ks
  · exact ⟨_, dr_get h e, by rw [decide_eq_true e]; rfl⟩
  · exact ⟨_, dr_no h e, by rw [decide_eq_false e]; rfl⟩
theorem dr_put {H : Hp} {a : Addr} {ks : List Str} {v : Str → V} {n : Str} {x : V} (h : H a = some (.dK (DR ks v))) (hn : n ∈ ks) (hz : ks.length ≤ 100000) : DPut H a (.str n) x (upd H a (.dK (DR ks (fun m => if m = n then x else v m)))) := by
  refine .inl ⟨_, Sum.inr n, h, rfl, ?_, by rw [dr_old hn]⟩
  rw [dr_len]
  exact Nat.lt_of_le_of_lt hz (by decide)
theorem dr_add {H : Hp} {a : Addr} {ks : List Str} {v : Str → V} {n : Str} {x : V} (h : H a = some (.dK (DR ks v))) (hn : n ∉ ks) (hz : ks.length ≤ 100000) : DPut H a (.str n) x (upd H a (.dK (DR (ks ++ [n]) (fun m => if m = n then x else v m)))) := by
  refine .inl ⟨_, Sum.inr n, h, rfl, ?_, by rw [dr_new hn]⟩
  rw [dr_len]
  exact Nat.lt_of_le_of_lt hz (by decide)
/-! ### comprehensions -/
/-- what is walked gives n things, one behind the other, standing for ds -/
structure Gv {α : Type} (J : It) (H1 : Hp) (Ra : V → α → Hp → Prop) (ds : List α) : Prop where
  go : ∀ i H, Ex H1 H → i < ds.length → J.go i H
  stop : ∀ H, Ex H1 H → J.stop ds.length H
  yld : ∀ i H x H', Ex H1 H → i < ds.length → J.yld i H x H' → H' = H ∧ ∃ d, ds[i]? = some d ∧ Ra x d H1
theorem lc_J {α β : Type} {J : It} (Ra : V → α → Hp → Prop) (Rb : Addr → V → β → Hp → Prop) (mb : ∀ D, StbD D (Rb D)) (f : α → Option β) {ds : List α} {g : TG} {tt : TT} {te : TE} {vs : List Nat} {σ : L2.St} {H1 : Hp} {Q : Addr → Hp → Prop}
    (G : Gv J H1 Ra ds) (small : ds.length ≤ 100000)
    (turn : ∀ D x d H' (T : Hp → Prop) (Y : V → Hp → Prop), H1 D = none → (∃ l, H' D = some (.lst l)) → Ra x d H1 → d ∈ ds → Ex H1 H' → (f d = none → ∀ H3, Ex H' H3 → T H3) → (∀ b, f d = some b → ∀ y H4, Ex H' H4 → Rb D y b H4 → Y y H4) →
      g x (wipe σ vs) H' fun σ2 H2 => wipe σ2 vs = wipe σ vs ∧ tt σ2 H2 fun b H3 => if b = true then te σ2 H3 Y else T H3)
    (fin : ∀ D ys H', H1 D = none → Ex H1 H' → H' D = some (.lst ys) → LsR (Rb D) H' ys (ds.filterMap f) → Q D H') :
    ∀ D, H1 D = none → ∃ W : Nat → Nat → Hp → Prop, (∃ m, W 0 m (upd H1 D (.lst []))) ∧ ∀ i m H, W i m H →
      (J.stop i H ∧ Q D H) ∨ (J.go i H ∧ ∃ Nx : Hp → Prop, (∀ H', Nx H' → ∃ m', m' < m ∧ W (i + 1) m' H') ∧ ∀ x H', J.yld i H x H' → g x (wipe σ vs) H' fun σ2 H2 => wipe σ2 vs = wipe σ vs ∧ tt σ2 H2 fun b H3 =>
        if b = true then te σ2 H3 fun y H4 => ∃ acc, H4 D = some (.lst acc) ∧ acc.length < sizeLine ∧ Nx (upd H4 D (.lst (acc ++ [y]))) else Nx H3) := fun D hD => by
  refine ⟨fun i m H => m = ds.length - i ∧ i ≤ ds.length ∧ Ex H1 H ∧ ∃ ys, H D = some (.lst ys) ∧ LsR (Rb D) H ys ((ds.take i).filterMap f), ⟨ds.length, by simp, Nat.zero_le _, Evl.Ex.new hD, [], upd_same, LsR.nil⟩, ?_⟩
  rintro i m H ⟨rfl, hi, e, ys, hy, hl⟩
  by_cases hlt : i < ds.length
  · refine .inr ⟨G.go i H e hlt, fun H => Ex H1 H ∧ ∃ ys, H D = some (.lst ys) ∧ LsR (Rb D) H ys ((ds.take (i + 1)).filterMap f), fun H' p => ⟨ds.length - (i + 1), by omega, rfl, hlt, p⟩, fun x H' y => ?_⟩
    obtain ⟨rfl, d, hd, ra⟩ := G.yld i H x H' e hlt y
    have ht : ds.take (i + 1) = ds.take i ++ [d] := by rw [List.take_add_one, hd]; rfl
    have hlen : ys.length ≤ i := by
      rw [hl.1]
      refine Nat.le_trans (List.length_filterMap_le f _) ?_
      rw [List.length_take]
      exact Nat.min_le_left _ _
    refine turn D x d H' _ _ hD ⟨ys, hy⟩ ra (List.mem_of_getElem? hd) e (fun fn H3 e3 => ⟨e.trans e3, ys, e3 _ _ hy, ?_⟩) (fun b fs y H4 e4 rb => ⟨ys, e4 _ _ hy, Evl.sz_lt (by omega), Evl.Ex.mut (e.trans e4) hD, ys ++ [y], upd_same, ?_⟩)
    · rw [ht, List.filterMap_append]
      simp only [List.filterMap_cons, List.filterMap_nil, fn, List.append_nil]
      exact hl.monoD (mb D) ⟨ys, hy⟩ (ExB.of e3)
    · rw [ht, List.filterMap_append]
      simp only [List.filterMap_cons, List.filterMap_nil, fs]
      exact ((hl.monoD (mb D) ⟨ys, hy⟩ (ExB.of e4)).snoc rb).monoD (mb D) ⟨ys, e4 _ _ hy⟩ ExB.upd
  · have e0 : i = ds.length := by omega
    subst e0
    rw [List.take_length] at hl
    exact .inl ⟨G.stop H e, fin D ys H hD e hy hl⟩
/-- a list -/
theorem gv_list {K : PySem.W.Frag} {α : Type} {Ra : V → α → Hp → Prop} {a : Addr} {xs : List V} {ds : List α} {H1 : Hp} (hx : SqL K H1 a xs) (hA : LsR Ra H1 xs ds) : Gv (Itl K a) H1 Ra ds where
  go := fun i H e hi => ⟨xs, xs[i]'(by rw [hA.1]; exact hi), Ex.seq e hx, List.getElem?_eq_getElem _⟩
  stop := fun H e => ⟨xs, Ex.seq e hx, by rw [hA.1]; exact Nat.le_refl _⟩
  yld := fun i H x H' e hi y => by
    obtain ⟨rfl, q⟩ := y
    obtain ⟨d, hd, r⟩ := hA.2 i x (q xs (Ex.seq e hx))
    exact ⟨rfl, d, hd, r⟩
/-- a dict's keys, its values (locked) -/
theorem gv_keys {d : Addr} {o : Obj} {ks : List Str} {v : Str → V} {H1 : Hp} (h : H1 d = some (.frz o (.dK (DR ks v)))) : Gv (Itk d o (DR ks v)) H1 (fun x n _ => x = .str n) ks where
  go := fun i H e hi => ⟨e _ _ h, by rw [dr_len]; exact hi⟩
  stop := fun H e => ⟨e _ _ h, by rw [dr_len]; exact Nat.le_refl _⟩
  yld := fun i H x H' e hi y => by
    obtain ⟨rfl, k, u, q, r⟩ := y
    unfold DR at q
    rw [List.getElem?_map, List.getElem?_eq_getElem hi] at q
    cases q
    exact ⟨rfl, ks[i], List.getElem?_eq_getElem hi, r⟩
theorem gv_vals {d : Addr} {o : Obj} {ks : List Str} {v : Str → V} {H1 : Hp} (h : H1 d = some (.frz o (.dK (DR ks v)))) : Gv (Itd d o (DR ks v)) H1 (fun x n _ => x = v n) ks where
  go := fun i H e hi => ⟨e _ _ h, by rw [dr_len]; exact hi⟩
  stop := fun H e => ⟨e _ _ h, by rw [dr_len]; exact Nat.le_refl _⟩
  yld := fun i H x H' e hi y => by
    obtain ⟨rfl, k, q⟩ := y
    unfold DR at q
    rw [List.getElem?_map, List.getElem?_eq_getElem hi] at q
    cases q
    exact ⟨rfl, ks[i], List.getElem?_eq_getElem hi, rfl⟩
/-- a text's signs -/
theorem gv_text {x : Str} {H1 : Hp} : Gv (Its x) H1 (fun v c _ => v = .str ⟨#[c]⟩) x.cps.toList where
  go := fun i H e hi => by
    show i < x.cps.size
    simpa using hi
  stop := fun H e => by
    show x.cps.size ≤ _
    simp
  yld := fun i H v H' e hi y => by
    obtain ⟨rfl, c, q, r⟩ := y
    exact ⟨rfl, c, by rw [Array.getElem?_toList]; exact q, r⟩
/-- range -/
theorem gv_range {n : Nat} {H1 : Hp} : Gv (Itr 0 n) H1 (fun v i _ => v = .int (i : Nat)) (List.range n) where
  go := fun i H e hi => by
    show i < n
    simpa using hi
  stop := fun H e => by
    show n ≤ _
    simp
  yld := fun i H v H' e hi y => by
    obtain ⟨rfl, q⟩ := y
    have hi : i < n := by simpa using hi
    refine ⟨rfl, i, List.getElem?_range hi, ?_⟩
    rw [q, Int.zero_add]
/-- dict comprehensions whose keys differ -/
theorem dc_J {α : Type} {J : It} (Ra : V → α → Hp → Prop) (key : α → Str) (val : Str → V) {ds : List α} {g : TG} {tk tv : TE} {vs : List Nat} {σ : L2.St} {H1 : Hp} {Q : Addr → Hp → Prop}
    (G : Gv J H1 Ra ds) (small : ds.length ≤ 100000) (nd : (ds.map key).Nodup)
    (turn : ∀ x d H' (Y : V → V → Hp → Prop), Ra x d H1 → d ∈ ds → Ex H1 H' → (∀ H4, Ex H' H4 → Y (.str (key d)) (val (key d)) H4) →
      g x (wipe σ vs) H' fun σ2 H2 => wipe σ2 vs = wipe σ vs ∧ tk σ2 H2 fun y H4 => tv σ2 H4 fun z H5 => Y y z H5)
    (fin : ∀ D H', H1 D = none → Ex H1 H' → H' D = some (.dK (DR (ds.map key) val)) → Q D H') :
    ∀ D, H1 D = none → ∃ W : Nat → Nat → Hp → Prop, (∃ m, W 0 m (upd H1 D (.dK []))) ∧ ∀ i m H, W i m H →
      (J.stop i H ∧ Q D H) ∨ (J.go i H ∧ ∃ Nx : Hp → Prop, (∀ H', Nx H' → ∃ m', m' < m ∧ W (i + 1) m' H') ∧ ∀ x H', J.yld i H x H' → g x (wipe σ vs) H' fun σ2 H2 => wipe σ2 vs = wipe σ vs ∧ tYes σ2 H2 fun b H3 =>
        if b = true then tk σ2 H3 fun y H4 => tv σ2 H4 fun z H5 => ∃ kvs k, y = kV k ∧ H5 D = some (.dK kvs) ∧ kvs.length < sizeLine ∧ Nx (upd H5 D (.dK (putK kvs k z))) else Nx H3) := fun D hD => by
  refine ⟨fun i m H => m = ds.length - i ∧ i ≤ ds.length ∧ Ex H1 H ∧ H D = some (.dK (DR ((ds.take i).map key) val)), ⟨ds.length, by simp, Nat.zero_le _, Evl.Ex.new hD, upd_same⟩, ?_⟩
  rintro i m H ⟨rfl, hi, e, hy⟩
  by_cases hlt : i < ds.length
  · refine .inr ⟨G.go i H e hlt, fun H => Ex H1 H ∧ H D = some (.dK (DR ((ds.take (i + 1)).map key) val)), fun H' p => ⟨ds.length - (i + 1), by omega, rfl, hlt, p⟩, fun x H' y => ?_⟩
    obtain ⟨rfl, d, hd, ra⟩ := G.yld i H x H' e hlt y
    have ht : ds.take (i + 1) = ds.take i ++ [d] := by rw [List.take_add_one, hd]; rfl
    refine turn x d H' (fun y z H5 => ∃ kvs k, y = kV k ∧ H5 D = some (.dK kvs) ∧ kvs.length < sizeLine ∧ (Ex H1 (upd H5 D (.dK (putK kvs k z))) ∧ (upd H5 D (.dK (putK kvs k z))) D = some (.dK (DR ((ds.take (i + 1)).map key) val)))) ra (List.mem_of_getElem? hd) e fun H4 e4 => ?_
    have no : key d ∉ (ds.take i).map key := fun m => by
      have nd2 : ((ds.take (i + 1)).map key).Nodup := List.Sublist.nodup ((List.take_sublist _ _).map _) nd
      rw [ht, List.map_append] at nd2
      exact absurd rfl ((List.nodup_append.mp nd2).2.2 _ m (key d) (by simp))
    refine ⟨_, Sum.inr (key d), rfl, e4 _ _ hy, ?_, Evl.Ex.mut (e.trans e4) hD, ?_⟩
    · rw [dr_len, List.length_map, List.length_take]
      exact Evl.sz_lt (by omega)
    · rw [upd_same, dr_new no, ht, List.map_append]
      congr 2
      refine dr_congr fun n hn => ?_
      by_cases en : n = key d
      · rw [if_pos en, en]
      · rw [if_neg en]
  · have e0 : i = ds.length := by omega
    subst e0
    rw [List.take_length] at hy
    exact .inl ⟨G.stop H e, fin D H hD e hy⟩
end Ms

set_option maxHeartbeats 4000000
/-! Plants and what stands for them; small words for readings. -/
namespace Ms
open PySem PySem.Spec PyProof.Rows L2
open Evl (Ex)
open C8 (Cal Mak Met pe_c pe_mk pe_mt pe_mt0 pe_gc)
theorem itP {p A B : Prop} [Decidable p] (hp : p) (h : A) : if decide p = true then A else B := by rw [if_pos (decide_eq_true hp)]; exact h
theorem itN {p A B : Prop} [Decidable p] (hp : ¬ p) (h : B) : if decide p = true then A else B := by rw [if_neg (by rw [decide_eq_false hp]; exact Bool.false_ne_true)]; exact h
theorem itT {b : Bool} {A B : Prop} (hb : b = true) (h : A) : if b = true then A else B := by rw [if_pos hb]; exact h
theorem itF {b : Bool} {A B : Prop} (hb : b = false) (h : B) : if b = true then A else B := by rw [hb, if_neg Bool.false_ne_true]; exact h
theorem it2 {b : Bool} {A B : Prop} (h1 : b = true → A) (h2 : b = false → B) : if b = true then A else B := by
  cases b with
  | true => exact itT rfl (h1 rfl)
  | false => exact itF rfl (h2 rfl)
theorem blP {p : Prop} [Decidable p] {Q : VK} {H : Hp} (hp : p) (k : Q (.bl true) H) : Q (.bl (decide p)) H := by rw [decide_eq_true hp]; exact k
theorem blN {p : Prop} [Decidable p] {Q : VK} {H : Hp} (hp : ¬ p) (k : Q (.bl false) H) : Q (.bl (decide p)) H := by rw [decide_eq_false hp]; exact k
theorem blB {b c : Bool} {Q : VK} {H : Hp} (e : b = c) (k : Q (.bl c) H) : Q (.bl b) H := by rw [e]; exact k
theorem sz1 {n : Nat} (h : n ≤ 100000) : n ≤ sizeLine := Evl.sz_of h
/-- a name of the program -/
abbrev LETT : Str := "abcdefghijklmnopqrstuvwxyz0123456789"
def NameOk (z : Str) : Prop := 1 ≤ z.length ∧ z.length ≤ 12 ∧ ∀ c ∈ z.cps.toList, c ∈ LETT.cps.toList
/-- whatever has grown since, v comes -/
abbrev Giv (v : V) (H : Hp) (Q : VK) : Prop := ∀ H', Ex H H' → Q v H'
/-- a new list of these comes -/
abbrev GivL (xs : List V) (H : Hp) (Q : VK) : Prop := ∀ a H', H a = none → Ex H H' → H' a = some (.lst xs) → Q (.ref a) H'
/-- a stream: name, tail, head, bounds -/
structure Sm where
  n : Str
  t : Str
  h : Str
  lo : Int
  hi : Int
deriving DecidableEq
def encS (s : Sm) : List V := [.str s.n, .str s.t, .str s.h, .int s.lo, .int s.hi]
abbrev Ln := MsM.Ln Str
abbrev Arc := MsM.Arc Str
def encL (l : Ln) : List V := [.str l.n, .str l.t, .str l.h]
def encA (a : Arc) : List V := [.str a.f, .str a.t, .str a.n, .int a.s, .int a.r]
def encP (p : Str × Str) : List V := [.str p.1, .str p.2]
structure PlOk (kn : List Str) (ss : List Sm) : Prop where
  kl : 1 ≤ kn.length
  ku : kn.length ≤ 24
  kok : ∀ k ∈ kn, NameOk k
  knd : kn.Nodup
  su : ss.length ≤ 60
  sok : ∀ s ∈ ss, NameOk s.n ∧ s.t ∈ kn ∧ s.h ∈ kn ∧ 0 ≤ s.lo ∧ s.lo ≤ s.hi ∧ s.hi ≤ 1000000
  snd : (ss.map (·.n)).Nodup
theorem PlOk.perm {kn kn' : List Str} {ss ss' : List Sm} (o : PlOk kn ss) (pk : kn'.Perm kn) (ps : ss'.Perm ss) : PlOk kn' ss' where
  kl := by rw [pk.length_eq]; exact o.kl
  ku := by rw [pk.length_eq]; exact o.ku
  kok := fun k hk => o.kok k (pk.mem_iff.mp hk)
  knd := pk.nodup_iff.mpr o.knd
  su := by rw [ps.length_eq]; exact o.su
  sok := fun s hs => by
    obtain ⟨a, b, c, d⟩ := o.sok s (ps.mem_iff.mp hs)
    exact ⟨a, pk.mem_iff.mpr b, pk.mem_iff.mpr c, d⟩
  snd := (ps.map _).nodup_iff.mpr o.snd
/-- the attributes of a Plant -/
def pf (a b : Addr) : List (Str × V) := putF "_streams" (.ref b) (putF "_knots" (.ref a) [])
theorem pf_ne : ¬ (("_knots" : Str) = "_streams") := by decide +kernel
theorem pf_ne' : ¬ (("_streams" : Str) = "_knots") := by decide +kernel
theorem pf_knots (a b : Addr) : (pf a b).lookup ("_knots" : Str) = some (.ref a) := by
  unfold pf
  rw [lookup_putF, if_neg pf_ne, lookup_putF, if_pos rfl]
theorem pf_streams (a b : Addr) : (pf a b).lookup ("_streams" : Str) = some (.ref b) := by
  unfold pf
  rw [lookup_putF, if_pos rfl]
theorem pf_no {a b : Addr} {m : Str} (h1 : ¬ m = "_streams") (h2 : ¬ m = "_knots") : (pf a b).lookup m = none := by
  unfold pf
  rw [lookup_putF, if_neg h1, lookup_putF, if_neg h2]
  rfl
/-- what the class Plant has and has not -/
structure PlT (K : PySem.W.Frag) (C : Addr) : Prop where
  cl : Cls K C
  nK : NoAttr K C "_knots"
  nS : NoAttr K C "_streams"
/-- at p a plant stands: knots, streams -/
def PlR (C : Addr) (H : Hp) (p : Addr) (kn : List Str) (ss : List Sm) : Prop :=
  ∃ (dx a b : Addr) (ws : List V), H p = some (.ins C dx (pf a b)) ∧ H a = some (.lst (kn.map V.str)) ∧ H b = some (.lst ws) ∧ LsR (TpR encS) H ws ss
theorem PlR.mono {C : Addr} {H H' : Hp} {p : Addr} {kn : List Str} {ss : List Sm} (e : Ex H H') (h : PlR C H p kn ss) : PlR C H' p kn ss := by
  obtain ⟨dx, a, b, ws, h1, h2, h3, h4⟩ := h
  exact ⟨dx, a, b, ws, e _ _ h1, e _ _ h2, e _ _ h3, h4.mono stb_tp e⟩
theorem inV_str (x : Str) : ∀ xs : List Str, inV (.str x) (xs.map V.str) = decide (x ∈ xs)
  | [] => rfl
  | y :: r => by
    have ih := inV_str x r
    unfold inV at ih ⊢
    rw [List.map_cons, List.any_cons, ih]
    show ((y == x) || decide (x ∈ r)) = decide (x ∈ y :: r)
    by_cases e : y = x
    · subst e
      simp
    · have e1 : (y == x) = false := beq_eq_false_iff_ne.mpr e
      have e2 : ¬ x = y := fun q => e q.symm
      rw [e1]
      simp [e2]
theorem filterMap_some {α β : Type} (f : α → β) (l : List α) : l.filterMap (fun x => some (f x)) = l.map f := by
  induction l with
  | nil => rfl
  | cons x r ih => rw [List.filterMap_cons, ih, List.map_cons]
theorem all_true {α : Type} (f : α → Bool) (l : List α) (h : ∀ x ∈ l, f x = true) : (l.map f).all id = true := by
  rw [List.all_map]
  exact List.all_eq_true.mpr fun x hx => h x hx
end Ms

set_option maxHeartbeats 4000000
namespace Ms
open PySem PySem.Spec PyProof.Rows L2
open Evl (Ex)
open C8 (Cal Mak Met pe_c pe_mk pe_mt pe_mt0 pe_gc)
section
variable {P : Program} {w : World} {K : PySem.W.Frag} {mg : Str → Option Value} {base : Heap}
/-! ### is_name -/
abbrev sis_name : Stmt := top 11
abbrev nis_name : List Str := ["text", "sign"]
theorem scis_name : FnScope nis_name ["text"] (defScope sis_name) := ⟨rfl, rfl, rfl, by decide +kernel, rfl, by decide +kernel, by decide +kernel⟩
def spIsName : Sp := fun vs H Q _ => ∃ z, vs = [.str z] ∧ NameOk z ∧ Giv (.bl true) H Q
theorem ok_is_name (d : Dn K mg "is_name" sis_name ["text"]) (G : Glb mg) : Cal P w K mg base 1 "is_name" spIsName [] := by
  refine d.cal scis_name (fun vs H Q E h => ?_) (fun f cdv A outer s H vs Q E hr h => ?_)
  · obtain ⟨z, rfl, _⟩ := h
    rfl
  · obtain ⟨z, rfl, ⟨h1, h2, h3⟩, k⟩ := h
    refine ⟨_, (pss_one (ps_ret (pe_and (pe_chain op_le op_le pe_int (pe_callB call_len_str (by rfl) G.len (by decide +kernel) (pa_cons (pv 0) pa_nil)) pe_int) (pe_one (pe_callB (cr_all rfl) (by rfl) G.all (by decide +kernel) (pa_cons (pe_lc (own := [("sign", 1)]) rfl scis_name.nd (pi_str (pv 0)) (blkOk_by (N := nis_name) (sc := defScope sis_name) (by decide +kernel)) (fun _ _ _ _ _ => (pg_name (i := 1) scis_name.nd rfl (by first | exact .inl rfl | exact .inr rfl))) (fun _ _ _ _ _ => pts_nil) (fun _ _ _ _ _ => (pe_cmpR op_in_sign (pv 1) (pe_gc rfl G.c_LETTERS) rfl))) pa_nil)))))), ?_⟩
    refine ⟨_, rfl, _, rfl, sz1 (by omega), _, _, rfl, rfl, _, rfl, itP (by omega) ?_⟩
    refine ⟨_, _, rfl, rfl, _, rfl, itP (by omega) ?_⟩
    refine ⟨_, rfl, z, rfl, lc_J _ (fun _ v b _ => v = V.bl b) (fun _ => std_bl) (fun _ => some true) gv_text (by have e : z.cps.toList.length = z.length := Array.length_toList; omega) (fun D x c H' T Y _ _ ex hc e _ hY => ?_) (fun D ys H' hn e hy hl => ?_)⟩
    · subst ex
      exact ⟨rfl, _, rfl, _, _, rfl, rfl, hY true rfl _ _ (Evl.Ex.refl _) (congrArg V.bl (decide_eq_true (h3 c hc)))⟩
    · rw [filterMap_some] at hl
      refine ⟨D, _, rfl, .inl (.inl (by rw [hy, ls_bl hl])), ?_⟩
      rw [all_true _ _ fun _ _ => rfl]
      exact k _ e
/-! ### are_names -/
abbrev sare_names : Stmt := top 12
abbrev nare_names : List Str := ["texts", "text"]
theorem scare_names : FnScope nare_names ["texts"] (defScope sare_names) := ⟨rfl, rfl, rfl, by decide +kernel, rfl, by decide +kernel, by decide +kernel⟩
def spAreNames (K : PySem.W.Frag) : Sp := fun vs H Q _ => ∃ (a : Addr) (xs : List Str), vs = [.ref a] ∧ SqL K H a (xs.map V.str) ∧ (∀ x ∈ xs, NameOk x) ∧ xs.Nodup ∧ xs.length ≤ 60 ∧ Giv (.bl true) H Q
theorem ok_are_names (d : Dn K mg "are_names" sare_names ["texts"]) (G : Glb mg) (c_is_name : Cal P w K mg base 1 "is_name" spIsName []) : Cal P w K mg base 2 "are_names" (spAreNames K) [] := by
  refine d.cal scare_names (fun vs H Q E h => ?_) (fun f cdv A outer s H vs Q E hr h => ?_)
  · obtain ⟨a, xs, rfl, _⟩ := h
    rfl
  · obtain ⟨a, xs, rfl, ha, hok, hnd, hl, k⟩ := h
    refine ⟨_, (pss_one (ps_ret (pe_and (pe_callB (cr_all rfl) (by rfl) G.all (by decide +kernel) (pa_cons (pe_lc (own := [("text", 1)]) rfl scare_names.nd (pi_list (pv 0)) (blkOk_by (N := nare_names) (sc := defScope sare_names) (by decide +kernel)) (fun _ _ _ _ _ => (pg_name (i := 1) scare_names.nd rfl (by first | exact .inl rfl | exact .inr rfl))) (fun _ _ _ _ _ => pts_nil) (fun _ _ _ _ _ => (pe_c c_is_name hr (by decide) rfl (pa_cons (pv 1) pa_nil)))) pa_nil)) (pe_one (pe_cmpR op_eq (pe_lenSetT (by rfl) G.len (by rfl) G.set (pv 0)) (pe_callB (len_seqK K) (by rfl) G.len (by decide +kernel) (pa_cons (pv 0) pa_nil)) (nomark _)))))), ?_⟩
    refine ⟨_, rfl, a, rfl, ⟨_, ha⟩, ?_⟩
    refine lc_J (J := Itl K a) (fun v (x : Str) _ => v = V.str x) (fun _ v b _ => v = V.bl b) (fun _ => std_bl) (fun _ => some true) (gv_list ha (str_ls _ _)) (by omega) (fun D x c H' T Y _ _ ex hc e _ hY => ?_) (fun D ys H' hn e hy hl2 => ?_)
    · subst ex
      refine ⟨rfl, _, rfl, c, rfl, hok c hc, fun H4 e4 => hY true rfl _ _ e4 rfl⟩
    · rw [filterMap_some] at hl2
      refine ⟨D, _, rfl, .inl (.inl (by rw [hy, ls_bl hl2])), _, rfl, ?_⟩
      rw [all_true _ _ fun _ _ => rfl]
      refine itT rfl ?_
      refine ⟨_, rfl, a, xs, rfl, Ex.seq e ha, hnd, by omega, _, rfl, a, _, rfl, .inl (Ex.seq e ha), rfl, ?_⟩
      exact blP (by rw [List.length_map]) (k _ e)
/-! ### is_stream -/
abbrev sis_stream : Stmt := top 13
abbrev nis_stream : List Str := ["stream", "knots", "_", "tail", "head", "low", "high"]
theorem scis_stream : FnScope nis_stream ["stream", "knots"] (defScope sis_stream) := ⟨rfl, rfl, rfl, by decide +kernel, rfl, by decide +kernel, by decide +kernel⟩
def spIsStream (K : PySem.W.Frag) : Sp := fun vs H Q _ => ∃ (t a : Addr) (s : Sm) (kn : List Str), vs = [.ref t, .ref a] ∧ H t = some (.tup (encS s)) ∧ SqL K H a (kn.map V.str) ∧ s.t ∈ kn ∧ s.h ∈ kn ∧ 0 ≤ s.lo ∧ s.lo ≤ s.hi ∧ s.hi ≤ 1000000 ∧ Giv (.bl true) H Q
theorem ok_is_stream (d : Dn K mg "is_stream" sis_stream ["stream", "knots"]) (G : Glb mg) : Cal P w K mg base 1 "is_stream" (spIsStream K) [] := by
  refine d.cal scis_stream (fun vs H Q E h => ?_) (fun f cdv A outer s H vs Q E hr h => ?_)
  · obtain ⟨t, a, s, kn, rfl, _⟩ := h
    rfl
  · obtain ⟨t, a, st, kn, rfl, ht, ha, h1, h2, h3, h4, h5, k⟩ := h
    refine ⟨_, (pss_cons (ps_if (pt_cmpR op_ne (pe_callB (len_seqK K) (by rfl) G.len (by decide +kernel) (pa_cons (pv 0) pa_nil)) pe_int (nomark _)) (pss_one (ps_ret pe_bl)) pss_nil)
      (pss_cons (ps_asg (pv 0) (pg_tupK K (n := 5) rfl (pgs_cons (pg_name (i := 2) scis_stream.nd rfl (by first | exact .inl rfl | exact .inr rfl)) (pgs_cons (pg_name (i := 3) scis_stream.nd rfl (by first | exact .inl rfl | exact .inr rfl)) (pgs_cons (pg_name (i := 4) scis_stream.nd rfl (by first | exact .inl rfl | exact .inr rfl)) (pgs_cons (pg_name (i := 5) scis_stream.nd rfl (by first | exact .inl rfl | exact .inr rfl)) (pgs_cons (pg_name (i := 6) scis_stream.nd rfl (by first | exact .inl rfl | exact .inr rfl)) pgs_nil)))))))
      (pss_one (ps_ret (pe_and (pe_cmpR (in_seqK K) (pv 3) (pv 1) rfl) (pe_and (pe_cmpR (in_seqK K) (pv 4) (pv 1) rfl) (pe_one (pe_chain3 op_le op_le op_le pe_int (pv 5) (pv 6) (pe_gc rfl G.c_MOST_FLOW))))))))), ?_⟩
    refine ⟨_, rfl, t, _, rfl, .inr (SqT.of ht), rfl, _, rfl, itF rfl ?_⟩
    refine ⟨_, rfl, t, _, rfl, SqT.of ht, rfl, _, _, rfl, _, _, rfl, _, _, rfl, _, _, rfl, _, _, rfl, rfl, ?_⟩
    refine ⟨_, rfl, _, rfl, a, _, rfl, .inl ha, rfl, flat_strs _, _, rfl, itT (by rw [if_neg Bool.false_ne_true, inV_str]; exact decide_eq_true h1) ?_⟩
    refine ⟨_, rfl, _, rfl, a, _, rfl, .inl ha, rfl, flat_strs _, _, rfl, itT (by rw [if_neg Bool.false_ne_true, inV_str]; exact decide_eq_true h2) ?_⟩
    refine ⟨_, rfl, _, _, rfl, rfl, _, rfl, itP h3 ?_⟩
    refine ⟨_, rfl, _, _, rfl, rfl, _, rfl, itP h4 ?_⟩
    refine ⟨_, _, rfl, rfl, ?_⟩
    exact blP h5 (k _ (Evl.Ex.refl _))
end
end Ms

set_option maxHeartbeats 4000000
namespace Ms
open PySem PySem.Spec PyProof.Rows L2
open Evl (Ex)
open C8 (Cal Mak Met pe_c pe_mk pe_mt pe_mt0 pe_gc)
section
variable {P : Program} {w : World} {K : PySem.W.Frag} {mg : Str → Option Value} {base : Heap} {C : Addr}
/-! ### Plant -/
/-- the first text of a tuple that stands at a reference -/
def keyH (H : Hp) : V → Str
  | .ref t => (match H t with
    | some (.tup (.str x :: _)) => x
    | _ => Str.empty)
  | _ => Str.empty
theorem ls_keys {H : Hp} {ws : List V} {ss : List Sm} (h : LsR (TpR encS) H ws ss) : ws.map (keyH H) = ss.map (·.n) ∧ ∀ v ∈ ws, ∃ t r, v = .ref t ∧ r.all flatV = true ∧ H t = some (.tup (.str (keyH H v) :: r)) := by
  have one : ∀ v x, TpR encS v x H → keyH H v = x.n := fun v x ⟨t, e, ht⟩ => by
    simp only [keyH, e, ht, encS]
  refine ⟨?_, fun v hv => ?_⟩
  · apply List.ext_getElem?
    intro i
    rw [List.getElem?_map, List.getElem?_map]
    cases e : ws[i]? with
    | none => rw [List.getElem?_eq_none_iff.mpr (by rw [← h.1]; exact List.getElem?_eq_none_iff.mp e)]; rfl
    | some v =>
      obtain ⟨x, hx, r⟩ := h.2 i v e
      rw [hx]
      show some (keyH H v) = some x.n
      rw [one v x r]
  · obtain ⟨i, hi, e⟩ := List.mem_iff_getElem.mp hv
    obtain ⟨x, hx, r⟩ := h.2 i v (by rw [List.getElem?_eq_getElem hi, e])
    have k := one v x r
    obtain ⟨t, e2, ht⟩ := r
    exact ⟨t, _, e2, rfl, by rw [k]; exact ht⟩
/-- a list that is no instance is kept where only an instance changes -/
theorem seqB {K : PySem.W.Frag} {p a : Addr} {H H' : Hp} {C dx : Addr} {fs : List (Str × V)} {xs : List V} (e : ExB p H H') (hp : H p = some (.ins C dx fs)) (h : SqL K H a xs) : SqL K H' a xs := by
  rcases h with (h | ⟨o, h⟩) | h
  · exact .inl (.inl (e _ _ (ne_of h hp (by intro z; cases z)) h))
  · exact .inl (.inr ⟨o, e _ _ (ne_of h hp (by intro z; cases z)) h⟩)
  · exact .inr h
theorem fm_if {α β : Type} (p : α → Prop) [DecidablePred p] (f : α → β) (l : List α) : (l.filterMap fun x => if p x then some (f x) else none) = (l.filter fun x => decide (p x)).map f := by
  induction l with
  | nil => rfl
  | cons x r ih =>
    by_cases h : p x
    · simp [List.filterMap_cons, List.filter_cons, h, ih]
    · simp [List.filterMap_cons, List.filter_cons, h, ih]
abbrev sPlant_init : Stmt := inClass (top 14) 0
abbrev nPlant_init : List Str := ["self", "knots", "streams", "stream"]
theorem scPlant_init : FnScope nPlant_init ["self", "knots", "streams"] (defScope sPlant_init) := ⟨rfl, rfl, rfl, by decide +kernel, rfl, by decide +kernel, by decide +kernel⟩
def spPlant (K : PySem.W.Frag) (C : Addr) : Sp := fun vs H Q _ => ∃ (p dx a b : Addr) (kn : List Str) (ws : List V) (ss : List Sm), vs = [.ref p, .ref a, .ref b] ∧ H p = some (.ins C dx []) ∧ SqL K H a (kn.map V.str) ∧ SqL K H b ws ∧ LsR (TpR encS) H ws ss ∧ PlOk kn ss ∧
  ∀ H' kn' ss', kn'.Perm kn → sortedS kn' = true → ss'.Perm ss → PlR C H' p kn' ss' → ExB p H H' → Q .non H'
theorem ok_Plant (d : Kn K mg "Plant" C "Plant.__init__" sPlant_init ["self", "knots", "streams"]) (G : Glb mg) (T : PlT K C) (c_are_names : Cal P w K mg base 2 "are_names" (spAreNames K) []) (c_is_stream : Cal P w K mg base 1 "is_stream" (spIsStream K) []) : Mak P w K mg base 3 "Plant" C (spPlant K C) [] := by
  refine d.mak scPlant_init (fun vs H Q E h => ?_) (fun f cdv A outer s H vs Q E hr h => ?_)
  · obtain ⟨p, dx, a, b, kn, ws, ss, rfl, _⟩ := h
    rfl
  · obtain ⟨p, dx, a, b, kn, ws, ss, rfl, hp, ha, hb, hl, ok, k⟩ := h
    refine ⟨_, (pss_cons (ps_if (PW.pt (pw_or (pt_not (pt_chain op_le op_le pe_int (pe_callB (len_seqK K) (by rfl) G.len (by decide +kernel) (pa_cons (pv 1) pa_nil)) (pe_gc rfl G.c_MOST_KNOTS))) (pw_or1 (pt_not (pt_val (pe_c c_are_names hr (by decide) rfl (pa_cons (pv 1) pa_nil))))))) (pss_one ps_never) pss_nil)
      (pss_cons (ps_if (PW.pt (pw_or (pt_cmpR op_gt (pe_callB (len_seqK K) (by rfl) G.len (by decide +kernel) (pa_cons (pv 2) pa_nil)) (pe_gc rfl G.c_MOST_STREAMS) (nomark _)) (pw_or1 (pt_not (pt_val (pe_callB (cr_all rfl) (by rfl) G.all (by decide +kernel) (pa_cons (pe_lc (own := [("stream", 3)]) rfl scPlant_init.nd (pi_list (pv 2)) (blkOk_by (N := nPlant_init) (sc := defScope sPlant_init) (by decide +kernel)) (fun _ _ _ _ _ => (pg_name (i := 3) scPlant_init.nd rfl (by first | exact .inl rfl | exact .inr rfl))) (fun _ _ _ _ _ => pts_nil) (fun _ _ _ _ _ => (pe_c c_is_stream hr (by decide) rfl (pa_cons (pv 3) (pa_cons (pv 1) pa_nil))))) pa_nil))))))) (pss_one ps_never) pss_nil)
      (pss_cons (ps_if (pt_not (pt_val (pe_c c_are_names hr (by decide) rfl (pa_cons (pe_lc (own := [("stream", 3)]) rfl scPlant_init.nd (pi_list (pv 2)) (blkOk_by (N := nPlant_init) (sc := defScope sPlant_init) (by decide +kernel)) (fun _ _ _ _ _ => (pg_name (i := 3) scPlant_init.nd rfl (by first | exact .inl rfl | exact .inr rfl))) (fun _ _ _ _ _ => pts_nil) (fun _ _ _ _ _ => (pe_ix (ix_tupK K) (pv 3) pe_int (fun _ _ => rfl)))) pa_nil)))) (pss_one ps_never) pss_nil)
      (pss_cons (ps_fld (pv 0) (pe_callB cr_sortedS (by rfl) G.sorted (by decide +kernel) (pa_cons (pv 1) pa_nil)) rfl)
      (pss_one (ps_fld (pv 0) (pe_callB cr_sortedM (by rfl) G.sorted (by decide +kernel) (pa_cons (pv 2) pa_nil)) rfl)))))), ?_⟩
    refine ⟨_, rfl, a, _, rfl, .inl ha, _, _, rfl, rfl, _, rfl, itP (by rw [List.length_map]; exact Int.ofNat_le.mpr ok.kl) ?_⟩
    refine ⟨_, _, rfl, rfl, _, rfl, itF (by rw [List.length_map, decide_eq_true (show ((kn.length : Nat) : Int) ≤ 24 from Int.ofNat_le.mpr ok.ku)]; rfl) ?_⟩
    refine ⟨_, rfl, a, kn, rfl, ha, ok.kok, ok.knd, by have := ok.ku; omega, fun H1 e1 => ⟨_, rfl, itF rfl ?_⟩⟩
    have hb1 := Ex.seq e1 hb
    have ha1 := Ex.seq e1 ha
    have hl1 := hl.mono stb_tp e1
    have hn : ws.length ≤ 60 := by rw [hl.1]; exact ok.su
    refine ⟨_, rfl, b, _, rfl, .inl hb1, _, _, rfl, rfl, _, rfl, itF (decide_eq_false (by omega)) ?_⟩
    refine ⟨_, rfl, b, rfl, ⟨_, hb1⟩, ?_⟩
    refine lc_J (J := Itl K b) (TpR encS) (fun _ v x _ => v = V.bl x) (fun _ => std_bl) (fun s => some true) (gv_list hb1 hl1) (by have := ok.su; omega) (fun D x c H' T Y _ _ ex hc e _ hY => ?_) (fun D ys H2 hn2 e2 hy hl2 => ?_)
    · obtain ⟨t, rfl, ht⟩ := ex
      obtain ⟨o1, o2, o3, o4, o5, o6⟩ := ok.sok c hc
      exact ⟨rfl, _, rfl, _, rfl, t, a, c, kn, rfl, e _ _ ht, Ex.seq e ha1, o2, o3, o4, o5, o6, fun H4 e4 => hY true rfl _ _ e4 rfl⟩
    rw [filterMap_some] at hl2
    refine ⟨D, _, rfl, .inl (.inl (by rw [hy, ls_bl hl2])), _, rfl, ?_⟩
    rw [all_true _ _ fun _ _ => rfl]
    refine itF rfl ?_
    have e12 : Ex H H2 := e1.trans e2
    have hb2 := Ex.seq e2 hb1
    have hl3 := hl1.mono stb_tp e2
    refine ⟨_, rfl, b, rfl, ⟨_, hb2⟩, ?_⟩
    refine lc_J (J := Itl K b) (TpR encS) (fun _ v x _ => v = V.str x) (fun _ => std_str) (fun s => some s.n) (gv_list hb2 hl3) (by have := ok.su; omega) (fun D x c H' T Y _ _ ex hc e _ hY => ?_) (fun D2 ys2 H3 hn3 e3 hy3 hl4 => ?_)
    · obtain ⟨t, rfl, ht⟩ := ex
      exact ⟨rfl, _, rfl, t, _, _, _, rfl, rfl, SqT.of (e _ _ ht), rfl, hY _ rfl _ _ (Evl.Ex.refl _) rfl⟩
    rw [filterMap_some] at hl4
    refine ⟨D2, _, rfl, .inl (.inl (by rw [hy3, ls_str hl4])), fun x hx => ?_, ok.snd, by rw [List.length_map]; exact ok.su, fun H4 e4 => ⟨_, rfl, itF rfl ?_⟩⟩
    · obtain ⟨s, hs, rfl⟩ := List.mem_map.mp hx
      exact (ok.sok s hs).1
    have e4' : Ex H H4 := (e12.trans e3).trans e4
    have ha4 := Ex.seq e4' ha
    have hb4 := Ex.seq e4' hb
    have hl5 := hl.mono stb_tp e4'
    have hp4 := e4' _ _ hp
    -- self._knots = sorted(knots)
    refine ⟨_, rfl, a, kn, rfl, ha4, by have := ok.ku; omega, fun kn' q pk sk nq => ?_⟩
    have nqp : p ≠ q := ne_of_none hp4 nq
    refine ⟨_, rfl, p, C, dx, _, rfl, (by rw [upd_ne nqp]; exact hp4), T.cl, T.nK, (by show 0 < 1000; decide), ?_⟩
    -- self._streams = sorted(streams)
    have e5 : ExB p H4 (upd (upd H4 q (.lst (kn'.map V.str))) p (.ins C dx (putF "_knots" (.ref q) []))) := (ExB.of (Evl.Ex.new nq)).trans ExB.upd
    obtain ⟨keys, tups⟩ := ls_keys hl5
    have tnp : ∀ t r, H4 t = some (.tup r) → t ≠ p := fun t r h => ne_of h hp4 (by intro z; cases z)
    refine ⟨_, rfl, b, ws, keyH H4, rfl, seqB e5 hp4 hb4, by rw [keys]; exact ok.snd, fun v hv => ?_, fun zs r pz nr => ?_⟩
    · obtain ⟨t, r, ev, fl, ht⟩ := tups v hv
      exact ⟨t, r, ev, fl, e5 _ _ (tnp t _ ht) ht⟩
    have nrp : p ≠ r := fun z => by rw [z, upd_same] at nr; cases nr
    refine ⟨_, rfl, p, C, dx, _, rfl, (by rw [upd_ne nrp, upd_same]), T.cl, T.nS, (by show 1 < 1000; decide), ?_⟩
    obtain ⟨ss', ps, hl6⟩ := hl5.perm pz
    have e6 : ExB p H4 (upd (upd (upd (upd H4 q (.lst (kn'.map V.str))) p (.ins C dx (putF "_knots" (.ref q) []))) r (.lst zs)) p (.ins C dx (putF "_streams" (.ref r) (putF "_knots" (.ref q) [])))) := (e5.trans (ExB.of (Evl.Ex.new nr))).trans ExB.upd
    have nqr : q ≠ r := fun z => by rw [z, upd_ne nrp.symm, upd_same] at nr; cases nr
    refine k _ kn' ss' pk sk ps ⟨dx, q, r, zs, upd_same, ?_, ?_, ⟨hl6.1, fun i v hv => ?_⟩⟩ fun b o n h => e6 b o n (e4' b o h)
    · rw [upd_ne nqp.symm, upd_ne nqr, upd_ne nqp.symm, upd_same]
    · rw [upd_ne nrp.symm, upd_same]
    · obtain ⟨x, hx, t, ev, ht⟩ := hl6.2 i v hv
      exact ⟨x, hx, t, ev, e6 _ _ (tnp t _ ht) ht⟩
abbrev sPlant_knots : Stmt := inClass (top 14) 1
abbrev nPlant_knots : List Str := ["self"]
theorem scPlant_knots : FnScope nPlant_knots ["self"] (defScope sPlant_knots) := ⟨rfl, rfl, rfl, by decide +kernel, rfl, by decide +kernel, by decide +kernel⟩
def spKnots (C : Addr) : Sp := fun vs H Q _ => ∃ (p : Addr) (kn : List Str) (ss : List Sm), vs = [.ref p] ∧ PlR C H p kn ss ∧ GivL (kn.map V.str) H Q
theorem ok_knots (d : Rn K C "knots" "Plant.knots" sPlant_knots ["self"]) (G : Glb mg) (T : PlT K C) : Prb P w K mg base 1 C "knots" (spKnots C) := by
  refine d.prb scPlant_knots (fun vs H Q E h => ?_) (fun f cdv A outer s H vs Q E hr h => ?_)
  · obtain ⟨p, kn, ss, rfl, _⟩ := h
    rfl
  · obtain ⟨p, kn, ss, rfl, ⟨dx, a, b, ws, h1, h2, h3, h4⟩, k⟩ := h
    refine ⟨_, (pss_one (ps_ret (pe_callTy call_list_of (by rfl) G.list (by decide +kernel) (pa_cons (pe_fldK K (pv 0) rfl) pa_nil)))), ?_⟩
    exact ⟨_, rfl, p, C, dx, _, _, rfl, h1, T.cl, T.nK, pf_knots _ _, a, _, rfl, .inl (SqL.of h2), fun l hn => k _ _ hn (Evl.Ex.new hn) upd_same⟩
abbrev sPlant_streams : Stmt := inClass (top 14) 2
abbrev nPlant_streams : List Str := ["self"]
theorem scPlant_streams : FnScope nPlant_streams ["self"] (defScope sPlant_streams) := ⟨rfl, rfl, rfl, by decide +kernel, rfl, by decide +kernel, by decide +kernel⟩
def spStreams (C : Addr) : Sp := fun vs H Q _ => ∃ (p : Addr) (kn : List Str) (ss : List Sm), vs = [.ref p] ∧ PlR C H p kn ss ∧ ∀ a ws H', H a = none → Ex H H' → H' a = some (.lst ws) → LsR (TpR encS) H' ws ss → Q (.ref a) H'
theorem ok_streams (d : Rn K C "streams" "Plant.streams" sPlant_streams ["self"]) (G : Glb mg) (T : PlT K C) : Prb P w K mg base 1 C "streams" (spStreams C) := by
  refine d.prb scPlant_streams (fun vs H Q E h => ?_) (fun f cdv A outer s H vs Q E hr h => ?_)
  · obtain ⟨p, kn, ss, rfl, _⟩ := h
    rfl
  · obtain ⟨p, kn, ss, rfl, ⟨dx, a, b, ws, h1, h2, h3, h4⟩, k⟩ := h
    refine ⟨_, (pss_one (ps_ret (pe_callTy call_list_of (by rfl) G.list (by decide +kernel) (pa_cons (pe_fldK K (pv 0) rfl) pa_nil)))), ?_⟩
    exact ⟨_, rfl, p, C, dx, _, _, rfl, h1, T.cl, T.nS, pf_streams _ _, b, _, rfl, .inl (SqL.of h3), fun l hn => k _ _ _ hn (Evl.Ex.new hn) upd_same (h4.mono stb_tp (Evl.Ex.new hn))⟩
abbrev sPlant_stream_names : Stmt := inClass (top 14) 3
abbrev nPlant_stream_names : List Str := ["self", "stream"]
theorem scPlant_stream_names : FnScope nPlant_stream_names ["self"] (defScope sPlant_stream_names) := ⟨rfl, rfl, rfl, by decide +kernel, rfl, by decide +kernel, by decide +kernel⟩
def spStreamNames (C : Addr) : Sp := fun vs H Q _ => ∃ (p : Addr) (kn : List Str) (ss : List Sm), vs = [.ref p] ∧ PlR C H p kn ss ∧ ss.length ≤ 1000 ∧ GivL ((ss.map (·.n)).map V.str) H Q
theorem ok_stream_names (d : Mn K C "stream_names" "Plant.stream_names" sPlant_stream_names ["self"]) (G : Glb mg) (T : PlT K C) : Met P w K mg base 1 C "stream_names" (spStreamNames C) [] := by
  refine d.met scPlant_stream_names (fun vs H Q E h => ?_) (fun f cdv A outer s H vs Q E hr h => ?_)
  · obtain ⟨p, kn, ss, rfl, _⟩ := h
    rfl
  · obtain ⟨p, kn, ss, rfl, ⟨dx, a, b, ws, h1, h2, h3, h4⟩, hz, k⟩ := h
    refine ⟨_, (pss_one (ps_ret (pe_lc (own := [("stream", 1)]) rfl scPlant_stream_names.nd (pi_list (pe_fldK K (pv 0) rfl)) (blkOk_by (N := nPlant_stream_names) (sc := defScope sPlant_stream_names) (by decide +kernel)) (fun _ _ _ _ _ => (pg_name (i := 1) scPlant_stream_names.nd rfl (by first | exact .inl rfl | exact .inr rfl))) (fun _ _ _ _ _ => pts_nil) (fun _ _ _ _ _ => (pe_ix (ix_tupK K) (pv 1) pe_int (fun _ _ => rfl)))))), ?_⟩
    refine ⟨_, rfl, p, C, dx, _, _, rfl, h1, T.cl, T.nS, pf_streams _ _, b, rfl, ⟨_, SqL.of h3⟩, ?_⟩
    refine lc_J (J := Itl K b) (TpR encS) (fun _ v x _ => v = V.str x) (fun _ => std_str) (fun s => some s.n) (gv_list (SqL.of h3) h4) (by omega) (fun D x c H' T Y _ _ ex hc e _ hY => ?_) (fun D ys H' hn e hy hl => ?_)
    · obtain ⟨t, rfl, ht⟩ := ex
      exact ⟨rfl, _, rfl, t, _, _, _, rfl, rfl, SqT.of (e _ _ ht), rfl, hY _ rfl _ _ (Evl.Ex.refl _) rfl⟩
    · rw [filterMap_some] at hl
      exact k D H' hn e (by rw [hy, ls_str hl])
abbrev sPlant_check_knot : Stmt := inClass (top 14) 5
abbrev nPlant_check_knot : List Str := ["self", "knot"]
theorem scPlant_check_knot : FnScope nPlant_check_knot ["self", "knot"] (defScope sPlant_check_knot) := ⟨rfl, rfl, rfl, by decide +kernel, rfl, by decide +kernel, by decide +kernel⟩
def spCheckKnot (C : Addr) : Sp := fun vs H Q _ => ∃ (p : Addr) (kn : List Str) (ss : List Sm) (x : Str), vs = [.ref p, .str x] ∧ PlR C H p kn ss ∧ x ∈ kn ∧ Giv .non H Q
theorem ok_check_knot (d : Mn K C "check_knot" "Plant.check_knot" sPlant_check_knot ["self", "knot"]) (G : Glb mg) (T : PlT K C) : Met P w K mg base 1 C "check_knot" (spCheckKnot C) [] := by
  refine d.met scPlant_check_knot (fun vs H Q E h => ?_) (fun f cdv A outer s H vs Q E hr h => ?_)
  · obtain ⟨p, kn, ss, x, rfl, _⟩ := h
    rfl
  · obtain ⟨p, kn, ss, x, rfl, ⟨dx, a, b, ws, h1, h2, h3, h4⟩, hx, k⟩ := h
    refine ⟨_, (pss_one (ps_if (pt_cmpR (notIn_seqK K) (pv 1) (pe_fldK K (pv 0) rfl) rfl) (pss_one ps_never) pss_nil)), ?_⟩
    refine ⟨_, rfl, _, rfl, p, C, dx, _, _, rfl, h1, T.cl, T.nK, pf_knots _ _, a, _, rfl, .inl (SqL.of h2), rfl, flat_strs _, _, rfl, itF ?_ (k _ (Evl.Ex.refl _))⟩
    rw [if_pos rfl, inV_str, decide_eq_true hx]
    rfl
abbrev sPlant_streams_into : Stmt := inClass (top 14) 6
abbrev nPlant_streams_into : List Str := ["self", "knot", "stream"]
theorem scPlant_streams_into : FnScope nPlant_streams_into ["self", "knot"] (defScope sPlant_streams_into) := ⟨rfl, rfl, rfl, by decide +kernel, rfl, by decide +kernel, by decide +kernel⟩
def spStreamsInto (C : Addr) : Sp := fun vs H Q _ => ∃ (p : Addr) (kn : List Str) (ss : List Sm) (x : Str), vs = [.ref p, .str x] ∧ PlR C H p kn ss ∧ x ∈ kn ∧ ss.length ≤ 1000 ∧ GivL (((ss.filter fun s => decide (s.h = x)).map (·.n)).map V.str) H Q
theorem ok_streams_into (d : Mn K C "streams_into" "Plant.streams_into" sPlant_streams_into ["self", "knot"]) (G : Glb mg) (T : PlT K C) (c_check_knot : Met P w K mg base 1 C "check_knot" (spCheckKnot C) []) : Met P w K mg base 2 C "streams_into" (spStreamsInto C) [] := by
  refine d.met scPlant_streams_into (fun vs H Q E h => ?_) (fun f cdv A outer s H vs Q E hr h => ?_)
  · obtain ⟨p, kn, ss, x, rfl, _⟩ := h
    rfl
  · obtain ⟨p, kn, ss, x, rfl, ⟨dx, a, b, ws, h1, h2, h3, h4⟩, hx, hz, k⟩ := h
    refine ⟨_, (pss_cons (ps_expr (pe_mt c_check_knot hr (by decide) (pv 0) (pa_cons (pv 1) pa_nil)))
      (pss_one (ps_ret (pe_lc (own := [("stream", 2)]) rfl scPlant_streams_into.nd (pi_list (pe_fldK K (pv 0) rfl)) (blkOk_by (N := nPlant_streams_into) (sc := defScope sPlant_streams_into) (by decide +kernel)) (fun _ _ _ _ _ => (pg_name (i := 2) scPlant_streams_into.nd rfl (by first | exact .inl rfl | exact .inr rfl))) (fun _ _ _ _ _ => (pts_one (pt_cmpR op_eq (pe_ix (ix_tupK K) (pv 2) pe_int (fun _ _ => rfl)) (pv 1) (nomark _)))) (fun _ _ _ _ _ => (pe_ix (ix_tupK K) (pv 2) pe_int (fun _ _ => rfl))))))), ?_⟩
    refine ⟨_, rfl, p, dx, _, rfl, h1, pf_no (by decide +kernel) (by decide +kernel), _, rfl, p, kn, ss, x, rfl, ⟨dx, a, b, ws, h1, h2, h3, h4⟩, hx, fun H1 e1 => ?_⟩
    refine ⟨_, rfl, p, C, dx, _, _, rfl, e1 _ _ h1, T.cl, T.nS, pf_streams _ _, b, rfl, ⟨_, SqL.of (e1 _ _ h3)⟩, ?_⟩
    refine lc_J (J := Itl K b) (TpR encS) (fun _ v x _ => v = V.str x) (fun _ => std_str) (fun s => if s.h = x then some s.n else none) (gv_list (SqL.of (e1 _ _ h3)) (h4.mono stb_tp e1)) (by omega) (fun D y c H' T Y _ _ ex hc e hT hY => ?_) (fun D ys H' hn e hy hl => ?_)
    · obtain ⟨t, rfl, ht⟩ := ex
      refine ⟨rfl, _, rfl, t, _, _, _, rfl, rfl, SqT.of (e _ _ ht), rfl, _, rfl, rfl, _, rfl, ite2 (fun q => ?_) (fun q => ?_)⟩
      · have q2 : c.h = x := V.str.inj (of_decide_eq_true q)
        exact ⟨_, rfl, t, _, _, _, rfl, rfl, SqT.of (e _ _ ht), rfl, hY c.n (if_pos q2) _ _ (Evl.Ex.refl _) rfl⟩
      · exact hT (if_neg fun z => q (decide_eq_true (congrArg V.str z))) _ (Evl.Ex.refl _)
    · have e0 : (ss.filterMap fun s => if s.h = x then some s.n else none) = (ss.filter fun s => decide (s.h = x)).map (·.n) := by
        exact fm_if (fun s => s.h = x) (·.n) ss
      rw [e0] at hl
      exact k D H' (Ex.free e1 hn) (e1.trans e) (by rw [hy, ls_str hl])
end
end Ms

set_option maxHeartbeats 4000000
/-! Loops by invariants, flows and limits in dicts, lists of texts compared. -/
namespace Ms
open PySem PySem.Spec PyProof.Rows L2
open Evl (Ex)
/-- a for over what is given, by an invariant -/
theorem for_J {α : Type} {J : It} {B : Hp} {Ra : V → α → Hp → Prop} {ds : List α} {g : TG} {tb : TS} {D : Ends} {σ : L2.St} {H : Hp} (G : Gv J B Ra ds) (I : Nat → L2.St → Hp → Prop) (h0 : I 0 σ H) (ex : ∀ i σ H, I i σ H → Ex B H)
    (hs : ∀ i x d σ H, ds[i]? = some d → Ra x d B → I i σ H → g x σ H fun σ2 H2 => tb { D with nx := I (i + 1), ct := I (i + 1), bk := D.nx } σ2 H2) (hd : ∀ σ H, I ds.length σ H → D.nx σ H) :
    ∃ W : Nat → Nat → L2.St → Hp → Prop, (∃ m, W 0 m σ H) ∧ ∀ i m σ H, W i m σ H →
      (J.stop i H ∧ D.nx σ H) ∨ (J.go i H ∧ ∃ N : L2.St → Hp → Prop, (∀ σ' H', N σ' H' → ∃ m', m' < m ∧ W (i + 1) m' σ' H') ∧ ∀ x H', J.yld i H x H' → g x σ H' fun σ2 H2 => tb { D with nx := N, ct := N, bk := D.nx } σ2 H2) := by
  refine ⟨fun i m σ H => m = ds.length - i ∧ i ≤ ds.length ∧ I i σ H, ⟨ds.length, by simp, Nat.zero_le _, h0⟩, ?_⟩
  rintro i m σ H ⟨rfl, hi, p⟩
  have e := ex i σ H p
  by_cases hlt : i < ds.length
  · refine .inr ⟨G.go i H e hlt, I (i + 1), fun σ' H' p' => ⟨ds.length - (i + 1), by omega, rfl, hlt, p'⟩, fun x H' y => ?_⟩
    obtain ⟨rfl, d, hd', ra⟩ := G.yld i H x H' e hlt y
    exact hs i x d σ H' hd' ra p
  · have e0 : i = ds.length := by omega
    subst e0
    exact .inl ⟨G.stop H e, hd σ H p⟩
/-- tuples in a list, of a list seen from a heap where they stand -/
theorem gv_tup {K : PySem.W.Frag} {a : Addr} {xs : List V} {H1 : Hp} {α : Type} {Ra : V → α → Hp → Prop} {ds : List α} (hA : LsR Ra H1 xs ds) (kp : ∀ H : Hp, Ex H1 H → SqT K H a xs) : Gv (Itt K a) H1 Ra ds where
  go := fun i H e hi => ⟨xs, xs[i]'(by rw [hA.1]; exact hi), kp H e, List.getElem?_eq_getElem _⟩
  stop := fun H e => ⟨xs, kp H e, by rw [hA.1]; exact Nat.le_refl _⟩
  yld := fun i H x H' e hi y => by
    obtain ⟨rfl, q⟩ := y
    obtain ⟨d, hd, r⟩ := hA.2 i x (q xs (kp _ e))
    exact ⟨rfl, d, hd, r⟩
theorem take_snoc {α : Type} {l : List α} {i : Nat} {x : α} (h : l[i]? = some x) : l.take (i + 1) = l.take i ++ [x] := by
  rw [List.take_add_one, h]
  rfl
theorem dr_list (ks : List Str) (v : Str → V) : ((DR ks v).map fun kv => kV kv.1) = ks.map V.str := by
  unfold DR
  rw [List.map_map]
  rfl
/-- a new list of tuples comes -/
abbrev GivT {α : Type} (enc : α → List V) (xs : List α) (H : Hp) (Q : VK) : Prop := ∀ a ws H', H a = none → Ex H H' → H' a = some (.lst ws) → LsR (TpR enc) H' ws xs → Q (.ref a) H'
/-- a new dict comes -/
abbrev GivD (ks : List Str) (v : Str → V) (H : Hp) (Q : VK) : Prop := ∀ d H', H d = none → Ex H H' → H' d = some (.dK (DR ks v)) → Q (.ref d) H'
/-- a list of tuples stands -/
def LsT {α : Type} (K : PySem.W.Frag) (enc : α → List V) (H : Hp) (a : Addr) (xs : List α) : Prop := ∃ ws, SqL K H a ws ∧ LsR (TpR enc) H ws xs
theorem LsT.mono {α : Type} {K : PySem.W.Frag} {enc : α → List V} {H H' : Hp} {a : Addr} {xs : List α} (e : Ex H H') (h : LsT K enc H a xs) : LsT K enc H' a xs := by
  obtain ⟨ws, h1, h2⟩ := h
  exact ⟨ws, Ex.seq e h1, h2.mono stb_tp e⟩
theorem LsT.of {α : Type} {K : PySem.W.Frag} {enc : α → List V} {H : Hp} {a : Addr} {xs : List α} {ws : List V} (h : H a = some (.lst ws)) (h2 : LsR (TpR enc) H ws xs) : LsT K enc H a xs := ⟨ws, SqL.of h, h2⟩
/-- a plant stands, well made -/
structure Pl (C : Addr) (H : Hp) (p : Addr) (kn : List Str) (ss : List Sm) : Prop where
  r : PlR C H p kn ss
  ok : PlOk kn ss
theorem Pl.mono {C : Addr} {H H' : Hp} {p : Addr} {kn : List Str} {ss : List Sm} (e : Ex H H') (h : Pl C H p kn ss) : Pl C H' p kn ss := ⟨h.r.mono e, h.ok⟩
/-- flows stand in a dict -/
def FlH (H : Hp) (a : Addr) (ks : List Str) (f : Str → Int) : Prop := H a = some (.dK (DR ks fun n => .int (f n)))
theorem FlH.mono {H H' : Hp} {a : Addr} {ks : List Str} {f : Str → Int} (e : Ex H H') (h : FlH H a ks f) : FlH H' a ks f := e _ _ h
/-- limits stand in a dict -/
def LmH (H : Hp) (a : Addr) (ks : List Str) (lo hi : Str → Int) : Prop := ∃ g : Str → Addr, H a = some (.dK (DR ks fun n => .ref (g n))) ∧ ∀ n ∈ ks, H (g n) = some (.tup [.int (lo n), .int (hi n)])
theorem LmH.mono {H H' : Hp} {a : Addr} {ks : List Str} {lo hi : Str → Int} (e : Ex H H') (h : LmH H a ks lo hi) : LmH H' a ks lo hi := by
  obtain ⟨g, h1, h2⟩ := h
  exact ⟨g, e _ _ h1, fun n hn => e _ _ (h2 n hn)⟩
/-- the lines of streams -/
def lnS (ss : List Sm) : List Ln := ss.map fun s => ⟨s.n, s.t, s.h⟩
def lnO (ss : List Sm) : List Ln := (lnS ss).filter fun l => !decide (l.t = l.h)
def lnP (k : Str) (ss : List Sm) : List Ln := ss.map fun s => ⟨s.n, if s.t = k then "" else s.t, s.h⟩
def arcs1 (lo hi f : Str → Int) (l : Ln) : List Arc := (if f l.n < hi l.n then [⟨l.t, l.h, l.n, 1, hi l.n - f l.n⟩] else []) ++ (if lo l.n < f l.n then [⟨l.h, l.t, l.n, -1, f l.n - lo l.n⟩] else [])
def arcsOf (lo hi f : Str → Int) (ls : List Ln) : List Arc := ls.flatMap (arcs1 lo hi f)
theorem arcs_is {lo hi f : Str → Int} {ls : List Ln} {a : Arc} : a ∈ arcsOf lo hi f ls ↔ MsM.IsArc ls lo hi f a := by
  unfold arcsOf arcs1 MsM.IsArc
  rw [List.mem_flatMap]
  constructor
  · rintro ⟨l, hl, h⟩
    refine ⟨l, hl, ?_⟩
    rcases List.mem_append.mp h with h | h
    · split at h
      · rename_i q
        rw [List.mem_singleton] at h
        subst h
        exact ⟨rfl, .inl ⟨rfl, rfl, rfl, rfl, q⟩⟩
      · cases h
    · split at h
      · rename_i q
        rw [List.mem_singleton] at h
        subst h
        exact ⟨rfl, .inr ⟨rfl, rfl, rfl, rfl, q⟩⟩
      · cases h
  · rintro ⟨l, hl, en, h⟩
    refine ⟨l, hl, List.mem_append.mpr ?_⟩
    rcases h with ⟨e1, e2, e3, e4, q⟩ | ⟨e1, e2, e3, e4, q⟩
    · left
      rw [if_pos q, List.mem_singleton]
      cases a
      simp_all
    · right
      rw [if_pos q, List.mem_singleton]
      cases a
      simp_all
theorem arcs_len {lo hi f : Str → Int} {ls : List Ln} : (arcsOf lo hi f ls).length ≤ 2 * ls.length := by
  unfold arcsOf
  induction ls with
  | nil => exact Nat.le_refl _
  | cons l r ih =>
    rw [List.flatMap_cons, List.length_append, List.length_cons]
    have : (arcs1 lo hi f l).length ≤ 2 := by
      unfold arcs1
      split <;> split <;> simp
    omega
theorem lnS_take (ss : List Sm) (i : Nat) : lnS (ss.take i) = (lnS ss).take i := by
  unfold lnS
  rw [List.map_take]
theorem exc_snoc (ls : List Ln) (l : Ln) (f : Str → Int) (k : Str) : MsM.exc (ls ++ [l]) f k = MsM.exc ls f k + ((if l.h = k then f l.n else 0) - (if l.t = k then f l.n else 0)) := by
  unfold MsM.exc
  rw [MsM.sumOf_append]
  simp only [MsM.sumOf]
  omega
theorem lack_step (L : List Ln) (c : Sm) (fl : Str → Int) (m : Str) : (if m = c.h then V.int ((if c.h = c.t then MsM.exc L fl c.t - fl c.n else MsM.exc L fl c.h) + fl c.n) else if m = c.t then V.int (MsM.exc L fl c.t - fl c.n) else V.int (MsM.exc L fl m)) = V.int (MsM.exc (L ++ [⟨c.n, c.t, c.h⟩]) fl m) := by
  rw [exc_snoc]
  show _ = V.int (MsM.exc L fl m + ((if c.h = m then fl c.n else 0) - (if c.t = m then fl c.n else 0)))
  by_cases q1 : m = c.h
  · subst q1
    by_cases q2 : c.h = c.t
    · rw [if_pos rfl, if_pos q2, if_pos rfl, if_pos q2.symm, q2]
      congr 1
      omega
    · rw [if_pos rfl, if_neg q2, if_pos rfl, if_neg fun z => q2 z.symm]
      congr 1
      omega
  · rw [if_neg q1, if_neg (fun z => q1 z.symm : ¬ c.h = m)]
    by_cases q2 : m = c.t
    · subst q2
      rw [if_pos rfl, if_pos rfl]
      congr 1
      omega
    · rw [if_neg q2, if_neg (fun z => q2 z.symm : ¬ c.t = m)]
      congr 1
      omega
theorem LsR.rev {α : Type} {R : V → α → Hp → Prop} {H : Hp} : ∀ {vs : List V} {xs : List α}, LsR R H vs xs → LsR R H vs.reverse xs.reverse
  | [], xs, h => by
    have : xs = [] := List.eq_nil_of_length_eq_zero (by rw [← h.1]; rfl)
    subst this
    exact LsR.nil
  | v :: r, xs, h => by
    obtain ⟨x, r', rfl, q, h2⟩ := h.tail
    rw [List.reverse_cons, List.reverse_cons]
    exact (LsR.rev h2).snoc q
/-- tuples stay where another thing changes -/
theorem LsR.wo {α : Type} {enc : α → List V} {H : Hp} {a : Addr} {o : HO} {vs : List V} {xs : List α} (ha : H a = some o) (no : ∀ l, o ≠ .tup l) (h : LsR (TpR enc) H vs xs) : LsR (TpR enc) (wo H a) vs xs := ⟨h.1, fun i v hv => by
  obtain ⟨x, hx, t, e, ht⟩ := h.2 i v hv
  exact ⟨x, hx, t, e, by rw [wo_ne (ne_of ht ha fun z => no _ z.symm)]; exact ht⟩⟩
/-- a new dict of places comes -/
abbrev GivF (H : Hp) (Q : VK) : Prop := ∀ d fs H', H d = none → Ex H H' → H' d = some (.dK (DR fs fun _ => .bl true)) → Q (.ref d) H'
/-- keys, with for each the arc that led to it -/
def Par (H : Hp) (as : List Arc) (st wt : List Str) (bv : Str → V) : Prop := ∀ n ∈ wt, (bv n = .non ∧ n ∈ st) ∨ ∃ t a, bv n = .ref t ∧ H t = some (.tup (encA a)) ∧ a ∈ as ∧ a.t = n ∧ a.f ∈ wt ∧ wt.idxOf a.f < wt.idxOf n
theorem Par.mono {H H' : Hp} {as : List Arc} {st wt : List Str} {bv : Str → V} (e : Ex H H') (h : Par H as st wt bv) : Par H' as st wt bv := fun n hn => by
  rcases h n hn with h | ⟨t, a, h1, h2, h3⟩
  · exact .inl h
  · exact .inr ⟨t, a, h1, e _ _ h2, h3⟩
/-- one more key -/
theorem Par.add {H : Hp} {as : List Arc} {st wt : List Str} {bv : Str → V} {a : Arc} {t : Addr} (h : Par H as st wt bv) (hf : a.f ∈ wt) (ht : a.t ∉ wt) (ha : a ∈ as) (hH : H t = some (.tup (encA a))) : Par H as st (wt ++ [a.t]) (fun m => if m = a.t then .ref t else bv m) := fun n hn => by
  have old : ∀ x, x ∈ wt → (wt ++ [a.t]).idxOf x = wt.idxOf x := fun x hx => by rw [List.idxOf_append, if_pos hx]
  rcases List.mem_append.mp hn with hn | hn
  · have ne : n ≠ a.t := fun q => ht (q ▸ hn)
    simp only [if_neg ne]
    rcases h n hn with h | ⟨t', b, h1, h2, h3, h4, h5, h6⟩
    · exact .inl h
    · exact .inr ⟨t', b, h1, h2, h3, h4, List.mem_append_left _ h5, by rw [old _ h5, old _ hn]; exact h6⟩
  · rw [List.mem_singleton] at hn
    subst hn
    refine .inr ⟨t, a, if_pos rfl, hH, ha, rfl, List.mem_append_left _ hf, ?_⟩
    rw [old _ hf, List.idxOf_append, if_neg ht]
    have := List.idxOf_lt_length_of_mem hf
    omega
/-! ### data compared -/
theorem dpAll_str {K : PySem.W.Frag} {H : Hp} : ∀ xs : List Str, DpAll K H (xs.map V.str) (xs.map PyData.str)
  | [] => .nil
  | x :: r => .cons (.str x) (dpAll_str r)
theorem canLayAll_str : ∀ xs : List Str, (∀ x ∈ xs, PyData.strOk x = true) → PyData.canLayAll0 (xs.map PyData.str) = true
  | [], _ => by simp [PyData.canLayAll0]
  | x :: r, h => by
    have := canLayAll_str r fun y hy => h y (List.mem_cons_of_mem x hy)
    simp [PyData.canLayAll0, PyData.canLay0, this, h x]
theorem depthAll_str : ∀ xs : List Str, PyData.depthAll (xs.map PyData.str) ≤ 1
  | [] => by simp [PyData.depthAll]
  | x :: r => by
    have := depthAll_str r
    rw [List.map_cons, PyData.depthAll]
    have h0 : PyData.depth (PyData.str x) ≤ 1 := by simp [PyData.depth]
    exact Nat.max_le.mpr ⟨h0, this⟩
theorem shaped_str {xs : List Str} (h : ∀ x ∈ xs, PyData.strOk x = true) : SeqAt.shaped (.list (xs.map PyData.str)) = true := by
  unfold SeqAt.shaped
  rw [Bool.and_eq_true_iff]
  refine ⟨?_, decide_eq_true ?_⟩
  · rw [PyData.canLay0]
    exact canLayAll_str xs h
  · have := depthAll_str xs
    rw [PyData.depth]
    omega
theorem letters_small : ∀ c ∈ LETT.cps.toList, c < 0x110000 := by decide +kernel
theorem NameOk.str {z : Str} (h : NameOk z) : PyData.strOk z = true := by
  unfold PyData.strOk
  rw [← Array.all_toList]
  exact List.all_eq_true.mpr fun c hc => decide_eq_true (letters_small c (h.2.2 c hc))
theorem letters_some : ∀ z : Str, NameOk z → ¬ z = "" := fun z h q => by
  have := h.1
  rw [q] at this
  exact absurd this (by decide)
theorem eqvA_str : ∀ xs ys : List Str, PyData.eqvAll (xs.map PyData.str) (ys.map PyData.str) = decide (xs = ys)
  | [], [] => by simp only [List.map_nil, PyData.eqvAll, decide_true]
  | [], _ :: _ => by simp [PyData.eqvAll]
  | _ :: _, [] => by simp [PyData.eqvAll]
  | x :: xs, y :: ys => by
    rw [List.map_cons, List.map_cons, PyData.eqvAll, PyData.eqv, eqvA_str xs ys]
    by_cases e : x = y
    · subst e
      simp
    · have : (x == y) = false := beq_eq_false_iff_ne.mpr e
      rw [this]
      simp [e]
theorem eqD_str (xs ys : List Str) : PyData.eqv (.list (xs.map PyData.str)) (.list (ys.map PyData.str)) = decide (xs = ys) := by
  rw [PyData.eqv]
  exact eqvA_str xs ys
/-- a tuple put behind a list -/
theorem snoc_tp {α : Type} {enc : α → List V} {H H' : Hp} {F p : Addr} {acc : List V} {xs : List α} (e : Ex H H') (nF : H F = none) (hF : H' F = some (.lst acc)) (hA : LsR (TpR enc) H' acc xs) (np : H' p = none) (x : α) :
    Ex H (upd (upd H' p (.tup (enc x))) F (.lst (acc ++ [.ref p]))) ∧ LsR (TpR enc) (upd (upd H' p (.tup (enc x))) F (.lst (acc ++ [.ref p]))) (acc ++ [.ref p]) (xs ++ [x]) := by
  have n : p ≠ F := fun q => by rw [q] at np; rw [hF] at np; cases np
  refine ⟨Evl.Ex.mut (e.trans (Evl.Ex.new np)) nF, ?_⟩
  have h1 : LsR (TpR enc) (upd H' p (.tup (enc x))) (acc ++ [.ref p]) (xs ++ [x]) := (hA.mono stb_tp (Evl.Ex.new np)).snoc ⟨p, rfl, upd_same⟩
  exact h1.monoD std_tp ⟨acc, by rw [upd_ne n.symm]; exact hF⟩ ExB.upd
end Ms

set_option maxHeartbeats 4000000
namespace Ms
open PySem PySem.Spec PyProof.Rows L2
open Evl (Ex)
open C8 (Cal Mak Met pe_c pe_mk pe_mt pe_mt0 pe_gc)
section
variable {P : Program} {w : World} {K : PySem.W.Frag} {mg : Str → Option Value} {base : Heap} {C : Addr}
abbrev scheck_flows : Stmt := top 15
abbrev ncheck_flows : List Str := ["plant", "flows", "names", "name"]
theorem sccheck_flows : FnScope ncheck_flows ["plant", "flows"] (defScope scheck_flows) := ⟨rfl, rfl, rfl, by decide +kernel, rfl, by decide +kernel, by decide +kernel⟩
def spCheckFlows (C : Addr) : Sp := fun vs H Q _ => ∃ (p a : Addr) (kn : List Str) (ss : List Sm) (ks : List Str) (v : Str → V), vs = [.ref p, .ref a] ∧ Pl C H p kn ss ∧ H a = some (.dK (DR ks v)) ∧ (∀ n, n ∈ ks ↔ n ∈ ss.map (·.n)) ∧ ks.length ≤ 100 ∧ Giv .non H Q
theorem ok_check_flows (d : Dn K mg "check_flows" scheck_flows ["plant", "flows"]) (G : Glb mg) (c_stream_names : Met P w K mg base 1 C "stream_names" (spStreamNames C) []) : Cal P w K mg base 2 "check_flows" (spCheckFlows C) [] := by
  refine d.cal sccheck_flows (fun vs H Q E h => ?_) (fun f cdv A outer s H vs Q E hr h => ?_)
  · obtain ⟨p, a, kn, ss, ks, v, rfl, _⟩ := h
    rfl
  · obtain ⟨p, a, kn, ss, ks, v, rfl, hp, ha, hk, hz, k⟩ := h
    refine ⟨_, (pss_cons (ps_set (i := 2) sccheck_flows.nd rfl (by first | exact .inl rfl | exact .inr rfl) (pe_mt0 c_stream_names hr (by decide) (pv 0)))
      (pss_one (ps_for PassesOwn.never rfl (pi_list (pe_callB (cr_sortedX rfl) (by rfl) G.sorted (by decide +kernel) (pa_cons (pe_callTy (cr_setX rfl) (by rfl) G.set (by decide +kernel) (pa_cons (pe_op op_cat (pv 2) (pe_callTy (call_list_dK rfl) (by rfl) G.list (by decide +kernel) (pa_cons (pv 1) pa_nil))) pa_nil)) pa_nil))) (pg_name (i := 3) sccheck_flows.nd rfl (by first | exact .inl rfl | exact .inr rfl))
      (pss_one (ps_if (PW.pt (pw_or (pt_cmpR (notIn_seqK K) (pv 3) (pv 2) rfl) (pw_or1 (pt_cmp (pc_dnotin (hu_of hr) (pv 3) (pv 1)))))) (pss_one ps_never) pss_nil))))), ?_⟩
    obtain ⟨⟨dx, b1, b2, ws, h1, h2, h3, h4⟩, ok⟩ := hp
    refine ⟨_, rfl, p, dx, _, rfl, h1, pf_no (by decide +kernel) (by decide +kernel), p, kn, ss, rfl, ⟨dx, b1, b2, ws, h1, h2, h3, h4⟩, by have := ok.su; omega, fun a1 H1 n1 e1 h1' => ?_⟩
    have su := ok.su
    have hl : (ss.map (·.n)).length ≤ 60 := by rw [List.length_map]; exact su
    have lk : (ks.map V.str).length ≤ 100 := by rw [List.length_map]; exact hz
    have ls : ((ss.map (·.n)).map V.str).length ≤ 60 := by rw [List.length_map]; exact hl
    refine ⟨_, rfl, _, rfl, a, _, rfl, e1 _ _ ha, fun q nq => ?_⟩
    rw [dr_list]
    refine ⟨a1, q, _, _, rfl, rfl, Evl.Ex.new nq _ _ h1', upd_same, sz1 (by omega), fun r nr => ?_⟩
    rw [← List.map_append]
    refine ⟨r, _, rfl, .inl (.inl upd_same), by rw [List.length_append]; omega, fun t S n nt got => ?_⟩
    refine ⟨t, S, n, rfl, upd_same, Nat.le_trans got.le (by rw [List.length_append]; omega), fun ys z hy hyl nz => ?_⟩
    have e2 : Ex H1 (upd (upd (upd (upd H1 q (.lst (ks.map V.str))) r (.lst ((ss.map (·.n) ++ ks).map V.str))) t (SetXO w t S n)) z (.lst (ys.map V.str))) := (((Evl.Ex.new nq).trans (Evl.Ex.new nr)).trans (Evl.Ex.new nt)).trans (Evl.Ex.new nz)
    refine ⟨z, rfl, ⟨_, SqL.of upd_same⟩, ?_⟩
    refine for_J (B := upd (upd (upd (upd H1 q (.lst (ks.map V.str))) r (.lst ((ss.map (·.n) ++ ks).map V.str))) t (SetXO w t S n)) z (.lst (ys.map V.str))) (gv_list (SqL.of upd_same) (str_ls _ ys)) (fun i σ H' => (∃ o, σ = [some (.ref p), some (.ref a), some (.ref a1), o]) ∧ Ex (upd (upd (upd (upd H1 q (.lst (ks.map V.str))) r (.lst ((ss.map (·.n) ++ ks).map V.str))) t (SetXO w t S n)) z (.lst (ys.map V.str))) H') ⟨⟨_, rfl⟩, Evl.Ex.refl _⟩ (fun i σ H' h => h.2) (fun i x y σ H' hy' hx hI => ?_) (fun σ H' hI => ?_)
    · obtain ⟨⟨o, rfl⟩, e3⟩ := hI
      subst hx
      have hm : y ∈ ss.map (·.n) := by
        have h5 := (got.mem y).mp (hy y (List.mem_of_getElem? hy'))
        rw [List.take_length] at h5
        rcases List.mem_append.mp h5 with h5 | h5
        · exact h5
        · exact (hk y).mp h5
      refine ⟨_, rfl, _, rfl, a1, _, rfl, .inl (SqL.of (e3 _ _ (e2 _ _ h1'))), rfl, flat_strs _, _, rfl, itF ?_ ?_⟩
      · rw [if_pos rfl, inV_str, decide_eq_true hm]
        rfl
      · exact ⟨_, rfl, _, rfl, a, _, rfl, dr_get (.inl (e3 _ _ (e2 _ _ (e1 _ _ ha)))) ((hk y).mpr hm), _, rfl, itF rfl ⟨⟨_, rfl⟩, e3⟩⟩
    · exact k _ ((e1.trans e2).trans hI.2)
abbrev slacks : Stmt := top 16
abbrev nlacks : List Str := ["plant", "flows", "found", "name", "tail", "head", "_", "knot"]
theorem sclacks : FnScope nlacks ["plant", "flows"] (defScope slacks) := ⟨rfl, rfl, rfl, by decide +kernel, rfl, by decide +kernel, by decide +kernel⟩
def spLacks (C : Addr) : Sp := fun vs H Q _ => ∃ (p a : Addr) (kn : List Str) (ss : List Sm) (ks : List Str) (fl : Str → Int), vs = [.ref p, .ref a] ∧ Pl C H p kn ss ∧ FlH H a ks fl ∧ (∀ n, n ∈ ks ↔ n ∈ ss.map (·.n)) ∧ ks.length ≤ 100 ∧ GivD kn (fun k => .int (MsM.exc (lnS ss) fl k)) H Q
theorem ok_lacks (d : Dn K mg "lacks" slacks ["plant", "flows"]) (G : Glb mg) (c_check_flows : Cal P w K mg base 2 "check_flows" (spCheckFlows C) []) (p_knots : Prb P w K mg base 1 C "knots" (spKnots C)) (p_streams : Prb P w K mg base 1 C "streams" (spStreams C)) : Cal P w K mg base 3 "lacks" (spLacks C) [] := by
  refine d.cal sclacks (fun vs H Q E h => ?_) (fun f cdv A outer s H vs Q E hr h => ?_)
  · obtain ⟨p, a, kn, ss, ks, fl, rfl, _⟩ := h
    rfl
  · obtain ⟨p, a, kn, ss, ks, fl, rfl, hp, ha, hk, hz, k⟩ := h
    refine ⟨_, (pss_cons (ps_expr (pe_c c_check_flows hr (by decide) rfl (pa_cons (pv 0) (pa_cons (pv 1) pa_nil))))
      (pss_cons (ps_setDc (i := 2) (own := [("knot", 7)]) rfl sclacks.nd rfl rfl (swd_true rfl rfl rfl (by decide +kernel)) (pi_list (pe_pr p_knots hr (by decide) (pv 0) rfl)) (blkOk_by (N := nlacks) (sc := defScope slacks) (by decide +kernel)) (fun _ _ _ _ _ => (pg_name (i := 7) sclacks.nd rfl (by first | exact .inl rfl | exact .inr rfl))) (fun _ _ _ _ _ => pts_nil) (fun _ _ _ _ _ => (pv 7)) (fun _ _ _ _ _ => pe_int))
      (pss_cons (ps_for PassesOwn.never rfl (pi_list (pe_pr p_streams hr (by decide) (pv 0) rfl)) (pg_tupK K (n := 5) rfl (pgs_cons (pg_name (i := 3) sclacks.nd rfl (by first | exact .inl rfl | exact .inr rfl)) (pgs_cons (pg_name (i := 4) sclacks.nd rfl (by first | exact .inl rfl | exact .inr rfl)) (pgs_cons (pg_name (i := 5) sclacks.nd rfl (by first | exact .inl rfl | exact .inr rfl)) (pgs_cons (pg_name (i := 6) sclacks.nd rfl (by first | exact .inl rfl | exact .inr rfl)) (pgs_cons (pg_name (i := 6) sclacks.nd rfl (by first | exact .inl rfl | exact .inr rfl)) pgs_nil))))))
      (pss_cons (ps_daug (hu_of hr) (pv 2) (pv 4) (pe_dget (hu_of hr) (pv 1) (pv 3) (fun _ _ => rfl)) in_sub (fun _ _ _ => rfl))
      (pss_one (ps_daug (hu_of hr) (pv 2) (pv 5) (pe_dget (hu_of hr) (pv 1) (pv 3) (fun _ _ => rfl)) in_add (fun _ _ _ => rfl)))))
      (pss_one (ps_ret (pv 2)))))), ?_⟩
    refine ⟨_, rfl, _, rfl, p, a, kn, ss, ks, _, rfl, hp, ha, hk, hz, fun H1 e1 => ?_⟩
    have ok := hp.ok
    obtain ⟨dx, _, _, _, h1, _⟩ := hp.r
    refine ⟨_, rfl, p, dx, _, rfl, e1 _ _ h1, p, kn, ss, rfl, hp.r.mono e1, fun a2 H2 n2 e2 h2 => ?_⟩
    refine ⟨a2, rfl, ⟨_, SqL.of h2⟩, ?_⟩
    refine dc_J (J := Itl K a2) (fun v (x : Str) _ => v = V.str x) id (fun _ => .int 0) (gv_list (SqL.of h2) (str_ls _ _)) (by have := ok.ku; omega) (by rw [List.map_id]; exact ok.knd) (fun x c H' Y ex hc e hY => ?_) (fun D H3 n3 e3 h3 => ?_)
    · subst ex
      exact ⟨rfl, _, rfl, hY _ (Evl.Ex.refl _)⟩
    rw [List.map_id] at h3
    have e13 := (e1.trans e2).trans e3
    refine ⟨_, rfl, p, dx, _, rfl, e13 _ _ h1, p, kn, ss, rfl, hp.r.mono e13, fun a4 ws H4 n4 e4 h4 hl4 => ?_⟩
    refine ⟨a4, rfl, ⟨_, SqL.of h4⟩, ?_⟩
    have nD : H D = none := Ex.free (e1.trans e2) n3
    have na4 : a4 ≠ D := fun q => by rw [q] at n4; rw [h3] at n4; cases n4
    have eH4 : Ex H (wo H4 D) := fun b o hb => by
      rw [wo_ne (ne_of_none hb nD)]
      exact (e13.trans e4) _ _ hb
    have hws : LsR (TpR encS) (wo H4 D) ws ss := ⟨hl4.1, fun i v hv => by
      obtain ⟨x, hx, t, ev, ht⟩ := hl4.2 i v hv
      refine ⟨x, hx, t, ev, ?_⟩
      rw [wo_ne (ne_of ht (e4 _ _ h3) (by intro z; cases z))]
      exact ht⟩
    refine for_J (J := Itl K a4) (B := wo H4 D) (gv_list (SqL.of (by rw [wo_ne na4]; exact h4)) hws) (fun i σ H' => (∃ o3 o4 o5 o6 o7, σ = [some (.ref p), some (.ref a), some (.ref D), o3, o4, o5, o6, o7]) ∧ Ex (wo H4 D) H' ∧ H' D = some (.dK (DR kn fun k => .int (MsM.exc (lnS (ss.take i)) fl k))))
      ⟨⟨_, _, _, _, _, rfl⟩, wo_ex, by rw [e4 _ _ h3]; rfl⟩ (fun i σ H' h => h.2.1) (fun i x c σ H' hc hx hI => ?_) (fun σ H' hI => ?_)
    · obtain ⟨⟨o3, o4, o5, o6, o7, rfl⟩, e5, h5⟩ := hI
      obtain ⟨t, rfl, ht⟩ := hx
      have hcm : c ∈ ss := List.mem_of_getElem? hc
      obtain ⟨_, ct, ch, _⟩ := ok.sok c hcm
      have fl5 : FlH H' a ks fl := (ha.mono eH4).mono e5
      have hn : c.n ∈ ks := (hk _).mpr (List.mem_map_of_mem hcm)
      refine ⟨t, _, rfl, SqT.of (e5 _ _ ht), rfl, _, _, rfl, _, _, rfl, _, _, rfl, _, _, rfl, _, _, rfl, rfl, ?_⟩
      refine ⟨_, rfl, _, rfl, D, _, rfl, dr_get (.inl h5) ct, _, rfl, _, rfl, a, _, rfl, dr_get (.inl fl5) hn, _, _, rfl, rfl, _, dr_put h5 ct (by have := ok.ku; omega), ?_⟩
      have aD : a ≠ D := ne_of_none ha nD
      refine ⟨_, rfl, _, rfl, D, _, rfl, dr_get (.inl upd_same) ch, _, rfl, _, rfl, a, _, rfl, dr_get (.inl (by rw [upd_ne aD]; exact fl5)) hn, ?_⟩
      refine ⟨if c.h = c.t then MsM.exc (lnS (ss.take i)) fl c.t - fl c.n else MsM.exc (lnS (ss.take i)) fl c.h, fl c.n, ?_, rfl, _, dr_put upd_same ch (by have := ok.ku; omega), ⟨_, _, _, _, _, rfl⟩, ?_, ?_⟩
      · split <;> rfl
      · exact Evl.Ex.mut (Evl.Ex.mut e5 wo_none) wo_none
      · rw [upd_same]
        refine congrArg (fun z => some (HO.dK z)) (dr_congr fun m hm => ?_)
        have eL : lnS (ss.take (i + 1)) = lnS (ss.take i) ++ [⟨c.n, c.t, c.h⟩] := by
          rw [take_snoc hc]
          unfold lnS
          rw [List.map_append]
          rfl
        rw [eL]
        exact lack_step (lnS (ss.take i)) c fl m
    · obtain ⟨⟨o3, o4, o5, o6, o7, rfl⟩, e5, h5⟩ := hI
      rw [List.take_length] at h5
      exact ⟨_, rfl, k D H' nD (eH4.trans e5) h5⟩
abbrev sis_balanced : Stmt := top 17
abbrev nis_balanced : List Str := ["plant", "flows", "number"]
theorem scis_balanced : FnScope nis_balanced ["plant", "flows"] (defScope sis_balanced) := ⟨rfl, rfl, rfl, by decide +kernel, rfl, by decide +kernel, by decide +kernel⟩
def spIsBalanced (C : Addr) : Sp := fun vs H Q _ => ∃ (p a : Addr) (kn : List Str) (ss : List Sm) (ks : List Str) (fl : Str → Int), vs = [.ref p, .ref a] ∧ Pl C H p kn ss ∧ FlH H a ks fl ∧ (∀ n, n ∈ ks ↔ n ∈ ss.map (·.n)) ∧ ks.length ≤ 100 ∧ Giv (.bl (kn.all fun k => decide (MsM.exc (lnS ss) fl k = 0))) H Q
theorem ok_is_balanced (d : Dn K mg "is_balanced" sis_balanced ["plant", "flows"]) (G : Glb mg) (c_lacks : Cal P w K mg base 3 "lacks" (spLacks C) []) : Cal P w K mg base 4 "is_balanced" (spIsBalanced C) [] := by
  refine d.cal scis_balanced (fun vs H Q E h => ?_) (fun f cdv A outer s H vs Q E hr h => ?_)
  · obtain ⟨p, a, kn, ss, ks, fl, rfl, _⟩ := h
    rfl
  · obtain ⟨p, a, kn, ss, ks, fl, rfl, hp, ha, hk, hz, k⟩ := h
    refine ⟨_, (pss_one (ps_ret (pe_callB (cr_all rfl) (by rfl) G.all (by decide +kernel) (pa_cons (pe_lc (own := [("number", 2)]) rfl scis_balanced.nd (pi_values (pe_frz (pe_c c_lacks hr (by decide) rfl (pa_cons (pv 0) (pa_cons (pv 1) pa_nil))))) (blkOk_by (N := nis_balanced) (sc := defScope sis_balanced) (by decide +kernel)) (fun _ _ _ _ _ => (pg_name (i := 2) scis_balanced.nd rfl (by first | exact .inl rfl | exact .inr rfl))) (fun _ _ _ _ _ => pts_nil) (fun _ _ _ _ _ => (pe_cmpR op_eq (pv 2) pe_int (nomark _)))) pa_nil)))), ?_⟩
    refine ⟨_, rfl, _, rfl, p, a, kn, ss, ks, fl, rfl, hp, ha, hk, hz, fun D H1 nD e1 h1 => ?_⟩
    refine ⟨D, _, rfl, h1, trivial, fun od => ⟨D, od, _, rfl, upd_same, ?_⟩⟩
    refine lc_J (J := Itd D od _) (fun x n _ => x = V.int (MsM.exc (lnS ss) fl n)) (fun _ v b _ => v = V.bl b) (fun _ => std_bl) (fun n => some (decide (MsM.exc (lnS ss) fl n = 0))) (gv_vals upd_same) (by have := hp.ok.ku; omega) (fun D2 x c H' T Y _ _ ex hc e _ hY => ?_) (fun D2 ys H' hn e hy hl => ?_)
    · subst ex
      refine ⟨rfl, _, rfl, rfl, hY _ rfl _ _ (Evl.Ex.refl _) ?_⟩
      show V.bl (decide (V.int _ = V.int 0)) = V.bl _
      congr 1
      exact decide_eq_decide.mpr ⟨fun z => V.int.inj z, fun z => congrArg V.int z⟩
    · rw [filterMap_some] at hl
      refine ⟨D2, _, rfl, .inl (.inl (by rw [hy, ls_bl hl])), ?_⟩
      rw [List.all_map]
      exact k H' ((Evl.Ex.mut e1 nD).trans e)
abbrev sis_lot : Stmt := top 18
abbrev nis_lot : List Str := ["plant", "lot", "knot"]
theorem scis_lot : FnScope nis_lot ["plant", "lot"] (defScope sis_lot) := ⟨rfl, rfl, rfl, by decide +kernel, rfl, by decide +kernel, by decide +kernel⟩
def spIsLot (K : PySem.W.Frag) (C : Addr) : Sp := fun vs H Q _ => ∃ (p a : Addr) (kn : List Str) (ss : List Sm) (lot : List Str), vs = [.ref p, .ref a] ∧ Pl C H p kn ss ∧ SqL K H a (lot.map V.str) ∧ (∀ x ∈ lot, PyData.strOk x = true) ∧ Giv (.bl (decide (lot = kn.filter fun x => decide (x ∈ lot)))) H Q
theorem ok_is_lot (d : Dn K mg "is_lot" sis_lot ["plant", "lot"]) (G : Glb mg) (p_knots : Prb P w K mg base 1 C "knots" (spKnots C)) : Cal P w K mg base 3 "is_lot" (spIsLot K C) [] := by
  refine d.cal scis_lot (fun vs H Q E h => ?_) (fun f cdv A outer s H vs Q E hr h => ?_)
  · obtain ⟨p, a, kn, ss, lot, rfl, _⟩ := h
    rfl
  · obtain ⟨p, a, kn, ss, lot, rfl, hp, ha, hs, k⟩ := h
    refine ⟨_, (pss_one (ps_ret (pe_cmpR (op_eqD hr.units) (pv 1) (pe_lc (own := [("knot", 2)]) rfl scis_lot.nd (pi_list (pe_pr p_knots hr (by decide) (pv 0) rfl)) (blkOk_by (N := nis_lot) (sc := defScope sis_lot) (by decide +kernel)) (fun _ _ _ _ _ => (pg_name (i := 2) scis_lot.nd rfl (by first | exact .inl rfl | exact .inr rfl))) (fun _ _ _ _ _ => (pts_one (pt_cmpR (in_seqK K) (pv 2) (pv 1) rfl))) (fun _ _ _ _ _ => (pv 2))) (nomark _)))), ?_⟩
    have ok := hp.ok
    obtain ⟨dx, _, _, _, h1, _⟩ := hp.r
    refine ⟨_, rfl, _, rfl, p, dx, _, rfl, h1, p, kn, ss, rfl, hp.r, fun a2 H2 n2 e2 h2 => ?_⟩
    refine ⟨a2, rfl, ⟨_, SqL.of h2⟩, ?_⟩
    refine lc_J (J := Itl K a2) (fun v (x : Str) _ => v = V.str x) (fun _ v x _ => v = V.str x) (fun _ => std_str) (fun s => if s ∈ lot then some s else none) (gv_list (SqL.of h2) (str_ls _ _)) (by have := ok.ku; omega) (fun D x c H' T Y _ _ ex hc e hT hY => ?_) (fun D ys H' hn e hy hl => ?_)
    · subst ex
      refine ⟨rfl, _, rfl, _, rfl, a, _, rfl, .inl (Ex.seq (e2.trans e) ha), rfl, flat_strs _, _, rfl, ?_⟩
      rw [if_neg Bool.false_ne_true, inV_str]
      refine ite2 (fun q => ?_) (fun q => ?_)
      · exact ⟨_, rfl, hY c (if_pos (of_decide_eq_true q)) _ _ (Evl.Ex.refl _) rfl⟩
      · exact hT (if_neg fun z => q (decide_eq_true z)) _ (Evl.Ex.refl _)
    · have e0 : (kn.filterMap fun s => if s ∈ lot then some s else none) = (kn.filter fun s => decide (s ∈ lot)) := by
        rw [fm_if (fun s => s ∈ lot) (fun s => s), List.map_id']
      rw [e0] at hl
      refine ⟨_, _, .lst (Ex.seq (e2.trans e) ha) (dpAll_str lot), .lst (SqL.of (by rw [hy, ls_str hl])) (dpAll_str _), shaped_str hs, shaped_str fun x hx => (ok.kok x (List.mem_filter.mp hx).1).str, ?_⟩
      rw [eqD_str]
      exact k _ (e2.trans e)
abbrev slines_of : Stmt := top 20
abbrev nlines_of : List Str := ["plant", "name", "tail", "head", "_"]
theorem sclines_of : FnScope nlines_of ["plant"] (defScope slines_of) := ⟨rfl, rfl, rfl, by decide +kernel, rfl, by decide +kernel, by decide +kernel⟩
def spLinesOf (C : Addr) : Sp := fun vs H Q _ => ∃ (p : Addr) (kn : List Str) (ss : List Sm), vs = [.ref p] ∧ Pl C H p kn ss ∧ GivT encL (lnO ss) H Q
theorem ok_lines_of (d : Dn K mg "lines_of" slines_of ["plant"]) (G : Glb mg) (p_streams : Prb P w K mg base 1 C "streams" (spStreams C)) : Cal P w K mg base 3 "lines_of" (spLinesOf C) [] := by
  refine d.cal sclines_of (fun vs H Q E h => ?_) (fun f cdv A outer s H vs Q E hr h => ?_)
  · obtain ⟨p, kn, ss, rfl, _⟩ := h
    rfl
  · obtain ⟨p, kn, ss, rfl, hp, k⟩ := h
    refine ⟨_, (pss_one (ps_ret (pe_lc (own := [("name", 1), ("tail", 2), ("head", 3), ("_", 4)]) rfl sclines_of.nd (pi_list (pe_pr p_streams hr (by decide) (pv 0) rfl)) (blkOk_by (N := nlines_of) (sc := defScope slines_of) (by decide +kernel)) (fun _ _ _ _ _ => (pg_tupK K (n := 5) rfl (pgs_cons (pg_name (i := 1) sclines_of.nd rfl (by first | exact .inl rfl | exact .inr rfl)) (pgs_cons (pg_name (i := 2) sclines_of.nd rfl (by first | exact .inl rfl | exact .inr rfl)) (pgs_cons (pg_name (i := 3) sclines_of.nd rfl (by first | exact .inl rfl | exact .inr rfl)) (pgs_cons (pg_name (i := 4) sclines_of.nd rfl (by first | exact .inl rfl | exact .inr rfl)) (pgs_cons (pg_name (i := 4) sclines_of.nd rfl (by first | exact .inl rfl | exact .inr rfl)) pgs_nil))))))) (fun _ _ _ _ _ => (pts_one (pt_cmpR op_ne (pv 2) (pv 3) (nomark _)))) (fun _ _ _ _ _ => (pe_tup (pa_cons (pv 1) (pa_cons (pv 2) (pa_cons (pv 3) pa_nil)))))))), ?_⟩
    have ok := hp.ok
    obtain ⟨dx, _, _, _, h1, _⟩ := hp.r
    refine ⟨_, rfl, p, dx, _, rfl, h1, p, kn, ss, rfl, hp.r, fun a2 ws H2 n2 e2 h2 hl2 => ?_⟩
    refine ⟨a2, rfl, ⟨_, SqL.of h2⟩, ?_⟩
    refine lc_J (J := Itl K a2) (TpR encS) (fun _ => TpR encL) (fun _ => std_tp) (fun s => if ¬ s.t = s.h then some (⟨s.n, s.t, s.h⟩ : Ln) else none) (gv_list (SqL.of h2) hl2) (by have := ok.su; omega) (fun D x c H' T Y _ _ ex hc e hT hY => ?_) (fun D ys H' hn e hy hl => ?_)
    · obtain ⟨t, rfl, ht⟩ := ex
      refine ⟨t, _, rfl, SqT.of (e _ _ ht), rfl, _, _, rfl, _, _, rfl, _, _, rfl, _, _, rfl, _, _, rfl, rfl, rfl, ?_⟩
      refine ⟨_, rfl, _, rfl, rfl, _, rfl, ite2 (fun q => ?_) (fun q => ?_)⟩
      · have q2 : ¬ c.t = c.h := fun z => by
          have q : (!decide (V.str c.t = V.str c.h)) = true := q
          rw [decide_eq_true (congrArg V.str z)] at q
          cases q
        exact ⟨_, rfl, _, rfl, _, rfl, sz1 (by show 3 ≤ 100000; decide), fun p np => hY _ (if_pos q2) _ _ (Evl.Ex.new np) ⟨p, rfl, upd_same⟩⟩
      · have q2 : ¬ ¬ c.t = c.h := fun z => q (by
          show (!decide (V.str c.t = V.str c.h)) = true
          rw [decide_eq_false fun y => z (V.str.inj y)]
          rfl)
        exact hT (if_neg q2) _ (Evl.Ex.refl _)
    · have e0 : (ss.filterMap fun s => if ¬ s.t = s.h then some (⟨s.n, s.t, s.h⟩ : Ln) else none) = lnO ss := by
        rw [fm_if (fun s : Sm => ¬ s.t = s.h) (fun s => (⟨s.n, s.t, s.h⟩ : Ln))]
        unfold lnO lnS
        rw [List.filter_map]
        congr 1
        refine List.filter_congr fun s _ => ?_
        show decide (¬ s.t = s.h) = !decide (s.t = s.h)
        exact decide_not
      rw [e0] at hl
      exact k D ys H' (Ex.free e2 hn) (e2.trans e) hy hl
abbrev sparted_lines : Stmt := top 21
abbrev nparted_lines : List Str := ["plant", "knot", "name", "tail", "head", "_"]
theorem scparted_lines : FnScope nparted_lines ["plant", "knot"] (defScope sparted_lines) := ⟨rfl, rfl, rfl, by decide +kernel, rfl, by decide +kernel, by decide +kernel⟩
def spParted (C : Addr) : Sp := fun vs H Q _ => ∃ (p : Addr) (kn : List Str) (ss : List Sm) (x : Str), vs = [.ref p, .str x] ∧ Pl C H p kn ss ∧ GivT encL (lnP x ss) H Q
theorem ok_parted_lines (d : Dn K mg "parted_lines" sparted_lines ["plant", "knot"]) (G : Glb mg) (p_streams : Prb P w K mg base 1 C "streams" (spStreams C)) : Cal P w K mg base 3 "parted_lines" (spParted C) [] := by
  refine d.cal scparted_lines (fun vs H Q E h => ?_) (fun f cdv A outer s H vs Q E hr h => ?_)
  · obtain ⟨p, kn, ss, x, rfl, _⟩ := h
    rfl
  · obtain ⟨p, kn, ss, x, rfl, hp, k⟩ := h
    refine ⟨_, (pss_one (ps_ret (pe_lc (own := [("name", 2), ("tail", 3), ("head", 4), ("_", 5)]) rfl scparted_lines.nd (pi_list (pe_pr p_streams hr (by decide) (pv 0) rfl)) (blkOk_by (N := nparted_lines) (sc := defScope sparted_lines) (by decide +kernel)) (fun _ _ _ _ _ => (pg_tupK K (n := 5) rfl (pgs_cons (pg_name (i := 2) scparted_lines.nd rfl (by first | exact .inl rfl | exact .inr rfl)) (pgs_cons (pg_name (i := 3) scparted_lines.nd rfl (by first | exact .inl rfl | exact .inr rfl)) (pgs_cons (pg_name (i := 4) scparted_lines.nd rfl (by first | exact .inl rfl | exact .inr rfl)) (pgs_cons (pg_name (i := 5) scparted_lines.nd rfl (by first | exact .inl rfl | exact .inr rfl)) (pgs_cons (pg_name (i := 5) scparted_lines.nd rfl (by first | exact .inl rfl | exact .inr rfl)) pgs_nil))))))) (fun _ _ _ _ _ => pts_nil) (fun _ _ _ _ _ => (pe_tup (pa_cons (pv 2) (pa_cons (pe_ifExp (pt_cmpR op_eq (pv 3) (pv 1) (nomark _)) pe_str (pv 3)) (pa_cons (pv 4) pa_nil)))))))), ?_⟩
    have ok := hp.ok
    obtain ⟨dx, _, _, _, h1, _⟩ := hp.r
    refine ⟨_, rfl, p, dx, _, rfl, h1, p, kn, ss, rfl, hp.r, fun a2 ws H2 n2 e2 h2 hl2 => ?_⟩
    refine ⟨a2, rfl, ⟨_, SqL.of h2⟩, ?_⟩
    refine lc_J (J := Itl K a2) (TpR encS) (fun _ => TpR encL) (fun _ => std_tp) (fun s => some (⟨s.n, if s.t = x then "" else s.t, s.h⟩ : Ln)) (gv_list (SqL.of h2) hl2) (by have := ok.su; omega) (fun D v c H' T Y _ _ ex hc e hT hY => ?_) (fun D ys H' hn e hy hl => ?_)
    · obtain ⟨t, rfl, ht⟩ := ex
      refine ⟨t, _, rfl, SqT.of (e _ _ ht), rfl, _, _, rfl, _, _, rfl, _, _, rfl, _, _, rfl, _, _, rfl, rfl, rfl, ?_⟩
      refine ⟨_, rfl, _, rfl, _, rfl, rfl, _, rfl, ite2 (fun q => ?_) (fun q => ?_)⟩
      · have q2 : c.t = x := V.str.inj (of_decide_eq_true q)
        exact ⟨_, rfl, sz1 (by show 3 ≤ 100000; decide), fun p np => hY _ rfl _ _ (Evl.Ex.new np) ⟨p, rfl, by rw [upd_same]; unfold encL; rw [if_pos q2]⟩⟩
      · have q2 : ¬ c.t = x := fun z => q (decide_eq_true (congrArg V.str z))
        exact ⟨_, rfl, _, rfl, sz1 (by show 3 ≤ 100000; decide), fun p np => hY _ rfl _ _ (Evl.Ex.new np) ⟨p, rfl, by rw [upd_same]; unfold encL; rw [if_neg q2]⟩⟩
    · rw [filterMap_some] at hl
      exact k D ys H' (Ex.free e2 hn) (e2.trans e) hy hl
abbrev sarcs_of : Stmt := top 22
abbrev narcs_of : List Str := ["lines", "limits", "flows", "found", "name", "tail", "head", "low", "high"]
theorem scarcs_of : FnScope narcs_of ["lines", "limits", "flows"] (defScope sarcs_of) := ⟨rfl, rfl, rfl, by decide +kernel, rfl, by decide +kernel, by decide +kernel⟩
def spArcsOf (K : PySem.W.Frag) : Sp := fun vs H Q _ => ∃ (l m a : Addr) (ls : List Ln) (km kf : List Str) (lo hi fl : Str → Int), vs = [.ref l, .ref m, .ref a] ∧ LsT K encL H l ls ∧ LmH H m km lo hi ∧ FlH H a kf fl ∧ (∀ x ∈ ls, x.n ∈ km ∧ x.n ∈ kf) ∧ ls.length ≤ 100 ∧ GivT encA (arcsOf lo hi fl ls) H Q
theorem ok_arcs_of (d : Dn K mg "arcs_of" sarcs_of ["lines", "limits", "flows"]) (G : Glb mg) : Cal P w K mg base 1 "arcs_of" (spArcsOf K) [] := by
  refine d.cal scarcs_of (fun vs H Q E h => ?_) (fun f cdv A outer s H vs Q E hr h => ?_)
  · obtain ⟨l, m, a, ls, km, kf, lo, hi, fl, rfl, _⟩ := h
    rfl
  · obtain ⟨l, m, a, ls, km, kf, lo, hi, fl, rfl, ⟨ws, hl, hw⟩, ⟨g, hm, hg⟩, ha, hn, hz, k⟩ := h
    refine ⟨_, (pss_cons (ps_set (i := 3) scarcs_of.nd rfl (by first | exact .inl rfl | exact .inr rfl) (pe_lst pa_nil))
      (pss_cons (ps_for PassesOwn.never rfl (pi_list (pv 0)) (pg_tupK K (n := 3) rfl (pgs_cons (pg_name (i := 4) scarcs_of.nd rfl (by first | exact .inl rfl | exact .inr rfl)) (pgs_cons (pg_name (i := 5) scarcs_of.nd rfl (by first | exact .inl rfl | exact .inr rfl)) (pgs_cons (pg_name (i := 6) scarcs_of.nd rfl (by first | exact .inl rfl | exact .inr rfl)) pgs_nil))))
      (pss_cons (ps_asg (pe_dget (hu_of hr) (pv 1) (pv 4) (fun _ _ => rfl)) (pg_tupK K (n := 2) rfl (pgs_cons (pg_name (i := 7) scarcs_of.nd rfl (by first | exact .inl rfl | exact .inr rfl)) (pgs_cons (pg_name (i := 8) scarcs_of.nd rfl (by first | exact .inl rfl | exact .inr rfl)) pgs_nil))))
      (pss_cons (ps_if (pt_cmpR op_lt (pe_dget (hu_of hr) (pv 2) (pv 4) (fun _ _ => rfl)) (pv 8) (nomark _)) (pss_one (ps_expr (pe_bm PySem.F.plainAttrs_list PySem.F.slot_list_append PySem.F.type_list_append mt_append (pv 3) (pa_cons (pe_tup (pa_cons (pv 5) (pa_cons (pv 6) (pa_cons (pv 4) (pa_cons pe_int (pa_cons (pe_op op_sub (pv 8) (pe_dget (hu_of hr) (pv 2) (pv 4) (fun _ _ => rfl))) pa_nil)))))) pa_nil)))) pss_nil)
      (pss_one (ps_if (pt_cmpR op_gt (pe_dget (hu_of hr) (pv 2) (pv 4) (fun _ _ => rfl)) (pv 7) (nomark _)) (pss_one (ps_expr (pe_bm PySem.F.plainAttrs_list PySem.F.slot_list_append PySem.F.type_list_append mt_append (pv 3) (pa_cons (pe_tup (pa_cons (pv 6) (pa_cons (pv 5) (pa_cons (pv 4) (pa_cons (pe_un un_neg pe_int) (pa_cons (pe_op op_sub (pe_dget (hu_of hr) (pv 2) (pv 4) (fun _ _ => rfl)) (pv 7)) pa_nil)))))) pa_nil)))) pss_nil)))))
      (pss_one (ps_ret (pv 3))))), ?_⟩
    refine ⟨Nat.zero_le _, fun F nF => ?_⟩
    refine ⟨_, rfl, l, rfl, ⟨_, Ex.seq (Evl.Ex.new nF) hl⟩, ?_⟩
    refine for_J (J := Itl K l) (B := H) (gv_list hl hw) (fun i σ H' => (∃ o4 o5 o6 o7 o8, σ = [some (.ref l), some (.ref m), some (.ref a), some (.ref F), o4, o5, o6, o7, o8]) ∧ Ex H H' ∧ ∃ acc, H' F = some (.lst acc) ∧ LsR (TpR encA) H' acc (arcsOf lo hi fl (ls.take i)))
      ⟨⟨_, _, _, _, _, rfl⟩, Evl.Ex.new nF, [], upd_same, LsR.nil⟩ (fun i σ H' h => h.2.1) (fun i x c σ H' hc hx hI => ?_) (fun σ H' hI => ?_)
    · obtain ⟨⟨o4, o5, o6, o7, o8, rfl⟩, e, acc, hF, hA⟩ := hI
      obtain ⟨t, rfl, ht⟩ := hx
      have hcm : c ∈ ls := List.mem_of_getElem? hc
      obtain ⟨n1, n2⟩ := hn c hcm
      have fl1 : FlH H' a kf fl := ha.mono e
      have al : acc.length ≤ 200 := by
        rw [hA.1]
        refine Nat.le_trans arcs_len ?_
        rw [List.length_take]
        omega
      refine ⟨t, _, rfl, SqT.of (e _ _ ht), rfl, _, _, rfl, _, _, rfl, _, _, rfl, rfl, ?_⟩
      refine ⟨_, rfl, _, rfl, m, _, rfl, dr_get (.inl (e _ _ hm)) n1, g c.n, _, rfl, SqT.of (e _ _ (hg _ n1)), rfl, _, _, rfl, _, _, rfl, rfl, ?_⟩
      have am : a ≠ F := ne_of_none ha nF
      have e1 : arcsOf lo hi fl (ls.take (i + 1)) = arcsOf lo hi fl (ls.take i) ++ arcs1 lo hi fl c := by
        rw [take_snoc hc]
        unfold arcsOf
        rw [List.flatMap_append, List.flatMap_cons, List.flatMap_nil, List.append_nil]
      refine ⟨_, rfl, _, rfl, a, _, rfl, dr_get (.inl fl1) n2, _, rfl, _, _, rfl, rfl, _, rfl, ?_⟩
      by_cases q1 : fl c.n < hi c.n
      · refine itP q1 ?_
        refine ⟨_, rfl, .inl ⟨rfl, _, SqL.of hF⟩, _, rfl, _, rfl, _, rfl, _, rfl, _, rfl, _, rfl, a, _, rfl, dr_get (.inl fl1) n2, _, _, rfl, rfl, sz1 (by show 5 ≤ 100000; decide), fun p np => ?_⟩
        obtain ⟨e2, hA2⟩ := snoc_tp e nF hF hA np (⟨c.t, c.h, c.n, 1, hi c.n - fl c.n⟩ : Arc)
        have pF : p ≠ F := fun q => by rw [q] at np; rw [hF] at np; cases np
        refine ⟨F, acc, _, rfl, rfl, by rw [upd_ne pF.symm]; exact hF, Evl.sz_lt (by omega), ?_⟩
        have fl2 := ha.mono e2
        refine ⟨_, rfl, _, rfl, a, _, rfl, dr_get (.inl fl2) n2, _, rfl, _, _, rfl, rfl, _, rfl, ?_⟩
        by_cases q2 : lo c.n < fl c.n
        · refine itP q2 ?_
          refine ⟨_, rfl, .inl ⟨rfl, _, SqL.of upd_same⟩, _, rfl, _, rfl, _, rfl, _, rfl, _, rfl, _, rfl, a, _, rfl, dr_get (.inl fl2) n2, _, rfl, _, _, rfl, rfl, sz1 (by show 5 ≤ 100000; decide), fun p2 np2 => ?_⟩
          have pF2 : p2 ≠ F := fun q => by rw [q, upd_same] at np2; cases np2
          obtain ⟨e3, hA3⟩ := snoc_tp e2 nF upd_same hA2 np2 (⟨c.h, c.t, c.n, -1, fl c.n - lo c.n⟩ : Arc)
          refine ⟨F, _, _, rfl, rfl, by rw [upd_ne pF2.symm]; exact upd_same, Evl.sz_lt (by rw [List.length_append, List.length_singleton]; omega), ⟨_, _, _, _, _, rfl⟩, e3, _, upd_same, ?_⟩
          rw [e1]
          unfold arcs1
          rw [if_pos q1, if_pos q2, ← List.append_assoc]
          exact hA3
        · refine itN q2 ⟨⟨_, _, _, _, _, rfl⟩, e2, _, upd_same, ?_⟩
          rw [e1]
          unfold arcs1
          rw [if_pos q1, if_neg q2, List.append_nil]
          exact hA2
      · refine itN q1 ?_
        refine ⟨_, rfl, _, rfl, a, _, rfl, dr_get (.inl fl1) n2, _, rfl, _, _, rfl, rfl, _, rfl, ?_⟩
        by_cases q2 : lo c.n < fl c.n
        · refine itP q2 ?_
          refine ⟨_, rfl, .inl ⟨rfl, _, SqL.of hF⟩, _, rfl, _, rfl, _, rfl, _, rfl, _, rfl, _, rfl, a, _, rfl, dr_get (.inl fl1) n2, _, rfl, _, _, rfl, rfl, sz1 (by show 5 ≤ 100000; decide), fun p2 np2 => ?_⟩
          have pF2 : p2 ≠ F := fun q => by rw [q] at np2; rw [hF] at np2; cases np2
          obtain ⟨e3, hA3⟩ := snoc_tp e nF hF hA np2 (⟨c.h, c.t, c.n, -1, fl c.n - lo c.n⟩ : Arc)
          refine ⟨F, _, _, rfl, rfl, by rw [upd_ne pF2.symm]; exact hF, Evl.sz_lt (by omega), ⟨_, _, _, _, _, rfl⟩, e3, _, upd_same, ?_⟩
          rw [e1]
          unfold arcs1
          rw [if_neg q1, if_pos q2, List.nil_append]
          exact hA3
        · refine itN q2 ⟨⟨_, _, _, _, _, rfl⟩, e, _, hF, ?_⟩
          rw [e1]
          unfold arcs1
          rw [if_neg q1, if_neg q2, List.append_nil, List.append_nil]
          exact hA
    · obtain ⟨⟨o4, o5, o6, o7, o8, rfl⟩, e, acc, hF, hA⟩ := hI
      rw [List.take_length] at hA
      exact ⟨_, rfl, k F acc H' nF e hF hA⟩
end
end Ms

set_option maxHeartbeats 4000000
namespace Ms
open PySem PySem.Spec PyProof.Rows L2
open Evl (Ex)
open C8 (Cal Mak Met pe_c pe_mk pe_mt pe_mt0 pe_gc)
section
variable {P : Program} {w : World} {K : PySem.W.Frag} {mg : Str → Option Value} {base : Heap} {C : Addr}
abbrev scome_to : Stmt := top 29
abbrev ncome_to : List Str := ["pairs", "starts", "found", "waiting", "place", "one", "other"]
theorem sccome_to : FnScope ncome_to ["pairs", "starts"] (defScope scome_to) := ⟨rfl, rfl, rfl, by decide +kernel, rfl, by decide +kernel, by decide +kernel⟩
def spComeTo (K : PySem.W.Frag) : Sp := fun vs H Q _ => ∃ (l a : Addr) (prs : List (Str × Str)) (st : List Str), vs = [.ref l, .ref a] ∧ LsT K encP H l prs ∧ SqL K H a (st.map V.str) ∧ st.Nodup ∧ st.length ≤ 100 ∧ prs.length ≤ 300 ∧ GivF H Q
theorem ok_come_to (d : Dn K mg "come_to" scome_to ["pairs", "starts"]) (G : Glb mg) : Cal P w K mg base 1 "come_to" (spComeTo K) [] := by
  refine d.cal sccome_to (fun vs H Q E h => ?_) (fun f cdv A outer s H vs Q E hr h => ?_)
  · obtain ⟨l, a, prs, st, rfl, _⟩ := h
    rfl
  · obtain ⟨l, a, prs, st, rfl, ⟨ws, hl, hw⟩, ha, nd, zs, zp, k⟩ := h
    refine ⟨_, (pss_cons (ps_setDc (i := 2) (own := [("place", 4)]) rfl sccome_to.nd rfl rfl (swd_true rfl rfl rfl (by decide +kernel)) (pi_list (pv 1)) (blkOk_by (N := ncome_to) (sc := defScope scome_to) (by decide +kernel)) (fun _ _ _ _ _ => (pg_name (i := 4) sccome_to.nd rfl (by first | exact .inl rfl | exact .inr rfl))) (fun _ _ _ _ _ => pts_nil) (fun _ _ _ _ _ => (pv 4)) (fun _ _ _ _ _ => pe_bl))
      (pss_cons (ps_set (i := 3) sccome_to.nd rfl (by first | exact .inl rfl | exact .inr rfl) (pe_callTy call_list_of (by rfl) G.list (by decide +kernel) (pa_cons (pv 1) pa_nil)))
      (pss_cons (ps_while PassesOwn.never (pt_truth (pv 3) (by intro _; rfl))
      (pss_cons (ps_set (i := 4) sccome_to.nd rfl (by first | exact .inl rfl | exact .inr rfl) (pe_bm0 PySem.F.plainAttrs_list PySem.F.slot_list_pop PySem.F.type_list_pop mt_pop (pv 3)))
      (pss_one (ps_for PassesOwn.never rfl (pi_list (pv 0)) (pg_tupK K (n := 2) rfl (pgs_cons (pg_name (i := 5) sccome_to.nd rfl (by first | exact .inl rfl | exact .inr rfl)) (pgs_cons (pg_name (i := 6) sccome_to.nd rfl (by first | exact .inl rfl | exact .inr rfl)) pgs_nil)))
      (pss_one (ps_if (PW.pt (pw_and (pt_cmpR op_eq (pv 5) (pv 4) (nomark _)) (pw_and1 (pt_cmp (pc_dnotin (hu_of hr) (pv 6) (pv 2)))))) (pss_cons (ps_dput (hu_of hr) (pv 2) (pv 6) pe_bl rfl)
      (pss_one (ps_expr (pe_bm PySem.F.plainAttrs_list PySem.F.slot_list_append PySem.F.type_list_append mt_append (pv 3) (pa_cons (pv 6) pa_nil))))) pss_nil))))))
      (pss_one (ps_ret (pv 2)))))), ?_⟩
    refine ⟨_, rfl, a, rfl, ⟨_, ha⟩, ?_⟩
    refine dc_J (J := Itl K a) (fun v (x : Str) _ => v = V.str x) id (fun _ => .bl true) (gv_list ha (str_ls _ _)) (by omega) (by rw [List.map_id]; exact nd) (fun x c H' Y ex hc e hY => ?_) (fun D H1 nD e1 hD => ?_)
    · subst ex
      exact ⟨rfl, _, rfl, hY _ (Evl.Ex.refl _)⟩
    rw [List.map_id] at hD
    refine ⟨_, rfl, a, _, rfl, .inl (Ex.seq e1 ha), fun W nW => ?_⟩
    have WD : W ≠ D := fun q => by rw [q, hD] at nW; cases nW
    have nW0 : H W = none := Ex.free e1 nW
    have zu : (st ++ prs.map (·.2)).length ≤ 400 := by rw [List.length_append, List.length_map]; omega
    refine ⟨fun m σ H' => (∃ o4 o5 o6, σ = [some (.ref l), some (.ref a), some (.ref D), some (.ref W), o4, o5, o6]) ∧ Ex H H' ∧ ∃ fs wt : List Str, fs.Nodup ∧ (∀ x ∈ fs, x ∈ st ++ prs.map (·.2)) ∧ H' D = some (.dK (DR fs fun _ => .bl true)) ∧ H' W = some (.lst (wt.map V.str)) ∧ wt.length ≤ fs.length ∧ m = 2 * ((st ++ prs.map (·.2)).length - fs.length) + wt.length,
      ⟨_, ⟨_, _, _, rfl⟩, e1.trans (Evl.Ex.new nW), st, st, nd, fun x hx => List.mem_append_left _ hx, by rw [upd_ne WD.symm]; exact hD, upd_same, Nat.le_refl _, rfl⟩, fun m σ H' hI => ?_⟩
    obtain ⟨⟨o4, o5, o6, rfl⟩, e, fs, wt, nf, sub, hD', hW', le, hm⟩ := hI
    refine ⟨_, rfl, _, .inl ⟨_, SqL.of hW', rfl⟩, ?_⟩
    rcases List.eq_nil_or_concat wt with q | ⟨wt', z, q⟩
    · subst q
      exact itF rfl ⟨_, rfl, k D fs H' nD e hD'⟩
    · subst q
      rw [List.concat_eq_append] at hW' le hm ⊢
      refine itT (by simp) ?_
      refine ⟨fun σ H' => ∃ m', m' < m ∧ ((∃ o4 o5 o6, σ = [some (.ref l), some (.ref a), some (.ref D), some (.ref W), o4, o5, o6]) ∧ Ex H H' ∧ ∃ fs wt : List Str, fs.Nodup ∧ (∀ x ∈ fs, x ∈ st ++ prs.map (·.2)) ∧ H' D = some (.dK (DR fs fun _ => .bl true)) ∧ H' W = some (.lst (wt.map V.str)) ∧ wt.length ≤ fs.length ∧ m' = 2 * ((st ++ prs.map (·.2)).length - fs.length) + wt.length), fun _ _ h => h, ?_⟩
      refine ⟨_, rfl, .inl ⟨rfl, _, SqL.of hW'⟩, W, _, .str z, rfl, rfl, hW', by simp, ?_⟩
      have l1 : (wt' ++ [z]).length = wt'.length + 1 := by simp
      have e2 : Ex H (upd H' W (.lst ((wt' ++ [z]).map V.str).dropLast)) := Evl.Ex.mut e nW0
      refine ⟨_, rfl, l, rfl, ⟨_, Ex.seq e2 hl⟩, ?_⟩
      refine for_J (J := Itl K l) (B := H) (gv_list hl hw) (fun i σ H' => (∃ o5 o6, σ = [some (.ref l), some (.ref a), some (.ref D), some (.ref W), some (.str z), o5, o6]) ∧ Ex H H' ∧ ∃ fs wt : List Str, fs.Nodup ∧ (∀ x ∈ fs, x ∈ st ++ prs.map (·.2)) ∧ H' D = some (.dK (DR fs fun _ => .bl true)) ∧ H' W = some (.lst (wt.map V.str)) ∧ wt.length ≤ fs.length ∧ 2 * ((st ++ prs.map (·.2)).length - fs.length) + wt.length < m)
        ⟨⟨_, _, rfl⟩, e2, fs, wt', nf, sub, by rw [upd_ne WD.symm]; exact hD', by rw [upd_same]; simp, by omega, by omega⟩ (fun i σ H' h => h.2.1) (fun i x c σ H3 hc hx hI => ?_) (fun σ H3 hI => ?_)
      · obtain ⟨⟨o5, o6, rfl⟩, e3, fs3, wt3, nf3, sub3, hD3, hW3, le3, hm3⟩ := hI
        obtain ⟨t, rfl, ht⟩ := hx
        refine ⟨t, _, rfl, SqT.of (e3 _ _ ht), rfl, _, _, rfl, _, _, rfl, rfl, ?_⟩
        refine ⟨_, rfl, _, rfl, rfl, _, rfl, ite2 (fun q => ?_) (fun q => ?_)⟩
        · by_cases hin : c.2 ∈ fs3
          · exact ⟨_, rfl, _, rfl, D, _, rfl, dr_get (.inl hD3) hin, _, rfl, itF rfl ⟨⟨_, _, rfl⟩, e3, fs3, wt3, nf3, sub3, hD3, hW3, le3, hm3⟩⟩
          · have cu : c.2 ∈ st ++ prs.map (·.2) := List.mem_append_right _ (List.mem_map_of_mem (List.mem_of_getElem? hc))
            have nf4 : (fs3 ++ [c.2]).Nodup := List.nodup_append.mpr ⟨nf3, by simp, fun x hx y hy => by rw [List.mem_singleton] at hy; subst hy; exact fun q => hin (q ▸ hx)⟩
            have sub4 : ∀ x ∈ fs3 ++ [c.2], x ∈ st ++ prs.map (·.2) := fun x hx => by
              rcases List.mem_append.mp hx with hx | hx
              · exact sub3 x hx
              · rw [List.mem_singleton] at hx; subst hx; exact cu
            have zf := MsM.nodup_le_of_subset nf4 sub4
            rw [List.length_append, List.length_singleton] at zf
            refine ⟨_, rfl, _, rfl, D, _, rfl, dr_no (.inl hD3) hin, _, rfl, itT rfl ?_⟩
            refine ⟨_, rfl, _, rfl, D, _, rfl, dr_add hD3 hin (by omega), ?_⟩
            have hW4 : (upd H3 D (.dK (DR (fs3 ++ [c.2]) fun m => if m = c.2 then .bl true else .bl true))) W = some (.lst (wt3.map V.str)) := by rw [upd_ne WD]; exact hW3
            refine ⟨_, rfl, .inl ⟨rfl, _, SqL.of hW4⟩, _, rfl, W, _, _, rfl, rfl, hW4, Evl.sz_lt (by rw [List.length_map]; omega), ?_⟩
            refine ⟨⟨_, _, rfl⟩, Evl.Ex.mut (Evl.Ex.mut e3 nD) nW0, fs3 ++ [c.2], wt3 ++ [c.2], nf4, sub4, ?_, ?_, ?_, ?_⟩
            · rw [upd_ne WD.symm, upd_same]
              exact congrArg (fun z => some (HO.dK z)) (dr_congr fun n _ => by split <;> rfl)
            · rw [upd_same, List.map_append]
              rfl
            · rw [List.length_append, List.length_append]
              show wt3.length + 1 ≤ fs3.length + 1
              omega
            · rw [List.length_append (as := fs3), List.length_append (as := wt3), List.length_singleton]
              omega
        · exact ⟨⟨_, _, rfl⟩, e3, fs3, wt3, nf3, sub3, hD3, hW3, le3, hm3⟩
      · obtain ⟨⟨o5, o6, rfl⟩, e3, fs3, wt3, nf3, sub3, hD3, hW3, le3, hm3⟩ := hI
        exact ⟨_, hm3, ⟨_, _, _, rfl⟩, e3, fs3, wt3, nf3, sub3, hD3, hW3, le3, rfl⟩
abbrev sleading_to : Stmt := top 27
abbrev nleading_to : List Str := ["lines", "limits", "flows", "ends", "pairs", "arc"]
theorem scleading_to : FnScope nleading_to ["lines", "limits", "flows", "ends"] (defScope sleading_to) := ⟨rfl, rfl, rfl, by decide +kernel, rfl, by decide +kernel, by decide +kernel⟩
def spLeading (K : PySem.W.Frag) : Sp := fun vs H Q _ => ∃ (l m a b : Addr) (ls : List Ln) (km kf : List Str) (lo hi fl : Str → Int) (st : List Str), vs = [.ref l, .ref m, .ref a, .ref b] ∧ LsT K encL H l ls ∧ LmH H m km lo hi ∧ FlH H a kf fl ∧ (∀ x ∈ ls, x.n ∈ km ∧ x.n ∈ kf) ∧ ls.length ≤ 100 ∧ SqL K H b (st.map V.str) ∧ st.Nodup ∧ st.length ≤ 100 ∧ GivF H Q
theorem ok_leading_to (d : Dn K mg "leading_to" sleading_to ["lines", "limits", "flows", "ends"]) (G : Glb mg) (c_arcs_of : Cal P w K mg base 1 "arcs_of" (spArcsOf K) []) (c_come_to : Cal P w K mg base 1 "come_to" (spComeTo K) []) : Cal P w K mg base 2 "leading_to" (spLeading K) [] := by
  refine d.cal scleading_to (fun vs H Q E h => ?_) (fun f cdv A outer s H vs Q E hr h => ?_)
  · obtain ⟨l, m, a, b, ls, km, kf, lo, hi, fl, st, rfl, _⟩ := h
    rfl
  · obtain ⟨l, m, a, b, ls, km, kf, lo, hi, fl, st, rfl, hl, hm, ha, hn, hz, hb, nd, zs, k⟩ := h
    refine ⟨_, (pss_cons (ps_setLc (i := 4) (own := [("arc", 5)]) rfl scleading_to.nd rfl rfl (sw_true rfl rfl rfl (by decide +kernel)) (pi_list (pe_c c_arcs_of hr (by decide) rfl (pa_cons (pv 0) (pa_cons (pv 1) (pa_cons (pv 2) pa_nil))))) (blkOk_by (N := nleading_to) (sc := defScope sleading_to) (by decide +kernel)) (fun _ _ _ _ _ => (pg_name (i := 5) scleading_to.nd rfl (by first | exact .inl rfl | exact .inr rfl))) (fun _ _ _ _ _ => pts_nil) (fun _ _ _ _ _ => (pe_tup (pa_cons (pe_ix (ix_tupK K) (pv 5) pe_int (fun _ _ => rfl)) (pa_cons (pe_ix (ix_tupK K) (pv 5) pe_int (fun _ _ => rfl)) pa_nil)))))
      (pss_one (ps_ret (pe_c c_come_to hr (by decide) rfl (pa_cons (pv 4) (pa_cons (pv 3) pa_nil)))))), ?_⟩
    refine ⟨_, rfl, _, rfl, _, rfl, l, m, a, ls, km, kf, lo, hi, fl, rfl, hl, hm, ha, hn, hz, fun a1 ws H1 n1 e1 h1 hw1 => ?_⟩
    have za : (arcsOf lo hi fl ls).length ≤ 200 := Nat.le_trans arcs_len (by omega)
    refine ⟨a1, rfl, ⟨_, SqL.of h1⟩, ?_⟩
    refine lc_J (J := Itl K a1) (TpR encA) (fun _ => TpR encP) (fun _ => std_tp) (fun c => some (c.t, c.f)) (gv_list (SqL.of h1) hw1) (by omega) (fun D x c H' T Y _ _ ex hc e _ hY => ?_) (fun D ys H' hn e hy hl => ?_)
    · obtain ⟨t, rfl, ht⟩ := ex
      exact ⟨rfl, _, rfl, t, _, _, _, rfl, rfl, SqT.of (e _ _ ht), rfl, _, rfl, t, _, _, _, rfl, rfl, SqT.of (e _ _ ht), rfl, sz1 (by show 2 ≤ 100000; decide), fun p np => hY _ rfl _ _ (Evl.Ex.new np) ⟨p, rfl, upd_same⟩⟩
    · rw [filterMap_some] at hl
      have e2 := e1.trans e
      exact ⟨_, rfl, _, rfl, D, b, _, st, rfl, LsT.of hy hl, Ex.seq e2 hb, nd, zs, by rw [List.length_map]; omega, fun d fs H3 n3 e3 h3 => k d fs H3 (Ex.free e2 n3) (e2.trans e3) h3⟩
abbrev sled_from : Stmt := top 28
abbrev nled_from : List Str := ["lines", "limits", "flows", "starts", "pairs", "arc"]
theorem scled_from : FnScope nled_from ["lines", "limits", "flows", "starts"] (defScope sled_from) := ⟨rfl, rfl, rfl, by decide +kernel, rfl, by decide +kernel, by decide +kernel⟩
theorem ok_led_from (d : Dn K mg "led_from" sled_from ["lines", "limits", "flows", "starts"]) (G : Glb mg) (c_arcs_of : Cal P w K mg base 1 "arcs_of" (spArcsOf K) []) (c_come_to : Cal P w K mg base 1 "come_to" (spComeTo K) []) : Cal P w K mg base 2 "led_from" (spLeading K) [] := by
  refine d.cal scled_from (fun vs H Q E h => ?_) (fun f cdv A outer s H vs Q E hr h => ?_)
  · obtain ⟨l, m, a, b, ls, km, kf, lo, hi, fl, st, rfl, _⟩ := h
    rfl
  · obtain ⟨l, m, a, b, ls, km, kf, lo, hi, fl, st, rfl, hl, hm, ha, hn, hz, hb, nd, zs, k⟩ := h
    refine ⟨_, (pss_cons (ps_setLc (i := 4) (own := [("arc", 5)]) rfl scled_from.nd rfl rfl (sw_true rfl rfl rfl (by decide +kernel)) (pi_list (pe_c c_arcs_of hr (by decide) rfl (pa_cons (pv 0) (pa_cons (pv 1) (pa_cons (pv 2) pa_nil))))) (blkOk_by (N := nled_from) (sc := defScope sled_from) (by decide +kernel)) (fun _ _ _ _ _ => (pg_name (i := 5) scled_from.nd rfl (by first | exact .inl rfl | exact .inr rfl))) (fun _ _ _ _ _ => pts_nil) (fun _ _ _ _ _ => (pe_tup (pa_cons (pe_ix (ix_tupK K) (pv 5) pe_int (fun _ _ => rfl)) (pa_cons (pe_ix (ix_tupK K) (pv 5) pe_int (fun _ _ => rfl)) pa_nil)))))
      (pss_one (ps_ret (pe_c c_come_to hr (by decide) rfl (pa_cons (pv 4) (pa_cons (pv 3) pa_nil)))))), ?_⟩
    refine ⟨_, rfl, _, rfl, _, rfl, l, m, a, ls, km, kf, lo, hi, fl, rfl, hl, hm, ha, hn, hz, fun a1 ws H1 n1 e1 h1 hw1 => ?_⟩
    have za : (arcsOf lo hi fl ls).length ≤ 200 := Nat.le_trans arcs_len (by omega)
    refine ⟨a1, rfl, ⟨_, SqL.of h1⟩, ?_⟩
    refine lc_J (J := Itl K a1) (TpR encA) (fun _ => TpR encP) (fun _ => std_tp) (fun c => some (c.f, c.t)) (gv_list (SqL.of h1) hw1) (by omega) (fun D x c H' T Y _ _ ex hc e _ hY => ?_) (fun D ys H' hn e hy hl => ?_)
    · obtain ⟨t, rfl, ht⟩ := ex
      exact ⟨rfl, _, rfl, t, _, _, _, rfl, rfl, SqT.of (e _ _ ht), rfl, _, rfl, t, _, _, _, rfl, rfl, SqT.of (e _ _ ht), rfl, sz1 (by show 2 ≤ 100000; decide), fun p np => hY _ rfl _ _ (Evl.Ex.new np) ⟨p, rfl, upd_same⟩⟩
    · rw [filterMap_some] at hl
      have e2 := e1.trans e
      exact ⟨_, rfl, _, rfl, D, b, _, st, rfl, LsT.of hy hl, Ex.seq e2 hb, nd, zs, by rw [List.length_map]; omega, fun d fs H3 n3 e3 h3 => k d fs H3 (Ex.free e2 n3) (e2.trans e3) h3⟩
abbrev sway_back : Stmt := top 24
abbrev nway_back : List Str := ["before", "place", "way"]
theorem scway_back : FnScope nway_back ["before", "place"] (defScope sway_back) := ⟨rfl, rfl, rfl, by decide +kernel, rfl, by decide +kernel, by decide +kernel⟩
def spWayBack : Sp := fun vs H Q _ => ∃ (d : Addr) (x : Str) (wt st : List Str) (bv : Str → V) (as : List Arc), vs = [.ref d, .str x] ∧ H d = some (.dK (DR wt bv)) ∧ x ∈ wt ∧ wt.length ≤ 1000 ∧ Par H as st wt bv ∧
  ∀ p way, p ∈ st → MsM.Chain p way x → (∀ a ∈ way, a ∈ as) → MsM.Rising wt.idxOf way → GivT encA way H Q
theorem ok_way_back (d : Dn K mg "way_back" sway_back ["before", "place"]) (G : Glb mg) : Cal P w K mg base 1 "way_back" spWayBack [] := by
  refine d.cal scway_back (fun vs H Q E h => ?_) (fun f cdv A outer s H vs Q E hr h => ?_)
  · obtain ⟨dd, x, wt, st, bv, as, rfl, _⟩ := h
    rfl
  · obtain ⟨dd, x, wt, st, bv, as, rfl, hd, hx, hz, hp, k⟩ := h
    refine ⟨_, (pss_cons (ps_set (i := 2) scway_back.nd rfl (by first | exact .inl rfl | exact .inr rfl) (pe_lst pa_nil))
      (pss_cons (ps_while PassesOwn.never (pt_cmp (pc_notN (pe_dget (hu_of hr) (pv 0) (pv 1) (fun _ _ => rfl))))
      (pss_cons (ps_expr (pe_bm PySem.F.plainAttrs_list PySem.F.slot_list_append PySem.F.type_list_append mt_append (pv 2) (pa_cons (pe_dget (hu_of hr) (pv 0) (pv 1) (fun _ _ => rfl)) pa_nil)))
      (pss_one (ps_set (i := 1) scway_back.nd rfl (by first | exact .inl rfl | exact .inr rfl) (pe_ix (ix_tupK K) (pe_dget (hu_of hr) (pv 0) (pv 1) (fun _ _ => rfl)) pe_int (fun _ _ => rfl))))))
      (pss_one (ps_ret (pe_revL (pv 2)))))), ?_⟩
    refine ⟨Nat.zero_le _, fun F nF => ?_⟩
    refine ⟨fun m σ H' => ∃ y, σ = [some (.ref dd), some (.str y), some (.ref F)] ∧ Ex H H' ∧ y ∈ wt ∧ m = wt.idxOf y ∧ ∃ acc way, H' F = some (.lst acc) ∧ LsR (TpR encA) H' acc way ∧ MsM.Chain y way.reverse x ∧ (∀ a ∈ way, a ∈ as) ∧ (∀ a ∈ way, wt.idxOf a.f < wt.idxOf a.t) ∧ way.length + wt.idxOf y ≤ wt.length,
      ⟨_, x, rfl, Evl.Ex.new nF, hx, rfl, [], [], upd_same, LsR.nil, .nil x, by simp, by simp, by have := List.idxOf_lt_length_of_mem hx; simp; omega⟩, fun m σ H' hI => ?_⟩
    obtain ⟨y, rfl, e, hy, hm, acc, way, hF, hA, hc, has, hri, hlen⟩ := hI
    refine ⟨_, rfl, _, rfl, dd, _, rfl, dr_get (.inl (e _ _ hd)) hy, _, rfl, ?_⟩
    rcases hp y hy with ⟨q, ys⟩ | ⟨t, a, q, ht, haa, hat, haf, hlt⟩
    · rw [q]
      refine itF rfl ?_
      refine ⟨_, rfl, F, acc, rfl, SqL.of hF, fun z nz => ?_⟩
      exact k y way.reverse ys hc (fun a ha => has a (List.mem_reverse.mp ha)) (fun a ha => hri a (List.mem_reverse.mp ha)) z _ _ (Ex.free e nz) (e.trans (Evl.Ex.new nz)) upd_same (hA.rev.mono stb_tp (Evl.Ex.new nz))
    · refine itT (by rw [q]; rfl) ?_
      refine ⟨fun σ H' => ∃ m', m' < m ∧ ∃ y, σ = [some (.ref dd), some (.str y), some (.ref F)] ∧ Ex H H' ∧ y ∈ wt ∧ m' = wt.idxOf y ∧ ∃ acc way, H' F = some (.lst acc) ∧ LsR (TpR encA) H' acc way ∧ MsM.Chain y way.reverse x ∧ (∀ a ∈ way, a ∈ as) ∧ (∀ a ∈ way, wt.idxOf a.f < wt.idxOf a.t) ∧ way.length + wt.idxOf y ≤ wt.length, fun _ _ h => h, ?_⟩
      have e2 : Ex H (upd H' F (.lst (acc ++ [bv y]))) := Evl.Ex.mut e nF
      refine ⟨_, rfl, .inl ⟨rfl, _, SqL.of hF⟩, _, rfl, _, rfl, dd, _, rfl, dr_get (.inl (e _ _ hd)) hy, F, acc, _, rfl, rfl, hF, Evl.sz_lt (by rw [hA.1]; omega), ?_⟩
      refine ⟨_, rfl, _, rfl, dd, _, rfl, dr_get (.inl (e2 _ _ hd)) hy, t, _, _, _, q, rfl, SqT.of (e2 _ _ ht), rfl, ?_⟩
      refine ⟨_, by rw [hm]; exact hlt, a.f, rfl, e2, haf, rfl, acc ++ [bv y], way ++ [a], upd_same, ?_, ?_, ?_, ?_, ?_⟩
      · exact (hA.snoc ⟨t, q, e _ _ ht⟩).monoD std_tp ⟨acc, hF⟩ ExB.upd
      · rw [List.reverse_append]
        exact .cons (by rw [hat]; exact hc)
      · intro b hb
        rcases List.mem_append.mp hb with hb | hb
        · exact has b hb
        · rw [List.mem_singleton] at hb; subst hb; exact haa
      · intro b hb
        rcases List.mem_append.mp hb with hb | hb
        · exact hri b hb
        · rw [List.mem_singleton] at hb; subst hb; rw [hat]; exact hlt
      · rw [List.length_append, List.length_singleton]
        omega
abbrev spush : Stmt := top 25
abbrev npush : List Str := ["flows", "way", "most", "amount", "arc"]
theorem scpush : FnScope npush ["flows", "way", "most"] (defScope spush) := ⟨rfl, rfl, rfl, by decide +kernel, rfl, by decide +kernel, by decide +kernel⟩
def spPush (K : PySem.W.Frag) : Sp := fun vs H Q _ => ∃ (a l : Addr) (most : Int) (ks : List Str) (fl : Str → Int) (way : List Arc), vs = [.ref a, .ref l, .int most] ∧ FlH H a ks fl ∧ (∃ ws, H l = some (.lst ws) ∧ LsR (TpR encA) H ws way) ∧ (∀ c ∈ way, c.n ∈ ks ∧ (c.s = 1 ∨ c.s = -1)) ∧ way.length ≤ 300 ∧ ks.length ≤ 100 ∧
  ∀ amt H', amt ≤ most → (∀ c ∈ way, amt ≤ c.r) → (amt = most ∨ ∃ c ∈ way, amt = c.r) → ExB a H H' → FlH H' a ks (MsM.pushed fl amt way) → Q (.int amt) H'
theorem pushed_snoc (amt : Int) (a : Arc) : ∀ (way : List Arc) (fl : Str → Int), MsM.pushed fl amt (way ++ [a]) = MsM.upF (MsM.pushed fl amt way) a.n (MsM.pushed fl amt way a.n + a.s * amt)
  | [], fl => rfl
  | b :: r, fl => pushed_snoc amt a r _
theorem ok_push (d : Dn K mg "push" spush ["flows", "way", "most"]) (G : Glb mg) : Cal P w K mg base 1 "push" (spPush K) [] := by
  refine d.cal scpush (fun vs H Q E h => ?_) (fun f cdv A outer s H vs Q E hr h => ?_)
  · obtain ⟨a, l, most, ks, fl, way, rfl, _⟩ := h
    rfl
  · obtain ⟨a, l, most, ks, fl, way, rfl, ha, ⟨ws, hl, hw⟩, hn, hz, hk, k⟩ := h
    refine ⟨_, (pss_cons (ps_set (i := 3) scpush.nd rfl (by first | exact .inl rfl | exact .inr rfl) (pe_callB (cr_min rfl) (by rfl) G.min (by decide +kernel) (pa_cons (pe_op op_cat (pe_lst (pa_cons (pv 2) pa_nil)) (pe_lc (own := [("arc", 4)]) rfl scpush.nd (pi_list (pv 1)) (blkOk_by (N := npush) (sc := defScope spush) (by decide +kernel)) (fun _ _ _ _ _ => (pg_name (i := 4) scpush.nd rfl (by first | exact .inl rfl | exact .inr rfl))) (fun _ _ _ _ _ => pts_nil) (fun _ _ _ _ _ => (pe_ix (ix_tupK K) (pv 4) pe_int (fun _ _ => rfl))))) pa_nil)))
      (pss_cons (ps_for PassesOwn.never rfl (pi_list (pv 1)) (pg_name (i := 4) scpush.nd rfl (by first | exact .inl rfl | exact .inr rfl))
      (pss_one (ps_daug (hu_of hr) (pv 0) (pe_ix (ix_tupK K) (pv 4) pe_int (fun _ _ => rfl)) (pe_op op_mul (pe_ix (ix_tupK K) (pv 4) pe_int (fun _ _ => rfl)) (pv 3)) in_add (fun _ _ _ => rfl))))
      (pss_one (ps_ret (pv 3))))), ?_⟩
    refine ⟨_, rfl, sz1 (by show 1 ≤ 100000; decide), fun z nz => ?_⟩
    have e1 : Ex H (upd H z (.lst [.int most])) := Evl.Ex.new nz
    refine ⟨_, rfl, l, rfl, ⟨_, SqL.of (e1 _ _ hl)⟩, ?_⟩
    refine lc_J (J := Itl K l) (TpR encA) (fun _ v x _ => v = V.int x) (fun _ => std_int) (fun c => some c.r) (gv_list (SqL.of (e1 _ _ hl)) (hw.mono stb_tp e1)) (by omega) (fun D x c H' T Y _ _ ex hc e _ hY => ?_) (fun D ys H2 n2 e2 h2 hl2 => ?_)
    · obtain ⟨t, rfl, ht⟩ := ex
      exact ⟨rfl, _, rfl, t, _, _, _, rfl, rfl, SqT.of (e _ _ ht), rfl, hY _ rfl _ _ (Evl.Ex.refl _) rfl⟩
    rw [filterMap_some] at hl2
    have hy := ls_int hl2
    subst hy
    refine ⟨z, D, _, _, rfl, rfl, e2 _ _ upd_same, h2, sz1 (by rw [List.length_map, List.length_map]; show 1 + way.length ≤ 100000; omega), fun q nq => ?_⟩
    refine ⟨q, most :: way.map (·.r), rfl, SqL.of upd_same, Nat.succ_pos _, fun amt hin hle => ?_⟩
    have e3 : Ex H (upd H2 q (.lst ([V.int most] ++ (way.map (·.r)).map V.int))) := (e1.trans e2).trans (Evl.Ex.new nq)
    have la : l ≠ a := ne_of hl ha (by intro z; cases z)
    refine ⟨_, rfl, l, rfl, ⟨_, SqL.of (e3 _ _ hl)⟩, ?_⟩
    have kp : ∀ H', Ex (wo (upd H2 q (.lst ([V.int most] ++ (way.map (·.r)).map V.int))) a) H' → ExB a H H' := fun H' ex b o n hb => ex _ _ (by rw [wo_ne n]; exact e3 _ _ hb)
    refine for_J (J := Itl K l) (B := wo (upd H2 q (.lst ([V.int most] ++ (way.map (·.r)).map V.int))) a) (gv_list (SqL.of (by rw [wo_ne la]; exact e3 _ _ hl)) ((hw.mono stb_tp e3).wo (e3 _ _ ha) (by intro l z; cases z)))
      (fun i σ H' => (∃ o, σ = [some (.ref a), some (.ref l), some (.int most), some (.int amt), o]) ∧ Ex (wo (upd H2 q (.lst ([V.int most] ++ (way.map (·.r)).map V.int))) a) H' ∧ FlH H' a ks (MsM.pushed fl amt (way.take i)))
      ⟨⟨_, rfl⟩, wo_ex, ha.mono e3⟩ (fun i σ H' h => h.2.1) (fun i x c σ H' hc hx hI => ?_) (fun σ H' hI => ?_)
    · obtain ⟨⟨o, rfl⟩, e4, h4⟩ := hI
      obtain ⟨t, rfl, ht⟩ := hx
      obtain ⟨c1, c2⟩ := hn c (List.mem_of_getElem? hc)
      have c3 : CMul c.s amt := .inl (by rcases c2 with q | q <;> (rw [q]; decide))
      refine ⟨_, rfl, _, rfl, t, _, _, _, rfl, rfl, SqT.of (e4 _ _ ht), rfl, a, _, rfl, dr_get (.inl h4) c1, ?_⟩
      refine ⟨_, rfl, t, _, _, _, rfl, rfl, SqT.of (e4 _ _ ht), rfl, _, rfl, _, _, rfl, rfl, c3, _, _, rfl, rfl, _, dr_put h4 c1 (by omega), ⟨_, rfl⟩, Evl.Ex.mut e4 wo_none, ?_⟩
      unfold FlH
      rw [upd_same, take_snoc hc, pushed_snoc]
      refine congrArg (fun z => some (HO.dK z)) (dr_congr fun m _ => ?_)
      unfold MsM.upF
      show (if m = c.n then _ else _) = V.int (if m = c.n then _ else _)
      split <;> rfl
    · obtain ⟨⟨o, rfl⟩, e4, h4⟩ := hI
      rw [List.take_length] at h4
      have a1 : amt ≤ most := hle most (by simp)
      refine ⟨_, rfl, k amt H' a1 (fun c hc => hle c.r (List.mem_cons_of_mem _ (List.mem_map_of_mem hc))) ?_ (kp H' e4) h4⟩
      rcases List.mem_cons.mp hin with h | h
      · exact .inl h
      · obtain ⟨c, hc, e⟩ := List.mem_map.mp h
        exact .inr ⟨c, hc, e.symm⟩
end
end Ms

set_option maxHeartbeats 4000000
namespace Ms
open PySem PySem.Spec PyProof.Rows L2
open Evl (Ex)
open C8 (Cal Mak Met pe_c pe_mk pe_mt pe_mt0 pe_gc)
/-! ### leaving: arcs by their first place -/
theorem LsR.upd {α : Type} {enc : α → List V} {H : Hp} {p : Addr} {o : HO} {vs : List V} {xs : List α} (np : ∀ l, H p ≠ some (.tup l)) (h : LsR (TpR enc) H vs xs) : LsR (TpR enc) (upd H p o) vs xs := ⟨h.1, fun i v hv => by
  obtain ⟨x, hx, t, e, ht⟩ := h.2 i v hv
  exact ⟨x, hx, t, e, by rw [upd_ne (fun q => np _ (q ▸ ht))]; exact ht⟩⟩
structure Lv (H0 H : Hp) (L : Addr) (as : List Arc) (lk : List Str) (lv : Str → Addr) : Prop where
  ex : Ex H0 H
  hL : H L = some (.dK (DR lk fun n => .ref (lv n)))
  all : ∀ c ∈ as, c.f ∈ lk
  len : lk.length ≤ as.length
  inj : ∀ n ∈ lk, ∀ m ∈ lk, lv n = lv m → n = m
  new : ∀ n ∈ lk, H0 (lv n) = none
  lst : ∀ n ∈ lk, ∃ ws, H (lv n) = some (.lst ws) ∧ LsR (TpR encA) H ws (as.filter fun c => decide (c.f = n))
theorem filt_snoc_same {as : List Arc} {c : Arc} : ((as ++ [c]).filter fun x => decide (x.f = c.f)) = (as.filter fun x => decide (x.f = c.f)) ++ [c] := by
  rw [List.filter_append]
  simp
theorem filt_snoc_other {as : List Arc} {c : Arc} {n : Str} (h : n ≠ c.f) : ((as ++ [c]).filter fun x => decide (x.f = n)) = (as.filter fun x => decide (x.f = n)) := by
  rw [List.filter_append]
  have : ¬ c.f = n := fun q => h q.symm
  simp [this]
theorem Lv.old {H0 H : Hp} {L : Addr} {as : List Arc} {lk : List Str} {lv : Str → Addr} (h : Lv H0 H L as lk lv) {c : Arc} {t T : Addr} (ht : H0 t = some (.tup (encA c))) (nT : H T = none) (hc : c.f ∈ lk) {ws : List V} (hw : H (lv c.f) = some (.lst ws)) (hl : LsR (TpR encA) H ws (as.filter fun x => decide (x.f = c.f))) :
    Lv H0 (L2.upd (L2.upd H T (.lst [])) (lv c.f) (.lst (ws ++ [.ref t]))) L (as ++ [c]) lk lv where
  ex := Evl.Ex.mut (h.ex.trans (Evl.Ex.new nT)) (h.new _ hc)
  hL := by
    rw [upd_ne (ne_of h.hL hw (by intro z; cases z)), upd_ne (ne_of_none h.hL nT)]
    exact h.hL
  all := fun x hx => by
    rcases List.mem_append.mp hx with hx | hx
    · exact h.all x hx
    · rw [List.mem_singleton] at hx
      exact hx ▸ hc
  len := by rw [List.length_append]; exact Nat.le_trans h.len (Nat.le_add_right _ _)
  inj := h.inj
  new := h.new
  lst := fun n hn => by
    have nt : ∀ l, (L2.upd H T (.lst [])) (lv c.f) ≠ some (.tup l) := fun l q => by
      rw [upd_ne (ne_of_none hw nT), hw] at q
      cases q
    by_cases e : n = c.f
    · subst e
      refine ⟨_, upd_same, ?_⟩
      rw [filt_snoc_same]
      exact ((hl.mono stb_tp (Evl.Ex.new nT)).snoc ⟨t, rfl, Evl.Ex.new nT _ _ (h.ex _ _ ht)⟩).upd nt
    · obtain ⟨ws2, h2, hl2⟩ := h.lst n hn
      have ne : lv n ≠ lv c.f := fun q => e (h.inj n hn _ hc q)
      refine ⟨ws2, by rw [upd_ne ne, upd_ne (ne_of_none h2 nT)]; exact h2, ?_⟩
      rw [filt_snoc_other e]
      exact (hl2.mono stb_tp (Evl.Ex.new nT)).upd nt
theorem Lv.fresh {H0 H : Hp} {L : Addr} {as : List Arc} {lk : List Str} {lv : Str → Addr} (h : Lv H0 H L as lk lv) (nL : H0 L = none) {c : Arc} {t T : Addr} (ht : H0 t = some (.tup (encA c))) (nT : H T = none) (hc : c.f ∉ lk) :
    Lv H0 (L2.upd (L2.upd (L2.upd H T (.lst [])) L (.dK (DR (lk ++ [c.f]) fun m => if m = c.f then .ref T else .ref (lv m)))) T (.lst ([] ++ [.ref t]))) L (as ++ [c]) (lk ++ [c.f]) (fun m => if m = c.f then T else lv m) where
  ex := Evl.Ex.mut (Evl.Ex.mut (h.ex.trans (Evl.Ex.new nT)) nL) (Ex.free h.ex nT)
  hL := by
    rw [upd_ne (ne_of_none h.hL nT), upd_same]
    exact congrArg (fun z => some (HO.dK z)) (dr_congr fun n _ => by split <;> rfl)
  all := fun x hx => by
    rcases List.mem_append.mp hx with hx | hx
    · exact List.mem_append_left _ (h.all x hx)
    · rw [List.mem_singleton] at hx
      rw [hx]
      simp
  len := by
    rw [List.length_append, List.length_append]
    exact Nat.add_le_add h.len (Nat.le_refl _)
  inj := fun n hn m hm q => by
    have nw : ∀ k ∈ lk, lv k ≠ T := fun k hk q => by
      obtain ⟨ws, h2, _⟩ := h.lst k hk
      rw [q, nT] at h2
      cases h2
    have nf : ∀ k ∈ lk, k ≠ c.f := fun k hk q => hc (q ▸ hk)
    rcases List.mem_append.mp hn with hn | hn <;> rcases List.mem_append.mp hm with hm | hm
    · simp only [if_neg (nf n hn), if_neg (nf m hm)] at q
      exact h.inj n hn m hm q
    · rw [List.mem_singleton] at hm
      subst hm
      simp only [if_neg (nf n hn), if_pos] at q
      exact absurd q (nw n hn)
    · rw [List.mem_singleton] at hn
      subst hn
      simp only [if_neg (nf m hm), if_pos] at q
      exact absurd q.symm (nw m hm)
    · rw [List.mem_singleton] at hn hm
      rw [hn, hm]
  new := fun n hn => by
    show H0 (if n = c.f then T else lv n) = none
    rcases List.mem_append.mp hn with hn | hn
    · rw [if_neg (fun q => hc (q ▸ hn) : ¬ n = c.f)]
      exact h.new n hn
    · rw [List.mem_singleton] at hn
      rw [if_pos hn]
      exact Ex.free h.ex nT
  lst := fun n hn => by
    have n1 : ∀ l, (L2.upd H T (.lst [])) L ≠ some (.tup l) := fun l q => by
      rw [upd_ne (ne_of_none h.hL nT), h.hL] at q
      cases q
    have n2 : ∀ l, (L2.upd (L2.upd H T (.lst [])) L (.dK (DR (lk ++ [c.f]) fun m => if m = c.f then .ref T else .ref (lv m)))) T ≠ some (.tup l) := fun l q => by
      rw [upd_ne (ne_of_none h.hL nT).symm, upd_same] at q
      cases q
    show ∃ ws, (L2.upd _ T _) (if n = c.f then T else lv n) = _ ∧ _
    rcases List.mem_append.mp hn with hn | hn
    · have e : n ≠ c.f := fun q => hc (q ▸ hn)
      rw [if_neg e]
      obtain ⟨ws2, h2, hl2⟩ := h.lst n hn
      refine ⟨ws2, by rw [upd_ne (ne_of_none h2 nT), upd_ne (ne_of h2 h.hL (by intro z; cases z)), upd_ne (ne_of_none h2 nT)]; exact h2, ?_⟩
      rw [filt_snoc_other e]
      exact ((hl2.mono stb_tp (Evl.Ex.new nT)).upd n1).upd n2
    · rw [List.mem_singleton] at hn
      subst hn
      rw [if_pos rfl]
      refine ⟨_, upd_same, ?_⟩
      rw [filt_snoc_same]
      have z0 : (as.filter fun x => decide (x.f = c.f)) = [] := List.filter_eq_nil_iff.mpr fun x hx q => hc ((of_decide_eq_true q : x.f = c.f) ▸ h.all x hx)
      rw [z0]
      exact ((LsR.nil.snoc ⟨t, rfl, Evl.Ex.new nT _ _ (h.ex _ _ ht)⟩).upd n1).upd n2
/-! ### the search -/
structure Wd (H2 H : Hp) (D W : Addr) (as : List Arc) (st wt : List Str) (bv : Str → V) : Prop where
  ex : Ex H2 H
  hD : H D = some (.dK (DR wt bv))
  hW : H W = some (.lst (wt.map V.str))
  nd : wt.Nodup
  ini : ∀ x ∈ st, x ∈ wt
  sub : ∀ x ∈ wt, x ∈ st ++ as.map (·.t)
  par : Par H2 as st wt bv
def Done (as : List Arc) (en wt : List Str) (j : Nat) : Prop := ∀ i x, i < j → wt[i]? = some x → x ∉ en ∧ ∀ c ∈ as, c.f = x → c.t ∈ wt
theorem Wd.fr {H2 H : Hp} {D W : Addr} {as : List Arc} {st wt : List Str} {bv : Str → V} (h : Wd H2 H D W as st wt bv) {T : Addr} {o : HO} (nT : H T = none) : Wd H2 (L2.upd H T o) D W as st wt bv where
  ex := h.ex.trans (Evl.Ex.new nT)
  hD := Evl.Ex.new nT _ _ h.hD
  hW := Evl.Ex.new nT _ _ h.hW
  nd := h.nd
  ini := h.ini
  sub := h.sub
  par := h.par
theorem Wd.size {H2 H : Hp} {D W : Addr} {as : List Arc} {st wt : List Str} {bv : Str → V} (h : Wd H2 H D W as st wt bv) : wt.length ≤ st.length + as.length := by
  have := MsM.nodup_le_of_subset h.nd h.sub
  rw [List.length_append, List.length_map] at this
  exact this
theorem Wd.add {H2 H : Hp} {D W : Addr} {as : List Arc} {st wt : List Str} {bv : Str → V} (h : Wd H2 H D W as st wt bv) (nD : H2 D = none) (nW : H2 W = none) {c : Arc} {t : Addr} (hf : c.f ∈ wt) (ht : c.t ∉ wt) (hc : c ∈ as) (hH : H2 t = some (.tup (encA c))) :
    Wd H2 (L2.upd (L2.upd H D (.dK (DR (wt ++ [c.t]) fun m => if m = c.t then .ref t else bv m))) W (.lst (wt.map V.str ++ [.str c.t]))) D W as st (wt ++ [c.t]) (fun m => if m = c.t then .ref t else bv m) where
  ex := Evl.Ex.mut (Evl.Ex.mut h.ex nD) nW
  hD := by rw [upd_ne (ne_of h.hD h.hW (by intro z; cases z)), upd_same]
  hW := by
    rw [upd_same, List.map_append]
    rfl
  nd := List.nodup_append.mpr ⟨h.nd, by simp, fun x hx y hy => by rw [List.mem_singleton] at hy; subst hy; exact fun q => ht (q ▸ hx)⟩
  ini := fun x hx => List.mem_append_left _ (h.ini x hx)
  sub := fun x hx => by
    rcases List.mem_append.mp hx with hx | hx
    · exact h.sub x hx
    · rw [List.mem_singleton] at hx
      subst hx
      exact List.mem_append_right _ (List.mem_map_of_mem hc)
  par := h.par.add hf ht hc hH
theorem Done.grow {as : List Arc} {en wt : List Str} {j : Nat} {z : Str} (h : Done as en wt j) (hj : j ≤ wt.length) : Done as en (wt ++ [z]) j := fun i x hi hx => by
  rw [List.getElem?_append_left (by omega)] at hx
  obtain ⟨a, b⟩ := h i x hi hx
  exact ⟨a, fun c hc hf => List.mem_append_left _ (b c hc hf)⟩
section
variable {P : Program} {w : World} {K : PySem.W.Frag} {mg : Str → Option Value} {base : Heap} {C : Addr}
abbrev sway_between : Stmt := top 23
abbrev nway_between : List Str := ["arcs", "starts", "ends", "leaving", "arc", "before", "waiting", "at", "place"]
theorem scway_between : FnScope nway_between ["arcs", "starts", "ends"] (defScope sway_between) := ⟨rfl, rfl, rfl, by decide +kernel, rfl, by decide +kernel, by decide +kernel⟩
def spWayBetween (K : PySem.W.Frag) : Sp := fun vs H Q _ => ∃ (l a b : Addr) (as : List Arc) (st en : List Str), vs = [.ref l, .ref a, .ref b] ∧ LsT K encA H l as ∧ SqL K H a (st.map V.str) ∧ SqL K H b (en.map V.str) ∧ st.Nodup ∧ st.length ≤ 100 ∧ as.length ≤ 300 ∧
  (∀ D : List Str, (∀ x ∈ st, x ∈ D) → (∀ c ∈ as, c.f ∈ D → c.t ∈ D) → (∀ x ∈ D, x ∉ en) → Giv .non H Q) ∧
  (∀ p way q rk, p ∈ st → q ∈ en → MsM.Chain p way q → (∀ c ∈ way, c ∈ as) → MsM.Rising rk way → GivT encA way H Q)
theorem ok_way_between (d : Dn K mg "way_between" sway_between ["arcs", "starts", "ends"]) (G : Glb mg) (c_way_back : Cal P w K mg base 1 "way_back" spWayBack []) : Cal P w K mg base 2 "way_between" (spWayBetween K) [] := by
  refine d.cal scway_between (fun vs H Q E h => ?_) (fun f cdv A outer s H vs Q E hr h => ?_)
  · obtain ⟨l, a, b, as, st, en, rfl, _⟩ := h
    rfl
  · obtain ⟨l, a, b, as, st, en, rfl, ⟨ws, hl, hw⟩, ha, hb, nd, zs, za, k1, k2⟩ := h
    refine ⟨_, (pss_cons (ps_set (i := 3) scway_between.nd rfl (by first | exact .inl rfl | exact .inr rfl) pe_dnewK)
      (pss_cons (ps_for PassesOwn.never rfl (pi_list (pv 0)) (pg_name (i := 4) scway_between.nd rfl (by first | exact .inl rfl | exact .inr rfl))
      (pss_one (ps_expr (pe_bm PySem.F.plainAttrs_list PySem.F.slot_list_append PySem.F.type_list_append mt_append (pe_dsetd (pv 3) (pe_ix (ix_tupK K) (pv 4) pe_int (fun _ _ => rfl)) (pe_lst pa_nil) m2sd) (pa_cons (pv 4) pa_nil)))))
      (pss_cons (ps_setDc (i := 5) (own := [("place", 8)]) rfl scway_between.nd rfl rfl (swd_true rfl rfl rfl (by decide +kernel)) (pi_list (pv 1)) (blkOk_by (N := nway_between) (sc := defScope sway_between) (by decide +kernel)) (fun _ _ _ _ _ => (pg_name (i := 8) scway_between.nd rfl (by first | exact .inl rfl | exact .inr rfl))) (fun _ _ _ _ _ => pts_nil) (fun _ _ _ _ _ => (pv 8)) (fun _ _ _ _ _ => pe_non))
      (pss_cons (ps_set (i := 6) scway_between.nd rfl (by first | exact .inl rfl | exact .inr rfl) (pe_callTy call_list_of (by rfl) G.list (by decide +kernel) (pa_cons (pv 1) pa_nil)))
      (pss_cons (ps_set (i := 7) scway_between.nd rfl (by first | exact .inl rfl | exact .inr rfl) pe_int)
      (pss_cons (ps_while PassesOwn.never (pt_cmpR op_lt (pv 7) (pe_callB (len_seqK K) (by rfl) G.len (by decide +kernel) (pa_cons (pv 6) pa_nil)) (nomark _))
      (pss_cons (ps_if (pt_cmpR (in_seqK K) (pe_ix (ix_listK K) (pv 6) (pv 7) (fun _ _ => rfl)) (pv 2) rfl) (pss_one (ps_ret (pe_c c_way_back hr (by decide) rfl (pa_cons (pv 5) (pa_cons (pe_ix (ix_listK K) (pv 6) (pv 7) (fun _ _ => rfl)) pa_nil))))) pss_nil)
      (pss_cons (ps_for PassesOwn.never rfl (pi_list (pe_dget2 (hu_of hr) (pv 3) (pe_ix (ix_listK K) (pv 6) (pv 7) (fun _ _ => rfl)) (pe_lst pa_nil) m2get)) (pg_name (i := 4) scway_between.nd rfl (by first | exact .inl rfl | exact .inr rfl))
      (pss_one (ps_if (pt_cmp (pc_dnotin (hu_of hr) (pe_ix (ix_tupK K) (pv 4) pe_int (fun _ _ => rfl)) (pv 5))) (pss_cons (ps_dput (hu_of hr) (pv 5) (pe_ix (ix_tupK K) (pv 4) pe_int (fun _ _ => rfl)) (pv 4) rfl)
      (pss_one (ps_expr (pe_bm PySem.F.plainAttrs_list PySem.F.slot_list_append PySem.F.type_list_append mt_append (pv 6) (pa_cons (pe_ix (ix_tupK K) (pv 4) pe_int (fun _ _ => rfl)) pa_nil))))) pss_nil)))
      (pss_one (ps_aug (i := 7) scway_between.nd rfl (by first | exact .inl rfl | exact .inr rfl) pe_int ip_add)))))
      (pss_one (ps_ret pe_non)))))))), ?_⟩
    refine fun L nL => ?_
    refine ⟨_, rfl, l, rfl, ⟨_, Ex.seq (Evl.Ex.new nL) hl⟩, ?_⟩
    refine for_J (J := Itl K l) (B := H) (gv_list hl hw) (fun i σ H' => (∃ o4 o5 o6 o7 o8, σ = [some (.ref l), some (.ref a), some (.ref b), some (.ref L), o4, o5, o6, o7, o8]) ∧ ∃ lk lv, Lv H H' L (as.take i) lk lv)
      ⟨⟨_, _, _, _, _, rfl⟩, [], fun _ => L, ⟨Evl.Ex.new nL, upd_same, by simp, by simp, by simp, by simp, by simp⟩⟩ (fun i σ H' h => by obtain ⟨_, lk, lv, h⟩ := h; exact h.ex) (fun i x c σ H' hc hx hI => ?_) (fun σ H' hI => ?_)
    · obtain ⟨⟨o4, o5, o6, o7, o8, rfl⟩, lk, lv, hv⟩ := hI
      obtain ⟨t, rfl, ht⟩ := hx
      have zk : lk.length ≤ 300 := Nat.le_trans hv.len (by rw [List.length_take]; omega)
      refine ⟨_, rfl, L, rfl, .inl ⟨_, .inl hv.hL⟩, _, rfl, t, _, _, _, rfl, rfl, SqT.of (hv.ex _ _ ht), rfl, Nat.zero_le _, fun T nT => ?_⟩
      refine ⟨_, Sum.inr c.f, Evl.Ex.new nT _ _ hv.hL, rfl, Evl.sz_lt (by rw [dr_len]; omega), fun v hv2 => ?_, fun hv2 => ?_⟩
      · have hcf : c.f ∈ lk := Decidable.by_contra fun q => by rw [dr_out q] at hv2; cases hv2
        rw [dr_in hcf] at hv2
        cases hv2
        obtain ⟨ws2, h2, hl2⟩ := hv.lst _ hcf
        refine ⟨.inl ⟨rfl, _, SqL.of (Evl.Ex.new nT _ _ h2)⟩, _, rfl, lv c.f, ws2, _, rfl, rfl, Evl.Ex.new nT _ _ h2, Evl.sz_lt ?_, ⟨_, _, _, _, _, rfl⟩, lk, lv, ?_⟩
        · rw [hl2.1]
          have z1 := List.length_filter_le (fun x => decide (x.f = c.f)) (as.take i)
          rw [List.length_take] at z1
          omega
        · rw [take_snoc hc]
          exact hv.old ht nT hcf h2 hl2
      · have hcf : c.f ∉ lk := fun q => by rw [dr_in q] at hv2; cases hv2
        rw [dr_new hcf]
        refine ⟨.inl ⟨rfl, [], SqL.of ?_⟩, _, rfl, T, [], _, rfl, rfl, ?_, by decide, ⟨_, _, _, _, _, rfl⟩, lk ++ [c.f], (fun m => if m = c.f then T else lv m), ?_⟩
        · rw [upd_ne (ne_of_none hv.hL nT).symm, upd_same]
        · rw [upd_ne (ne_of_none hv.hL nT).symm, upd_same]
        · rw [take_snoc hc]
          exact hv.fresh nL ht nT hcf
    · obtain ⟨⟨o4, o5, o6, o7, o8, rfl⟩, lk, lv, hv⟩ := hI
      rw [List.take_length] at hv
      refine ⟨_, rfl, a, rfl, ⟨_, Ex.seq hv.ex ha⟩, ?_⟩
      refine dc_J (J := Itl K a) (fun v (x : Str) _ => v = V.str x) id (fun _ => .non) (gv_list (Ex.seq hv.ex ha) (str_ls _ _)) (by omega) (by rw [List.map_id]; exact nd) (fun x c H' Y ex hc e hY => ?_) (fun D H3 nD e3 h3 => ?_)
      · subst ex
        exact ⟨rfl, _, rfl, hY _ (Evl.Ex.refl _)⟩
      rw [List.map_id] at h3
      refine ⟨_, rfl, a, _, rfl, .inl (Ex.seq (hv.ex.trans e3) ha), fun W nW => ?_⟩
      have WD : W ≠ D := (ne_of_none h3 nW).symm
      have nW2 := Ex.free e3 nW
      refine ⟨fun m σ H4 => ∃ j wt bv, (∃ o4 o8, σ = [some (.ref l), some (.ref a), some (.ref b), some (.ref L), o4, some (.ref D), some (.ref W), some (.int (j : Nat)), o8]) ∧ Wd H' H4 D W as st wt bv ∧ j ≤ wt.length ∧ Done as en wt j ∧ m = st.length + as.length - j,
        ⟨_, 0, st, fun _ => .non, ⟨_, _, rfl⟩, ⟨e3.trans (Evl.Ex.new nW), by rw [upd_ne WD.symm]; exact h3, upd_same, nd, fun x hx => hx, fun x hx => List.mem_append_left _ hx, fun n hn => .inl ⟨rfl, hn⟩⟩, Nat.zero_le _, fun i x hi => absurd hi (Nat.not_lt_zero _), rfl⟩, fun m σ H4 hI => ?_⟩
      obtain ⟨j, wt, bv, ⟨o4, o8, rfl⟩, wd, hj, dn, hm⟩ := hI
      have zw := wd.size
      refine ⟨_, rfl, _, rfl, W, _, rfl, .inl (SqL.of wd.hW), _, _, rfl, rfl, _, rfl, ?_⟩
      rw [List.length_map]
      by_cases lt : j < wt.length
      · refine itP (Int.ofNat_lt.mpr lt) ?_
        refine ⟨fun σ H4 => ∃ m', m' < m ∧ ∃ j wt bv, (∃ o4 o8, σ = [some (.ref l), some (.ref a), some (.ref b), some (.ref L), o4, some (.ref D), some (.ref W), some (.int (j : Nat)), o8]) ∧ Wd H' H4 D W as st wt bv ∧ j ≤ wt.length ∧ Done as en wt j ∧ m' = st.length + as.length - j, fun _ _ h => h, ?_⟩
        have hx : wt[j]? = some wt[j] := List.getElem?_eq_getElem lt
        have ati : atI (wt.map V.str) (j : Int) = some (.str wt[j]) := atI_nat (by rw [List.getElem?_map, hx]; rfl)
        have e04 := hv.ex.trans wd.ex
        refine ⟨_, rfl, _, rfl, W, _, _, _, rfl, rfl, SqL.of wd.hW, ati, _, rfl, b, _, rfl, .inl (Ex.seq e04 hb), rfl, flat_strs _, _, rfl, ?_⟩
        rw [if_neg Bool.false_ne_true, inV_str]
        refine ite2 (fun q => ?_) (fun q => ?_)
        · refine ⟨_, rfl, _, rfl, _, rfl, W, _, _, _, rfl, rfl, SqL.of wd.hW, ati, D, wt[j], wt, st, bv, as, rfl, wd.hD, List.getElem_mem lt, by omega, wd.par.mono wd.ex, fun p way hp hc has hri => ?_⟩
          exact fun z ws3 H5 nz e5 h5 hl5 => k2 p way _ _ hp (of_decide_eq_true q) hc has hri z ws3 H5 (Ex.free e04 nz) (e04.trans e5) h5 hl5
        · have nen : wt[j] ∉ en := fun z => q (decide_eq_true z)
          refine ⟨_, rfl, L, rfl, .inl ⟨_, .inl (wd.ex _ _ hv.hL)⟩, _, rfl, _, rfl, W, _, _, _, rfl, rfl, SqL.of wd.hW, ati, Nat.zero_le _, fun T nT => ?_⟩
          have wd2 : Wd H' (L2.upd H4 T (.lst [])) D W as st wt bv := wd.fr nT
          by_cases hin : wt[j] ∈ lk
          · obtain ⟨ws5, h5, hl5⟩ := hv.lst _ hin
            refine ⟨_, dr_get (.inl (wd2.ex _ _ hv.hL)) hin, lv wt[j], rfl, ⟨_, SqL.of (wd2.ex _ _ h5)⟩, ?_⟩
            refine for_J (J := Itl K (lv wt[j])) (B := H') (gv_list (SqL.of h5) hl5) (fun i σ H6 => ∃ wt2 bv2, (∃ o4 o8, σ = [some (.ref l), some (.ref a), some (.ref b), some (.ref L), o4, some (.ref D), some (.ref W), some (.int (j : Nat)), o8]) ∧ Wd H' H6 D W as st wt2 bv2 ∧ wt2[j]? = some wt[j] ∧ Done as en wt2 j ∧ ∀ c ∈ (as.filter fun x => decide (x.f = wt[j])).take i, c.t ∈ wt2)
              ⟨wt, bv, ⟨_, _, rfl⟩, wd2, hx, dn, by simp⟩ (fun i σ H6 h => by obtain ⟨_, _, _, h, _⟩ := h; exact h.ex) (fun i x c σ H6 hc hx2 hI => ?_) (fun σ H6 hI => ?_)
            · obtain ⟨wt2, bv2, ⟨o4, o8, rfl⟩, wd3, hx3, dn3, dt⟩ := hI
              obtain ⟨t, rfl, ht⟩ := hx2
              have hcm := List.mem_filter.mp (List.mem_of_getElem? hc)
              have hcf : c.f = wt[j] := of_decide_eq_true hcm.2
              have zw3 := wd3.size
              refine ⟨_, rfl, t, _, _, _, rfl, rfl, SqT.of (wd3.ex _ _ ht), rfl, _, rfl, D, ?_⟩
              by_cases hin2 : c.t ∈ wt2
              · refine ⟨_, rfl, dr_get (.inl wd3.hD) hin2, _, rfl, itF rfl ⟨wt2, bv2, ⟨_, _, rfl⟩, wd3, hx3, dn3, fun y hy => ?_⟩⟩
                rw [take_snoc hc] at hy
                rcases List.mem_append.mp hy with hy | hy
                · exact dt y hy
                · rw [List.mem_singleton] at hy
                  exact hy ▸ hin2
              · have lt2 : j < wt2.length := (List.getElem?_eq_some_iff.mp hx3).1
                have wd4 := wd3.add nD nW2 (c := c) (by rw [hcf]; exact List.mem_of_getElem? hx3) hin2 hcm.1 ht
                have hW5 : (L2.upd H6 D (.dK (DR (wt2 ++ [c.t]) fun m => if m = c.t then .ref t else bv2 m))) W = some (.lst (wt2.map V.str)) := by rw [upd_ne WD]; exact wd3.hW
                have e5 : Ex H' (L2.upd H6 D (.dK (DR (wt2 ++ [c.t]) fun m => if m = c.t then .ref t else bv2 m))) := Evl.Ex.mut wd3.ex nD
                refine ⟨_, rfl, dr_no (.inl wd3.hD) hin2, _, rfl, itT rfl ?_⟩
                refine ⟨_, rfl, _, rfl, _, rfl, t, _, _, _, rfl, rfl, SqT.of (wd3.ex _ _ ht), rfl, D, _, rfl, dr_add wd3.hD hin2 (by omega), ?_⟩
                refine ⟨_, rfl, .inl ⟨rfl, _, SqL.of hW5⟩, _, rfl, t, _, _, _, rfl, rfl, SqT.of (e5 _ _ ht), rfl, W, _, _, rfl, rfl, hW5, Evl.sz_lt (by rw [List.length_map]; omega), ?_⟩
                refine ⟨wt2 ++ [c.t], _, ⟨_, _, rfl⟩, wd4, by rw [List.getElem?_append_left lt2]; exact hx3, dn3.grow (by omega), fun y hy => ?_⟩
                rw [take_snoc hc] at hy
                rcases List.mem_append.mp hy with hy | hy
                · exact List.mem_append_left _ (dt y hy)
                · rw [List.mem_singleton] at hy
                  rw [hy]
                  simp
            · obtain ⟨wt2, bv2, ⟨o4, o8, rfl⟩, wd3, hx3, dn3, dt⟩ := hI
              rw [List.take_length] at dt
              have lt2 : j < wt2.length := (List.getElem?_eq_some_iff.mp hx3).1
              have zw3 := wd3.size
              refine ⟨_, rfl, _, _, rfl, rfl, _, ?_, j + 1, wt2, bv2, ⟨_, _, rfl⟩, wd3, lt2, fun i x hi hxi => ?_, rfl⟩
              · omega
              · by_cases e : i = j
                · subst e
                  rw [hx3] at hxi
                  cases hxi
                  exact ⟨nen, fun c hc hf => dt c (List.mem_filter.mpr ⟨hc, decide_eq_true hf⟩)⟩
                · exact dn3 i x (by omega) hxi
          · refine ⟨_, dr_no (.inl (wd2.ex _ _ hv.hL)) hin, T, rfl, ⟨_, SqL.of upd_same⟩, ?_⟩
            refine for_J (J := Itl K T) (B := L2.upd H4 T (.lst [])) (Ra := TpR encA) (ds := []) (gv_list (SqL.of upd_same) LsR.nil) (fun i σ H6 => σ = [some (.ref l), some (.ref a), some (.ref b), some (.ref L), o4, some (.ref D), some (.ref W), some (.int (j : Nat)), o8] ∧ H6 = L2.upd H4 T (.lst []))
              ⟨rfl, rfl⟩ (fun i σ H6 h => by rw [h.2]; exact Evl.Ex.refl _) (fun i x c σ H6 hc hx2 hI => by simp at hc) (fun σ H6 hI => ?_)
            obtain ⟨rfl, rfl⟩ := hI
            refine ⟨_, rfl, _, _, rfl, rfl, _, ?_, j + 1, wt, bv, ⟨_, _, rfl⟩, wd2, lt, fun i x hi hxi => ?_, rfl⟩
            · omega
            · by_cases e : i = j
              · subst e
                rw [hx] at hxi
                cases hxi
                exact ⟨nen, fun c hc hf => absurd (hf ▸ hv.all c hc) hin⟩
              · exact dn i x (by omega) hxi
      · have ej : j = wt.length := by omega
        refine itN (by omega) ?_
        refine k1 wt wd.ini (fun c hc hf => ?_) (fun x hx => ?_) H4 (hv.ex.trans wd.ex)
        · obtain ⟨i, hi, e⟩ := List.mem_iff_getElem.mp hf
          exact (dn i c.f (by omega) (by rw [List.getElem?_eq_getElem hi, e])).2 c hc rfl
        · obtain ⟨i, hi, e⟩ := List.mem_iff_getElem.mp hx
          exact (dn i x (by omega) (by rw [List.getElem?_eq_getElem hi, e])).1
end
end Ms

set_option maxHeartbeats 4000000
/-! What is missing: plain mathematics. -/
namespace Ms
open PySem PySem.Spec PyProof.Rows
theorem exc_filt (f : Str → Int) (k : Str) : ∀ ls : List Ln, MsM.exc (ls.filter fun l => !decide (l.t = l.h)) f k = MsM.exc ls f k
  | [] => rfl
  | l :: r => by
    have ih := exc_filt f k r
    rw [List.filter_cons]
    by_cases e : l.t = l.h
    · have e2 : (!decide (l.t = l.h)) = false := by rw [decide_eq_true e]; rfl
      rw [e2, if_neg Bool.false_ne_true, ih]
      unfold MsM.exc
      rw [MsM.sumOf_cons, e]
      omega
    · have e2 : (!decide (l.t = l.h)) = true := by rw [decide_eq_false e]; rfl
      rw [e2, if_pos rfl]
      unfold MsM.exc at ih ⊢
      rw [MsM.sumOf_cons, MsM.sumOf_cons, ih]
theorem exc_lnO (ss : List Sm) (f : Str → Int) (k : Str) : MsM.exc (lnO ss) f k = MsM.exc (lnS ss) f k := exc_filt f k (lnS ss)
theorem lnO_mem {ss : List Sm} {l : Ln} (h : l ∈ lnO ss) : ∃ s ∈ ss, l.n = s.n ∧ l.t = s.t ∧ l.h = s.h := by
  unfold lnO lnS at h
  obtain ⟨s, hs, e⟩ := List.mem_map.mp (List.mem_filter.mp h).1
  subst e
  exact ⟨s, hs, rfl, rfl, rfl⟩
theorem lnO_nd {ss : List Sm} (nd : (ss.map (·.n)).Nodup) : ((lnO ss).map (·.n)).Nodup := by
  have h1 : ((lnS ss).map (·.n)) = ss.map (·.n) := by
    unfold lnS
    rw [List.map_map]
    rfl
  have h2 : ((lnO ss).map (·.n)).Sublist ((lnS ss).map (·.n)) := List.Sublist.map _ (List.filter_sublist)
  rw [h1] at h2
  exact h2.nodup nd
theorem lnO_len (ss : List Sm) : (lnO ss).length ≤ ss.length := by
  have h := List.length_filter_le (fun l : Ln => !decide (l.t = l.h)) (lnS ss)
  unfold lnS at h
  rw [List.length_map] at h
  exact h
/-- what is over, in all -/
def overSum (kn : List Str) (ls : List Ln) (fl : Str → Int) : Int := MsM.sumOf (fun k => if 0 < MsM.exc ls fl k then MsM.exc ls fl k else 0) kn
theorem overSum_push {kn : List Str} (nd : kn.Nodup) {ls : List Ln} {fl fl' : Str → Int} {p q : Str} {amt : Int} (hp : p ∈ kn) (h : ∀ k, MsM.exc ls fl' k = MsM.exc ls fl k + (if q = k then amt else 0) - (if p = k then amt else 0))
    (h0 : 0 < amt) (h1 : amt ≤ MsM.exc ls fl p) (h2 : amt ≤ -(MsM.exc ls fl q)) : overSum kn ls fl' = overSum kn ls fl - amt := by
  have e : overSum kn ls fl' = MsM.sumOf (fun k => (if 0 < MsM.exc ls fl k then MsM.exc ls fl k else 0) - (if (fun _ : Str => true) k = true then (if p = k then amt else 0) else 0)) kn := by
    unfold overSum
    apply MsM.sumOf_congr
    intro k _
    rw [if_pos (rfl : (fun _ : Str => true) k = true), h k]
    by_cases a : p = k
    · subst a
      have b : ¬ q = p := fun z => by rw [z] at h2; omega
      rw [if_neg b, if_pos rfl]
      split <;> split <;> omega
    · rw [if_neg a]
      by_cases b : q = k
      · subst b
        rw [if_pos rfl]
        split <;> split <;> omega
      · rw [if_neg b]
        split <;> split <;> omega
  rw [e, MsM.sumOf_sub, MsM.sum_single nd hp (fun _ => true) amt, if_pos rfl]
  rfl
theorem overSum_nonneg (kn : List Str) (ls : List Ln) (fl : Str → Int) : 0 ≤ overSum kn ls fl := MsM.sumOf_nonneg fun k _ => by split <;> omega
def lackSum (kn : List Str) (ls : List Ln) (fl : Str → Int) : Int := (kn.map fun k => if 0 < -(MsM.exc ls fl k) then -(MsM.exc ls fl k) else 0).sum
theorem lack_sumOf (kn : List Str) (ls : List Ln) (fl : Str → Int) : lackSum kn ls fl = MsM.sumOf (fun k => if 0 < -(MsM.exc ls fl k) then -(MsM.exc ls fl k) else 0) kn := by
  unfold lackSum
  rw [MsM.sumOf_eq_sum]
theorem exc_total {kn : List Str} (nd : kn.Nodup) {ls : List Ln} (hk : ∀ l ∈ ls, l.h ∈ kn ∧ l.t ∈ kn) (fl : Str → Int) : MsM.sumOf (MsM.exc ls fl) kn = 0 := by
  have h := MsM.exc_set nd (fun _ => true) fl ls hk
  simp only [if_true] at h
  have e : MsM.sumOf (MsM.exc ls fl) kn = MsM.sumOf (fun k => MsM.exc ls fl k) kn := rfl
  rw [e, h]
  exact MsM.sumOf_zero fun l _ => by omega
theorem lack_zero {kn : List Str} (nd : kn.Nodup) {ls : List Ln} (hk : ∀ l ∈ ls, l.h ∈ kn ∧ l.t ∈ kn) {fl : Str → Int} (h : lackSum kn ls fl ≤ 0) : ∀ k ∈ kn, MsM.exc ls fl k = 0 := by
  rw [lack_sumOf] at h
  have ge : ∀ k ∈ kn, 0 ≤ MsM.exc ls fl k := fun k hk2 => by
    have := MsM.sumOf_pos_of_mem (f := fun k => if 0 < -(MsM.exc ls fl k) then -(MsM.exc ls fl k) else 0) (l := kn) (fun x _ => by split <;> omega) hk2
    have e : (if 0 < -(MsM.exc ls fl k) then -(MsM.exc ls fl k) else 0) ≤ 0 := Int.le_trans this h
    split at e <;> omega
  intro k hk2
  have h1 := MsM.sumOf_pos_of_mem (f := MsM.exc ls fl) ge hk2
  rw [exc_total nd hk] at h1
  have := ge k hk2
  omega
theorem sum_nonpos_zero {ks : List Str} {f : Str → Int} (h : ∀ k ∈ ks, f k ≤ 0) (h0 : 0 ≤ MsM.sumOf f ks) : ∀ k ∈ ks, f k = 0 := by
  intro k hk
  have h1 := MsM.sumOf_pos_of_mem (f := fun k => 0 - f k) (l := ks) (fun x hx => by have := h x hx; omega) hk
  have h2 : MsM.sumOf (fun k => 0 - f k) ks = 0 - MsM.sumOf f ks := by
    rw [MsM.sumOf_sub (f := fun _ => 0) (g := f), MsM.sumOf_zero (f := fun _ : Str => (0 : Int)) fun _ _ => rfl]
  have h3 := h k hk
  omega
/-- a closed set of places is a cut at its full -/
theorem closed_cut {kn : List Str} (nd : kn.Nodup) {ls : List Ln} (hk : ∀ l ∈ ls, l.h ∈ kn ∧ l.t ∈ kn) {lo hi fl g : Str → Int} {D : List Str} (cl : ∀ c ∈ arcsOf lo hi fl ls, c.f ∈ D → c.t ∈ D) (hg : ∀ l ∈ ls, lo l.n ≤ g l.n ∧ g l.n ≤ hi l.n) :
    MsM.sumOf (fun k => if (!decide (k ∈ D)) = true then MsM.exc ls g k else 0) kn ≤ MsM.sumOf (fun k => if (!decide (k ∈ D)) = true then MsM.exc ls fl k else 0) kn := by
  refine MsM.cut_le nd (fun k => !decide (k ∈ D)) hk (fun l hl h1 h2 => ?_) (fun l hl h1 h2 => ?_)
  · have n1 : l.h ∉ D := by simpa using h1
    have n2 : l.t ∈ D := by simpa using h2
    have := (hg l hl).2
    by_cases q : fl l.n < hi l.n
    · exact absurd (cl ⟨l.t, l.h, l.n, 1, hi l.n - fl l.n⟩ (arcs_is.mpr ⟨l, hl, rfl, .inl ⟨rfl, rfl, rfl, rfl, q⟩⟩) n2) n1
    · omega
  · have n1 : l.t ∉ D := by simpa using h1
    have n2 : l.h ∈ D := by simpa using h2
    have := (hg l hl).1
    by_cases q : lo l.n < fl l.n
    · exact absurd (cl ⟨l.h, l.t, l.n, -1, fl l.n - lo l.n⟩ (arcs_is.mpr ⟨l, hl, rfl, .inr ⟨rfl, rfl, rfl, rfl, q⟩⟩) n2) n1
    · omega
theorem none_fits {kn : List Str} (nd : kn.Nodup) {ls : List Ln} (hk : ∀ l ∈ ls, l.h ∈ kn ∧ l.t ∈ kn) {lo hi fl g : Str → Int} {D : List Str} (cl : ∀ c ∈ arcsOf lo hi fl ls, c.f ∈ D → c.t ∈ D) (hg : ∀ l ∈ ls, lo l.n ≤ g l.n ∧ g l.n ≤ hi l.n)
    (d1 : ∀ k ∈ kn, 0 < MsM.exc ls fl k → k ∈ D) (d2 : ∀ k ∈ kn, MsM.exc ls fl k < 0 → k ∉ D) (h : 0 < lackSum kn ls fl) : ¬ ∀ k ∈ kn, MsM.exc ls g k = 0 := fun hz => by
  have c := closed_cut nd hk cl hg
  rw [MsM.sumOf_zero (f := fun k => if (!decide (k ∈ D)) = true then MsM.exc ls g k else 0) fun k hk2 => by rw [hz k hk2]; split <;> rfl] at c
  have z := sum_nonpos_zero (ks := kn) (f := fun k => if (!decide (k ∈ D)) = true then MsM.exc ls fl k else 0) (fun k hk2 => by
    show (if (!decide (k ∈ D)) = true then MsM.exc ls fl k else 0) ≤ 0
    by_cases q : k ∈ D
    · simp [q]
    · have := d1 k hk2
      simp only [q, decide_false, Bool.not_false, if_true]
      by_cases p : 0 < MsM.exc ls fl k
      · exact absurd (this p) q
      · omega) c
  have all : ∀ k ∈ kn, 0 ≤ MsM.exc ls fl k := fun k hk2 => by
    by_cases p : MsM.exc ls fl k < 0
    · have := z k hk2
      have q := d2 k hk2 p
      simp only [q, decide_false, Bool.not_false, if_true] at this
      omega
    · omega
  rw [lack_sumOf, MsM.sumOf_zero fun k hk2 => by rw [if_neg (by have := all k hk2; omega)]] at h
  omega
end Ms

set_option maxHeartbeats 4000000
/-! What passes through a knot: plain mathematics. -/
namespace Ms
open PySem PySem.Spec PyProof.Rows
/-- flows within the limits -/
def Within (ss : List Sm) (lo hi fl : Str → Int) : Prop := ∀ s ∈ ss, lo s.n ≤ fl s.n ∧ fl s.n ≤ hi s.n
def Balanced (kn : List Str) (ss : List Sm) (fl : Str → Int) : Prop := ∀ k ∈ kn, MsM.exc (lnS ss) fl k = 0
/-- what holds of flows after pushes from s to e of x in all -/
structure Psd (ls : List Ln) (lo hi fl fl' : Str → Int) (s e : Str) (x : Int) : Prop where
  exc : ∀ k, MsM.exc ls fl' k = MsM.exc ls fl k + (if e = k then x else 0) - (if s = k then x else 0)
  win : ∀ n, lo n ≤ fl n ∧ fl n ≤ hi n → lo n ≤ fl' n ∧ fl' n ≤ hi n
/-- what passes into a knot -/
def pass (ss : List Sm) (f : Str → Int) (k : Str) : Int := ((ss.filter fun s => decide (s.h = k)).map fun s => f s.n).sum
theorem pass_cons (s : Sm) (ss : List Sm) (f : Str → Int) (k : Str) : pass (s :: ss) f k = (if s.h = k then f s.n else 0) + pass ss f k := by
  unfold pass
  rw [List.filter_cons]
  by_cases e : s.h = k
  · rw [if_pos (decide_eq_true e), if_pos e, List.map_cons, List.sum_cons]
  · rw [if_neg (by rw [decide_eq_false e]; exact Bool.false_ne_true), if_neg e, Int.zero_add]
theorem excP_cons (s : Sm) (ss : List Sm) (f : Str → Int) (k y : Str) : MsM.exc (lnP k (s :: ss)) f y = ((if s.h = y then f s.n else 0) - (if (if s.t = k then ("" : Str) else s.t) = y then f s.n else 0)) + MsM.exc (lnP k ss) f y := rfl
theorem excS_cons (s : Sm) (ss : List Sm) (f : Str → Int) (y : Str) : MsM.exc (lnS (s :: ss)) f y = ((if s.h = y then f s.n else 0) - (if s.t = y then f s.n else 0)) + MsM.exc (lnS ss) f y := rfl
theorem excP_k {k : Str} (hk : k ≠ ("" : Str)) (f : Str → Int) : ∀ ss : List Sm, MsM.exc (lnP k ss) f k = pass ss f k
  | [] => rfl
  | s :: r => by
    rw [excP_cons, pass_cons, excP_k hk f r]
    have : ¬ (if s.t = k then ("" : Str) else s.t) = k := by
      split
      · exact fun q => hk q.symm
      · assumption
    rw [if_neg this]
    omega
theorem excP_all {k : Str} (hk : k ≠ ("" : Str)) (f : Str → Int) : ∀ ss : List Sm, (∀ s ∈ ss, s.h ≠ ("" : Str) ∧ s.t ≠ ("" : Str)) → MsM.exc (lnP k ss) f k + MsM.exc (lnP k ss) f ("" : Str) = MsM.exc (lnS ss) f k
  | [], _ => rfl
  | s :: r, h => by
    have ih := excP_all hk f r fun x hx => h x (List.mem_cons_of_mem s hx)
    obtain ⟨h1, h2⟩ := h s (List.mem_cons_self)
    rw [excP_cons, excP_cons, excS_cons, ← ih, if_neg h1]
    by_cases e : s.t = k
    · rw [if_pos e, if_neg (fun q => hk q.symm : ¬ ("" : Str) = k), if_pos rfl, if_pos e]
      omega
    · rw [if_neg e, if_neg e, if_neg h2]
      omega
theorem excP_other {k y : Str} (hy : y ≠ ("" : Str)) (hky : y ≠ k) (f : Str → Int) : ∀ ss : List Sm, MsM.exc (lnP k ss) f y = MsM.exc (lnS ss) f y
  | [] => rfl
  | s :: r => by
    rw [excP_cons, excS_cons, excP_other hy hky f r]
    by_cases e : s.t = k
    · rw [if_pos e, if_neg (fun q => hy q.symm : ¬ ("" : Str) = y), if_neg (fun q => hky (q.symm.trans e) : ¬ s.t = y)]
    · rw [if_neg e]
theorem pass_diff {ss : List Sm} {lo hi f g : Str → Int} (hf : Within ss lo hi f) (hg : Within ss lo hi g) (k : Str) : pass ss f k - pass ss g k ≤ MsM.sumOf (fun s : Sm => hi s.n - lo s.n) ss := by
  induction ss with
  | nil => exact Int.le_refl _
  | cons s r ih =>
    have := ih (fun x hx => hf x (List.mem_cons_of_mem s hx)) (fun x hx => hg x (List.mem_cons_of_mem s hx))
    have h1 := hf s List.mem_cons_self
    have h2 := hg s List.mem_cons_self
    rw [pass_cons, pass_cons, MsM.sumOf_cons]
    split <;> omega
theorem lnP_names (k : Str) (ss : List Sm) : (lnP k ss).map (·.n) = ss.map (·.n) := by
  unfold lnP
  rw [List.map_map]
  rfl
theorem lnP_mem {k : Str} {ss : List Sm} {l : Ln} (h : l ∈ lnP k ss) : ∃ s ∈ ss, l.n = s.n ∧ l.t = (if s.t = k then ("" : Str) else s.t) ∧ l.h = s.h := by
  obtain ⟨s, hs, e⟩ := List.mem_map.mp h
  subst e
  exact ⟨s, hs, rfl, rfl, rfl⟩
section
variable {kn : List Str} {ss : List Sm} {lo hi : Str → Int} {k : Str}
/-- what stays when as much goes in at one side of a knot as comes out at the other -/
theorem psd_bal (hk : k ≠ ("" : Str)) (hs : ∀ s ∈ ss, s.h ≠ ("" : Str) ∧ s.t ≠ ("" : Str)) (hn : ("" : Str) ∉ kn) {fl fl' : Str → Int} {s e : Str} {x : Int} (h : Psd (lnP k ss) lo hi fl fl' s e x) (se : (s = k ∧ e = ("" : Str)) ∨ (s = ("" : Str) ∧ e = k)) (b : Balanced kn ss fl) : Balanced kn ss fl' := fun y hy => by
  have y0 : y ≠ ("" : Str) := fun q => hn (q ▸ hy)
  by_cases yk : y = k
  · subst yk
    have h1 := h.exc y
    have h2 := h.exc ("" : Str)
    have h3 := excP_all hk fl ss hs
    have h4 := excP_all hk fl' ss hs
    rw [← h4, h1, h2]
    rw [b y hy] at h3
    have ne : ¬ ("" : Str) = y := fun q => y0 q.symm
    have ne' : ¬ y = ("" : Str) := y0
    rcases se with ⟨q1, q2⟩ | ⟨q1, q2⟩
    · subst q1 q2
      simp only [if_true, if_neg ne, if_neg ne']
      omega
    · subst q1 q2
      simp only [if_true, if_neg ne, if_neg ne']
      omega
  · have h1 := h.exc y
    rw [excP_other y0 yk, excP_other y0 yk] at h1
    rw [h1, b y hy]
    rcases se with ⟨q1, q2⟩ | ⟨q1, q2⟩
    · rw [q1, q2, if_neg (fun q => y0 q.symm), if_neg (fun q => yk q.symm)]
      rfl
    · rw [q1, q2, if_neg (fun q => yk q.symm), if_neg (fun q => y0 q.symm)]
      rfl
theorem psd_pass (hk : k ≠ ("" : Str)) {fl fl' : Str → Int} {s e : Str} {x : Int} (h : Psd (lnP k ss) lo hi fl fl' s e x) : (s = k → e = ("" : Str) → pass ss fl' k = pass ss fl k - x) ∧ (s = ("" : Str) → e = k → pass ss fl' k = pass ss fl k + x) := by
  have h1 := h.exc k
  rw [excP_k hk, excP_k hk] at h1
  refine ⟨fun q1 q2 => ?_, fun q1 q2 => ?_⟩
  · rw [q1, q2, if_neg (fun q => hk q.symm), if_pos rfl] at h1
    omega
  · rw [q1, q2, if_pos rfl, if_neg (fun q => hk q.symm)] at h1
    omega
/-- the sum of excess outside a set, of balanced flows -/
theorem cut_sum (hk : k ≠ ("" : Str)) (kk : k ∈ kn) (nd : kn.Nodup) (hs : ∀ s ∈ ss, s.h ≠ ("" : Str) ∧ s.t ≠ ("" : Str)) (hn : ("" : Str) ∉ kn) {f : Str → Int} (b : Balanced kn ss f) (D : List Str) :
    MsM.sumOf (fun y => if (!decide (y ∈ D)) = true then MsM.exc (lnP k ss) f y else 0) ("" :: kn) = (if ("" : Str) ∈ D then 0 else -(pass ss f k)) + (if k ∈ D then 0 else pass ss f k) := by
  have h1 : MsM.exc (lnP k ss) f ("" : Str) = -(pass ss f k) := by
    have := excP_all hk f ss hs
    rw [b k kk, excP_k hk] at this
    omega
  have h2 : MsM.sumOf (fun y => if (!decide (y ∈ D)) = true then MsM.exc (lnP k ss) f y else 0) kn = MsM.sumOf (fun y => if (fun y => !decide (y ∈ D)) y = true then (if k = y then pass ss f k else 0) else 0) kn := by
    apply MsM.sumOf_congr
    intro y hy
    have y0 : y ≠ ("" : Str) := fun q => hn (q ▸ hy)
    by_cases q : k = y
    · subst q
      rw [excP_k hk, if_pos rfl]
    · rw [if_neg q, excP_other y0 (fun z => q z.symm), b y hy]
  rw [MsM.sumOf_cons, h2, MsM.sum_single nd kk]
  congr 1
  · by_cases q : ("" : Str) ∈ D
    · simp [q]
    · simp [q, h1]
  · by_cases q : k ∈ D
    · simp [q]
    · simp [q]
theorem lnP_ends (hk : ∀ s ∈ ss, s.t ∈ kn ∧ s.h ∈ kn) : ∀ l ∈ lnP k ss, l.h ∈ (("" : Str) :: kn) ∧ l.t ∈ (("" : Str) :: kn) := fun l hl => by
  obtain ⟨s, hs, _, et, eh⟩ := lnP_mem hl
  obtain ⟨b1, b2⟩ := hk s hs
  refine ⟨List.mem_cons_of_mem _ (eh ▸ b2), ?_⟩
  rw [et]
  split
  · exact List.mem_cons_self
  · exact List.mem_cons_of_mem _ b1
theorem pass_low (hk : k ≠ ("" : Str)) (kk : k ∈ kn) (nd : kn.Nodup) (hs : ∀ s ∈ ss, s.h ≠ ("" : Str) ∧ s.t ≠ ("" : Str)) (hn : ("" : Str) ∉ kn) (he : ∀ s ∈ ss, s.t ∈ kn ∧ s.h ∈ kn) {f g : Str → Int} (bf : Balanced kn ss f) (bg : Balanced kn ss g) (wg : Within ss lo hi g) {D : List Str}
    (cl : ∀ c ∈ arcsOf lo hi f (lnP k ss), c.f ∈ D → c.t ∈ D) : (k ∈ D → ("" : Str) ∉ D → pass ss f k ≤ pass ss g k) ∧ (("" : Str) ∈ D → k ∉ D → pass ss g k ≤ pass ss f k) := by
  have c := closed_cut (g := g) (List.nodup_cons.mpr ⟨hn, nd⟩) (lnP_ends (k := k) he) cl fun l hl => by
    obtain ⟨s, hs, en, _⟩ := lnP_mem hl
    rw [en]
    exact wg s hs
  rw [cut_sum hk kk nd hs hn bf, cut_sum hk kk nd hs hn bg] at c
  refine ⟨fun a b => ?_, fun a b => ?_⟩
  · rw [if_pos a, if_neg b, if_pos a, if_neg b] at c
    omega
  · rw [if_pos a, if_neg b, if_pos a, if_neg b] at c
    omega
end
end Ms

set_option maxHeartbeats 4000000
namespace Ms
open PySem PySem.Spec PyProof.Rows L2
open Evl (Ex)
open C8 (Cal Mak Met pe_c pe_mk pe_mt pe_mt0 pe_gc)
theorem exb_wo {H H' : Hp} {a : Addr} (e : Ex (wo H a) H') : ExB a H H' := fun b o n h => e b o (by rw [wo_ne n]; exact h)
theorem SqL.wo {K : PySem.W.Frag} {H : Hp} {a l : Addr} {kvs : List (Key × V)} {xs : List V} (ha : H a = some (.dK kvs)) (h : SqL K H l xs) : SqL K (wo H a) l xs := by
  rcases h with (h | ⟨o, h⟩) | h
  · exact .inl (.inl (by rw [wo_ne (ne_of h ha (by intro z; cases z))]; exact h))
  · exact .inl (.inr ⟨o, by rw [wo_ne (ne_of h ha (by intro z; cases z))]; exact h⟩)
  · exact .inr h
theorem LsT.wo {α : Type} {enc : α → List V} {K : PySem.W.Frag} {H : Hp} {a l : Addr} {kvs : List (Key × V)} {xs : List α} (ha : H a = some (.dK kvs)) (h : LsT K enc H l xs) : LsT K enc (wo H a) l xs := by
  obtain ⟨ws, h1, h2⟩ := h
  exact ⟨ws, SqL.wo ha h1, h2.wo ha (by intro l z; cases z)⟩
theorem LmH.wo {H : Hp} {a m : Addr} {kvs : List (Key × V)} {ks : List Str} {lo hi : Str → Int} (ha : H a = some (.dK kvs)) (n : m ≠ a) (h : LmH H m ks lo hi) : LmH (wo H a) m ks lo hi := by
  obtain ⟨g, h1, h2⟩ := h
  exact ⟨g, by rw [wo_ne n]; exact h1, fun x hx => by rw [wo_ne (ne_of (h2 x hx) ha (by intro z; cases z))]; exact h2 x hx⟩
theorem ex_unlock {H H2 : Hp} {m : Addr} {u : HO} {od : Obj} (hm : H m = some u) (e : Ex (upd H m (.frz od u)) H2) : Ex H (upd H2 m u) := fun b o h => by
  by_cases q : b = m
  · subst q
    rw [upd_same, ← h, hm]
  · rw [upd_ne q]
    exact e b o (by rw [upd_ne q]; exact h)
theorem Psd.step {ls : List Ln} {lo hi fl fl' : Str → Int} {s e : Str} {x : Int} (h : Psd ls lo hi fl fl' s e x) (nd : (ls.map (·.n)).Nodup) {way : List Arc} {rk : Str → Nat} (hc : MsM.Chain s way e) (ha : ∀ c ∈ way, c ∈ arcsOf lo hi fl' ls) (hr : MsM.Rising rk way) {amt : Int} (h0 : 0 ≤ amt) (hle : ∀ c ∈ way, amt ≤ c.r) :
    Psd ls lo hi fl (MsM.pushed fl' amt way) s e (x + amt) where
  exc := fun k => by
    rw [MsM.exc_push nd amt fl' hc (fun c hc => (arcs_is.mp (ha c hc)).ofLine) k, h.exc k]
    split <;> split <;> omega
  win := fun n hn => MsM.pushed_within (MsM.way_names nd hc hr fun c hc => (arcs_is.mp (ha c hc)).ofLine) (fun c hc => arcs_is.mp (ha c hc)) hle h0 (h.win n hn)
theorem way_len {ls : List Ln} {lo hi fl : Str → Int} (nd : (ls.map (·.n)).Nodup) {way : List Arc} {s e : Str} {rk : Str → Nat} (hc : MsM.Chain s way e) (ha : ∀ c ∈ way, c ∈ arcsOf lo hi fl ls) (hr : MsM.Rising rk way) : way.length ≤ ls.length := by
  have n1 := MsM.way_names nd hc hr fun c hc => (arcs_is.mp (ha c hc)).ofLine
  have := MsM.nodup_le_of_subset (l' := ls.map (·.n)) n1 fun x hx => by
    obtain ⟨c, hc, e⟩ := List.mem_map.mp hx
    obtain ⟨l, hl, en, _⟩ := arcs_is.mp (ha c hc)
    exact List.mem_map.mpr ⟨l, hl, by rw [← en]; exact e⟩
  rw [List.length_map, List.length_map] at this
  exact this
theorem arc_ok {ls : List Ln} {lo hi fl : Str → Int} {kf : List Str} (hn : ∀ x ∈ ls, x.n ∈ kf) {c : Arc} (h : c ∈ arcsOf lo hi fl ls) : c.n ∈ kf ∧ (c.s = 1 ∨ c.s = -1) ∧ 0 < c.r := by
  have h1 := arcs_is.mp h
  have h2 := h1.room
  obtain ⟨l, hl, en, h3 | h3⟩ := h1
  · exact ⟨en ▸ hn l hl, .inl h3.2.2.1, h2⟩
  · exact ⟨en ▸ hn l hl, .inr h3.2.2.1, h2⟩
section
variable {P : Program} {w : World} {K : PySem.W.Frag} {mg : Str → Option Value} {base : Heap} {C : Addr}
abbrev spush_all : Stmt := top 26
abbrev npush_all : List Str := ["lines", "limits", "flows", "start", "end", "most", "pushed", "way"]
theorem scpush_all : FnScope npush_all ["lines", "limits", "flows", "start", "end", "most"] (defScope spush_all) := ⟨rfl, rfl, rfl, by decide +kernel, rfl, by decide +kernel, by decide +kernel⟩
def spPushAll (K : PySem.W.Frag) : Sp := fun vs H Q _ => ∃ (l m a : Addr) (s e : Str) (most : Int) (ls : List Ln) (km kf : List Str) (lo hi fl : Str → Int), vs = [.ref l, .ref m, .ref a, .str s, .str e, .int most] ∧ LsT K encL H l ls ∧ LmH H m km lo hi ∧ FlH H a kf fl ∧ m ≠ a ∧ (∀ x ∈ ls, x.n ∈ km ∧ x.n ∈ kf) ∧ ls.length ≤ 100 ∧ kf.length ≤ 100 ∧ (ls.map (·.n)).Nodup ∧
  ∀ x fl' H', (0 ≤ most → 0 ≤ x ∧ x ≤ most) → Psd ls lo hi fl fl' s e x → (¬ x < most ∨ ∃ D : List Str, s ∈ D ∧ e ∉ D ∧ ∀ c ∈ arcsOf lo hi fl' ls, c.f ∈ D → c.t ∈ D) → ExB a H H' → FlH H' a kf fl' → Q (.int x) H'
theorem ok_push_all (d : Dn K mg "push_all" spush_all ["lines", "limits", "flows", "start", "end", "most"]) (G : Glb mg) (c_arcs_of : Cal P w K mg base 1 "arcs_of" (spArcsOf K) []) (c_way_between : Cal P w K mg base 2 "way_between" (spWayBetween K) []) (c_push : Cal P w K mg base 1 "push" (spPush K) []) : Cal P w K mg base 3 "push_all" (spPushAll K) [] := by
  refine d.cal scpush_all (fun vs H Q E h => ?_) (fun f cdv A outer s H vs Q E hr h => ?_)
  · obtain ⟨l, m, a, s, e, most, ls, km, kf, lo, hi, fl, rfl, _⟩ := h
    rfl
  · obtain ⟨l, m, a, s1, s2, most, ls, km, kf, lo, hi, fl, rfl, hl, hm, ha, ma, hn, zl, zk, nd, k⟩ := h
    refine ⟨_, (pss_cons (ps_set (i := 6) scpush_all.nd rfl (by first | exact .inl rfl | exact .inr rfl) pe_int)
      (pss_cons (ps_while PassesOwn.never (pt_cmpR op_lt (pv 6) (pv 5) (nomark _))
      (pss_cons (ps_set (i := 7) scpush_all.nd rfl (by first | exact .inl rfl | exact .inr rfl) (pe_c c_way_between hr (by decide) rfl (pa_cons (pe_c c_arcs_of hr (by decide) rfl (pa_cons (pv 0) (pa_cons (pv 1) (pa_cons (pv 2) pa_nil)))) (pa_cons (pe_lst (pa_cons (pv 3) pa_nil)) (pa_cons (pe_lst (pa_cons (pv 4) pa_nil)) pa_nil)))))
      (pss_cons (ps_if (pt_cmp (pc_isN (pv 7))) (pss_one (ps_ret (pv 6))) pss_nil)
      (pss_one (ps_aug (i := 6) scpush_all.nd rfl (by first | exact .inl rfl | exact .inr rfl) (pe_c c_push hr (by decide) rfl (pa_cons (pv 2) (pa_cons (pv 7) (pa_cons (pe_op op_sub (pv 5) (pv 6)) pa_nil)))) ip_add)))))
      (pss_one (ps_ret (pv 6))))), ?_⟩
    have hl0 : LsT K encL (wo H a) l ls := LsT.wo ha hl
    have hm0 := LmH.wo ha ma hm
    refine ⟨fun v σ H' => ∃ x fl' o7, σ = [some (.ref l), some (.ref m), some (.ref a), some (.str s1), some (.str s2), some (.int most), some (.int x), o7] ∧ Ex (wo H a) H' ∧ FlH H' a kf fl' ∧ (0 ≤ most → 0 ≤ x ∧ x ≤ most) ∧ Psd ls lo hi fl fl' s1 s2 x ∧ v = (most - x).toNat,
      ⟨_, 0, fl, none, rfl, wo_ex, ha, fun h => ⟨Int.le_refl _, h⟩, ⟨fun k => by split <;> split <;> omega, fun _ h => h⟩, rfl⟩, fun v σ H' hI => ?_⟩
    obtain ⟨x, fl', o7, rfl, e, hF, hx, ps, hv⟩ := hI
    refine ⟨_, rfl, _, rfl, _, _, rfl, rfl, _, rfl, ?_⟩
    by_cases lt : x < most
    · refine itP lt ?_
      refine ⟨fun σ H' => ∃ v', v' < v ∧ ∃ x fl' o7, σ = [some (.ref l), some (.ref m), some (.ref a), some (.str s1), some (.str s2), some (.int most), some (.int x), o7] ∧ Ex (wo H a) H' ∧ FlH H' a kf fl' ∧ (0 ≤ most → 0 ≤ x ∧ x ≤ most) ∧ Psd ls lo hi fl fl' s1 s2 x ∧ v' = (most - x).toNat, fun _ _ h => h, ?_⟩
      refine ⟨_, rfl, _, rfl, _, rfl, l, m, a, ls, km, kf, lo, hi, fl', rfl, hl0.mono e, hm0.mono e, hF, hn, zl, fun A1 ws H1 n1 e1 h1 hw1 => ?_⟩
      refine ⟨_, rfl, sz1 (by show 1 ≤ 100000; decide), fun S nS => ⟨_, rfl, sz1 (by show 1 ≤ 100000; decide), fun T nT => ?_⟩⟩
      have e2 : Ex H1 (upd (upd H1 S (.lst [.str s1])) T (.lst [.str s2])) := (Evl.Ex.new nS).trans (Evl.Ex.new nT)
      refine ⟨A1, S, T, arcsOf lo hi fl' ls, [s1], [s2], rfl, (LsT.of h1 hw1 : LsT K encA H1 A1 _).mono e2, SqL.of (Evl.Ex.new nT _ _ upd_same), SqL.of upd_same, by simp, by simp, Nat.le_trans arcs_len (by omega), fun D d1 d2 d3 H3 e3 => ?_, fun p way q rk hp hq hc has hri z ws3 H3 n3 e3 h3 hl3 => ?_⟩
      · refine ⟨_, rfl, _, rfl, itT rfl ⟨_, rfl, ?_⟩⟩
        have e4 := (e1.trans e2).trans e3
        exact k x fl' H3 hx ps (.inr ⟨D, d1 s1 (by simp), fun h => d3 s2 h (by simp), d2⟩) (exb_wo (e.trans e4)) (hF.mono e4)
      · rw [List.mem_singleton] at hp hq
        subst hp hq
        have e4 := (e1.trans e2).trans e3
        have nz : (upd (upd H1 S (.lst [.str p])) T (.lst [.str q])) z = none := n3
        refine ⟨_, rfl, _, rfl, itF rfl ?_⟩
        refine ⟨_, rfl, _, rfl, _, rfl, _, rfl, _, rfl, _, _, rfl, rfl, a, z, most - x, kf, fl', way, rfl, hF.mono e4, ⟨ws3, h3, hl3⟩, fun c hc => ?_, ?_, zk, fun amt H4 a1 a2 a3 eb hF4 => ?_⟩
        · obtain ⟨b1, b2, _⟩ := arc_ok (fun x hx => (hn x hx).2) (has c hc)
          exact ⟨b1, b2⟩
        · have := way_len nd hc has hri
          omega
        · have pos : 0 < amt := by
            rcases a3 with a3 | ⟨c, hc, a3⟩
            · omega
            · have := (arc_ok (fun x hx => (hn x hx).2) (has c hc)).2.2
              omega
          have dec : (most - (x + amt)).toNat < v := by
            clear a3
            omega
          refine ⟨_, _, rfl, rfl, (most - (x + amt)).toNat, dec, x + amt, _, _, rfl, eb.ex (e.trans e4) wo_none, hF4, fun h => ?_, ps.step nd hc has hri (by omega) a2, rfl⟩
          have := hx h
          omega
    · refine itN lt ⟨_, rfl, ?_⟩
      exact k x fl' H' hx ps (.inl lt) (exb_wo e) hF
abbrev scheck_limits : Stmt := top 32
abbrev ncheck_limits : List Str := ["plant", "limits", "name"]
theorem sccheck_limits : FnScope ncheck_limits ["plant", "limits"] (defScope scheck_limits) := ⟨rfl, rfl, rfl, by decide +kernel, rfl, by decide +kernel, by decide +kernel⟩
def spCheckLimits (C : Addr) : Sp := fun vs H Q _ => ∃ (p m : Addr) (kn : List Str) (ss : List Sm) (km : List Str) (lo hi : Str → Int), vs = [.ref p, .ref m] ∧ Pl C H p kn ss ∧ LmH H m km lo hi ∧ (∀ n, n ∈ km ↔ n ∈ ss.map (·.n)) ∧ km.Nodup ∧ km.length ≤ 100 ∧ Giv .non H Q
theorem ok_check_limits (d : Dn K mg "check_limits" scheck_limits ["plant", "limits"]) (G : Glb mg) (c_lacks : Cal P w K mg base 3 "lacks" (spLacks C) []) : Cal P w K mg base 4 "check_limits" (spCheckLimits C) [] := by
  refine d.cal sccheck_limits (fun vs H Q E h => ?_) (fun f cdv A outer s H vs Q E hr h => ?_)
  · obtain ⟨p, m, kn, ss, km, lo, hi, rfl, _⟩ := h
    rfl
  · obtain ⟨p, m, kn, ss, km, lo, hi, rfl, hp, ⟨g, hm, hg⟩, hk, nd, hz, k⟩ := h
    refine ⟨_, (pss_one (ps_expr (pe_c c_lacks hr (by decide) rfl (pa_cons (pv 0) (pa_cons (pe_lock (pe_dc (own := [("name", 2)]) rfl sccheck_limits.nd (pi_keys (pv 1)) (blkOk_by (N := ncheck_limits) (sc := defScope scheck_limits) (by decide +kernel)) (fun _ _ _ _ _ => (pg_name (i := 2) sccheck_limits.nd rfl (by first | exact .inl rfl | exact .inr rfl))) (fun _ _ _ _ _ => pts_nil) (fun _ _ _ _ _ => (pv 2)) (fun _ _ _ _ _ => pe_int))) pa_nil))))), ?_⟩
    refine ⟨_, rfl, m, _, hm, trivial, fun od => ⟨_, rfl, m, od, rfl, .inl ⟨_, upd_same, ?_⟩⟩⟩
    refine dc_J (J := Itk m od _) (fun v (x : Str) _ => v = V.str x) id (fun _ => .int 0) (gv_keys upd_same) (by omega) (by rw [List.map_id]; exact nd) (fun x c H' Y ex hc e hY => ?_) (fun D H2 nD e2 h2 => ?_)
    · subst ex
      exact ⟨rfl, _, rfl, hY _ (Evl.Ex.refl _)⟩
    rw [List.map_id] at h2
    have e3 := ex_unlock hm e2
    have Dm : D ≠ m := fun q => by rw [q, upd_same] at nD; cases nD
    refine ⟨e2 _ _ upd_same, p, D, kn, ss, km, fun _ => 0, rfl, hp.mono e3, by unfold FlH; rw [upd_ne Dm]; exact h2, hk, hz, fun d H4 _ e4 _ => k H4 (e3.trans e4)⟩
abbrev scrossed : Stmt := top 33
abbrev ncrossed : List Str := ["plant", "limits", "name"]
theorem sccrossed : FnScope ncrossed ["plant", "limits"] (defScope scrossed) := ⟨rfl, rfl, rfl, by decide +kernel, rfl, by decide +kernel, by decide +kernel⟩
def spCrossed (C : Addr) : Sp := fun vs H Q _ => ∃ (p m : Addr) (kn : List Str) (ss : List Sm) (km : List Str) (lo hi : Str → Int), vs = [.ref p, .ref m] ∧ Pl C H p kn ss ∧ LmH H m km lo hi ∧ (∀ n, n ∈ km ↔ n ∈ ss.map (·.n)) ∧ km.Nodup ∧ km.length ≤ 100 ∧ (∀ v H', Ex H H' → ((v = .non ∧ ∀ s ∈ ss, lo s.n ≤ hi s.n) ∨ ∃ s ∈ ss, v = .str s.n ∧ hi s.n < lo s.n) → Q v H')
theorem ok_crossed (d : Dn K mg "crossed" scrossed ["plant", "limits"]) (G : Glb mg) (c_check_limits : Cal P w K mg base 4 "check_limits" (spCheckLimits C) []) (c_stream_names : Met P w K mg base 1 C "stream_names" (spStreamNames C) []) : Cal P w K mg base 5 "crossed" (spCrossed C) [] := by
  refine d.cal sccrossed (fun vs H Q E h => ?_) (fun f cdv A outer s H vs Q E hr h => ?_)
  · obtain ⟨p, m, kn, ss, km, lo, hi, rfl, _⟩ := h
    rfl
  · obtain ⟨p, m, kn, ss, km, lo, hi, rfl, hp, hm, hk, nd, hz, k⟩ := h
    refine ⟨_, (pss_cons (ps_expr (pe_c c_check_limits hr (by decide) rfl (pa_cons (pv 0) (pa_cons (pv 1) pa_nil))))
      (pss_cons (ps_for PassesOwn.never rfl (pi_list (pe_mt0 c_stream_names hr (by decide) (pv 0))) (pg_name (i := 2) sccrossed.nd rfl (by first | exact .inl rfl | exact .inr rfl))
      (pss_one (ps_if (pt_cmpR op_gt (pe_ix (ix_tupK K) (pe_dget (hu_of hr) (pv 1) (pv 2) (fun _ _ => rfl)) pe_int (fun _ _ => rfl)) (pe_ix (ix_tupK K) (pe_dget (hu_of hr) (pv 1) (pv 2) (fun _ _ => rfl)) pe_int (fun _ _ => rfl)) (nomark _)) (pss_one (ps_ret (pv 2))) pss_nil)))
      (pss_one (ps_ret pe_non)))), ?_⟩
    refine ⟨_, rfl, _, rfl, p, m, kn, ss, km, lo, hi, rfl, hp, hm, hk, nd, hz, fun H1 e1 => ?_⟩
    have ok := hp.ok
    have hp1 := hp.r.mono e1
    obtain ⟨dx, _, _, _, h1, _⟩ := hp.r
    refine ⟨_, rfl, p, dx, _, rfl, e1 _ _ h1, pf_no (by decide +kernel) (by decide +kernel), p, kn, ss, rfl, hp1, by have := ok.su; omega, fun a2 H2 n2 e2 h2 => ?_⟩
    refine ⟨a2, rfl, ⟨_, SqL.of h2⟩, ?_⟩
    have hm2 : LmH H2 m km lo hi := hm.mono (e1.trans e2)
    obtain ⟨g, hm2, hg⟩ := hm2
    refine for_J (J := Itl K a2) (B := H2) (gv_list (SqL.of h2) (str_ls _ _)) (fun i σ H' => (∃ o, σ = [some (.ref p), some (.ref m), o]) ∧ Ex H2 H' ∧ ∀ n ∈ (ss.map (·.n)).take i, lo n ≤ hi n)
      ⟨⟨_, rfl⟩, Evl.Ex.refl _, by simp⟩ (fun i σ H' h => h.2.1) (fun i x c σ H' hc hx hI => ?_) (fun σ H' hI => ?_)
    · obtain ⟨⟨o, rfl⟩, e, hle⟩ := hI
      subst hx
      have cm : c ∈ ss.map (·.n) := List.mem_of_getElem? hc
      have ck : c ∈ km := (hk c).mpr cm
      refine ⟨_, rfl, _, rfl, m, _, rfl, dr_get (.inl (e _ _ hm2)) ck, g c, _, _, _, rfl, rfl, SqT.of (e _ _ (hg c ck)), rfl, ?_⟩
      refine ⟨_, rfl, _, rfl, m, _, rfl, dr_get (.inl (e _ _ hm2)) ck, g c, _, _, _, rfl, rfl, SqT.of (e _ _ (hg c ck)), rfl, _, _, rfl, rfl, _, rfl, ?_⟩
      by_cases q : hi c < lo c
      · refine itP q ⟨_, rfl, ?_⟩
        obtain ⟨t, ht, et⟩ := List.mem_map.mp cm
        subst et
        exact k _ _ ((e1.trans e2).trans e) (.inr ⟨t, ht, rfl, q⟩)
      · refine itN q ⟨⟨_, rfl⟩, e, fun n hn => ?_⟩
        rw [take_snoc hc] at hn
        rcases List.mem_append.mp hn with hn | hn
        · exact hle n hn
        · rw [List.mem_singleton] at hn
          subst hn
          omega
    · obtain ⟨⟨o, rfl⟩, e, hle⟩ := hI
      rw [List.take_length] at hle
      exact k _ _ ((e1.trans e2).trans e) (.inl ⟨rfl, fun t ht => hle t.n (List.mem_map_of_mem ht)⟩)
abbrev smissing_of : Stmt := top 34
abbrev nmissing_of : List Str := ["plant", "flows", "number"]
theorem scmissing_of : FnScope nmissing_of ["plant", "flows"] (defScope smissing_of) := ⟨rfl, rfl, rfl, by decide +kernel, rfl, by decide +kernel, by decide +kernel⟩
def spMissingOf (C : Addr) : Sp := fun vs H Q _ => ∃ (p a : Addr) (kn : List Str) (ss : List Sm) (ks : List Str) (fl : Str → Int), vs = [.ref p, .ref a] ∧ Pl C H p kn ss ∧ FlH H a ks fl ∧ (∀ n, n ∈ ks ↔ n ∈ ss.map (·.n)) ∧ ks.length ≤ 100 ∧ Giv (.int (lackSum kn (lnS ss) fl)) H Q
theorem ok_missing_of (d : Dn K mg "missing_of" smissing_of ["plant", "flows"]) (G : Glb mg) (c_lacks : Cal P w K mg base 3 "lacks" (spLacks C) []) : Cal P w K mg base 4 "missing_of" (spMissingOf C) [] := by
  refine d.cal scmissing_of (fun vs H Q E h => ?_) (fun f cdv A outer s H vs Q E hr h => ?_)
  · obtain ⟨p, a, kn, ss, ks, fl, rfl, _⟩ := h
    rfl
  · obtain ⟨p, a, kn, ss, ks, fl, rfl, hp, ha, hk, hz, k⟩ := h
    refine ⟨_, (pss_one (ps_ret (pe_callB (cr_sum rfl) (by rfl) G.sum (by decide +kernel) (pa_cons (pe_lc (own := [("number", 2)]) rfl scmissing_of.nd (pi_values (pe_frz (pe_c c_lacks hr (by decide) rfl (pa_cons (pv 0) (pa_cons (pv 1) pa_nil))))) (blkOk_by (N := nmissing_of) (sc := defScope smissing_of) (by decide +kernel)) (fun _ _ _ _ _ => (pg_name (i := 2) scmissing_of.nd rfl (by first | exact .inl rfl | exact .inr rfl))) (fun _ _ _ _ _ => pts_nil) (fun _ _ _ _ _ => (pe_callB (call_max2 rfl) (by rfl) G.max (by decide +kernel) (pa_cons pe_int (pa_cons (pe_un un_neg (pv 2)) pa_nil))))) pa_nil)))), ?_⟩
    refine ⟨_, rfl, _, rfl, p, a, kn, ss, ks, fl, rfl, hp, ha, hk, hz, fun D H1 nD e1 h1 => ?_⟩
    refine ⟨D, _, rfl, h1, trivial, fun od => ⟨D, od, _, rfl, upd_same, ?_⟩⟩
    refine lc_J (J := Itd D od _) (fun x n _ => x = V.int (MsM.exc (lnS ss) fl n)) (fun _ v b _ => v = V.int b) (fun _ => std_int) (fun n => some (if 0 < -(MsM.exc (lnS ss) fl n) then -(MsM.exc (lnS ss) fl n) else 0)) (gv_vals upd_same) (by have := hp.ok.ku; omega) (fun D2 x c H' T Y _ _ ex hc e _ hY => ?_) (fun D2 ys H' hn e hy hl => ?_)
    · subst ex
      exact ⟨rfl, _, rfl, _, rfl, _, _, rfl, hY _ rfl _ _ (Evl.Ex.refl _) rfl⟩
    · rw [filterMap_some] at hl
      exact ⟨D2, _, rfl, .inl (.inl (by rw [hy, ls_int hl])), k H' ((Evl.Ex.mut e1 nD).trans e)⟩
/-! ### Missing -/
structure MiT (K : PySem.W.Frag) (M : Addr) : Prop where
  cl : Cls K M
  n1 : NoAttr K M "number"
  n2 : NoAttr K M "flows"
  n3 : NoAttr K M "least"
  n4 : NoAttr K M "greatest"
abbrev sMissing_init : Stmt := inClass (top 31) 0
abbrev nMissing_init : List Str := ["self", "number", "flows", "least", "greatest"]
theorem scMissing_init : FnScope nMissing_init ["self", "number", "flows", "least", "greatest"] (defScope sMissing_init) := ⟨rfl, rfl, rfl, by decide +kernel, rfl, by decide +kernel, by decide +kernel⟩
def spMissing (K : PySem.W.Frag) (M : Addr) : Sp := fun vs H Q _ => ∃ (p dx a b c : Addr) (n : Int) (kvs : List (Key × V)) (xs ys : List V), vs = [.ref p, .int n, .ref a, .ref b, .ref c] ∧ H p = some (.ins M dx []) ∧ H a = some (.dK kvs) ∧ SqL K H b xs ∧ SqL K H c ys ∧
  ∀ H' fs q, H q = none → H' p = some (.ins M dx fs) → fs.lookup ("number" : Str) = some (.int n) → fs.lookup ("flows" : Str) = some (.ref q) → H' q = some (.dK kvs) → ExB p H H' → Q .non H'
theorem ok_Missing (d : Kn K mg "Missing" C "Missing.__init__" sMissing_init ["self", "number", "flows", "least", "greatest"]) (G : Glb mg) (T : MiT K C) : Mak P w K mg base 1 "Missing" C (spMissing K C) [] := by
  refine d.mak scMissing_init (fun vs H Q E h => ?_) (fun f cdv A outer s H vs Q E hr h => ?_)
  · obtain ⟨p, dx, a, b, c, n, kvs, xs, ys, rfl, _⟩ := h
    rfl
  · obtain ⟨p, dx, a, b, c, n, kvs, xs, ys, rfl, hp, ha, hb, hc, k⟩ := h
    refine ⟨_, (pss_cons (ps_fld (pv 0) (pv 1) rfl)
      (pss_cons (ps_fld (pv 0) (pe_callTy call_dictD (by rfl) G.dict (by decide +kernel) (pa_cons (pv 2) pa_nil)) rfl)
      (pss_cons (ps_fld (pv 0) (pe_callTy call_list_of (by rfl) G.list (by decide +kernel) (pa_cons (pv 3) pa_nil)) rfl)
      (pss_one (ps_fld (pv 0) (pe_callTy call_list_of (by rfl) G.list (by decide +kernel) (pa_cons (pv 4) pa_nil)) rfl))))), ?_⟩
    refine ⟨_, rfl, _, rfl, p, C, dx, _, rfl, hp, T.cl, T.n1, (by show 0 < 1000; decide), ?_⟩
    have ap : a ≠ p := ne_of ha hp (by intro z; cases z)
    refine ⟨_, rfl, a, kvs, rfl, .inl (by rw [upd_ne ap]; exact ha), fun q nq => ?_⟩
    have qp : q ≠ p := fun z => by rw [z, upd_same] at nq; cases nq
    have nq0 : H q = none := by rw [upd_ne qp] at nq; exact nq
    have e1 : ExB p H (upd (upd H p (.ins C dx (putF "number" (.int n) []))) q (.dK kvs)) := ExB.upd.trans (ExB.of (Evl.Ex.new nq))
    refine ⟨_, rfl, p, C, dx, _, rfl, by rw [upd_ne qp.symm, upd_same], T.cl, T.n2, (by show 1 < 1000; decide), ?_⟩
    have e2 := e1.trans (ExB.upd (o := .ins C dx (putF "flows" (.ref q) (putF "number" (.int n) []))))
    refine ⟨_, rfl, b, xs, rfl, .inl (seqB e2 hp hb), fun r nr => ?_⟩
    have rp : r ≠ p := fun z => by rw [z, upd_same] at nr; cases nr
    have e3 := e2.trans (ExB.of (Evl.Ex.new (o := .lst xs) nr))
    refine ⟨_, rfl, p, C, dx, _, rfl, by rw [upd_ne rp.symm, upd_same], T.cl, T.n3, (by show 2 < 1000; decide), ?_⟩
    have e4 := e3.trans (ExB.upd (o := .ins C dx (putF "least" (.ref r) (putF "flows" (.ref q) (putF "number" (.int n) [])))))
    refine ⟨_, rfl, c, ys, rfl, .inl (seqB e4 hp hc), fun t nt => ?_⟩
    have tp : t ≠ p := fun z => by rw [z, upd_same] at nt; cases nt
    have e5 := e4.trans (ExB.of (Evl.Ex.new (o := .lst ys) nt))
    refine ⟨_, rfl, p, C, dx, _, rfl, by rw [upd_ne tp.symm, upd_same], T.cl, T.n4, (by show 3 < 1000; decide), ?_⟩
    have e6 := e5.trans (ExB.upd (o := .ins C dx (putF "greatest" (.ref t) (putF "least" (.ref r) (putF "flows" (.ref q) (putF "number" (.int n) []))))))
    refine k _ _ q nq0 upd_same ?_ ?_ ?_ e6
    · rw [lookup_putF, if_neg (by decide +kernel), lookup_putF, if_neg (by decide +kernel), lookup_putF, if_neg (by decide +kernel), lookup_putF, if_pos rfl]
    · rw [lookup_putF, if_neg (by decide +kernel), lookup_putF, if_neg (by decide +kernel), lookup_putF, if_pos rfl]
    · exact ((((ExB.upd.trans (ExB.of (Evl.Ex.new nr))).trans ExB.upd).trans (ExB.of (Evl.Ex.new nt))).trans ExB.upd) _ _ qp upd_same
end
end Ms

set_option maxHeartbeats 4000000
namespace Ms
open PySem PySem.Spec PyProof.Rows L2
open Evl (Ex)
open C8 (Cal Mak Met pe_c pe_mk pe_mt pe_mt0 pe_gc)
theorem chain_inv {p q : Str} {c : Arc} {r : List Arc} (h : MsM.Chain p (c :: r) q) : c.f = p ∧ MsM.Chain c.t r q := by
  cases h with
  | cons h2 => exact ⟨rfl, h2⟩
theorem chain_nil {p q : Str} (h : MsM.Chain p [] q) : p = q := by
  cases h
  rfl
theorem chain_first {p q : Str} : ∀ {way : List Arc}, MsM.Chain p way q → p ≠ q → ∃ c r, way = c :: r ∧ c.f = p
  | [], h, n => absurd (chain_nil h) n
  | c :: r, h, _ => ⟨c, r, rfl, (chain_inv h).1⟩
theorem chain_end {q : Str} : ∀ {r : List Arc} {b : Arc}, MsM.Chain b.t r q → ∃ r' c, b :: r = r' ++ [c] ∧ c.t = q
  | [], b, h => ⟨[], b, rfl, chain_nil h⟩
  | a :: r, b, h => by
    obtain ⟨r', c, e, h2⟩ := chain_end (b := a) (chain_inv h).2
    exact ⟨b :: r', c, by rw [e]; rfl, h2⟩
theorem chain_last {p q : Str} : ∀ {way : List Arc}, MsM.Chain p way q → p ≠ q → ∃ r c, way = r ++ [c] ∧ c.t = q
  | [], h, n => absurd (chain_nil h) n
  | c :: r, h, _ => chain_end (chain_inv h).2
section
variable {P : Program} {w : World} {K : PySem.W.Frag} {mg : Str → Option Value} {base : Heap} {C : Addr}
abbrev sleast_missing : Stmt := top 35
abbrev nleast_missing : List Str := ["plant", "limits", "lines", "flows", "left", "over", "short", "way", "least", "spared", "lots", "name", "knot"]
theorem scleast_missing : FnScope nleast_missing ["plant", "limits"] (defScope sleast_missing) := ⟨rfl, rfl, rfl, by decide +kernel, rfl, by decide +kernel, by decide +kernel⟩
def spLeast (C M : Addr) : Sp := fun vs H Q _ => ∃ (p m : Addr) (kn : List Str) (ss : List Sm) (km : List Str) (lo hi : Str → Int), vs = [.ref p, .ref m] ∧ Pl C H p kn ss ∧ LmH H m km lo hi ∧ (∀ n, n ∈ km ↔ n ∈ ss.map (·.n)) ∧ km.Nodup ∧ km.length ≤ 100 ∧
  ((∃ s ∈ ss, hi s.n < lo s.n) → Giv .non H Q) ∧
  (∀ x dx fs q num fl H', H q = none → Ex H H' → H' x = some (.ins M dx fs) → fs.lookup ("number" : Str) = some (.int num) → fs.lookup ("flows" : Str) = some (.ref q) → FlH H' q km fl → Within ss lo hi fl → (num ≤ 0 → Balanced kn ss fl) → (0 < num → ∀ g, Within ss lo hi g → ¬ Balanced kn ss g) → Q (.ref x) H')
theorem ok_least_missing {M : Addr} (d : Dn K mg "least_missing" sleast_missing ["plant", "limits"]) (G : Glb mg) (T : MiT K M) (c_crossed : Cal P w K mg base 5 "crossed" (spCrossed C) []) (c_lines_of : Cal P w K mg base 3 "lines_of" (spLinesOf C) []) (c_lacks : Cal P w K mg base 3 "lacks" (spLacks C) []) (c_arcs_of : Cal P w K mg base 1 "arcs_of" (spArcsOf K) []) (c_way_between : Cal P w K mg base 2 "way_between" (spWayBetween K) []) (c_push : Cal P w K mg base 1 "push" (spPush K) []) (c_leading_to : Cal P w K mg base 2 "leading_to" (spLeading K) []) (c_led_from : Cal P w K mg base 2 "led_from" (spLeading K) []) (c_missing_of : Cal P w K mg base 4 "missing_of" (spMissingOf C) []) (c_Missing : Mak P w K mg base 1 "Missing" M (spMissing K M) []) (p_knots : Prb P w K mg base 1 C "knots" (spKnots C)) : Cal P w K mg base 6 "least_missing" (spLeast C M) [] := by
  refine d.cal scleast_missing (fun vs H Q E h => ?_) (fun f cdv A outer s H vs Q E hr h => ?_)
  · obtain ⟨p, m, kn, ss, km, lo, hi, rfl, _⟩ := h
    rfl
  · obtain ⟨p, m, kn, ss, km, lo, hi, rfl, hp, hm0, hk, ndk, hz, k1, k2⟩ := h
    refine ⟨_, (pss_cons (ps_if (pt_cmp (pc_notN (pe_c c_crossed hr (by decide) rfl (pa_cons (pv 0) (pa_cons (pv 1) pa_nil))))) (pss_one (ps_ret pe_non)) pss_nil)
      (pss_cons (ps_set (i := 2) scleast_missing.nd rfl (by first | exact .inl rfl | exact .inr rfl) (pe_c c_lines_of hr (by decide) rfl (pa_cons (pv 0) pa_nil)))
      (pss_cons (ps_lock (ps_setDc (i := 3) (own := [("name", 11)]) rfl scleast_missing.nd rfl rfl (swd_true rfl rfl rfl (by decide +kernel)) (pi_keys (pv 1)) (blkOk_by (N := nleast_missing) (sc := defScope sleast_missing) (by decide +kernel)) (fun _ _ _ _ _ => (pg_name (i := 11) scleast_missing.nd rfl (by first | exact .inl rfl | exact .inr rfl))) (fun _ _ _ _ _ => pts_nil) (fun _ _ _ _ _ => (pv 11)) (fun _ _ _ _ _ => (pe_ix (ix_tupK K) (pe_dget (hu_of hr) (pv 1) (pv 11) (fun _ _ => rfl)) pe_int (fun _ _ => rfl)))))
      (pss_cons (ps_while PassesOwn.never (pt_val pe_bl)
      (pss_cons (ps_set (i := 4) scleast_missing.nd rfl (by first | exact .inl rfl | exact .inr rfl) (pe_c c_lacks hr (by decide) rfl (pa_cons (pv 0) (pa_cons (pv 3) pa_nil))))
      (pss_cons (ps_setLc (i := 5) (own := [("knot", 12)]) rfl scleast_missing.nd rfl rfl (sw_true rfl rfl rfl (by decide +kernel)) (pi_list (pe_pr p_knots hr (by decide) (pv 0) rfl)) (blkOk_by (N := nleast_missing) (sc := defScope sleast_missing) (by decide +kernel)) (fun _ _ _ _ _ => (pg_name (i := 12) scleast_missing.nd rfl (by first | exact .inl rfl | exact .inr rfl))) (fun _ _ _ _ _ => (pts_one (pt_cmpR op_gt (pe_dget (hu_of hr) (pv 4) (pv 12) (fun _ _ => rfl)) pe_int (nomark _)))) (fun _ _ _ _ _ => (pv 12)))
      (pss_cons (ps_setLc (i := 6) (own := [("knot", 12)]) rfl scleast_missing.nd rfl rfl (sw_true rfl rfl rfl (by decide +kernel)) (pi_list (pe_pr p_knots hr (by decide) (pv 0) rfl)) (blkOk_by (N := nleast_missing) (sc := defScope sleast_missing) (by decide +kernel)) (fun _ _ _ _ _ => (pg_name (i := 12) scleast_missing.nd rfl (by first | exact .inl rfl | exact .inr rfl))) (fun _ _ _ _ _ => (pts_one (pt_cmpR op_lt (pe_dget (hu_of hr) (pv 4) (pv 12) (fun _ _ => rfl)) pe_int (nomark _)))) (fun _ _ _ _ _ => (pv 12)))
      (pss_cons (ps_set (i := 7) scleast_missing.nd rfl (by first | exact .inl rfl | exact .inr rfl) (pe_c c_way_between hr (by decide) rfl (pa_cons (pe_c c_arcs_of hr (by decide) rfl (pa_cons (pv 2) (pa_cons (pv 1) (pa_cons (pv 3) pa_nil)))) (pa_cons (pv 5) (pa_cons (pv 6) pa_nil)))))
      (pss_cons (ps_if (pt_cmp (pc_isN (pv 7))) (pss_one ps_break) pss_nil)
      (pss_one (ps_expr (pe_c c_push hr (by decide) rfl (pa_cons (pv 3) (pa_cons (pv 7) (pa_cons (pe_callB (call_min2 rfl) (by rfl) G.min (by decide +kernel) (pa_cons (pe_dget (hu_of hr) (pv 4) (pe_ix (ix_tupK K) (pe_ix (ix_listK K) (pv 7) pe_int (fun _ _ => rfl)) pe_int (fun _ _ => rfl)) (fun _ _ => rfl)) (pa_cons (pe_un un_neg (pe_dget (hu_of hr) (pv 4) (pe_ix (ix_tupK K) (pe_ix (ix_listK K) (pv 7) (pe_un un_neg pe_int) (fun _ _ => rfl)) pe_int (fun _ _ => rfl)) (fun _ _ => rfl))) pa_nil))) pa_nil))))))))))))
      (pss_cons (ps_set (i := 8) scleast_missing.nd rfl (by first | exact .inl rfl | exact .inr rfl) (pe_c c_leading_to hr (by decide) rfl (pa_cons (pv 2) (pa_cons (pv 1) (pa_cons (pv 3) (pa_cons (pv 6) pa_nil))))))
      (pss_cons (ps_set (i := 9) scleast_missing.nd rfl (by first | exact .inl rfl | exact .inr rfl) (pe_c c_led_from hr (by decide) rfl (pa_cons (pv 2) (pa_cons (pv 1) (pa_cons (pv 3) (pa_cons (pv 5) pa_nil))))))
      (pss_cons (ps_set (i := 10) scleast_missing.nd rfl (by first | exact .inl rfl | exact .inr rfl) (pe_lst (pa_cons (pe_lc (own := [("knot", 12)]) rfl scleast_missing.nd (pi_list (pe_pr p_knots hr (by decide) (pv 0) rfl)) (blkOk_by (N := nleast_missing) (sc := defScope sleast_missing) (by decide +kernel)) (fun _ _ _ _ _ => (pg_name (i := 12) scleast_missing.nd rfl (by first | exact .inl rfl | exact .inr rfl))) (fun _ _ _ _ _ => (pts_one (pt_cmp (pc_din (hu_of hr) (pv 12) (pv 8))))) (fun _ _ _ _ _ => (pv 12))) (pa_cons (pe_lc (own := [("knot", 12)]) rfl scleast_missing.nd (pi_list (pe_pr p_knots hr (by decide) (pv 0) rfl)) (blkOk_by (N := nleast_missing) (sc := defScope sleast_missing) (by decide +kernel)) (fun _ _ _ _ _ => (pg_name (i := 12) scleast_missing.nd rfl (by first | exact .inl rfl | exact .inr rfl))) (fun _ _ _ _ _ => (pts_one (pt_cmp (pc_dnotin (hu_of hr) (pv 12) (pv 9))))) (fun _ _ _ _ _ => (pv 12))) pa_nil))))
      (pss_one (ps_ret (pe_mk c_Missing hr (by decide) rfl (pa_cons (pe_c c_missing_of hr (by decide) rfl (pa_cons (pv 0) (pa_cons (pv 3) pa_nil))) (pa_cons (pv 3) (pa_cons (pe_ix (ix_listK K) (pv 10) pe_int (fun _ _ => rfl)) (pa_cons (pe_ix (ix_listK K) (pv 10) pe_int (fun _ _ => rfl)) pa_nil)))))))))))))), ?_⟩
    have ok := hp.ok
    have ku := ok.ku
    have su := ok.su
    obtain ⟨dx, _, _, _, hpx, _⟩ := hp.r
    refine ⟨_, rfl, _, rfl, p, m, kn, ss, km, lo, hi, rfl, hp, hm0, hk, ndk, hz, fun v H1 e1 hv => ?_⟩
    rcases hv with ⟨rfl, hle⟩ | ⟨s1, hs1, rfl, hlt⟩
    case inr => exact ⟨_, rfl, itT rfl (k1 ⟨s1, hs1, hlt⟩ H1 e1)⟩
    refine ⟨_, rfl, itF rfl ?_⟩
    refine ⟨_, rfl, p, kn, ss, rfl, hp.mono e1, fun l ws H2 n2 e2 h2 hw2 => ?_⟩
    have e02 := e1.trans e2
    have hl2 : LsT K encL H2 l (lnO ss) := LsT.of h2 hw2
    obtain ⟨g, hm2, hg2⟩ := hm0.mono e02
    refine ⟨m, _, hm2, trivial, fun od => ?_⟩
    refine ⟨_, rfl, m, od, rfl, .inl ⟨_, upd_same, ?_⟩⟩
    have hg3 : ∀ n ∈ km, (upd H2 m (.frz od (.dK (DR km fun n => .ref (g n))))) (g n) = some (.tup [.int (lo n), .int (hi n)]) := fun n hn => by
      rw [upd_ne (ne_of (hg2 n hn) hm2 (by intro z; cases z))]
      exact hg2 n hn
    refine dc_J (J := Itk m od _) (fun v (x : Str) _ => v = V.str x) id (fun n => .int (lo n)) (gv_keys upd_same) (by omega) (by rw [List.map_id]; exact ndk) (fun x c H' Y ex hc e hY => ?_) (fun F H3 nF e3 hF3 => ?_)
    · subst ex
      exact ⟨rfl, _, rfl, _, rfl, _, rfl, m, _, rfl, dr_get (.inr ⟨od, e _ _ upd_same⟩) hc, g c, _, _, _, rfl, rfl, SqT.of (e _ _ (hg3 c hc)), rfl, hY _ (Evl.Ex.refl _)⟩
    rw [List.map_id] at hF3
    have Fm : F ≠ m := fun q => by rw [q, upd_same] at nF; cases nF
    have nF2 : H2 F = none := by rw [upd_ne Fm] at nF; exact nF
    have nF0 : H F = none := Ex.free e02 nF2
    have e23 := ex_unlock hm2 e3
    refine ⟨e3 _ _ upd_same, ?_⟩
    have hFc : FlH (upd H3 m (.dK (DR km fun n => .ref (g n)))) F km lo := by
      unfold FlH
      rw [upd_ne Fm]
      exact hF3
    refine ⟨fun v σ H' => ∃ fl o4 o5 o6 o7 o8 o9 o10 o11 o12, σ = [some (.ref p), some (.ref m), some (.ref l), some (.ref F), o4, o5, o6, o7, o8, o9, o10, o11, o12] ∧ Ex H2 H' ∧ FlH H' F km fl ∧ Within ss lo hi fl ∧ v = (overSum kn (lnO ss) fl).toNat,
      ⟨_, lo, _, _, _, _, _, _, _, _, _, rfl, e23, hFc, fun s hs => ⟨Int.le_refl _, hle s hs⟩, rfl⟩, fun v σ H' hI => ?_⟩
    obtain ⟨fl, o4, o5, o6, o7, o8, o9, o10, o11, o12, rfl, e, hF, hwi, hv⟩ := hI
    refine ⟨_, rfl, itT rfl ⟨fun σ H' => ∃ v', v' < v ∧ ∃ fl o4 o5 o6 o7 o8 o9 o10 o11 o12, σ = [some (.ref p), some (.ref m), some (.ref l), some (.ref F), o4, o5, o6, o7, o8, o9, o10, o11, o12] ∧ Ex H2 H' ∧ FlH H' F km fl ∧ Within ss lo hi fl ∧ v' = (overSum kn (lnO ss) fl).toNat, fun _ _ h => h, ?_⟩⟩
    have hp' := hp.mono (e02.trans e)
    -- left
    refine ⟨_, rfl, _, rfl, p, F, kn, ss, km, fl, rfl, hp', hF, hk, hz, fun L H4 n4 e4 h4 => ?_⟩
    -- over
    have e24 := e.trans e4
    have e04 := e02.trans e24
    refine ⟨_, rfl, p, dx, _, rfl, e04 _ _ hpx, p, kn, ss, rfl, hp.r.mono e04, fun a5 H5 n5 e5 h5 => ?_⟩
    refine ⟨a5, rfl, ⟨_, SqL.of h5⟩, ?_⟩
    refine lc_J (J := Itl K a5) (fun v (x : Str) _ => v = V.str x) (fun _ v x _ => v = V.str x) (fun _ => std_str) (fun k => if 0 < MsM.exc (lnS ss) fl k then some k else none) (gv_list (SqL.of h5) (str_ls _ _)) (by omega) (fun D x c H' T Y _ _ ex hc e' hT hY => ?_) (fun O ys H6 n6 e6 h6 hl6 => ?_)
    · subst ex
      refine ⟨rfl, _, rfl, _, rfl, L, _, rfl, dr_get (.inl ((e5.trans e') _ _ h4)) hc, _, _, rfl, rfl, _, rfl, ?_⟩
      by_cases q : 0 < MsM.exc (lnS ss) fl c
      · exact itP q ⟨_, rfl, hY c (if_pos q) _ _ (Evl.Ex.refl _) rfl⟩
      · exact itN q (hT (if_neg q) _ (Evl.Ex.refl _))
    have y6 := ls_str hl6
    subst y6
    rw [fm_if (fun k => 0 < MsM.exc (lnS ss) fl k) (fun k => k), List.map_id'] at h6
    have e26 := (e24.trans e5).trans e6
    have e06 := e02.trans e26
    have h46 := (e5.trans e6) _ _ h4
    -- short
    refine ⟨_, rfl, p, dx, _, rfl, e06 _ _ hpx, p, kn, ss, rfl, hp.r.mono e06, fun a7 H7 n7 e7 h7 => ?_⟩
    refine ⟨a7, rfl, ⟨_, SqL.of h7⟩, ?_⟩
    refine lc_J (J := Itl K a7) (fun v (x : Str) _ => v = V.str x) (fun _ v x _ => v = V.str x) (fun _ => std_str) (fun k => if MsM.exc (lnS ss) fl k < 0 then some k else none) (gv_list (SqL.of h7) (str_ls _ _)) (by omega) (fun D x c H' T Y _ _ ex hc e' hT hY => ?_) (fun S ys H8 n8 e8 h8 hl8 => ?_)
    · subst ex
      refine ⟨rfl, _, rfl, _, rfl, L, _, rfl, dr_get (.inl ((e7.trans e') _ _ h46)) hc, _, _, rfl, rfl, _, rfl, ?_⟩
      by_cases q : MsM.exc (lnS ss) fl c < 0
      · exact itP q ⟨_, rfl, hY c (if_pos q) _ _ (Evl.Ex.refl _) rfl⟩
      · exact itN q (hT (if_neg q) _ (Evl.Ex.refl _))
    have y8 := ls_str hl8
    subst y8
    rw [fm_if (fun k => MsM.exc (lnS ss) fl k < 0) (fun k => k), List.map_id'] at h8
    have e28 := (e26.trans e7).trans e8
    have e08 := e02.trans e28
    have e48 := ((e5.trans e6).trans e7).trans e8
    have hF8 : FlH H8 F km fl := hF.mono (e4.trans e48)
    have hm8 : LmH H8 m km lo hi := hm0.mono e08
    have hl8' := hl2.mono e28
    have h68 := (e7.trans e8) _ _ h6
    have hnm : ∀ x ∈ lnO ss, x.n ∈ km ∧ x.n ∈ km := fun x hx => by
      obtain ⟨s, hs, en, _⟩ := lnO_mem hx
      have : x.n ∈ km := (hk _).mpr (List.mem_map.mpr ⟨s, hs, en.symm⟩)
      exact ⟨this, this⟩
    have zl := lnO_len ss
    have hkn : ∀ l ∈ lnO ss, l.h ∈ kn ∧ l.t ∈ kn := fun l hl => by
      obtain ⟨s, hs, _, et, eh⟩ := lnO_mem hl
      obtain ⟨_, b1, b2, _⟩ := ok.sok s hs
      exact ⟨eh ▸ b2, et ▸ b1⟩
    have zo : (kn.filter fun k => decide (0 < MsM.exc (lnS ss) fl k)).length ≤ 24 := Nat.le_trans (List.length_filter_le _ _) ku
    have zs : (kn.filter fun k => decide (MsM.exc (lnS ss) fl k < 0)).length ≤ 24 := Nat.le_trans (List.length_filter_le _ _) ku
    have ndo : (kn.filter fun k => decide (0 < MsM.exc (lnS ss) fl k)).Nodup := List.filter_sublist.nodup ok.knd
    have nds : (kn.filter fun k => decide (MsM.exc (lnS ss) fl k < 0)).Nodup := List.filter_sublist.nodup ok.knd
    -- way
    refine ⟨_, rfl, _, rfl, _, rfl, l, m, F, lnO ss, km, km, lo, hi, fl, rfl, hl8', hm8, hF8, hnm, by omega, fun A1 ws9 H9 n9 e9 h9 hw9 => ?_⟩
    refine ⟨_, rfl, _, rfl, A1, O, S, _, _, _, rfl, LsT.of h9 hw9, SqL.of (e9 _ _ h68), SqL.of (e9 _ _ h8), ndo, by omega, Nat.le_trans arcs_len (by omega), fun D d1 d2 d3 HA eA => ?_, fun p1 way q1 rk hp1 hq1 hc has hri z wsZ HB nB eB hB hlB => ?_⟩
    · refine ⟨_, rfl, _, rfl, itT rfl ?_⟩
      have e8A := e9.trans eA
      have e2A := e28.trans e8A
      have e0A := e02.trans e2A
      -- least
      refine ⟨_, rfl, _, rfl, _, rfl, _, rfl, l, m, F, S, lnO ss, km, km, lo, hi, fl, _, rfl, hl8'.mono e8A, hm8.mono e8A, hF8.mono e8A, hnm, by omega, SqL.of (e8A _ _ h8), nds, by omega, fun R1 f1 HC nC eC hC => ?_⟩
      -- spared
      have e8C := e8A.trans eC
      refine ⟨_, rfl, _, rfl, _, rfl, _, rfl, l, m, F, O, lnO ss, km, km, lo, hi, fl, _, rfl, hl8'.mono e8C, hm8.mono e8C, hF8.mono e8C, hnm, by omega, SqL.of (e8C _ _ h68), ndo, by omega, fun R2 f2 HD nD eD hD => ?_⟩
      have e8D := e8C.trans eD
      have e0D := e08.trans e8D
      -- lots
      refine ⟨_, rfl, p, dx, _, rfl, e0D _ _ hpx, p, kn, ss, rfl, hp.r.mono e0D, fun a10 HE nE eE hE => ?_⟩
      refine ⟨a10, rfl, ⟨_, SqL.of hE⟩, ?_⟩
      refine lc_J (J := Itl K a10) (fun v (x : Str) _ => v = V.str x) (fun _ v x _ => v = V.str x) (fun _ => std_str) (fun k => if k ∈ f1 then some k else none) (gv_list (SqL.of hE) (str_ls _ _)) (by omega) (fun D x c H' T Y _ _ ex hc e' hT hY => ?_) (fun B1 y1 HG nG eG hG hlG => ?_)
      · subst ex
        obtain ⟨o, ho, eo⟩ := dr_has (n := c) (.inl ((eD.trans (eE.trans e')) _ _ hC))
        refine ⟨rfl, _, rfl, _, rfl, R1, o, rfl, ho, _, rfl, ?_⟩
        rw [eo]
        by_cases q : c ∈ f1
        · exact itP q ⟨_, rfl, hY c (if_pos q) _ _ (Evl.Ex.refl _) rfl⟩
        · exact itN q (hT (if_neg q) _ (Evl.Ex.refl _))
      have eDG := eE.trans eG
      have e0G := e0D.trans eDG
      refine ⟨_, rfl, p, dx, _, rfl, e0G _ _ hpx, p, kn, ss, rfl, hp.r.mono e0G, fun a11 HI nI eI hI => ?_⟩
      refine ⟨a11, rfl, ⟨_, SqL.of hI⟩, ?_⟩
      refine lc_J (J := Itl K a11) (fun v (x : Str) _ => v = V.str x) (fun _ v x _ => v = V.str x) (fun _ => std_str) (fun k => if ¬ k ∈ f2 then some k else none) (gv_list (SqL.of hI) (str_ls _ _)) (by omega) (fun D x c H' T Y _ _ ex hc e' hT hY => ?_) (fun B2 y2 HJ nJ eJ hJ hlJ => ?_)
      · subst ex
        obtain ⟨o, ho, eo⟩ := dr_has (n := c) (.inl ((eDG.trans (eI.trans e')) _ _ hD))
        refine ⟨rfl, _, rfl, _, rfl, R2, o, rfl, ho, _, rfl, ?_⟩
        rw [eo]
        by_cases q : c ∈ f2
        · exact itF (by rw [decide_eq_true q]; rfl) (hT (if_neg (fun z => z q)) _ (Evl.Ex.refl _))
        · exact itT (by rw [decide_eq_false q]; rfl) ⟨_, rfl, hY c (if_pos q) _ _ (Evl.Ex.refl _) rfl⟩
      refine ⟨sz1 (by show 2 ≤ 100000; decide), fun Z nZ => ?_⟩
      have e8Z := ((e8D.trans eDG).trans (eI.trans eJ)).trans (Evl.Ex.new (o := .lst [.ref B1, .ref B2]) nZ)
      have e0Z := e08.trans e8Z
      -- Missing
      refine ⟨_, rfl, _, rfl, p, F, kn, ss, km, fl, rfl, hp.mono e0Z, hF8.mono e8Z, hk, hz, fun HM eM => ?_⟩
      have hZ : HM Z = some (.lst [.ref B1, .ref B2]) := eM _ _ upd_same
      refine ⟨_, rfl, _, rfl, Z, _, _, _, rfl, rfl, SqL.of hZ, rfl, _, rfl, Z, _, _, _, rfl, rfl, SqL.of hZ, rfl, ?_⟩
      intro x dx2 nx ndx nex
      have eX : Ex HM (upd (upd HM dx2 (.own x)) x (.ins M dx2 [])) := (Evl.Ex.new ndx).trans (Evl.Ex.new (by rw [upd_ne nex.symm]; exact nx))
      have e8X := (e8Z.trans eM).trans eX
      have hB1 : (upd (upd HM dx2 (.own x)) x (.ins M dx2 [])) B1 = some (.lst y1) := (((eI.trans eJ).trans (Evl.Ex.new nZ)).trans (eM.trans eX)) _ _ hG
      have hB2 : (upd (upd HM dx2 (.own x)) x (.ins M dx2 [])) B2 = some (.lst y2) := ((Evl.Ex.new nZ).trans (eM.trans eX)) _ _ hJ
      refine ⟨x, dx2, F, B1, B2, _, _, _, _, rfl, upd_same, hF8.mono e8X, SqL.of hB1, SqL.of hB2, fun HR fs q nq r1 r2 r3 r4 eb => ⟨rfl, ?_⟩⟩
      have eMR : Ex HM HR := fun b o hb => eb b o (ne_of_none hb nx) (eX b o hb)
      refine k2 x dx2 fs q _ fl HR (Ex.free (e08.trans e8X) nq) ((e0Z.trans eM).trans eMR) r1 r2 r3 r4 hwi (fun hnum => ?_) (fun hnum g2 hg2 hbal => ?_)
      · have hkS : ∀ l ∈ lnS ss, l.h ∈ kn ∧ l.t ∈ kn := fun l hl => by
          obtain ⟨s, hs, rfl⟩ := List.mem_map.mp hl
          obtain ⟨_, b1, b2, _⟩ := ok.sok s hs
          exact ⟨b2, b1⟩
        exact lack_zero ok.knd hkS hnum
      · have eS : ∀ f k, MsM.exc (lnO ss) f k = MsM.exc (lnS ss) f k := exc_lnO ss
        refine none_fits (g := g2) ok.knd hkn d2 (fun l hl => ?_) (fun k hk2 hpos => ?_) (fun k hk2 hneg hD2 => ?_) ?_ (fun k hk2 => by rw [eS]; exact hbal k hk2)
        · obtain ⟨s, hs, en, _⟩ := lnO_mem hl
          rw [en]
          exact hg2 s hs
        · rw [eS] at hpos
          exact d1 k (List.mem_filter.mpr ⟨hk2, decide_eq_true hpos⟩)
        · rw [eS] at hneg
          exact d3 k hD2 (List.mem_filter.mpr ⟨hk2, decide_eq_true hneg⟩)
        · unfold lackSum at hnum ⊢
          simp only [eS]
          exact hnum
    · obtain ⟨hp2, hp3⟩ := List.mem_filter.mp hp1
      obtain ⟨hq2, hq3⟩ := List.mem_filter.mp hq1
      have hp3 : 0 < MsM.exc (lnS ss) fl p1 := of_decide_eq_true hp3
      have hq3 : MsM.exc (lnS ss) fl q1 < 0 := of_decide_eq_true hq3
      have npq : p1 ≠ q1 := fun z => by rw [z] at hp3; omega
      obtain ⟨c1, r1, w1, f1⟩ := chain_first hc npq
      obtain ⟨r2, c2, w2, f2⟩ := chain_last hc npq
      refine ⟨_, rfl, _, rfl, itF rfl ?_⟩
      have e4B := (e48.trans e9).trans eB
      have hL : HB L = some (.dK (DR kn fun k => .int (MsM.exc (lnS ss) fl k))) := e4B _ _ h4
      obtain ⟨v1, g1, t1, ev1, ht1⟩ := hlB.at (i := 0) (x := c1) (by rw [w1]; rfl)
      have i2 : way[r2.length]? = some c2 := by rw [w2]; simp
      obtain ⟨v2, g2, t2, ev2, ht2⟩ := hlB.at i2
      have last : atI wsZ (-1) = some v2 := by
        have l1 : wsZ.length = r2.length + 1 := by rw [hlB.1, w2]; simp
        have e1 : wsZ = wsZ.take r2.length ++ [v2] := by
          rw [← take_snoc g2, List.take_of_length_le (by omega)]
        rw [e1]
        exact atI_last _ _
      subst ev1 ev2
      refine ⟨_, rfl, _, rfl, ?_⟩
      refine ⟨_, rfl, _, rfl, z, _, _, _, rfl, rfl, SqL.of hB, atI_nat (j := 0) g1, t1, _, _, _, rfl, rfl, SqT.of ht1, rfl, L, _, rfl, dr_get (.inl hL) (by rw [f1]; exact hp2), ?_⟩
      refine ⟨_, rfl, _, rfl, _, rfl, z, _, _, _, rfl, rfl, SqL.of hB, last, t2, _, _, _, rfl, rfl, SqT.of ht2, rfl, L, _, rfl, dr_get (.inl hL) (by rw [f2]; exact hq2), _, rfl, _, _, rfl, ?_⟩
      have way_n : ∀ c ∈ way, c.n ∈ km ∧ (c.s = 1 ∨ c.s = -1) := fun c hc => by
        obtain ⟨b1, b2, _⟩ := arc_ok (fun x hx => (hnm x hx).1) (has c hc)
        exact ⟨b1, b2⟩
      have zw := way_len (lnO_nd ok.snd) hc has hri
      refine ⟨F, z, _, km, fl, way, rfl, hF8.mono (e9.trans eB), ⟨wsZ, hB, hlB⟩, way_n, by omega, hz, fun amt HC a1 a2 a3 eb hFC => ?_⟩
      rw [f1, f2] at a1 a3
      have am1 : amt ≤ MsM.exc (lnS ss) fl p1 := by
        split at a1 <;> omega
      have am2 : amt ≤ -(MsM.exc (lnS ss) fl q1) := by
        split at a1 <;> omega
      have pos : 0 < amt := by
        rcases a3 with a3 | ⟨c, hc, a3⟩
        · split at a3 <;> omega
        · have := (arc_ok (fun x hx => (hnm x hx).1) (has c hc)).2.2
          omega
      have eo := exc_lnO ss fl
      have ov := overSum_push ok.knd (ls := lnO ss) (fl := fl) (fl' := MsM.pushed fl amt way) (p := p1) (q := q1) (amt := amt) hp2 (fun k => MsM.exc_push (lnO_nd ok.snd) amt fl hc (fun c hc => (arcs_is.mp (has c hc)).ofLine) k) pos (by rw [eo]; exact am1) (by rw [eo]; exact am2)
      have nn := overSum_nonneg kn (lnO ss) (MsM.pushed fl amt way)
      refine ⟨(overSum kn (lnO ss) (MsM.pushed fl amt way)).toNat, by clear a3; omega, MsM.pushed fl amt way, _, _, _, _, _, _, _, _, _, rfl, ?_, hFC, fun s hs => ?_, rfl⟩
      · exact eb.ex ((e28.trans e9).trans eB) nF2
      · exact MsM.pushed_within (MsM.way_names (lnO_nd ok.snd) hc hri fun c hc => (arcs_is.mp (has c hc)).ofLine) (fun c hc => arcs_is.mp (has c hc)) a2 (by omega) (hwi s hs)
end
end Ms

set_option maxHeartbeats 4000000
namespace Ms
open PySem PySem.Spec PyProof.Rows L2
open Evl (Ex)
open C8 (Cal Mak Met pe_c pe_mk pe_mt pe_mt0 pe_gc)
theorem Within.none {ss : List Sm} {lo hi g : Str → Int} {s : Sm} (hs : s ∈ ss) (h : hi s.n < lo s.n) : ¬ Within ss lo hi g := fun w => by
  have := w s hs
  omega
/-- a lot that may be none -/
def LotR (K : PySem.W.Frag) (H : Hp) (v : V) : Option (List Str) → Prop
  | none => v = .non
  | some xs => ∃ r, v = .ref r ∧ H r = some (.lst (xs.map V.str))
theorem LotR.mono {K : PySem.W.Frag} {H H' : Hp} {v : V} {l : Option (List Str)} (e : Ex H H') (h : LotR K H v l) : LotR K H' v l := by
  cases l with
  | none => exact h
  | some xs =>
    obtain ⟨r, h1, h2⟩ := h
    exact ⟨r, h1, e _ _ h2⟩
theorem LotR.exb {K : PySem.W.Frag} {H H' : Hp} {p C dx : Addr} {fs : List (Str × V)} {v : V} {l : Option (List Str)} (e : ExB p H H') (hp : H p = some (.ins C dx fs)) (h : LotR K H v l) : LotR K H' v l := by
  cases l with
  | none => exact h
  | some xs =>
    obtain ⟨r, h1, h2⟩ := h
    exact ⟨r, h1, e _ _ (ne_of h2 hp (by intro z; cases z)) h2⟩
theorem lot_copy {K : PySem.W.Frag} {H : Hp} {σ : L2.St} {i : Nat} {v : V} {l : Option (List Str)} {Q : VK} (hi : σ[i]? = some (some v)) (h : LotR K H v l) (k : ∀ v' H', Ex H H' → LotR K H' v' l → Q v' H') :
    tIf (tB (tIsN (tVar i))) (tC .non) (tCB (fun xs H Q => ∃ p ys, xs = [.ref p] ∧ (SqL K H p ys ∨ SqT K H p ys) ∧ ∀ l, H l = none → Q (.ref l) (upd H l (.lst ys))) (tCons (tVar i) tNil)) σ H Q := by
  cases l with
  | none =>
    have h : v = .non := h
    subst h
    exact ⟨_, hi, _, rfl, itT rfl (k _ _ (Evl.Ex.refl _) rfl)⟩
  | some xs =>
    obtain ⟨r, rfl, h2⟩ := h
    exact ⟨_, hi, _, rfl, itF rfl ⟨_, hi, r, _, rfl, .inl (SqL.of h2), fun l nl => k _ _ (Evl.Ex.new nl) ⟨l, rfl, upd_same⟩⟩⟩
structure RgT (K : PySem.W.Frag) (R : Addr) : Prop where
  cl : Cls K R
  n1 : NoAttr K R "low"
  n2 : NoAttr K R "high"
  n3 : NoAttr K R "low_flows"
  n4 : NoAttr K R "high_flows"
  n5 : NoAttr K R "low_lot"
  n6 : NoAttr K R "high_lot"
/-- a Range stands -/
structure RgR (K : PySem.W.Frag) (R : Addr) (H : Hp) (p : Addr) (lo hi : Int) (q1 q2 : Addr) (k1 k2 : List (Key × V)) (l1 l2 : Option (List Str)) : Prop where
  at_ : ∃ dx fs v1 v2, H p = some (.ins R dx fs) ∧ fs.lookup ("low" : Str) = some (.int lo) ∧ fs.lookup ("high" : Str) = some (.int hi) ∧ fs.lookup ("low_flows" : Str) = some (.ref q1) ∧ fs.lookup ("high_flows" : Str) = some (.ref q2) ∧ fs.lookup ("low_lot" : Str) = some v1 ∧ fs.lookup ("high_lot" : Str) = some v2 ∧ LotR K H v1 l1 ∧ LotR K H v2 l2
  d1 : H q1 = some (.dK k1)
  d2 : H q2 = some (.dK k2)
theorem RgR.mono {K : PySem.W.Frag} {R : Addr} {H H' : Hp} {p : Addr} {lo hi : Int} {q1 q2 : Addr} {k1 k2 : List (Key × V)} {l1 l2 : Option (List Str)} (e : Ex H H') (h : RgR K R H p lo hi q1 q2 k1 k2 l1 l2) : RgR K R H' p lo hi q1 q2 k1 k2 l1 l2 := by
  obtain ⟨⟨dx, fs, v1, v2, h1, a1, a2, a3, a4, a5, a6, b1, b2⟩, d1, d2⟩ := h
  exact ⟨⟨dx, fs, v1, v2, e _ _ h1, a1, a2, a3, a4, a5, a6, b1.mono e, b2.mono e⟩, e _ _ d1, e _ _ d2⟩
section
variable {P : Program} {w : World} {K : PySem.W.Frag} {mg : Str → Option Value} {base : Heap} {C M : Addr}
abbrev sare_within : Stmt := top 37
abbrev nare_within : List Str := ["plant", "limits", "flows", "name"]
theorem scare_within : FnScope nare_within ["plant", "limits", "flows"] (defScope sare_within) := ⟨rfl, rfl, rfl, by decide +kernel, rfl, by decide +kernel, by decide +kernel⟩
def withinB (km : List Str) (lo hi fl : Str → Int) : Bool := km.all fun n => decide (lo n ≤ fl n) && decide (fl n ≤ hi n)
def balancedB (kn : List Str) (ss : List Sm) (fl : Str → Int) : Bool := kn.all fun k => decide (MsM.exc (lnS ss) fl k = 0)
def spAreWithin (C : Addr) : Sp := fun vs H Q _ => ∃ (p m a : Addr) (kn : List Str) (ss : List Sm) (km kf : List Str) (lo hi fl : Str → Int), vs = [.ref p, .ref m, .ref a] ∧ Pl C H p kn ss ∧ LmH H m km lo hi ∧ (∀ n, n ∈ km ↔ n ∈ ss.map (·.n)) ∧ km.Nodup ∧ km.length ≤ 100 ∧ FlH H a kf fl ∧ (∀ n, n ∈ kf ↔ n ∈ ss.map (·.n)) ∧ kf.length ≤ 100 ∧ a ≠ m ∧ Giv (.bl (balancedB kn ss fl && withinB km lo hi fl)) H Q
theorem ok_are_within (d : Dn K mg "are_within" sare_within ["plant", "limits", "flows"]) (G : Glb mg) (c_check_flows : Cal P w K mg base 2 "check_flows" (spCheckFlows C) []) (c_crossed : Cal P w K mg base 5 "crossed" (spCrossed C) []) (c_is_balanced : Cal P w K mg base 4 "is_balanced" (spIsBalanced C) []) : Cal P w K mg base 6 "are_within" (spAreWithin C) [] := by
  refine d.cal scare_within (fun vs H Q E h => ?_) (fun f cdv A outer s H vs Q E hr h => ?_)
  · obtain ⟨p, m, a, kn, ss, km, kf, lo, hi, fl, rfl, _⟩ := h
    rfl
  · obtain ⟨p, m, a, kn, ss, km, kf, lo, hi, fl, rfl, hp, hm, hk, ndk, hz, ha, hkf, hzf, am, k⟩ := h
    refine ⟨_, (pss_cons (ps_expr (pe_c c_check_flows hr (by decide) rfl (pa_cons (pv 0) (pa_cons (pv 2) pa_nil))))
      (pss_cons (ps_expr (pe_c c_crossed hr (by decide) rfl (pa_cons (pv 0) (pa_cons (pv 1) pa_nil))))
      (pss_one (ps_ret (pe_and (pe_c c_is_balanced hr (by decide) rfl (pa_cons (pv 0) (pa_cons (pv 2) pa_nil))) (pe_one (pe_callB (cr_all rfl) (by rfl) G.all (by decide +kernel) (pa_cons (pe_lock (pe_lc (own := [("name", 3)]) rfl scare_within.nd (pi_keys (pv 1)) (blkOk_by (N := nare_within) (sc := defScope sare_within) (by decide +kernel)) (fun _ _ _ _ _ => (pg_name (i := 3) scare_within.nd rfl (by first | exact .inl rfl | exact .inr rfl))) (fun _ _ _ _ _ => pts_nil) (fun _ _ _ _ _ => (pe_chain op_le op_le (pe_ix (ix_tupK K) (pe_dget (hu_of hr) (pv 1) (pv 3) (fun _ _ => rfl)) pe_int (fun _ _ => rfl)) (pe_dget (hu_of hr) (pv 2) (pv 3) (fun _ _ => rfl)) (pe_ix (ix_tupK K) (pe_dget (hu_of hr) (pv 1) (pv 3) (fun _ _ => rfl)) pe_int (fun _ _ => rfl)))))) pa_nil)))))))), ?_⟩
    refine ⟨_, rfl, _, rfl, p, a, kn, ss, kf, _, rfl, hp, ha, hkf, hzf, fun H1 e1 => ?_⟩
    refine ⟨_, rfl, _, rfl, p, m, kn, ss, km, lo, hi, rfl, hp.mono e1, hm.mono e1, hk, ndk, hz, fun _ H2 e2 _ => ?_⟩
    have e02 := e1.trans e2
    refine ⟨_, rfl, _, rfl, p, a, kn, ss, kf, fl, rfl, hp.mono e02, ha.mono e02, hkf, hzf, fun H3 e3 => ?_⟩
    have e03 := e02.trans e3
    have e2' : (balancedB kn ss fl && withinB km lo hi fl) = if balancedB kn ss fl = true then withinB km lo hi fl else false := by
      cases balancedB kn ss fl <;> rfl
    rw [e2'] at k
    refine ⟨_, rfl, it2 (fun q => ?_) (fun q => ?_)⟩
    · have q : balancedB kn ss fl = true := q
      rw [if_pos q] at k
      obtain ⟨g, hm3, hg3⟩ := hm.mono e03
      refine ⟨m, _, hm3, trivial, fun od => ⟨_, rfl, m, od, rfl, .inl ⟨_, upd_same, ?_⟩⟩⟩
      have hg4 : ∀ n ∈ km, (upd H3 m (.frz od (.dK (DR km fun n => .ref (g n))))) (g n) = some (.tup [.int (lo n), .int (hi n)]) := fun n hn => by
        rw [upd_ne (ne_of (hg3 n hn) hm3 (by intro z; cases z))]
        exact hg3 n hn
      have ha4 : FlH (upd H3 m (.frz od (.dK (DR km fun n => .ref (g n))))) a kf fl := by
        unfold FlH
        rw [upd_ne am]
        exact ha.mono e03
      refine lc_J (J := Itk m od _) (fun v (x : Str) _ => v = V.str x) (fun _ v b _ => v = V.bl b) (fun _ => std_bl) (fun n => some (decide (lo n ≤ fl n) && decide (fl n ≤ hi n))) (gv_keys upd_same) (by omega) (fun D x c H' T Y _ _ ex hc e _ hY => ?_) (fun D ys H' hn e hy hl => ?_)
      · subst ex
        have cf : c ∈ kf := (hkf c).mpr ((hk c).mp hc)
        refine ⟨rfl, _, rfl, _, rfl, m, _, rfl, dr_get (.inr ⟨od, e _ _ upd_same⟩) hc, g c, _, _, _, rfl, rfl, SqT.of (e _ _ (hg4 c hc)), rfl, ?_⟩
        refine ⟨_, rfl, _, rfl, a, _, rfl, dr_get (.inl (ha4.mono e)) cf, _, _, rfl, rfl, _, rfl, ?_⟩
        by_cases q1 : lo c ≤ fl c
        · refine itP q1 ?_
          refine ⟨_, rfl, _, rfl, m, _, rfl, dr_get (.inr ⟨od, e _ _ upd_same⟩) hc, g c, _, _, _, rfl, rfl, SqT.of (e _ _ (hg4 c hc)), rfl, _, _, rfl, rfl, ?_⟩
          exact hY _ rfl _ _ (Evl.Ex.refl _) (by rw [decide_eq_true q1, Bool.true_and])
        · exact itN q1 (hY _ rfl _ _ (Evl.Ex.refl _) (by rw [decide_eq_false q1, Bool.false_and]))
      · rw [filterMap_some] at hl
        have e4 := ex_unlock hm3 e
        have Dm : D ≠ m := fun q => by rw [q, upd_same] at hn; cases hn
        refine ⟨e _ _ upd_same, D, _, rfl, .inl (.inl (by rw [upd_ne Dm, hy, ls_bl hl])), ?_⟩
        rw [List.all_map]
        exact k _ (e03.trans e4)
    · have q : balancedB kn ss fl = false := q
      rw [if_neg (by rw [q]; exact Bool.false_ne_true)] at k
      exact k _ e03
abbrev sflows_within : Stmt := top 38
abbrev nflows_within : List Str := ["plant", "limits", "found"]
theorem scflows_within : FnScope nflows_within ["plant", "limits"] (defScope sflows_within) := ⟨rfl, rfl, rfl, by decide +kernel, rfl, by decide +kernel, by decide +kernel⟩
def spFlowsWithin (C : Addr) : Sp := fun vs H Q _ => ∃ (p m : Addr) (kn : List Str) (ss : List Sm) (km : List Str) (lo hi : Str → Int), vs = [.ref p, .ref m] ∧ Pl C H p kn ss ∧ LmH H m km lo hi ∧ (∀ n, n ∈ km ↔ n ∈ ss.map (·.n)) ∧ km.Nodup ∧ km.length ≤ 100 ∧
  ((∀ g, Within ss lo hi g → ¬ Balanced kn ss g) → Giv .non H Q) ∧
  (∀ q fl H', H q = none → Ex H H' → FlH H' q km fl → Within ss lo hi fl → Balanced kn ss fl → Q (.ref q) H')
theorem ok_flows_within (d : Dn K mg "flows_within" sflows_within ["plant", "limits"]) (G : Glb mg) (T : MiT K M) (c_least_missing : Cal P w K mg base 6 "least_missing" (spLeast C M) []) : Cal P w K mg base 7 "flows_within" (spFlowsWithin C) [] := by
  refine d.cal scflows_within (fun vs H Q E h => ?_) (fun f cdv A outer s H vs Q E hr h => ?_)
  · obtain ⟨p, m, kn, ss, km, lo, hi, rfl, _⟩ := h
    rfl
  · obtain ⟨p, m, kn, ss, km, lo, hi, rfl, hp, hm, hk, ndk, hz, k1, k2⟩ := h
    refine ⟨_, (pss_cons (ps_set (i := 2) scflows_within.nd rfl (by first | exact .inl rfl | exact .inr rfl) (pe_c c_least_missing hr (by decide) rfl (pa_cons (pv 0) (pa_cons (pv 1) pa_nil))))
      (pss_cons (ps_if (PW.pt (pw_or (pt_cmp (pc_isN (pv 2))) (pw_or1 (pt_cmpR op_gt (pe_fldK K (pv 2) rfl) pe_int (nomark _))))) (pss_one (ps_ret pe_non)) pss_nil)
      (pss_one (ps_ret (pe_fldK K (pv 2) rfl))))), ?_⟩
    refine ⟨_, rfl, _, rfl, p, m, kn, ss, km, lo, hi, rfl, hp, hm, hk, ndk, hz, fun ⟨s, hs, hlt⟩ H1 e1 => ?_, fun x dx fs q num fl H1 nq e1 hx f1 f2 hq hw hb hnb => ?_⟩
    · exact ⟨_, rfl, _, rfl, itT rfl (k1 (fun g hg => absurd hg (Within.none hs hlt)) H1 e1)⟩
    · refine ⟨_, rfl, _, rfl, itF rfl ?_⟩
      refine ⟨_, rfl, x, M, dx, fs, _, rfl, hx, T.cl, T.n1, f1, _, _, rfl, rfl, _, rfl, ?_⟩
      by_cases q0 : 0 < num
      · exact itP q0 (k1 (hnb q0) H1 e1)
      · exact itN q0 ⟨_, rfl, x, M, dx, fs, _, rfl, hx, T.cl, T.n2, f2, k2 q fl H1 nq e1 hq hw (hb (by omega))⟩
abbrev sRange_init : Stmt := inClass (top 41) 0
abbrev nRange_init : List Str := ["self", "low", "high", "low_flows", "high_flows", "low_lot", "high_lot"]
theorem scRange_init : FnScope nRange_init ["self", "low", "high", "low_flows", "high_flows", "low_lot", "high_lot"] (defScope sRange_init) := ⟨rfl, rfl, rfl, by decide +kernel, rfl, by decide +kernel, by decide +kernel⟩
def spRange (K : PySem.W.Frag) (R : Addr) : Sp := fun vs H Q _ => ∃ (p dx a b : Addr) (lo hi : Int) (k1 k2 : List (Key × V)) (v1 v2 : V) (l1 l2 : Option (List Str)), vs = [.ref p, .int lo, .int hi, .ref a, .ref b, v1, v2] ∧ H p = some (.ins R dx []) ∧ H a = some (.dK k1) ∧ H b = some (.dK k2) ∧ LotR K H v1 l1 ∧ LotR K H v2 l2 ∧
  ∀ H' q1 q2, H q1 = none → H q2 = none → RgR K R H' p lo hi q1 q2 k1 k2 l1 l2 → ExB p H H' → Q .non H'
theorem ok_Range (d : Kn K mg "Range" C "Range.__init__" sRange_init ["self", "low", "high", "low_flows", "high_flows", "low_lot", "high_lot"]) (G : Glb mg) (T : RgT K C) : Mak P w K mg base 1 "Range" C (spRange K C) [] := by
  refine d.mak scRange_init (fun vs H Q E h => ?_) (fun f cdv A outer s H vs Q E hr h => ?_)
  · obtain ⟨p, dx, a, b, lo, hi, k1, k2, v1, v2, l1, l2, rfl, _⟩ := h
    rfl
  · obtain ⟨p, dx, a, b, lo, hi, k1, k2, v1, v2, l1, l2, rfl, hp, ha, hb, h1, h2, k⟩ := h
    refine ⟨_, (pss_cons (ps_fld (pv 0) (pv 1) rfl)
      (pss_cons (ps_fld (pv 0) (pv 2) rfl)
      (pss_cons (ps_fld (pv 0) (pe_callTy call_dictD (by rfl) G.dict (by decide +kernel) (pa_cons (pv 3) pa_nil)) rfl)
      (pss_cons (ps_fld (pv 0) (pe_callTy call_dictD (by rfl) G.dict (by decide +kernel) (pa_cons (pv 4) pa_nil)) rfl)
      (pss_cons (ps_fld (pv 0) (pe_ifExp (pt_cmp (pc_isN (pv 5))) pe_non (pe_callTy call_list_of (by rfl) G.list (by decide +kernel) (pa_cons (pv 5) pa_nil))) rfl)
      (pss_one (ps_fld (pv 0) (pe_ifExp (pt_cmp (pc_isN (pv 6))) pe_non (pe_callTy call_list_of (by rfl) G.list (by decide +kernel) (pa_cons (pv 6) pa_nil))) rfl))))))), ?_⟩
    refine ⟨_, rfl, _, rfl, p, C, dx, _, rfl, hp, T.cl, T.n1, (by show 0 < 1000; decide), ?_⟩
    refine ⟨_, rfl, _, rfl, p, C, dx, _, rfl, upd_same, T.cl, T.n2, (by show 1 < 1000; decide), ?_⟩
    rw [upd_upd]
    have ap : a ≠ p := ne_of ha hp (by intro z; cases z)
    have bp : b ≠ p := ne_of hb hp (by intro z; cases z)
    have e1 : ExB p H (upd H p (.ins C dx (putF "high" (.int hi) (putF "low" (.int lo) [])))) := ExB.upd
    refine ⟨_, rfl, a, k1, rfl, .inl (e1 _ _ ap ha), fun q1 n1 => ?_⟩
    have q1p : q1 ≠ p := fun z => by rw [z, upd_same] at n1; cases n1
    have n10 : H q1 = none := by rw [upd_ne q1p] at n1; exact n1
    refine ⟨_, rfl, p, C, dx, _, rfl, by rw [upd_ne q1p.symm, upd_same], T.cl, T.n3, (by show 2 < 1000; decide), ?_⟩
    have e2 := (e1.trans (ExB.of (Evl.Ex.new (o := .dK k1) n1))).trans (ExB.upd (o := .ins C dx (putF "low_flows" (.ref q1) (putF "high" (.int hi) (putF "low" (.int lo) [])))))
    have g1 : ExB p (upd (upd H p (.ins C dx (putF "high" (.int hi) (putF "low" (.int lo) [])))) q1 (.dK k1)) (upd (upd (upd H p (.ins C dx (putF "high" (.int hi) (putF "low" (.int lo) [])))) q1 (.dK k1)) p (.ins C dx (putF "low_flows" (.ref q1) (putF "high" (.int hi) (putF "low" (.int lo) []))))) := ExB.upd
    have d1 := g1 _ _ q1p upd_same
    refine ⟨_, rfl, b, k2, rfl, .inl (e2 _ _ bp hb), fun q2 n2 => ?_⟩
    have q2p : q2 ≠ p := fun z => by rw [z, upd_same] at n2; cases n2
    have n20 : H q2 = none := by
      cases e : H q2 with
      | none => rfl
      | some o => rw [e2 _ _ q2p e] at n2; cases n2
    refine ⟨_, rfl, p, C, dx, _, rfl, by rw [upd_ne q2p.symm, upd_same], T.cl, T.n4, (by show 3 < 1000; decide), ?_⟩
    generalize hG : (upd (upd (upd (upd H p (.ins C dx (putF "high" (.int hi) (putF "low" (.int lo) [])))) q1 (.dK k1)) p (.ins C dx (putF "low_flows" (.ref q1) (putF "high" (.int hi) (putF "low" (.int lo) []))))) q2 (.dK k2)) = H4 at *
    have e3 : ExB p H H4 := by rw [← hG]; exact e2.trans (ExB.of (Evl.Ex.new (o := .dK k2) n2))
    have d1' : H4 q1 = some (.dK k1) := by rw [← hG]; exact Evl.Ex.new n2 _ _ d1
    have d2' : H4 q2 = some (.dK k2) := by rw [← hG]; exact upd_same
    have e5 := e3.trans (ExB.upd (o := .ins C dx (putF "high_flows" (.ref q2) (putF "low_flows" (.ref q1) (putF "high" (.int hi) (putF "low" (.int lo) []))))))
    have c5 : ExB p H4 (upd H4 p (.ins C dx (putF "high_flows" (.ref q2) (putF "low_flows" (.ref q1) (putF "high" (.int hi) (putF "low" (.int lo) [])))))) := ExB.upd
    have d15 := c5 _ _ q1p d1'
    have d25 := c5 _ _ q2p d2'
    refine lot_copy (l := l1) rfl (h1.exb e5 hp) fun w1 H6 e6 r1 => ?_
    have p6 := e6 _ _ (upd_same (H := H4) (a := p) (o := .ins C dx (putF "high_flows" (.ref q2) (putF "low_flows" (.ref q1) (putF "high" (.int hi) (putF "low" (.int lo) []))))))
    refine ⟨_, rfl, p, C, dx, _, rfl, p6, T.cl, T.n5, (by show 4 < 1000; decide), ?_⟩
    have e7 := (e5.trans (ExB.of e6)).trans (ExB.upd (o := .ins C dx (putF "low_lot" w1 (putF "high_flows" (.ref q2) (putF "low_flows" (.ref q1) (putF "high" (.int hi) (putF "low" (.int lo) [])))))))
    refine lot_copy (l := l2) rfl (h2.exb e7 hp) fun w2 H8 e8 r2 => ?_
    have p8 := e8 _ _ (upd_same (H := H6) (a := p) (o := .ins C dx (putF "low_lot" w1 (putF "high_flows" (.ref q2) (putF "low_flows" (.ref q1) (putF "high" (.int hi) (putF "low" (.int lo) [])))))))
    refine ⟨_, rfl, p, C, dx, _, rfl, p8, T.cl, T.n6, (by show 5 < 1000; decide), ?_⟩
    have e9 := (e7.trans (ExB.of e8)).trans (ExB.upd (o := .ins C dx (putF "high_lot" w2 (putF "low_lot" w1 (putF "high_flows" (.ref q2) (putF "low_flows" (.ref q1) (putF "high" (.int hi) (putF "low" (.int lo) []))))))))
    have e69 := ((ExB.upd (p := p) (H := H6) (o := .ins C dx (putF "low_lot" w1 (putF "high_flows" (.ref q2) (putF "low_flows" (.ref q1) (putF "high" (.int hi) (putF "low" (.int lo) []))))))).trans (ExB.of e8)).trans (ExB.upd (o := .ins C dx (putF "high_lot" w2 (putF "low_lot" w1 (putF "high_flows" (.ref q2) (putF "low_flows" (.ref q1) (putF "high" (.int hi) (putF "low" (.int lo) []))))))))
    have e89 := ExB.upd (p := p) (H := H8) (o := .ins C dx (putF "high_lot" w2 (putF "low_lot" w1 (putF "high_flows" (.ref q2) (putF "low_flows" (.ref q1) (putF "high" (.int hi) (putF "low" (.int lo) [])))))))
    refine k _ q1 q2 n10 n20 ⟨⟨dx, _, w1, w2, upd_same, ?_, ?_, ?_, ?_, ?_, ?_, r1.exb e69 p6, r2.exb e89 p8⟩, e69 _ _ q1p (e6 _ _ d15), e69 _ _ q2p (e6 _ _ d25)⟩ e9
    · rw [lookup_putF, if_neg (by decide +kernel), lookup_putF, if_neg (by decide +kernel), lookup_putF, if_neg (by decide +kernel), lookup_putF, if_neg (by decide +kernel), lookup_putF, if_neg (by decide +kernel), lookup_putF, if_pos rfl]
    · rw [lookup_putF, if_neg (by decide +kernel), lookup_putF, if_neg (by decide +kernel), lookup_putF, if_neg (by decide +kernel), lookup_putF, if_neg (by decide +kernel), lookup_putF, if_pos rfl]
    · rw [lookup_putF, if_neg (by decide +kernel), lookup_putF, if_neg (by decide +kernel), lookup_putF, if_neg (by decide +kernel), lookup_putF, if_pos rfl]
    · rw [lookup_putF, if_neg (by decide +kernel), lookup_putF, if_neg (by decide +kernel), lookup_putF, if_pos rfl]
    · rw [lookup_putF, if_neg (by decide +kernel), lookup_putF, if_pos rfl]
    · rw [lookup_putF, if_pos rfl]
end
end Ms

set_option maxHeartbeats 4000000
namespace Ms
open PySem PySem.Spec PyProof.Rows L2
open Evl (Ex)
open C8 (Cal Mak Met pe_c pe_mk pe_mt pe_mt0 pe_gc)
theorem Pl.wo {C : Addr} {H : Hp} {a p : Addr} {kvs : List (Key × V)} {kn : List Str} {ss : List Sm} (ha : H a = some (.dK kvs)) (h : Pl C H p kn ss) : Pl C (wo H a) p kn ss := by
  obtain ⟨⟨dx, a1, b1, ws, h1, h2, h3, h4⟩, ok⟩ := h
  exact ⟨⟨dx, a1, b1, ws, by rw [wo_ne (ne_of h1 ha (by intro z; cases z))]; exact h1, by rw [wo_ne (ne_of h2 ha (by intro z; cases z))]; exact h2, by rw [wo_ne (ne_of h3 ha (by intro z; cases z))]; exact h3, h4.wo ha (by intro l z; cases z)⟩, ok⟩
def sumInto (ls : List Ln) (hi : Str → Int) (pl : List Str) : Int := ((ls.filter fun x => decide (x.h ∈ pl) && !decide (x.t ∈ pl)).map fun x => hi x.n).sum
def sumFrom (ls : List Ln) (lo : Str → Int) (pl : List Str) : Int := ((ls.filter fun x => decide (x.t ∈ pl) && !decide (x.h ∈ pl)).map fun x => lo x.n).sum
theorem fm_ifB {α β : Type} (p : α → Bool) (f : α → β) (l : List α) : (l.filterMap fun x => if p x = true then some (f x) else none) = (l.filter p).map f := by
  induction l with
  | nil => rfl
  | cons x r ih =>
    cases h : p x
    · simp [List.filterMap_cons, List.filter_cons, h, ih]
    · simp [List.filterMap_cons, List.filter_cons, h, ih]
section
variable {P : Program} {w : World} {K : PySem.W.Frag} {mg : Str → Option Value} {base : Heap} {C M R : Addr}
abbrev spushed_to : Stmt := top 42
abbrev npushed_to : List Str := ["plant", "lines", "limits", "flows", "start", "end", "most", "pushed", "found", "knot"]
theorem scpushed_to : FnScope npushed_to ["plant", "lines", "limits", "flows", "start", "end", "most"] (defScope spushed_to) := ⟨rfl, rfl, rfl, by decide +kernel, rfl, by decide +kernel, by decide +kernel⟩
def spPushedTo (K : PySem.W.Frag) (C : Addr) : Sp := fun vs H Q _ => ∃ (p l m a : Addr) (s e : Str) (most : Int) (kn : List Str) (ss : List Sm) (ls : List Ln) (km kf : List Str) (lo hi fl : Str → Int), vs = [.ref p, .ref l, .ref m, .ref a, .str s, .str e, .int most] ∧ Pl C H p kn ss ∧ LsT K encL H l ls ∧ LmH H m km lo hi ∧ FlH H a kf fl ∧ m ≠ a ∧ (∀ x ∈ ls, x.n ∈ km ∧ x.n ∈ kf) ∧ ls.length ≤ 100 ∧ kf.length ≤ 100 ∧ (ls.map (·.n)).Nodup ∧
  ∀ x fl' t v H', (0 ≤ most → 0 ≤ x ∧ x ≤ most) → Psd ls lo hi fl fl' s e x → (¬ x < most ∨ ∃ D : List Str, s ∈ D ∧ e ∉ D ∧ ∀ c ∈ arcsOf lo hi fl' ls, c.f ∈ D → c.t ∈ D) → ExB a H H' → FlH H' a kf fl' → H' t = some (.tup [.int x, v]) → (x ≠ most → ∃ lot, LotR K H' v (some lot) ∧ lot.length ≤ 100 ∧ ∀ y ∈ lot, y ∈ kn) → Q (.ref t) H'
theorem ok_pushed_to (d : Dn K mg "pushed_to" spushed_to ["plant", "lines", "limits", "flows", "start", "end", "most"]) (G : Glb mg) (c_push_all : Cal P w K mg base 3 "push_all" (spPushAll K) []) (c_leading_to : Cal P w K mg base 2 "leading_to" (spLeading K) []) (p_knots : Prb P w K mg base 1 C "knots" (spKnots C)) : Cal P w K mg base 4 "pushed_to" (spPushedTo K C) [] := by
  refine d.cal scpushed_to (fun vs H Q E h => ?_) (fun f cdv A outer s H vs Q E hr h => ?_)
  · obtain ⟨p, l, m, a, s, e, most, kn, ss, ls, km, kf, lo, hi, fl, rfl, _⟩ := h
    rfl
  · obtain ⟨p, l, m, a, s1, s2, most, kn, ss, ls, km, kf, lo, hi, fl, rfl, hp, hl, hm, ha, ma, hn, zl, zk, nd, k⟩ := h
    refine ⟨_, (pss_cons (ps_set (i := 7) scpushed_to.nd rfl (by first | exact .inl rfl | exact .inr rfl) (pe_c c_push_all hr (by decide) rfl (pa_cons (pv 1) (pa_cons (pv 2) (pa_cons (pv 3) (pa_cons (pv 4) (pa_cons (pv 5) (pa_cons (pv 6) pa_nil))))))))
      (pss_cons (ps_if (pt_cmpR op_eq (pv 7) (pv 6) (nomark _)) (pss_one (ps_ret (pe_tup (pa_cons (pv 7) (pa_cons pe_non pa_nil))))) pss_nil)
      (pss_cons (ps_set (i := 8) scpushed_to.nd rfl (by first | exact .inl rfl | exact .inr rfl) (pe_c c_leading_to hr (by decide) rfl (pa_cons (pv 1) (pa_cons (pv 2) (pa_cons (pv 3) (pa_cons (pe_lst (pa_cons (pv 5) pa_nil)) pa_nil))))))
      (pss_one (ps_ret (pe_tup (pa_cons (pv 7) (pa_cons (pe_lc (own := [("knot", 9)]) rfl scpushed_to.nd (pi_list (pe_pr p_knots hr (by decide) (pv 0) rfl)) (blkOk_by (N := npushed_to) (sc := defScope spushed_to) (by decide +kernel)) (fun _ _ _ _ _ => (pg_name (i := 9) scpushed_to.nd rfl (by first | exact .inl rfl | exact .inr rfl))) (fun _ _ _ _ _ => (pts_one (pt_cmp (pc_din (hu_of hr) (pv 9) (pv 8))))) (fun _ _ _ _ _ => (pv 9))) pa_nil)))))))), ?_⟩
    refine ⟨_, rfl, _, rfl, _, rfl, _, rfl, _, rfl, _, rfl, l, m, a, s1, s2, most, ls, km, kf, lo, hi, fl, rfl, hl, hm, ha, ma, hn, zl, zk, nd, fun x fl' H1 hx ps hD eb hF => ?_⟩
    refine ⟨_, rfl, _, rfl, rfl, _, rfl, ite2 (fun q => ?_) (fun q => ?_)⟩
    · have q : x = most := V.int.inj (of_decide_eq_true q)
      refine ⟨_, rfl, sz1 (by show 2 ≤ 100000; decide), fun t nt => ?_⟩
      exact k x fl' t .non _ hx ps hD (eb.trans (ExB.of (Evl.Ex.new nt))) (hF.mono (Evl.Ex.new nt)) upd_same fun z => absurd q z
    · refine ⟨_, rfl, _, rfl, _, rfl, _, rfl, sz1 (by show 1 ≤ 100000; decide), fun S nS => ?_⟩
      have e1 : Ex (wo H a) (upd H1 S (.lst [.str s2])) := eb.wo.trans (Evl.Ex.new nS)
      have hp1 := (Pl.wo ha hp).mono e1
      refine ⟨l, m, a, S, ls, km, kf, lo, hi, fl', [s2], rfl, (LsT.wo ha hl).mono e1, (LmH.wo ha ma hm).mono e1, hF.mono (Evl.Ex.new nS), hn, zl, SqL.of upd_same, by simp, by simp, fun d fs H2 n2 e2 h2 => ?_⟩
      obtain ⟨dx, _, _, _, hpx, _⟩ := (hp1.mono e2).r
      refine ⟨_, rfl, _, rfl, p, dx, _, rfl, hpx, p, kn, ss, rfl, (hp1.mono e2).r, fun a3 H3 n3 e3 h3 => ?_⟩
      refine ⟨a3, rfl, ⟨_, SqL.of h3⟩, ?_⟩
      refine lc_J (J := Itl K a3) (fun v (x : Str) _ => v = V.str x) (fun _ v x _ => v = V.str x) (fun _ => std_str) (fun k => if k ∈ fs then some k else none) (gv_list (SqL.of h3) (str_ls _ _)) (by have := hp.ok.ku; omega) (fun D x c H' T Y _ _ ex hc e' hT hY => ?_) (fun B ys H4 n4 e4 h4 hl4 => ?_)
      · subst ex
        obtain ⟨o, ho, eo⟩ := dr_has (n := c) (.inl ((e3.trans e') _ _ h2))
        refine ⟨rfl, _, rfl, _, rfl, d, o, rfl, ho, _, rfl, ?_⟩
        rw [eo]
        by_cases q : c ∈ fs
        · exact itP q ⟨_, rfl, hY c (if_pos q) _ _ (Evl.Ex.refl _) rfl⟩
        · exact itN q (hT (if_neg q) _ (Evl.Ex.refl _))
      refine ⟨sz1 (by show 2 ≤ 100000; decide), fun t nt => ?_⟩
      have e14 := (((Evl.Ex.new (o := .lst [.str s2]) nS).trans e2).trans e3).trans e4
      have y4 := ls_str hl4
      subst y4
      refine k x fl' t (.ref B) _ hx ps hD ((eb.trans (ExB.of e14)).trans (ExB.of (Evl.Ex.new nt))) ((hF.mono e14).mono (Evl.Ex.new nt)) upd_same fun _ => ⟨_, ⟨B, rfl, Evl.Ex.new nt _ _ h4⟩, ?_, fun y hy => ?_⟩
      · have z1 := hp.ok.ku
        have z2 := List.length_filterMap_le (fun k => if k ∈ fs then some k else none) kn
        omega
      rw [fm_if (fun k => k ∈ fs) (fun k => k), List.map_id'] at hy
      exact (List.mem_filter.mp hy).1
abbrev ssum_into : Stmt := top 43
abbrev nsum_into : List Str := ["lines", "limits", "places", "name", "tail", "head"]
theorem scsum_into : FnScope nsum_into ["lines", "limits", "places"] (defScope ssum_into) := ⟨rfl, rfl, rfl, by decide +kernel, rfl, by decide +kernel, by decide +kernel⟩
def spSum (K : PySem.W.Frag) (val : List Ln → (Str → Int) → (Str → Int) → List Str → Int) : Sp := fun vs H Q _ => ∃ (l m b : Addr) (ls : List Ln) (km : List Str) (lo hi : Str → Int) (pl : List Str), vs = [.ref l, .ref m, .ref b] ∧ LsT K encL H l ls ∧ LmH H m km lo hi ∧ (∀ x ∈ ls, x.n ∈ km) ∧ ls.length ≤ 100 ∧ SqL K H b (pl.map V.str) ∧ Giv (.int (val ls lo hi pl)) H Q
theorem ok_sum_into (d : Dn K mg "sum_into" ssum_into ["lines", "limits", "places"]) (G : Glb mg) : Cal P w K mg base 1 "sum_into" (spSum K fun ls lo hi pl => sumInto ls hi pl) [] := by
  refine d.cal scsum_into (fun vs H Q E h => ?_) (fun f cdv A outer s H vs Q E hr h => ?_)
  · obtain ⟨l, m, b, ls, km, lo, hi, pl, rfl, _⟩ := h
    rfl
  · obtain ⟨l, m, b, ls, km, lo, hi, pl, rfl, ⟨ws, hl, hw⟩, ⟨g, hm, hg⟩, hn, hz, hb, k⟩ := h
    refine ⟨_, (pss_one (ps_ret (pe_callB (cr_sum rfl) (by rfl) G.sum (by decide +kernel) (pa_cons (pe_lc (own := [("name", 3), ("tail", 4), ("head", 5)]) rfl scsum_into.nd (pi_list (pv 0)) (blkOk_by (N := nsum_into) (sc := defScope ssum_into) (by decide +kernel)) (fun _ _ _ _ _ => (pg_tupK K (n := 3) rfl (pgs_cons (pg_name (i := 3) scsum_into.nd rfl (by first | exact .inl rfl | exact .inr rfl)) (pgs_cons (pg_name (i := 4) scsum_into.nd rfl (by first | exact .inl rfl | exact .inr rfl)) (pgs_cons (pg_name (i := 5) scsum_into.nd rfl (by first | exact .inl rfl | exact .inr rfl)) pgs_nil))))) (fun _ _ _ _ _ => (pts_one (PW.pt (pw_and (pt_cmpR (in_seqK K) (pv 5) (pv 2) rfl) (pw_and1 (pt_cmpR (notIn_seqK K) (pv 4) (pv 2) rfl)))))) (fun _ _ _ _ _ => (pe_ix (ix_tupK K) (pe_dget (hu_of hr) (pv 1) (pv 3) (fun _ _ => rfl)) pe_int (fun _ _ => rfl)))) pa_nil)))), ?_⟩
    refine ⟨_, rfl, l, rfl, ⟨_, hl⟩, ?_⟩
    refine lc_J (J := Itl K l) (TpR encL) (fun _ v x _ => v = V.int x) (fun _ => std_int) (fun x => if (decide (x.h ∈ pl) && !decide (x.t ∈ pl)) = true then some (hi x.n) else none) (gv_list hl hw) (by omega) (fun D x c H' T Y _ _ ex hc e hT hY => ?_) (fun D ys H' hn e hy hl => ?_)
    · obtain ⟨t, rfl, ht⟩ := ex
      have n1 := hn c hc
      refine ⟨t, _, rfl, SqT.of (e _ _ ht), rfl, _, _, rfl, _, _, rfl, _, _, rfl, rfl, rfl, ?_⟩
      refine ⟨_, rfl, _, rfl, b, _, rfl, .inl (Ex.seq e hb), rfl, flat_strs _, _, rfl, ?_⟩
      rw [if_neg Bool.false_ne_true, inV_str]
      by_cases q1 : c.h ∈ pl
      · refine itP q1 ?_
        refine ⟨_, rfl, _, rfl, b, _, rfl, .inl (Ex.seq e hb), rfl, flat_strs _, _, rfl, ?_⟩
        rw [if_pos rfl, inV_str]
        by_cases q2 : c.t ∈ pl
        · exact itF (by rw [decide_eq_true q2]; rfl) (hT (by rw [decide_eq_true q2, Bool.not_true, Bool.and_false, if_neg Bool.false_ne_true]) _ (Evl.Ex.refl _))
        · exact itT (by rw [decide_eq_false q2]; rfl) ⟨_, rfl, _, rfl, m, _, rfl, dr_get (.inl (e _ _ hm)) n1, g c.n, _, _, _, rfl, rfl, SqT.of (e _ _ (hg _ n1)), rfl, hY _ (by rw [decide_eq_true q1, decide_eq_false q2, Bool.not_false, Bool.and_true, if_pos rfl]) _ _ (Evl.Ex.refl _) rfl⟩
      · exact itN q1 (itF rfl (hT (by rw [decide_eq_false q1, Bool.false_and, if_neg Bool.false_ne_true]) _ (Evl.Ex.refl _)))
    · rw [fm_ifB (fun x : Ln => decide (x.h ∈ pl) && !decide (x.t ∈ pl)) (fun x => hi x.n)] at hl
      exact ⟨D, _, rfl, .inl (.inl (by rw [hy, ls_int hl])), k _ e⟩
abbrev ssum_from : Stmt := top 44
abbrev nsum_from : List Str := ["lines", "limits", "places", "name", "tail", "head"]
theorem scsum_from : FnScope nsum_from ["lines", "limits", "places"] (defScope ssum_from) := ⟨rfl, rfl, rfl, by decide +kernel, rfl, by decide +kernel, by decide +kernel⟩
theorem ok_sum_from (d : Dn K mg "sum_from" ssum_from ["lines", "limits", "places"]) (G : Glb mg) : Cal P w K mg base 1 "sum_from" (spSum K fun ls lo hi pl => sumFrom ls lo pl) [] := by
  refine d.cal scsum_from (fun vs H Q E h => ?_) (fun f cdv A outer s H vs Q E hr h => ?_)
  · obtain ⟨l, m, b, ls, km, lo, hi, pl, rfl, _⟩ := h
    rfl
  · obtain ⟨l, m, b, ls, km, lo, hi, pl, rfl, ⟨ws, hl, hw⟩, ⟨g, hm, hg⟩, hn, hz, hb, k⟩ := h
    refine ⟨_, (pss_one (ps_ret (pe_callB (cr_sum rfl) (by rfl) G.sum (by decide +kernel) (pa_cons (pe_lc (own := [("name", 3), ("tail", 4), ("head", 5)]) rfl scsum_from.nd (pi_list (pv 0)) (blkOk_by (N := nsum_from) (sc := defScope ssum_from) (by decide +kernel)) (fun _ _ _ _ _ => (pg_tupK K (n := 3) rfl (pgs_cons (pg_name (i := 3) scsum_from.nd rfl (by first | exact .inl rfl | exact .inr rfl)) (pgs_cons (pg_name (i := 4) scsum_from.nd rfl (by first | exact .inl rfl | exact .inr rfl)) (pgs_cons (pg_name (i := 5) scsum_from.nd rfl (by first | exact .inl rfl | exact .inr rfl)) pgs_nil))))) (fun _ _ _ _ _ => (pts_one (PW.pt (pw_and (pt_cmpR (in_seqK K) (pv 4) (pv 2) rfl) (pw_and1 (pt_cmpR (notIn_seqK K) (pv 5) (pv 2) rfl)))))) (fun _ _ _ _ _ => (pe_ix (ix_tupK K) (pe_dget (hu_of hr) (pv 1) (pv 3) (fun _ _ => rfl)) pe_int (fun _ _ => rfl)))) pa_nil)))), ?_⟩
    refine ⟨_, rfl, l, rfl, ⟨_, hl⟩, ?_⟩
    refine lc_J (J := Itl K l) (TpR encL) (fun _ v x _ => v = V.int x) (fun _ => std_int) (fun x => if (decide (x.t ∈ pl) && !decide (x.h ∈ pl)) = true then some (lo x.n) else none) (gv_list hl hw) (by omega) (fun D x c H' T Y _ _ ex hc e hT hY => ?_) (fun D ys H' hn e hy hl => ?_)
    · obtain ⟨t, rfl, ht⟩ := ex
      have n1 := hn c hc
      refine ⟨t, _, rfl, SqT.of (e _ _ ht), rfl, _, _, rfl, _, _, rfl, _, _, rfl, rfl, rfl, ?_⟩
      refine ⟨_, rfl, _, rfl, b, _, rfl, .inl (Ex.seq e hb), rfl, flat_strs _, _, rfl, ?_⟩
      rw [if_neg Bool.false_ne_true, inV_str]
      by_cases q1 : c.t ∈ pl
      · refine itP q1 ?_
        refine ⟨_, rfl, _, rfl, b, _, rfl, .inl (Ex.seq e hb), rfl, flat_strs _, _, rfl, ?_⟩
        rw [if_pos rfl, inV_str]
        by_cases q2 : c.h ∈ pl
        · exact itF (by rw [decide_eq_true q2]; rfl) (hT (by rw [decide_eq_true q2, Bool.not_true, Bool.and_false, if_neg Bool.false_ne_true]) _ (Evl.Ex.refl _))
        · exact itT (by rw [decide_eq_false q2]; rfl) ⟨_, rfl, _, rfl, m, _, rfl, dr_get (.inl (e _ _ hm)) n1, g c.n, _, _, _, rfl, rfl, SqT.of (e _ _ (hg _ n1)), rfl, hY _ (by rw [decide_eq_true q1, decide_eq_false q2, Bool.not_false, Bool.and_true, if_pos rfl]) _ _ (Evl.Ex.refl _) rfl⟩
      · exact itN q1 (itF rfl (hT (by rw [decide_eq_false q1, Bool.false_and, if_neg Bool.false_ne_true]) _ (Evl.Ex.refl _)))
    · rw [fm_ifB (fun x : Ln => decide (x.t ∈ pl) && !decide (x.h ∈ pl)) (fun x => lo x.n)] at hl
      exact ⟨D, _, rfl, .inl (.inl (by rw [hy, ls_int hl])), k _ e⟩
abbrev sshows_most : Stmt := top 45
abbrev nshows_most : List Str := ["lines", "limits", "places", "number"]
theorem scshows_most : FnScope nshows_most ["lines", "limits", "places", "number"] (defScope sshows_most) := ⟨rfl, rfl, rfl, by decide +kernel, rfl, by decide +kernel, by decide +kernel⟩
def mostB (ls : List Ln) (lo hi : Str → Int) (pl : List Str) (n : Int) : Bool := decide (sumInto ls hi pl - sumFrom ls lo pl ≤ n)
def leastB (ls : List Ln) (lo hi : Str → Int) (pl : List Str) (n : Int) : Bool := decide (n ≤ sumFrom ls lo pl - sumInto ls hi pl)
def spShows (K : PySem.W.Frag) (val : List Ln → (Str → Int) → (Str → Int) → List Str → Int → Bool) : Sp := fun vs H Q _ => ∃ (l m b : Addr) (n : Int) (ls : List Ln) (km : List Str) (lo hi : Str → Int) (pl : List Str), vs = [.ref l, .ref m, .ref b, .int n] ∧ LsT K encL H l ls ∧ LmH H m km lo hi ∧ (∀ x ∈ ls, x.n ∈ km) ∧ ls.length ≤ 100 ∧ SqL K H b (pl.map V.str) ∧ Giv (.bl (val ls lo hi pl n)) H Q
theorem ok_shows_most (d : Dn K mg "shows_most" sshows_most ["lines", "limits", "places", "number"]) (G : Glb mg) (c_sum_into : Cal P w K mg base 1 "sum_into" (spSum K fun ls lo hi pl => sumInto ls hi pl) []) (c_sum_from : Cal P w K mg base 1 "sum_from" (spSum K fun ls lo hi pl => sumFrom ls lo pl) []) : Cal P w K mg base 2 "shows_most" (spShows K mostB) [] := by
  refine d.cal scshows_most (fun vs H Q E h => ?_) (fun f cdv A outer s H vs Q E hr h => ?_)
  · obtain ⟨l, m, b, n, ls, km, lo, hi, pl, rfl, _⟩ := h
    rfl
  · obtain ⟨l, m, b, n, ls, km, lo, hi, pl, rfl, hl, hm, hn, hz, hb, k⟩ := h
    refine ⟨_, (pss_one (ps_ret (pe_cmpR op_le (pe_op op_sub (pe_c c_sum_into hr (by decide) rfl (pa_cons (pv 0) (pa_cons (pv 1) (pa_cons (pv 2) pa_nil)))) (pe_c c_sum_from hr (by decide) rfl (pa_cons (pv 0) (pa_cons (pv 1) (pa_cons (pv 2) pa_nil))))) (pv 3) (nomark _)))), ?_⟩
    refine ⟨_, rfl, _, rfl, _, rfl, l, m, b, ls, km, lo, hi, pl, rfl, hl, hm, hn, hz, hb, fun H1 e1 => ?_⟩
    refine ⟨_, rfl, _, rfl, _, rfl, l, m, b, ls, km, lo, hi, pl, rfl, hl.mono e1, hm.mono e1, hn, hz, Ex.seq e1 hb, fun H2 e2 => ?_⟩
    exact ⟨_, _, rfl, rfl, _, rfl, _, _, rfl, rfl, k _ (e1.trans e2)⟩
abbrev sshows_least : Stmt := top 46
abbrev nshows_least : List Str := ["lines", "limits", "places", "number"]
theorem scshows_least : FnScope nshows_least ["lines", "limits", "places", "number"] (defScope sshows_least) := ⟨rfl, rfl, rfl, by decide +kernel, rfl, by decide +kernel, by decide +kernel⟩
theorem ok_shows_least (d : Dn K mg "shows_least" sshows_least ["lines", "limits", "places", "number"]) (G : Glb mg) (c_sum_into : Cal P w K mg base 1 "sum_into" (spSum K fun ls lo hi pl => sumInto ls hi pl) []) (c_sum_from : Cal P w K mg base 1 "sum_from" (spSum K fun ls lo hi pl => sumFrom ls lo pl) []) : Cal P w K mg base 2 "shows_least" (spShows K leastB) [] := by
  refine d.cal scshows_least (fun vs H Q E h => ?_) (fun f cdv A outer s H vs Q E hr h => ?_)
  · obtain ⟨l, m, b, n, ls, km, lo, hi, pl, rfl, _⟩ := h
    rfl
  · obtain ⟨l, m, b, n, ls, km, lo, hi, pl, rfl, hl, hm, hn, hz, hb, k⟩ := h
    refine ⟨_, (pss_one (ps_ret (pe_cmpR op_ge (pe_op op_sub (pe_c c_sum_from hr (by decide) rfl (pa_cons (pv 0) (pa_cons (pv 1) (pa_cons (pv 2) pa_nil)))) (pe_c c_sum_into hr (by decide) rfl (pa_cons (pv 0) (pa_cons (pv 1) (pa_cons (pv 2) pa_nil))))) (pv 3) (nomark _)))), ?_⟩
    refine ⟨_, rfl, _, rfl, _, rfl, l, m, b, ls, km, lo, hi, pl, rfl, hl, hm, hn, hz, hb, fun H1 e1 => ?_⟩
    refine ⟨_, rfl, _, rfl, _, rfl, l, m, b, ls, km, lo, hi, pl, rfl, hl.mono e1, hm.mono e1, hn, hz, Ex.seq e1 hb, fun H2 e2 => ?_⟩
    exact ⟨_, _, rfl, rfl, _, rfl, _, _, rfl, rfl, k _ (e1.trans e2)⟩
abbrev ssum_through : Stmt := top 47
abbrev nsum_through : List Str := ["plant", "flows", "knot", "name"]
theorem scsum_through : FnScope nsum_through ["plant", "flows", "knot"] (defScope ssum_through) := ⟨rfl, rfl, rfl, by decide +kernel, rfl, by decide +kernel, by decide +kernel⟩
def spSumThrough (C : Addr) : Sp := fun vs H Q _ => ∃ (p a : Addr) (kn : List Str) (ss : List Sm) (kf : List Str) (fl : Str → Int) (x : Str), vs = [.ref p, .ref a, .str x] ∧ Pl C H p kn ss ∧ FlH H a kf fl ∧ (∀ n, n ∈ kf ↔ n ∈ ss.map (·.n)) ∧ x ∈ kn ∧ Giv (.int (pass ss fl x)) H Q
theorem ok_sum_through (d : Dn K mg "sum_through" ssum_through ["plant", "flows", "knot"]) (G : Glb mg) (c_streams_into : Met P w K mg base 2 C "streams_into" (spStreamsInto C) []) : Cal P w K mg base 3 "sum_through" (spSumThrough C) [] := by
  refine d.cal scsum_through (fun vs H Q E h => ?_) (fun f cdv A outer s H vs Q E hr h => ?_)
  · obtain ⟨p, a, kn, ss, kf, fl, x, rfl, _⟩ := h
    rfl
  · obtain ⟨p, a, kn, ss, kf, fl, x, rfl, hp, ha, hk, hx, k⟩ := h
    refine ⟨_, (pss_one (ps_ret (pe_callB (cr_sum rfl) (by rfl) G.sum (by decide +kernel) (pa_cons (pe_lc (own := [("name", 3)]) rfl scsum_through.nd (pi_list (pe_mt c_streams_into hr (by decide) (pv 0) (pa_cons (pv 2) pa_nil))) (blkOk_by (N := nsum_through) (sc := defScope ssum_through) (by decide +kernel)) (fun _ _ _ _ _ => (pg_name (i := 3) scsum_through.nd rfl (by first | exact .inl rfl | exact .inr rfl))) (fun _ _ _ _ _ => pts_nil) (fun _ _ _ _ _ => (pe_dget (hu_of hr) (pv 1) (pv 3) (fun _ _ => rfl)))) pa_nil)))), ?_⟩
    have su := hp.ok.su
    obtain ⟨dx, _, _, _, hpx, _⟩ := hp.r
    refine ⟨_, rfl, p, dx, _, rfl, hpx, pf_no (by decide +kernel) (by decide +kernel), _, rfl, p, kn, ss, x, rfl, hp.r, hx, by omega, fun a2 H2 n2 e2 h2 => ?_⟩
    refine ⟨a2, rfl, ⟨_, SqL.of h2⟩, ?_⟩
    have zf := List.length_filter_le (fun s : Sm => decide (s.h = x)) ss
    refine lc_J (J := Itl K a2) (fun v (x : Str) _ => v = V.str x) (fun _ v x _ => v = V.int x) (fun _ => std_int) (fun n => some (fl n)) (gv_list (SqL.of h2) (str_ls _ _)) (by rw [List.length_map]; omega) (fun D y c H' T Y _ _ ex hc e hT hY => ?_) (fun D ys H' hn e hy hl => ?_)
    · subst ex
      obtain ⟨s, hs, rfl⟩ := List.mem_map.mp hc
      have hs' := (List.mem_filter.mp hs).1
      exact ⟨rfl, _, rfl, _, rfl, a, _, rfl, dr_get (.inl (ha.mono (e2.trans e))) ((hk _).mpr (List.mem_map_of_mem hs')), hY _ rfl _ _ (Evl.Ex.refl _) rfl⟩
    · rw [filterMap_some, List.map_map] at hl
      exact ⟨D, _, rfl, .inl (.inl (by rw [hy, ls_int hl]; rfl)), k _ (e2.trans e)⟩
end
end Ms

set_option maxHeartbeats 4000000
namespace Ms
open PySem PySem.Spec PyProof.Rows L2
open Evl (Ex)
open C8 (Cal Mak Met pe_c pe_mk pe_mt pe_mt0 pe_gc)
theorem PlOk.ne {kn : List Str} {ss : List Sm} (ok : PlOk kn ss) : (∀ s ∈ ss, s.h ≠ ("" : Str) ∧ s.t ≠ ("" : Str)) ∧ ("" : Str) ∉ kn ∧ (∀ s ∈ ss, s.t ∈ kn ∧ s.h ∈ kn) := by
  have h0 : ("" : Str) ∉ kn := fun q => letters_some _ (ok.kok _ q) rfl
  refine ⟨fun s hs => ?_, h0, fun s hs => ⟨(ok.sok s hs).2.1, (ok.sok s hs).2.2.1⟩⟩
  obtain ⟨_, b1, b2, _⟩ := ok.sok s hs
  exact ⟨fun q => h0 (q ▸ b2), fun q => h0 (q ▸ b1)⟩
theorem lt_of_diff1 {p q x S : Int} (h : q = p - x) (d : p - q ≤ S) : x < 1 + S := by omega
theorem lt_of_diff2 {p q x S : Int} (h : q = p + x) (d : q - p ≤ S) : x < 1 + S := by omega
theorem whole_eq {ss : List Sm} {km : List Str} (nd : km.Nodup) (nds : (ss.map (·.n)).Nodup) (hk : ∀ n, n ∈ km ↔ n ∈ ss.map (·.n)) (lo hi : Str → Int) : (km.map fun n => hi n - lo n).sum = MsM.sumOf (fun s : Sm => hi s.n - lo s.n) ss := by
  have p : km.Perm (ss.map (·.n)) := (List.perm_ext_iff_of_nodup nd nds).mpr hk
  rw [← MsM.sumOf_eq_sum, MsM.sumOf_perm p, MsM.sumOf_eq_sum, MsM.sumOf_eq_sum, List.map_map]
  rfl
section
variable {P : Program} {w : World} {K : PySem.W.Frag} {mg : Str → Option Value} {base : Heap} {C M R : Addr}
abbrev sthrough_of : Stmt := top 48
abbrev nthrough_of : List Str := ["plant", "limits", "knot", "flows", "lines", "whole", "low_flows", "high_flows", "_", "low_lot", "high_lot", "low", "high", "other"]
theorem scthrough_of : FnScope nthrough_of ["plant", "limits", "knot"] (defScope sthrough_of) := ⟨rfl, rfl, rfl, by decide +kernel, rfl, by decide +kernel, by decide +kernel⟩
/-- what through_of tells -/
structure ThR (kn : List Str) (ss : List Sm) (lo hi : Str → Int) (x : Str) (low high : Int) (f1 f2 : Str → Int) : Prop where
  w1 : Within ss lo hi f1
  b1 : Balanced kn ss f1
  w2 : Within ss lo hi f2
  b2 : Balanced kn ss f2
  p1 : low = pass ss f1 x
  p2 : high = pass ss f2 x
  all : ∀ g, Within ss lo hi g → Balanced kn ss g → low ≤ pass ss g x ∧ pass ss g x ≤ high
def spThrough (K : PySem.W.Frag) (C R : Addr) : Sp := fun vs H Q _ => ∃ (p m : Addr) (kn : List Str) (ss : List Sm) (km : List Str) (lo hi : Str → Int) (x : Str), vs = [.ref p, .ref m, .str x] ∧ Pl C H p kn ss ∧ LmH H m km lo hi ∧ (∀ n, n ∈ km ↔ n ∈ ss.map (·.n)) ∧ km.Nodup ∧ km.length ≤ 100 ∧ x ∈ kn ∧
  ((∀ g, Within ss lo hi g → ¬ Balanced kn ss g) → Giv .non H Q) ∧
  (∀ r low high q1 q2 f1 f2 l1 l2 H', H q1 = none → H q2 = none → Ex H H' → RgR K R H' r low high q1 q2 (DR km fun n => .int (f1 n)) (DR km fun n => .int (f2 n)) (some l1) (some l2) → l1.length ≤ 100 → (∀ y ∈ l1, y ∈ kn) → l2.length ≤ 100 → (∀ y ∈ l2, y ∈ kn) → ThR kn ss lo hi x low high f1 f2 → Q (.ref r) H')
theorem ok_through_of (d : Dn K mg "through_of" sthrough_of ["plant", "limits", "knot"]) (G : Glb mg) (T : PlT K C) (c_check_knot : Met P w K mg base 1 C "check_knot" (spCheckKnot C) []) (c_flows_within : Cal P w K mg base 7 "flows_within" (spFlowsWithin C) []) (c_parted_lines : Cal P w K mg base 3 "parted_lines" (spParted C) []) (c_pushed_to : Cal P w K mg base 4 "pushed_to" (spPushedTo K C) []) (c_sum_through : Cal P w K mg base 3 "sum_through" (spSumThrough C) []) (c_Range : Mak P w K mg base 1 "Range" R (spRange K R) []) : Cal P w K mg base 8 "through_of" (spThrough K C R) [] := by
  refine d.cal scthrough_of (fun vs H Q E h => ?_) (fun f cdv A outer s H vs Q E hr h => ?_)
  · obtain ⟨p, m, kn, ss, km, lo, hi, x, rfl, _⟩ := h
    rfl
  · obtain ⟨p, m, kn, ss, km, lo, hi, x, rfl, hp, hm, hk, ndk, hz, hx, k1, k2⟩ := h
    refine ⟨_, (pss_cons (ps_expr (pe_mt c_check_knot hr (by decide) (pv 0) (pa_cons (pv 2) pa_nil)))
      (pss_cons (ps_set (i := 3) scthrough_of.nd rfl (by first | exact .inl rfl | exact .inr rfl) (pe_c c_flows_within hr (by decide) rfl (pa_cons (pv 0) (pa_cons (pv 1) pa_nil))))
      (pss_cons (ps_if (pt_cmp (pc_isN (pv 3))) (pss_one (ps_ret pe_non)) pss_nil)
      (pss_cons (ps_set (i := 4) scthrough_of.nd rfl (by first | exact .inl rfl | exact .inr rfl) (pe_c c_parted_lines hr (by decide) rfl (pa_cons (pv 0) (pa_cons (pv 2) pa_nil))))
      (pss_cons (ps_set (i := 5) scthrough_of.nd rfl (by first | exact .inl rfl | exact .inr rfl) (pe_op op_add pe_int (pe_callB (cr_sum rfl) (by rfl) G.sum (by decide +kernel) (pa_cons (pe_lock (pe_lc (own := [("low", 11), ("high", 12)]) rfl scthrough_of.nd (pi_values (pv 1)) (blkOk_by (N := nthrough_of) (sc := defScope sthrough_of) (by decide +kernel)) (fun _ _ _ _ _ => (pg_tupK K (n := 2) rfl (pgs_cons (pg_name (i := 11) scthrough_of.nd rfl (by first | exact .inl rfl | exact .inr rfl)) (pgs_cons (pg_name (i := 12) scthrough_of.nd rfl (by first | exact .inl rfl | exact .inr rfl)) pgs_nil)))) (fun _ _ _ _ _ => pts_nil) (fun _ _ _ _ _ => (pe_op op_sub (pv 12) (pv 11))))) pa_nil))))
      (pss_cons (ps_set (i := 6) scthrough_of.nd rfl (by first | exact .inl rfl | exact .inr rfl) (pe_callTy call_dictD (by rfl) G.dict (by decide +kernel) (pa_cons (pv 3) pa_nil)))
      (pss_cons (ps_set (i := 7) scthrough_of.nd rfl (by first | exact .inl rfl | exact .inr rfl) (pe_callTy call_dictD (by rfl) G.dict (by decide +kernel) (pa_cons (pv 3) pa_nil)))
      (pss_cons (ps_asg (pe_c c_pushed_to hr (by decide) rfl (pa_cons (pv 0) (pa_cons (pv 4) (pa_cons (pv 1) (pa_cons (pv 6) (pa_cons (pv 2) (pa_cons (pe_gc rfl G.c_APART) (pa_cons (pv 5) pa_nil)))))))) (pg_tupK K (n := 2) rfl (pgs_cons (pg_name (i := 8) scthrough_of.nd rfl (by first | exact .inl rfl | exact .inr rfl)) (pgs_cons (pg_name (i := 9) scthrough_of.nd rfl (by first | exact .inl rfl | exact .inr rfl)) pgs_nil))))
      (pss_cons (ps_asg (pe_c c_pushed_to hr (by decide) rfl (pa_cons (pv 0) (pa_cons (pv 4) (pa_cons (pv 1) (pa_cons (pv 7) (pa_cons (pe_gc rfl G.c_APART) (pa_cons (pv 2) (pa_cons (pv 5) pa_nil)))))))) (pg_tupK K (n := 2) rfl (pgs_cons (pg_name (i := 8) scthrough_of.nd rfl (by first | exact .inl rfl | exact .inr rfl)) (pgs_cons (pg_name (i := 10) scthrough_of.nd rfl (by first | exact .inl rfl | exact .inr rfl)) pgs_nil))))
      (pss_cons (ps_set (i := 11) scthrough_of.nd rfl (by first | exact .inl rfl | exact .inr rfl) (pe_c c_sum_through hr (by decide) rfl (pa_cons (pv 0) (pa_cons (pv 6) (pa_cons (pv 2) pa_nil)))))
      (pss_cons (ps_set (i := 12) scthrough_of.nd rfl (by first | exact .inl rfl | exact .inr rfl) (pe_c c_sum_through hr (by decide) rfl (pa_cons (pv 0) (pa_cons (pv 7) (pa_cons (pv 2) pa_nil)))))
      (pss_cons (ps_setLc (i := 10) (own := [("other", 13)]) rfl scthrough_of.nd rfl rfl (sw_true rfl rfl rfl (by decide +kernel)) (pi_list (pv 10)) (blkOk_by (N := nthrough_of) (sc := defScope sthrough_of) (by decide +kernel)) (fun _ _ _ _ _ => (pg_name (i := 13) scthrough_of.nd rfl (by first | exact .inl rfl | exact .inr rfl))) (fun _ _ _ _ _ => (pts_one (pt_cmpR op_ne (pv 13) (pv 2) (nomark _)))) (fun _ _ _ _ _ => (pv 13)))
      (pss_one (ps_ret (pe_mk c_Range hr (by decide) rfl (pa_cons (pv 11) (pa_cons (pv 12) (pa_cons (pv 6) (pa_cons (pv 7) (pa_cons (pv 9) (pa_cons (pv 10) pa_nil))))))))))))))))))))), ?_⟩
    have ok := hp.ok
    have su := ok.su
    obtain ⟨nes, nkn, ends⟩ := ok.ne
    have x0 : x ≠ ("" : Str) := fun q => nkn (q ▸ hx)
    obtain ⟨dx, _, _, _, hpx, _⟩ := hp.r
    refine ⟨_, rfl, p, dx, _, rfl, hpx, pf_no (by decide +kernel) (by decide +kernel), _, rfl, p, kn, ss, x, rfl, hp.r, hx, fun H1 e1 => ?_⟩
    refine ⟨_, rfl, _, rfl, p, m, kn, ss, km, lo, hi, rfl, hp.mono e1, hm.mono e1, hk, ndk, hz, fun hno H2 e2 => ?_, fun q fl H2 nq e2 hq hwi hbal => ?_⟩
    · exact ⟨_, rfl, _, rfl, itT rfl (k1 hno H2 (e1.trans e2))⟩
    refine ⟨_, rfl, _, rfl, itF rfl ?_⟩
    have e02 := e1.trans e2
    refine ⟨_, rfl, _, rfl, p, kn, ss, x, rfl, hp.mono e02, fun l ws H3 n3 e3 h3 hw3 => ?_⟩
    have e03 := e02.trans e3
    have hl3 : LsT K encL H3 l (lnP x ss) := LsT.of h3 hw3
    obtain ⟨g, hm3, hg3⟩ := hm.mono e03
    -- whole
    refine ⟨m, _, hm3, trivial, fun od => ⟨_, rfl, m, od, _, rfl, upd_same, ?_⟩⟩
    have hg4 : ∀ n ∈ km, (upd H3 m (.frz od (.dK (DR km fun n => .ref (g n))))) (g n) = some (.tup [.int (lo n), .int (hi n)]) := fun n hn => by
      rw [upd_ne (ne_of (hg3 n hn) hm3 (by intro z; cases z))]
      exact hg3 n hn
    refine lc_J (J := Itd m od _) (fun v n _ => v = V.ref (g n)) (fun _ v b _ => v = V.int b) (fun _ => std_int) (fun n => some (hi n - lo n)) (gv_vals upd_same) (by omega) (fun D x c H' T Y _ _ ex hc e _ hY => ?_) (fun D ys H' hn e hy hl => ?_)
    · subst ex
      exact ⟨g c, _, rfl, SqT.of (e _ _ (hg4 c hc)), rfl, _, _, rfl, _, _, rfl, rfl, rfl, _, rfl, _, rfl, _, _, rfl, rfl, hY _ rfl _ _ (Evl.Ex.refl _) rfl⟩
    rw [filterMap_some] at hl
    have yl := ls_int hl
    subst yl
    have e34 := ex_unlock hm3 e
    have Dm : D ≠ m := fun z => by rw [z, upd_same] at hn; cases hn
    refine ⟨e _ _ upd_same, D, _, rfl, .inl (.inl (by rw [upd_ne Dm, hy])), ?_⟩
    rw [whole_eq ndk ok.snd hk lo hi]
    refine ⟨_, _, rfl, rfl, ?_⟩
    generalize hHB : upd H' m (.dK (DR km fun n => .ref (g n))) = HB at *
    have e0B := e03.trans e34
    have hqB : FlH HB q km fl := hq.mono (e3.trans e34)
    refine ⟨_, rfl, q, _, rfl, .inl hqB, fun a nA => ?_⟩
    refine ⟨_, rfl, q, _, rfl, .inl (Evl.Ex.new nA _ _ hqB), fun b nB => ?_⟩
    have ab : a ≠ b := fun z => by rw [z, upd_same] at nB; cases nB
    have nB0 : HB b = none := by rw [upd_ne ab.symm] at nB; exact nB
    have eBC : Ex HB (upd (upd HB a (.dK (DR km fun n => .int (fl n)))) b (.dK (DR km fun n => .int (fl n)))) := (Evl.Ex.new nA).trans (Evl.Ex.new nB)
    have haC : FlH (upd (upd HB a (.dK (DR km fun n => .int (fl n)))) b (.dK (DR km fun n => .int (fl n)))) a km fl := Evl.Ex.new nB _ _ upd_same
    have hbC : FlH (upd (upd HB a (.dK (DR km fun n => .int (fl n)))) b (.dK (DR km fun n => .int (fl n)))) b km fl := upd_same
    generalize hHC : upd (upd HB a (.dK (DR km fun n => .int (fl n)))) b (.dK (DR km fun n => .int (fl n))) = HC at *
    have hmB : LmH HB m km lo hi := hm.mono e0B
    have ma : m ≠ a := by
      obtain ⟨g', hg', _⟩ := hmB
      exact ne_of_none hg' nA
    have mb : m ≠ b := by
      obtain ⟨g', hg', _⟩ := hmB
      exact ne_of_none hg' nB0
    have hlB : LsT K encL HB l (lnP x ss) := hl3.mono e34
    have hnm : ∀ y ∈ lnP x ss, y.n ∈ km ∧ y.n ∈ km := fun y hy => by
      obtain ⟨s, hs, en, _⟩ := lnP_mem hy
      have : y.n ∈ km := (hk _).mpr (List.mem_map.mpr ⟨s, hs, en.symm⟩)
      exact ⟨this, this⟩
    have zl : (lnP x ss).length ≤ 100 := by
      unfold lnP
      rw [List.length_map]
      omega
    have ndl : ((lnP x ss).map (·.n)).Nodup := by rw [lnP_names]; exact ok.snd
    have pos : 0 ≤ MsM.sumOf (fun s : Sm => hi s.n - lo s.n) ss := MsM.sumOf_nonneg fun s hs => by
      have := hwi s hs
      omega
    have hpB := hp.mono e0B
    simp only [L2.start, nthrough_of, List.map_cons, List.map_nil, List.length_cons, List.length_nil, List.replicate, List.cons_append, List.nil_append, List.set_cons_succ, List.set_cons_zero, Nat.reduceAdd, Nat.reduceSub]
    -- low
    refine ⟨_, rfl, _, rfl, _, rfl, _, rfl, _, rfl, _, rfl, ?_⟩
    refine ⟨p, l, m, a, x, ("" : Str), _, kn, ss, lnP x ss, km, km, lo, hi, fl, rfl, hpB.mono eBC, hlB.mono eBC, hmB.mono eBC, haC, ma, hnm, zl, hz, ndl, fun x1 f1 t1 v1 H5 hx1 ps1 cut1 eb1 ha5 ht1 hv1 => ?_⟩
    have wi1 : Within ss lo hi f1 := fun s hs => ps1.win s.n (hwi s hs)
    have ba1 : Balanced kn ss f1 := psd_bal x0 nes nkn ps1 (.inl ⟨rfl, rfl⟩) hbal
    have pa1 := (psd_pass x0 ps1).1 rfl rfl
    have df1 := pass_diff hwi wi1 x
    have lt1 := lt_of_diff1 pa1 df1
    have ne1 := Int.ne_of_lt lt1
    obtain ⟨lot1, hlot1, zl1, sub1⟩ := hv1 ne1
    obtain ⟨r1, ev1, hr1⟩ := hlot1
    subst ev1
    have eB5 : Ex HB H5 := eb1.ex eBC nA
    have hb5 : FlH H5 b km fl := eb1 _ _ ab.symm hbC
    refine ⟨t1, _, rfl, SqT.of ht1, rfl, _, _, rfl, _, _, rfl, rfl, ?_⟩
    -- high
    refine ⟨_, rfl, _, rfl, _, rfl, _, rfl, _, rfl, _, rfl, ?_⟩
    refine ⟨p, l, m, b, ("" : Str), x, _, kn, ss, lnP x ss, km, km, lo, hi, fl, rfl, hpB.mono eB5, hlB.mono eB5, hmB.mono eB5, hb5, mb, hnm, zl, hz, ndl, fun x2 f2 t2 v2 H6 hx2 ps2 cut2 eb2 hb6 ht2 hv2 => ?_⟩
    have wi2 : Within ss lo hi f2 := fun s hs => ps2.win s.n (hwi s hs)
    have ba2 : Balanced kn ss f2 := psd_bal x0 nes nkn ps2 (.inr ⟨rfl, rfl⟩) hbal
    have pa2 := (psd_pass x0 ps2).2 rfl rfl
    have df2 := pass_diff wi2 hwi x
    have lt2 := lt_of_diff2 pa2 df2
    have ne2 := Int.ne_of_lt lt2
    obtain ⟨lot2, hlot2, zl2, sub2⟩ := hv2 ne2
    obtain ⟨r2, ev2, hr2⟩ := hlot2
    subst ev2
    have eB6 : Ex HB H6 := eb2.ex eB5 nB0
    have ha6 : FlH H6 a km f1 := eb2 _ _ ab ha5
    have hr16 := eb2 _ _ (ne_of hr1 hb5 (by intro z; cases z)) hr1
    refine ⟨t2, _, rfl, SqT.of ht2, rfl, _, _, rfl, _, _, rfl, rfl, ?_⟩
    simp only [L2.start, nthrough_of, List.map_cons, List.map_nil, List.length_cons, List.length_nil, List.replicate, List.cons_append, List.nil_append, List.set_cons_succ, List.set_cons_zero, Nat.reduceAdd, Nat.reduceSub]
    -- sums
    refine ⟨_, rfl, _, rfl, _, rfl, p, a, kn, ss, km, f1, x, rfl, hpB.mono eB6, ha6, hk, hx, fun H7 e7 => ?_⟩
    refine ⟨_, rfl, _, rfl, _, rfl, p, b, kn, ss, km, f2, x, rfl, hpB.mono (eB6.trans e7), hb6.mono e7, hk, hx, fun H8 e8 => ?_⟩
    have e68 := e7.trans e8
    have hr28 := e68 _ _ hr2
    simp only [L2.start, nthrough_of, List.map_cons, List.map_nil, List.length_cons, List.length_nil, List.replicate, List.cons_append, List.nil_append, List.set_cons_succ, List.set_cons_zero, Nat.reduceAdd, Nat.reduceSub]
    -- high_lot
    refine ⟨_, rfl, r2, rfl, ⟨_, SqL.of hr28⟩, ?_⟩
    refine lc_J (J := Itl K r2) (fun v (x : Str) _ => v = V.str x) (fun _ v x _ => v = V.str x) (fun _ => std_str) (fun k => if ¬ k = x then some k else none) (gv_list (SqL.of hr28) (str_ls _ _)) ?_ (fun D y c H' T Y _ _ ex hc e' hT hY => ?_) (fun B ys H9 n9 e9 h9 hl9 => ?_)
    · exact Nat.le_trans zl2 (by decide)
    · subst ex
      refine ⟨rfl, _, rfl, _, rfl, rfl, _, rfl, ?_⟩
      by_cases q : c = x
      · exact itF (by rw [decide_eq_true (congrArg V.str q)]; rfl) (hT (if_neg fun z => z q) _ (Evl.Ex.refl _))
      · exact itT (by rw [decide_eq_false fun z => q (V.str.inj z)]; rfl) ⟨_, rfl, hY c (if_pos q) _ _ (Evl.Ex.refl _) rfl⟩
    have y9 := ls_str hl9
    subst y9
    rw [fm_if (fun k => ¬ k = x) (fun k => k), List.map_id'] at h9
    have e69 := e68.trans e9
    -- Range
    simp only [L2.start, nthrough_of, List.map_cons, List.map_nil, List.length_cons, List.length_nil, List.replicate, List.cons_append, List.nil_append, List.set_cons_succ, List.set_cons_zero, Nat.reduceAdd, Nat.reduceSub]
    refine ⟨_, rfl, _, rfl, _, rfl, _, rfl, _, rfl, _, rfl, ?_⟩
    intro xr dxr nx ndx nex
    have eX : Ex H9 (upd (upd H9 dxr (.own xr)) xr (.ins R dxr [])) := (Evl.Ex.new ndx).trans (Evl.Ex.new (by rw [upd_ne nex.symm]; exact nx))
    have e6X := e69.trans eX
    refine ⟨xr, dxr, a, b, _, _, _, _, .ref r1, .ref B, some lot1, some _, rfl, upd_same, ha6.mono e6X, hb6.mono e6X, ⟨r1, rfl, e6X _ _ hr16⟩, ⟨B, rfl, eX _ _ h9⟩, fun HR q1 q2 nq1 nq2 hR eb => ⟨rfl, ?_⟩⟩
    have e9R : Ex H9 HR := fun y o hy => eb y o (ne_of_none hy nx) (eX y o hy)
    have eBX := eB6.trans e6X
    refine k2 xr _ _ q1 q2 f1 f2 lot1 _ HR (Ex.free (e0B.trans eBX) nq1) (Ex.free (e0B.trans eBX) nq2) ((e0B.trans (eB6.trans e69)).trans e9R) hR zl1 sub1 (Nat.le_trans (List.length_filter_le _ _) zl2) (fun y hy => sub2 y (List.mem_filter.mp hy).1) ⟨wi1, ba1, wi2, ba2, rfl, rfl, fun g2 hg2 hb2 => ⟨?_, ?_⟩⟩
    · rcases cut1 with c1 | ⟨D1, m1, m2, cl⟩
      · exact absurd lt1 c1
      · exact (pass_low x0 hx ok.knd nes nkn ends ba1 hb2 hg2 cl).1 m1 m2
    · rcases cut2 with c2 | ⟨D2, m1, m2, cl⟩
      · exact absurd lt2 c2
      · exact (pass_low x0 hx ok.knd nes nkn ends ba2 hb2 hg2 cl).2 m1 m2
end
end Ms

set_option maxHeartbeats 4000000
namespace Ms
open PySem PySem.Spec PyProof.Rows L2
open Evl (Ex)
open C8 (Cal Mak Met pe_c pe_mk pe_mt pe_mt0 pe_gc)
def lotB (kn : List Str) (k : Str) : Option (List Str) → Bool
  | none => false
  | some lot => decide (lot = kn.filter fun x => decide (x ∈ lot)) && !decide (k ∈ lot)
def goodB (kn : List Str) (ss : List Sm) (km : List Str) (lo hi fl : Str → Int) : Bool := balancedB kn ss fl && withinB km lo hi fl
/-- what check_through answers -/
def checkB (kn : List Str) (ss : List Sm) (km : List Str) (lo hi : Str → Int) (k : Str) (low high : Int) (f1 f2 : Str → Int) (l1 l2 : Option (List Str)) : Bool :=
  goodB kn ss km lo hi f1 && (goodB kn ss km lo hi f2 && (decide (pass ss f1 k = low ∧ pass ss f2 k = high) && (lotB kn k l1 && (lotB kn k l2 && (leastB (lnP k ss) lo hi (l1.getD [] ++ [("" : Str)]) low && mostB (lnP k ss) lo hi (l2.getD [] ++ [k]) high)))))
theorem eqv_pair (a b c d : Int) : PyData.eqv (.tuple [.int a, .int b]) (.tuple [.int c, .int d]) = decide (a = c ∧ b = d) := by
  rw [Bool.eq_iff_iff]
  simp [PyData.eqv, PyData.eqvAll]
theorem shaped_pair (a b : Int) : SeqAt.shaped (.tuple [.int a, .int b]) = true := by
  simp [SeqAt.shaped, PyData.canLay0, PyData.canLayAll0, PyData.depth, PyData.depthAll]
section
variable {P : Program} {w : World} {K : PySem.W.Frag} {mg : Str → Option Value} {base : Heap} {C M R : Addr}
abbrev scheck_through : Stmt := top 49
abbrev ncheck_through : List Str := ["plant", "limits", "knot", "told", "lot", "lines", "is_low"]
theorem sccheck_through : FnScope ncheck_through ["plant", "limits", "knot", "told"] (defScope scheck_through) := ⟨rfl, rfl, rfl, by decide +kernel, rfl, by decide +kernel, by decide +kernel⟩
def LotOk (l : Option (List Str)) : Prop := ∀ lot, l = some lot → lot.length ≤ 1000 ∧ ∀ y ∈ lot, PyData.strOk y = true
def spCheck (K : PySem.W.Frag) (C R : Addr) : Sp := fun vs H Q _ => ∃ (p m r q1 q2 : Addr) (kn : List Str) (ss : List Sm) (km k1 k2 : List Str) (lo hi : Str → Int) (x : Str) (low high : Int) (f1 f2 : Str → Int) (l1 l2 : Option (List Str)), vs = [.ref p, .ref m, .str x, .ref r] ∧ Pl C H p kn ss ∧ LmH H m km lo hi ∧ (∀ n, n ∈ km ↔ n ∈ ss.map (·.n)) ∧ km.Nodup ∧ km.length ≤ 100 ∧ x ∈ kn ∧
  RgR K R H r low high q1 q2 (DR k1 fun n => .int (f1 n)) (DR k2 fun n => .int (f2 n)) l1 l2 ∧ (∀ n, n ∈ k1 ↔ n ∈ ss.map (·.n)) ∧ k1.length ≤ 100 ∧ (∀ n, n ∈ k2 ↔ n ∈ ss.map (·.n)) ∧ k2.length ≤ 100 ∧ q1 ≠ m ∧ q2 ≠ m ∧ LotOk l1 ∧ LotOk l2 ∧
  Giv (.bl (checkB kn ss km lo hi x low high f1 f2 l1 l2)) H Q
theorem ok_check_through (d : Dn K mg "check_through" scheck_through ["plant", "limits", "knot", "told"]) (G : Glb mg) (TP : PlT K C) (T : RgT K R) (c_check_knot : Met P w K mg base 1 C "check_knot" (spCheckKnot C) []) (c_crossed : Cal P w K mg base 5 "crossed" (spCrossed C) []) (c_are_within : Cal P w K mg base 6 "are_within" (spAreWithin C) []) (c_sum_through : Cal P w K mg base 3 "sum_through" (spSumThrough C) []) (c_is_lot : Cal P w K mg base 3 "is_lot" (spIsLot K C) []) (c_parted_lines : Cal P w K mg base 3 "parted_lines" (spParted C) []) (c_shows_least : Cal P w K mg base 2 "shows_least" (spShows K leastB) []) (c_shows_most : Cal P w K mg base 2 "shows_most" (spShows K mostB) []) : Cal P w K mg base 7 "check_through" (spCheck K C R) [] := by
  refine d.cal sccheck_through (fun vs H Q E h => ?_) (fun f cdv A outer s H vs Q E hr h => ?_)
  · obtain ⟨p, m, r, q1, q2, kn, ss, km, k1, k2, lo, hi, x, low, high, f1, f2, l1, l2, rfl, _⟩ := h
    rfl
  · obtain ⟨p, m, r, q1, q2, kn, ss, km, k1, k2, lo, hi, x, low, high, f1, f2, l1, l2, rfl, hp, hm, hk, ndk, hz, hx, hR, hk1, hz1, hk2, hz2, n1, n2, lk1, lk2, k⟩ := h
    refine ⟨_, (pss_cons (ps_expr (pe_mt c_check_knot hr (by decide) (pv 0) (pa_cons (pv 2) pa_nil)))
      (pss_cons (ps_expr (pe_c c_crossed hr (by decide) rfl (pa_cons (pv 0) (pa_cons (pv 1) pa_nil))))
      (pss_cons (ps_if (PW.pt (pw_or (pt_not (pt_val (pe_c c_are_within hr (by decide) rfl (pa_cons (pv 0) (pa_cons (pv 1) (pa_cons (pe_fldK K (pv 3) rfl) pa_nil)))))) (pw_or1 (pt_not (pt_val (pe_c c_are_within hr (by decide) rfl (pa_cons (pv 0) (pa_cons (pv 1) (pa_cons (pe_fldK K (pv 3) rfl) pa_nil))))))))) (pss_one (ps_ret pe_bl)) pss_nil)
      (pss_cons (ps_if (pt_cmpR (op_neD hr.units) (pe_tup (pa_cons (pe_c c_sum_through hr (by decide) rfl (pa_cons (pv 0) (pa_cons (pe_fldK K (pv 3) rfl) (pa_cons (pv 2) pa_nil)))) (pa_cons (pe_c c_sum_through hr (by decide) rfl (pa_cons (pv 0) (pa_cons (pe_fldK K (pv 3) rfl) (pa_cons (pv 2) pa_nil)))) pa_nil))) (pe_tup (pa_cons (pe_fldK K (pv 3) rfl) (pa_cons (pe_fldK K (pv 3) rfl) pa_nil))) (nomark _)) (pss_one (ps_ret pe_bl)) pss_nil)
      (pss_cons (ps_for PassesOwn.never rfl (pi_tup (pe_tup (pa_cons (pe_fldK K (pv 3) rfl) (pa_cons (pe_fldK K (pv 3) rfl) pa_nil)))) (pg_name (i := 4) sccheck_through.nd rfl (by first | exact .inl rfl | exact .inr rfl))
      (pss_one (ps_if (PW.pt (pw_or (pt_cmp (pc_isN (pv 4))) (pw_or (pt_not (pt_val (pe_c c_is_lot hr (by decide) rfl (pa_cons (pv 0) (pa_cons (pv 4) pa_nil))))) (pw_or1 (pt_cmpR (in_seqK K) (pv 2) (pv 4) rfl))))) (pss_one (ps_ret pe_bl)) pss_nil)))
      (pss_cons (ps_set (i := 5) sccheck_through.nd rfl (by first | exact .inl rfl | exact .inr rfl) (pe_c c_parted_lines hr (by decide) rfl (pa_cons (pv 0) (pa_cons (pv 2) pa_nil))))
      (pss_cons (ps_set (i := 6) sccheck_through.nd rfl (by first | exact .inl rfl | exact .inr rfl) (pe_c c_shows_least hr (by decide) rfl (pa_cons (pv 5) (pa_cons (pv 1) (pa_cons (pe_op op_cat (pe_fldK K (pv 3) rfl) (pe_lst (pa_cons (pe_gc rfl G.c_APART) pa_nil))) (pa_cons (pe_fldK K (pv 3) rfl) pa_nil))))))
      (pss_one (ps_ret (pe_and (pv 6) (pe_one (pe_c c_shows_most hr (by decide) rfl (pa_cons (pv 5) (pa_cons (pv 1) (pa_cons (pe_op op_cat (pe_fldK K (pv 3) rfl) (pe_lst (pa_cons (pv 2) pa_nil))) (pa_cons (pe_fldK K (pv 3) rfl) pa_nil)))))))))))))))), ?_⟩
    have ok := hp.ok
    obtain ⟨⟨dxr, fs, v1, v2, hr0, a1, a2, a3, a4, a5, a6, b1, b2⟩, d1, d2⟩ := hR
    have d1 : FlH H q1 k1 f1 := d1
    have d2 : FlH H q2 k2 f2 := d2
    obtain ⟨dx, _, _, _, hpx, _⟩ := hp.r
    refine ⟨_, rfl, p, dx, _, rfl, hpx, pf_no (by decide +kernel) (by decide +kernel), _, rfl, p, kn, ss, x, rfl, hp.r, hx, fun H1 e1 => ?_⟩
    refine ⟨_, rfl, _, rfl, p, m, kn, ss, km, lo, hi, rfl, hp.mono e1, hm.mono e1, hk, ndk, hz, fun _ H2 e2 _ => ?_⟩
    have e02 := e1.trans e2
    -- within
    refine ⟨_, rfl, _, rfl, _, rfl, r, R, dxr, fs, _, rfl, e02 _ _ hr0, T.cl, T.n3, a3, p, m, q1, kn, ss, km, k1, lo, hi, f1, rfl, hp.mono e02, hm.mono e02, hk, ndk, hz, d1.mono e02, hk1, hz1, n1, fun H3 e3 => ⟨_, rfl, ?_⟩⟩
    have e03 := e02.trans e3
    cases g1 : goodB kn ss km lo hi f1 with
    | false =>
      have g1' : (balancedB kn ss f1 && withinB km lo hi f1) = false := g1
      refine itT (by rw [g1']; rfl) (itT rfl (blB ?_ (k _ e03)))
      unfold checkB
      rw [g1]
      rfl
    | true =>
    have g1' : (balancedB kn ss f1 && withinB km lo hi f1) = true := g1
    refine itF (by rw [g1']; rfl) ?_
    refine ⟨_, rfl, _, rfl, _, rfl, r, R, dxr, fs, _, rfl, e03 _ _ hr0, T.cl, T.n4, a4, p, m, q2, kn, ss, km, k2, lo, hi, f2, rfl, hp.mono e03, hm.mono e03, hk, ndk, hz, d2.mono e03, hk2, hz2, n2, fun H4 e4 => ⟨_, rfl, ?_⟩⟩
    have e04 := e03.trans e4
    cases g2 : goodB kn ss km lo hi f2 with
    | false =>
      have g2' : (balancedB kn ss f2 && withinB km lo hi f2) = false := g2
      refine itT (by rw [g2']; rfl) (blB ?_ (k _ e04))
      unfold checkB
      rw [g1, g2]
      rfl
    | true =>
    have g2' : (balancedB kn ss f2 && withinB km lo hi f2) = true := g2
    refine itF (by rw [g2']; rfl) ?_
    -- sums
    refine ⟨_, rfl, _, rfl, r, R, dxr, fs, _, rfl, e04 _ _ hr0, T.cl, T.n3, a3, _, rfl, p, q1, kn, ss, k1, f1, x, rfl, hp.mono e04, d1.mono e04, hk1, hx, fun H5 e5 => ?_⟩
    have e05 := e04.trans e5
    refine ⟨_, rfl, _, rfl, r, R, dxr, fs, _, rfl, e05 _ _ hr0, T.cl, T.n4, a4, _, rfl, p, q2, kn, ss, k2, f2, x, rfl, hp.mono e05, d2.mono e05, hk2, hx, fun H6 e6 => ?_⟩
    have e06 := e05.trans e6
    refine ⟨sz1 (by show 2 ≤ 100000; decide), fun t nt => ?_⟩
    have e07 := e06.trans (Evl.Ex.new (o := .tup [.int (pass ss f1 x), .int (pass ss f2 x)]) nt)
    refine ⟨_, rfl, r, R, dxr, fs, _, rfl, e07 _ _ hr0, T.cl, T.n1, a1, _, rfl, r, R, dxr, fs, _, rfl, e07 _ _ hr0, T.cl, T.n2, a2, sz1 (by show 2 ≤ 100000; decide), fun u nu => ?_⟩
    have e08 := e07.trans (Evl.Ex.new (o := .tup [.int low, .int high]) nu)
    refine ⟨_, _, .tup (SqT.of (Evl.Ex.new nu _ _ upd_same)) (.cons (.int _) (.cons (.int _) .nil)), .tup (SqT.of upd_same) (.cons (.int _) (.cons (.int _) .nil)), shaped_pair _ _, shaped_pair _ _, _, rfl, ?_⟩
    rw [eqv_pair]
    by_cases gp : pass ss f1 x = low ∧ pass ss f2 x = high
    case neg =>
      refine itT (by rw [decide_eq_false gp]; rfl) (blB ?_ (k _ e08))
      unfold checkB
      rw [g1, g2, decide_eq_false gp]
      rfl
    refine itF (by rw [decide_eq_true gp]; rfl) ?_
    have base0 : checkB kn ss km lo hi x low high f1 f2 l1 l2 = (lotB kn x l1 && (lotB kn x l2 && (leastB (lnP x ss) lo hi (l1.getD [] ++ [("" : Str)]) low && mostB (lnP x ss) lo hi (l2.getD [] ++ [x]) high))) := by
      unfold checkB
      rw [g1, g2, decide_eq_true gp]
      rfl
    rw [base0] at k
    -- lots
    refine ⟨_, rfl, r, R, dxr, fs, _, rfl, e08 _ _ hr0, T.cl, T.n5, a5, _, rfl, r, R, dxr, fs, _, rfl, e08 _ _ hr0, T.cl, T.n6, a6, sz1 (by show 2 ≤ 100000; decide), fun z nz => ?_⟩
    generalize hH8 : upd (upd H6 t (.tup [.int (pass ss f1 x), .int (pass ss f2 x)])) u (.tup [.int low, .int high]) = H8 at *
    have e09 := e08.trans (Evl.Ex.new (o := .tup [v1, v2]) nz)
    refine ⟨z, rfl, ⟨_, SqT.of upd_same⟩, ?_⟩
    have hlr : LsR (fun v l H => LotR K H v l ∧ LotOk l) (upd H8 z (.tup [v1, v2])) [v1, v2] [l1, l2] := (LsR.nil.cons ⟨b2.mono e09, lk2⟩).cons ⟨b1.mono e09, lk1⟩
    refine for_J (J := Itt K z) (gv_tup hlr fun H e => SqT.of (e _ _ upd_same)) (fun i σ H' => (∃ o4, σ = [some (.ref p), some (.ref m), some (.str x), some (.ref r), o4, none, none]) ∧ Ex (upd H8 z (.tup [v1, v2])) H' ∧ ∀ l ∈ [l1, l2].take i, lotB kn x l = true)
      ⟨⟨_, rfl⟩, Evl.Ex.refl _, by simp⟩ (fun i σ H' h => h.2.1) (fun i y c σ H' hc hy hI => ?_) (fun σ H' hI => ?_)
    · obtain ⟨⟨o4, rfl⟩, e, hb⟩ := hI
      obtain ⟨hy1, hy2⟩ := hy
      have hcm : c ∈ [l1, l2] := List.mem_of_getElem? hc
      have bad : lotB kn x c = false → (lotB kn x l1 && (lotB kn x l2 && (leastB (lnP x ss) lo hi (l1.getD [] ++ [("" : Str)]) low && mostB (lnP x ss) lo hi (l2.getD [] ++ [x]) high))) = false := fun hf => by
        rcases List.mem_cons.mp hcm with q | q
        · rw [← q, hf]; rfl
        · rw [List.mem_singleton] at q
          rw [← q, hf, Bool.false_and, Bool.and_false]
      have e0 := e09.trans e
      cases c with
      | none =>
        have hy1 : y = .non := hy1
        subst hy1
        exact ⟨_, rfl, _, rfl, itT rfl (itT rfl (blB (bad rfl).symm (k _ e0)))⟩
      | some lot =>
        obtain ⟨rl, rfl, hrl⟩ := hy1
        obtain ⟨zl, sl⟩ := hy2 lot rfl
        refine ⟨_, rfl, _, rfl, itF rfl ?_⟩
        refine ⟨_, rfl, _, rfl, p, rl, kn, ss, lot, rfl, hp.mono e0, SqL.of (e _ _ hrl), sl, fun HL eL => ⟨_, rfl, ?_⟩⟩
        have e0L := e0.trans eL
        by_cases q3 : lot = kn.filter fun x => decide (x ∈ lot)
        · refine itF (by rw [decide_eq_true q3]; rfl) ?_
          refine ⟨_, rfl, _, rfl, rl, _, rfl, .inl (SqL.of (eL _ _ (e _ _ hrl))), rfl, flat_strs _, _, rfl, ?_⟩
          rw [if_neg Bool.false_ne_true, inV_str]
          by_cases q4 : x ∈ lot
          · refine itP q4 (blB (bad ?_).symm (k _ e0L))
            show (decide _ && !decide _) = false
            rw [decide_eq_true q4, Bool.not_true, Bool.and_false]
          · refine itN q4 ⟨⟨_, rfl⟩, e.trans eL, fun l hl => ?_⟩
            rw [take_snoc hc] at hl
            rcases List.mem_append.mp hl with hl | hl
            · exact hb l hl
            · rw [List.mem_singleton] at hl
              subst hl
              show (decide _ && !decide _) = true
              rw [decide_eq_true q3, decide_eq_false q4]
              rfl
        · refine itT (by rw [decide_eq_false q3]; rfl) (itT rfl (blB (bad ?_).symm (k _ e0L)))
          show (decide _ && !decide _) = false
          rw [decide_eq_false q3, Bool.false_and]
    · obtain ⟨⟨o4, rfl⟩, e, hb⟩ := hI
      have h1 := hb l1 (by simp)
      have h2 := hb l2 (by simp)
      rw [h1, h2, Bool.true_and, Bool.true_and] at k
      have e0 := e09.trans e
      cases l1 with
      | none => cases h1
      | some lot1 =>
      cases l2 with
      | none => cases h2
      | some lot2 =>
      obtain ⟨r1, rfl, hr1⟩ := b1
      obtain ⟨r2, rfl, hr2⟩ := b2
      obtain ⟨zl1, _⟩ := lk1 lot1 rfl
      obtain ⟨zl2, _⟩ := lk2 lot2 rfl
      have su := ok.su
      have hnm : ∀ y ∈ lnP x ss, y.n ∈ km := fun y hy => by
        obtain ⟨s, hs, en, _⟩ := lnP_mem hy
        exact (hk _).mpr (List.mem_map.mpr ⟨s, hs, en.symm⟩)
      have zln : (lnP x ss).length ≤ 100 := by
        unfold lnP
        rw [List.length_map]
        omega
      refine ⟨_, rfl, _, rfl, p, kn, ss, x, rfl, hp.mono e0, fun l ws HL nL eL hL hlL => ?_⟩
      have e0L := e0.trans eL
      have hln : LsT K encL HL l (lnP x ss) := LsT.of hL hlL
      refine ⟨_, rfl, _, rfl, _, rfl, r, R, dxr, fs, _, rfl, e0L _ _ hr0, T.cl, T.n5, a5, sz1 (by show 1 ≤ 100000; decide), fun S nS => ?_⟩
      refine ⟨r1, S, _, _, rfl, rfl, Evl.Ex.new nS _ _ (e0L _ _ hr1), upd_same, sz1 (by rw [List.length_map]; show lot1.length + 1 ≤ 100000; omega), fun U nU => ?_⟩
      have eLU := (Evl.Ex.new (o := .lst [.str ("" : Str)]) nS).trans (Evl.Ex.new (o := .lst (lot1.map V.str ++ [.str ("" : Str)])) nU)
      have e0U := e0L.trans eLU
      have lst1 : lot1.map V.str ++ [.str ("" : Str)] = (lot1 ++ [("" : Str)]).map V.str := by rw [List.map_append]; rfl
      refine ⟨_, rfl, r, R, dxr, fs, _, rfl, e0U _ _ hr0, T.cl, T.n1, a1, ?_⟩
      refine ⟨l, m, U, low, lnP x ss, km, lo, hi, lot1 ++ [("" : Str)], rfl, hln.mono eLU, hm.mono e0U, hnm, zln, SqL.of (by rw [upd_same, lst1]), fun HV eV => ?_⟩
      have eLV := eLU.trans eV
      have e0V := e0U.trans eV
      refine ⟨_, rfl, _, rfl, it2 (fun q => ?_) (fun q => ?_)⟩
      · have q : leastB (lnP x ss) lo hi (lot1 ++ [("" : Str)]) low = true := q
        have k : Giv (.bl (leastB (lnP x ss) lo hi (lot1 ++ [("" : Str)]) low && mostB (lnP x ss) lo hi (lot2 ++ [x]) high)) H Q := k
        rw [q, Bool.true_and] at k
        refine ⟨_, rfl, _, rfl, _, rfl, r, R, dxr, fs, _, rfl, e0V _ _ hr0, T.cl, T.n6, a6, _, rfl, sz1 (by show 1 ≤ 100000; decide), fun S2 nS2 => ?_⟩
        refine ⟨r2, S2, _, _, rfl, rfl, Evl.Ex.new nS2 _ _ (e0V _ _ hr2), upd_same, sz1 (by rw [List.length_map]; show lot2.length + 1 ≤ 100000; omega), fun U2 nU2 => ?_⟩
        have eVU := (Evl.Ex.new (o := .lst [.str x]) nS2).trans (Evl.Ex.new (o := .lst (lot2.map V.str ++ [.str x])) nU2)
        have e0W := e0V.trans eVU
        have lst2 : lot2.map V.str ++ [.str x] = (lot2 ++ [x]).map V.str := by rw [List.map_append]; rfl
        refine ⟨_, rfl, r, R, dxr, fs, _, rfl, e0W _ _ hr0, T.cl, T.n2, a2, ?_⟩
        refine ⟨l, m, U2, high, lnP x ss, km, lo, hi, lot2 ++ [x], rfl, hln.mono (eLV.trans eVU), hm.mono e0W, hnm, zln, SqL.of (by rw [upd_same, lst2]), fun HX eX => ?_⟩
        exact k _ (e0W.trans eX)
      · have q : leastB (lnP x ss) lo hi (lot1 ++ [("" : Str)]) low = false := q
        have k : Giv (.bl (leastB (lnP x ss) lo hi (lot1 ++ [("" : Str)]) low && mostB (lnP x ss) lo hi (lot2 ++ [x]) high)) H Q := k
        rw [q, Bool.false_and] at k
        exact k _ e0V
end
end Ms

set_option maxHeartbeats 4000000
/-! Sorted texts, letters, cuts: plain facts for the law. -/
namespace Ms
open PySem PySem.Spec PyProof.Rows L2
open Evl (Ex)
theorem strExt {a b : Str} (h : a.cps.toList = b.cps.toList) : a = b := by
  cases a
  cases b
  congr 1
  exact Array.toList_inj.mp h
theorem rising_all : ∀ (p : Str) (l : List Str), risingS p l = true → ∀ x ∈ p :: l, p.cps.toList ≤ x.cps.toList
  | p, [], _, x, hx => by
    rw [List.mem_singleton] at hx
    subst hx
    exact List.le_refl _
  | p, y :: r, h, x, hx => by
    unfold risingS at h
    rw [Bool.and_eq_true_iff] at h
    have h1 : ¬ y.cps.toList < p.cps.toList := by
      have := h.1
      rw [ltCps_eq] at this
      intro q
      rw [decide_eq_true q] at this
      cases this
    rcases List.mem_cons.mp hx with e | e
    · subst e
      exact List.le_refl _
    · exact List.le_trans (List.not_lt.mp h1) (rising_all y r h.2 x e)
theorem sorted_tail {x : Str} {r : List Str} (h : sortedS (x :: r) = true) : sortedS r = true := by
  cases r with
  | nil => rfl
  | cons y r =>
    have h : risingS x (y :: r) = true := h
    unfold risingS at h
    exact (Bool.and_eq_true_iff.mp h).2
theorem sorted_unique : ∀ {l l' : List Str}, l.Perm l' → sortedS l = true → sortedS l' = true → l = l'
  | [], l', p, _, _ => (List.nil_perm.mp p).symm
  | x :: r, [], p, _, _ => absurd p.length_eq (by simp)
  | x :: r, y :: r', p, h, h' => by
    have a := rising_all x r h y (p.mem_iff.mpr List.mem_cons_self)
    have b := rising_all y r' h' x (p.mem_iff.mp List.mem_cons_self)
    have e : x = y := strExt (List.le_antisymm a b)
    subst e
    rw [sorted_unique ((List.perm_cons x).mp p) (sorted_tail h) (sorted_tail h')]
/-- the cut of a list of things -/
theorem cut_map {α : Type} (f : α → V) (xs : List α) (lo hi : Option Int) : cutV (xs.map f) lo hi = ((xs.drop (HT.sIx xs.length 0 lo)).take (HT.sIx xs.length xs.length hi - HT.sIx xs.length 0 lo)).map f := by
  unfold cutV
  rw [List.length_map, ← List.map_drop, ← List.map_take]
theorem cut_mem {α : Type} {xs : List α} {a b : Nat} {x : α} (h : x ∈ (xs.drop a).take b) : x ∈ xs := List.mem_of_mem_drop (List.mem_of_mem_take h)
theorem sIx_some {n d k : Nat} : HT.sIx n d (some (k : Int)) = min k n := by
  show (if (k : Int) < 0 then ((k : Int) + (n : Int)).toNat else min (k : Int).toNat n) = _
  rw [if_neg (by omega)]
  rfl
theorem sIx_none {n d : Nat} : HT.sIx n d none = d := rfl
theorem atI_int {xs : List V} {i : Int} {j : Nat} {v : V} (e : i = (j : Int)) (h : xs[j]? = some v) : atI xs i = some v := by
  subst e
  exact atI_nat h
/-- a place by remainder -/
theorem at_mod {α : Type} (f : α → V) {xs : List α} (ne : xs ≠ []) (e : Int) : ∃ x ∈ xs, atI (xs.map f) (e.fmod ((xs.map f).length : Nat)) = some (f x) := by
  have hp : 0 < xs.length := List.length_pos_iff.mpr ne
  have hp2 : (0 : Int) < (xs.length : Nat) := Int.ofNat_lt.mpr hp
  rw [List.length_map, Int.fmod_eq_emod_of_nonneg _ (Int.le_of_lt hp2)]
  have h0 := Int.emod_nonneg e (Int.ne_of_gt hp2)
  have h1 := Int.emod_lt_of_pos e hp2
  have h2 : (e % (xs.length : Nat)).toNat < xs.length := by omega
  refine ⟨xs[(e % (xs.length : Nat)).toNat], List.getElem_mem h2, atI_int (j := (e % (xs.length : Nat)).toNat) (by omega) ?_⟩
  rw [List.getElem?_map, List.getElem?_eq_getElem h2]
  rfl
/-- the numbers drawn -/
structure NsR (H : Hp) (a : Addr) (ns : List Int) : Prop where
  h : H a = some (.lst (ns.map V.int))
  len : ns.length = 120
  rng : ∀ x ∈ ns, 0 ≤ x ∧ x < 1009
theorem NsR.mono {H H' : Hp} {a : Addr} {ns : List Int} (e : Ex H H') (h : NsR H a ns) : NsR H' a ns := ⟨e _ _ h.h, h.len, h.rng⟩
theorem NsR.at_ {H : Hp} {a : Addr} {ns : List Int} (h : NsR H a ns) {i : Int} {j : Nat} (e : i = (j : Int)) (hj : j < 120) : ∃ x, atI (ns.map V.int) i = some (.int x) ∧ 0 ≤ x ∧ x < 1009 := by
  have h2 : j < ns.length := by rw [h.len]; exact hj
  obtain ⟨a1, a2⟩ := h.rng _ (List.getElem_mem h2)
  refine ⟨ns[j], atI_int e ?_, a1, a2⟩
  rw [List.getElem?_map, List.getElem?_eq_getElem h2]
  rfl
/-! ### letters -/
abbrev lets : List Nat := LETT.cps.toList
theorem lets_len : lets.length = 36 := by decide +kernel
theorem lett_len : LETT.length = 36 := by decide +kernel
theorem lets_nd : lets.Nodup := by decide +kernel
/-- the letter at a place -/
def letr (i : Nat) : Str := ⟨#[lets.getD i 0]⟩
theorem lett_at {i : Nat} (h : i < 36) : LETT.cps[i]? = some (lets.getD i 0) := by
  have h2 : i < lets.length := by rw [lets_len]; exact h
  have e : LETT.cps[i]? = lets[i]? := (Array.getElem?_toList ..).symm
  rw [e, List.getD_eq_getElem?_getD, List.getElem?_eq_getElem h2]
  rfl
theorem letr_in {i : Nat} (h : i < 36) : lets.getD i 0 ∈ lets := by
  have h2 : i < lets.length := by rw [lets_len]; exact h
  rw [List.getD_eq_getElem?_getD, List.getElem?_eq_getElem h2]
  exact List.getElem_mem h2
theorem letr_inj {i j : Nat} (hi : i < 36) (hj : j < 36) (h : lets.getD i 0 = lets.getD j 0) : i = j := by
  have h1 : i < lets.length := by rw [lets_len]; exact hi
  have h2 : j < lets.length := by rw [lets_len]; exact hj
  rw [List.getD_eq_getElem?_getD, List.getD_eq_getElem?_getD, List.getElem?_eq_getElem h1, List.getElem?_eq_getElem h2] at h
  exact (List.getElem_inj lets_nd).mp h
theorem app_list (a b : Str) : (a ++ b).cps.toList = a.cps.toList ++ b.cps.toList := by
  show (a.cps ++ b.cps).toList = _
  exact Array.toList_append ..
theorem len_list (a : Str) : a.length = a.cps.toList.length := by
  show a.cps.size = _
  simp
/-- signs joined by nothing -/
theorem sjoin_list : ∀ ys : List Str, (Str.join ("" : Str) ys).cps.toList = (ys.map (·.cps.toList)).flatten
  | [] => by decide +kernel
  | [x] => by
    show x.cps.toList = _
    simp
  | x :: y :: r => by
    show (x ++ ("" : Str) ++ Str.join ("" : Str) (y :: r)).cps.toList = _
    rw [app_list, app_list, sjoin_list (y :: r)]
    have : (("" : Str)).cps.toList = [] := by decide +kernel
    rw [this]
    simp
theorem join_list (ys : List Str) : (Txt.join ("" : Str) ys).cps.toList = (ys.map (·.cps.toList)).flatten := by
  rw [TL.join_eq]
  exact sjoin_list ys
end Ms

set_option maxHeartbeats 4000000
namespace Ms
open PySem PySem.Spec PyProof.Rows L2
open Evl (Ex)
open C8 (Cal Mak Met pe_c pe_mk pe_mt pe_mt0 pe_gc)
section
variable {P : Program} {w : World} {K : PySem.W.Frag} {mg : Str → Option Value} {base : Heap} {C M R : Addr}
abbrev sLrow : Stmt := top 51
abbrev nLrow : List Str := ["_law_cell", "_law_many", "_law_row_here", "_law_rest", "_law_state", "_law_k"]
theorem scLrow : FnScope nLrow ["_law_cell", "_law_many"] (defScope sLrow) := ⟨rfl, rfl, rfl, by decide +kernel, rfl, by decide +kernel, by decide +kernel⟩
abbrev GivI (n : Nat) (H : Hp) (Q : VK) : Prop := ∀ a (ns : List Int) H', H a = none → Ex H H' → H' a = some (.lst (ns.map V.int)) → ns.length = n → (∀ x ∈ ns, 0 ≤ x ∧ x < 1009) → Q (.ref a) H'
def spRow : Sp := fun vs H Q _ => ∃ (c : Int) (n : Nat), vs = [.int c, .int (n : Nat)] ∧ n ≤ 1000 ∧ GivI n H Q
theorem ok_row (d : Dn K mg "_law_row" sLrow ["_law_cell", "_law_many"]) (G : Glb mg) : Cal P w K mg base 1 "_law_row" spRow [] := by
  refine d.cal scLrow (fun vs H Q E h => ?_) (fun f cdv A outer s H vs Q E hr h => ?_)
  · obtain ⟨c, n, rfl, _⟩ := h
    rfl
  · obtain ⟨c, n, rfl, hz, k⟩ := h
    refine ⟨_, (pss_cons (ps_set (i := 2) scLrow.nd rfl (by first | exact .inl rfl | exact .inr rfl) (pe_lst pa_nil))
      (pss_cons (ps_set (i := 3) scLrow.nd rfl (by first | exact .inl rfl | exact .inr rfl) pe_int)
      (pss_cons (ps_if (pt_cmpR op_ge (pe_callB call_abs (by rfl) G.abs (by decide +kernel) (pa_cons (pv 0) pa_nil)) (pe_op op_pow pe_int pe_int) (nomark _)) (pss_one (ps_set (i := 3) scLrow.nd rfl (by first | exact .inl rfl | exact .inr rfl) (pe_callB call_abs (by rfl) G.abs (by decide +kernel) (pa_cons (pv 0) pa_nil)))) pss_nil)
      (pss_cons (ps_set (i := 4) scLrow.nd rfl (by first | exact .inl rfl | exact .inr rfl) (pe_op op_mod (pe_callTy call_int1 (by rfl) G.int (by decide +kernel) (pa_cons (pe_callB call_abs (by rfl) G.abs (by decide +kernel) (pa_cons (pv 0) pa_nil)) pa_nil)) pe_int))
      (pss_cons (ps_for PassesOwn.never rfl (pi_range1 rfl G.range (pa_cons (pv 1) pa_nil)) (pg_name (i := 5) scLrow.nd rfl (by first | exact .inl rfl | exact .inr rfl))
      (pss_cons (ps_set (i := 4) scLrow.nd rfl (by first | exact .inl rfl | exact .inr rfl) (pe_op op_mod (pe_callTy call_int1 (by rfl) G.int (by decide +kernel) (pa_cons (pe_op op_add (pe_op op_mul (pe_op op_add (pv 4) pe_int) pe_int) (pe_op op_mul pe_int (pv 5))) pa_nil)) pe_int))
      (pss_one (ps_if (pt_cmpR op_gt (pv 3) pe_int (nomark _)) (pss_cons (ps_expr (pe_bm PySem.F.plainAttrs_list PySem.F.slot_list_append PySem.F.type_list_append mt_append (pv 2) (pa_cons (pe_op op_mod (pe_callTy call_int1 (by rfl) G.int (by decide +kernel) (pa_cons (pv 3) pa_nil)) pe_int) pa_nil)))
      (pss_one (ps_set (i := 3) scLrow.nd rfl (by first | exact .inl rfl | exact .inr rfl) (pe_op op_fdiv (pv 3) pe_int)))) (pss_one (ps_expr (pe_bm PySem.F.plainAttrs_list PySem.F.slot_list_append PySem.F.type_list_append mt_append (pv 2) (pa_cons (pe_op op_mod (pe_callTy call_int1 (by rfl) G.int (by decide +kernel) (pa_cons (pe_op op_fdiv (pv 4) pe_int) pa_nil)) pe_int) pa_nil))))))))
      (pss_one (ps_ret (pv 2)))))))), ?_⟩
    refine ⟨Nat.zero_le _, fun F nF => ?_⟩
    have habs : 0 ≤ (if c < 0 then -c else c) := by split <;> omega
    refine ⟨_, rfl, _, rfl, _, _, rfl, rfl, ⟨by decide, by decide, by decide⟩, _, _, rfl, rfl, _, rfl, ite2 (fun _ => ?_) (fun _ => ?_)⟩
    case' refine_1 => refine ⟨_, rfl, _, rfl, ?_⟩
    all_goals
      refine ⟨_, rfl, _, rfl, .inl ⟨_, rfl, _, _, rfl, rfl, (by show (0 : Int) < _; decide), ?_⟩⟩
      refine ⟨_, rfl, _, rfl, by omega, by omega, ?_⟩
      rw [show ((n : Nat) : Int).toNat = n from Int.toNat_natCast n]
      refine for_J (J := Itr 0 n) (B := H) gv_range (fun i σ H' => (∃ (r st : Int) (o5 : Option V), 0 ≤ r ∧ 0 ≤ st ∧ σ = [some (.int c), some (.int (n : Nat)), some (.ref F), some (.int r), some (.int st), o5]) ∧ Ex H H' ∧ ∃ ns : List Int, H' F = some (.lst (ns.map V.int)) ∧ ns.length = i ∧ i ≤ n ∧ ∀ x ∈ ns, 0 ≤ x ∧ x < 1009)
        ?_ (fun i σ H' h => h.2.1) (fun i x y σ H' hc hx hI => ?_) (fun σ H' hI => ?_)
      · first
        | exact ⟨⟨_, _, _, habs, Int.emod_nonneg _ (by decide), rfl⟩, Evl.Ex.new nF, [], upd_same, rfl, Nat.zero_le _, by simp⟩
        | exact ⟨⟨_, _, _, Int.le_refl 0, Int.emod_nonneg _ (by decide), rfl⟩, Evl.Ex.new nF, [], upd_same, rfl, Nat.zero_le _, by simp⟩
      · obtain ⟨⟨r, st, o5, hr0, hs0, rfl⟩, e, ns, hF, hl, hin, hrng⟩ := hI
        subst hx
        have hy : y < n := List.mem_range.mp (List.mem_of_getElem? hc)
        have hi : i < n := by
          have := (List.getElem?_eq_some_iff.mp hc).1
          rw [List.length_range] at this
          exact this
        refine ⟨_, rfl, _, _, rfl, rfl, _, _, rfl, rfl, .inr (by decide +kernel), _, rfl, _, _, rfl, rfl, .inl (by decide +kernel), _, _, rfl, rfl, .inl ⟨_, rfl, _, _, rfl, rfl, (by show (0 : Int) < _; decide), ?_⟩⟩
        refine ⟨_, rfl, _, _, rfl, rfl, _, rfl, ite2 (fun _ => ?_) (fun _ => ?_)⟩
        · refine ⟨_, rfl, .inl ⟨rfl, _, SqL.of hF⟩, _, rfl, .inl ⟨_, rfl, _, _, rfl, rfl, (by show (0 : Int) < _; decide), F, _, _, rfl, rfl, hF, Evl.sz_lt (by rw [List.length_map]; omega), ?_⟩⟩
          refine ⟨_, rfl, _, _, rfl, rfl, ⟨by decide, by decide⟩, ⟨_, _, _, ?_, ?_, rfl⟩, Evl.Ex.mut e nF, ns ++ [r % 1009], by rw [upd_same, List.map_append]; rfl, by rw [List.length_append, hl]; rfl, hi, fun x hx => ?_⟩
          · exact Int.ediv_nonneg hr0 (by decide)
          · exact Int.emod_nonneg _ (by decide)
          · rcases List.mem_append.mp hx with hx | hx
            · exact hrng x hx
            · rw [List.mem_singleton] at hx
              subst hx
              exact ⟨Int.emod_nonneg _ (by decide), Int.emod_lt_of_pos _ (by decide)⟩
        · refine ⟨_, rfl, .inl ⟨rfl, _, SqL.of hF⟩, _, rfl, _, _, rfl, rfl, ⟨by decide, by decide⟩, .inl ⟨_, rfl, _, _, rfl, rfl, (by show (0 : Int) < _; decide), F, _, _, rfl, rfl, hF, Evl.sz_lt (by rw [List.length_map]; omega), ?_⟩⟩
          refine ⟨⟨_, _, _, hr0, Int.emod_nonneg _ (by decide), rfl⟩, Evl.Ex.mut e nF, ns ++ [_ % 1009], by rw [upd_same, List.map_append]; rfl, by rw [List.length_append, hl]; rfl, hi, fun x hx => ?_⟩
          rcases List.mem_append.mp hx with hx | hx
          · exact hrng x hx
          · rw [List.mem_singleton] at hx
            subst hx
            exact ⟨Int.emod_nonneg _ (by decide), Int.emod_lt_of_pos _ (by decide)⟩
      · obtain ⟨⟨r, st, o5, hr0, hs0, rfl⟩, e, ns, hF, hl, hin, hrng⟩ := hI
        rw [List.length_range] at hl
        exact ⟨_, rfl, k F ns H' nF e hF hl hrng⟩
abbrev sLnumbers : Stmt := top 52
abbrev nLnumbers : List Str := ["_law_script", "_law_many", "_law_cells", "_law_each", "_law_numbers_here", "_law_cell", "_law_number"]
theorem scLnumbers : FnScope nLnumbers ["_law_script", "_law_many"] (defScope sLnumbers) := ⟨rfl, rfl, rfl, by decide +kernel, rfl, by decide +kernel, by decide +kernel⟩
def spNumbers (K : PySem.W.Frag) : Sp := fun vs H Q _ => ∃ (a : Addr) (cells : List Int), vs = [.ref a, .int 120] ∧ SqL K H a (cells.map V.int) ∧ ∀ b ns H', H b = none → Ex H H' → NsR H' b ns → Q (.ref b) H'
theorem ok_numbers (d : Dn K mg "_law_numbers" sLnumbers ["_law_script", "_law_many"]) (G : Glb mg) (c__law_row : Cal P w K mg base 1 "_law_row" spRow []) : Cal P w K mg base 2 "_law_numbers" (spNumbers K) [] := by
  refine d.cal scLnumbers (fun vs H Q E h => ?_) (fun f cdv A outer s H vs Q E hr h => ?_)
  · obtain ⟨a, cells, rfl, _⟩ := h
    rfl
  · obtain ⟨a, cells, rfl, ha, k⟩ := h
    refine ⟨_, (pss_cons (ps_set (i := 2) scLnumbers.nd rfl (by first | exact .inl rfl | exact .inr rfl) (pe_slice sl_list (pv 0) po_none (po_some pe_int)))
      (pss_cons (ps_set (i := 3) scLnumbers.nd rfl (by first | exact .inl rfl | exact .inr rfl) (pe_op op_add pe_int (pe_op op_fdivN (pv 1) (pe_callB (call_max2 rfl) (by rfl) G.max (by decide +kernel) (pa_cons pe_int (pa_cons (pe_callB (len_seqK K) (by rfl) G.len (by decide +kernel) (pa_cons (pv 2) pa_nil)) pa_nil))))))
      (pss_cons (ps_set (i := 4) scLnumbers.nd rfl (by first | exact .inl rfl | exact .inr rfl) (pe_lst pa_nil))
      (pss_cons (ps_for PassesOwn.never rfl (pi_list (pv 2)) (pg_name (i := 5) scLnumbers.nd rfl (by first | exact .inl rfl | exact .inr rfl))
      (pss_one (ps_for PassesOwn.never rfl (pi_list (pe_c c__law_row hr (by decide) rfl (pa_cons (pv 5) (pa_cons (pv 3) pa_nil)))) (pg_name (i := 6) scLnumbers.nd rfl (by first | exact .inl rfl | exact .inr rfl))
      (pss_one (ps_expr (pe_bm PySem.F.plainAttrs_list PySem.F.slot_list_append PySem.F.type_list_append mt_append (pv 4) (pa_cons (pv 6) pa_nil)))))))
      (pss_cons (ps_while PassesOwn.never (pt_cmpR op_lt (pe_callB (len_seqK K) (by rfl) G.len (by decide +kernel) (pa_cons (pv 4) pa_nil)) (pv 1) (nomark _))
      (pss_one (ps_expr (pe_bm PySem.F.plainAttrs_list PySem.F.slot_list_append PySem.F.type_list_append mt_append (pv 4) (pa_cons pe_int pa_nil)))))
      (pss_one (ps_ret (pe_slice sl_list (pv 4) po_none (po_some (pv 1)))))))))), ?_⟩
    refine ⟨_, rfl, _, rfl, a, _, rfl, ha, fun p np => ?_⟩
    rw [cut_map]
    generalize hcs : ((cells.drop (HT.sIx cells.length 0 none)).take (HT.sIx cells.length cells.length (some 63) - HT.sIx cells.length 0 none)) = cs at *
    have zc : cs.length ≤ 63 := by
      rw [← hcs, List.length_take]
      have : HT.sIx cells.length cells.length (some ((63 : Nat) : Int)) = min 63 cells.length := sIx_some
      have h2 : HT.sIx cells.length cells.length (some (63 : Int)) = min 63 cells.length := this
      rw [h2]
      omega
    refine ⟨_, rfl, _, rfl, p, _, rfl, .inl (SqL.of upd_same), _, _, rfl, _, _, rfl, rfl, ?_, _, _, rfl, rfl, Nat.zero_le _, fun F nF => ?_⟩
    · rw [List.length_map]
      refine ⟨?_, ?_⟩
      · split <;> omega
      · split <;> omega
    have np0 : H p = none := np
    have e1 : Ex H (upd H p (.lst (cs.map V.int))) := Evl.Ex.new np
    have hp1 : (upd H p (.lst (cs.map V.int))) p = some (.lst (cs.map V.int)) := upd_same
    generalize hH1 : upd H p (.lst (cs.map V.int)) = H1 at *
    have each : ∃ n : Nat, 1 + Int.fdiv 120 (if ((cs.map V.int).length : Int) > 1 then ((cs.map V.int).length : Int) else 1) = (n : Nat) ∧ n ≤ 121 := by
      rw [List.length_map]
      have h0 : (0 : Int) ≤ (if (cs.length : Int) > 1 then (cs.length : Int) else 1) := by split <;> omega
      have h1 : (1 : Int) ≤ (if (cs.length : Int) > 1 then (cs.length : Int) else 1) := by split <;> omega
      rw [Int.fdiv_eq_ediv_of_nonneg _ h0]
      have a1 := Int.ediv_nonneg (a := 120) (by decide) h0
      have a2 := Int.ediv_le_self (a := 120) (if (cs.length : Int) > 1 then (cs.length : Int) else 1) (by decide)
      exact ⟨(1 + 120 / (if (cs.length : Int) > 1 then (cs.length : Int) else 1)).toNat, by omega, by omega⟩
    obtain ⟨n, en, zn⟩ := each
    refine ⟨_, rfl, p, rfl, ⟨_, SqL.of (Evl.Ex.new nF _ _ hp1)⟩, ?_⟩
    refine for_J (J := Itl K p) (B := H1) (gv_list (SqL.of hp1) (int_ls _ cs)) (fun i σ H' => (∃ o5 o6, σ = [some (.ref a), some (.int 120), some (.ref p), some (.int n), some (.ref F), o5, o6]) ∧ Ex H1 H' ∧ i ≤ 63 ∧ ∃ ns : List Int, H' F = some (.lst (ns.map V.int)) ∧ ns.length ≤ 200 * i ∧ ∀ x ∈ ns, 0 ≤ x ∧ x < 1009)
      ⟨⟨_, _, by rw [← en]; rfl⟩, Evl.Ex.new nF, Nat.zero_le _, [], upd_same, Nat.le_refl _, by simp⟩ (fun i σ H' h => h.2.1) (fun i x y σ H' hc hx hI => ?_) (fun σ H' hI => ?_)
    · obtain ⟨⟨o5, o6, rfl⟩, e, hi, ns, hF, hl, hrng⟩ := hI
      subst hx
      have hi2 : i < 63 := Nat.lt_of_lt_of_le (List.getElem?_eq_some_iff.mp hc).1 zc
      refine ⟨_, rfl, _, rfl, y, n, rfl, by omega, fun R rs H2 nR eR hR lR rR => ?_⟩
      have RF : R ≠ F := fun q => by rw [q, hF] at nR; cases nR
      have eF2 := eR _ _ hF
      refine ⟨R, rfl, ⟨_, SqL.of hR⟩, ?_⟩
      refine for_J (J := Itl K R) (B := wo H2 F) (gv_list (SqL.of (by rw [wo_ne RF]; exact hR)) (int_ls _ rs)) (fun j σ H' => (∃ o5 o6, σ = [some (.ref a), some (.int 120), some (.ref p), some (.int n), some (.ref F), o5, o6]) ∧ Ex (wo H2 F) H' ∧ j ≤ n ∧ ∃ ns : List Int, H' F = some (.lst (ns.map V.int)) ∧ ns.length ≤ 200 * i + j ∧ ∀ x ∈ ns, 0 ≤ x ∧ x < 1009)
        ⟨⟨_, _, rfl⟩, wo_ex, Nat.zero_le _, ns, eF2, hl, hrng⟩ (fun i σ H' h => h.2.1) (fun j x z σ H' hc2 hx2 hI => ?_) (fun σ H' hI => ?_)
      · obtain ⟨⟨o5, o6, rfl⟩, e3, hj, ns3, hF3, hl3, hrng3⟩ := hI
        subst hx2
        have hj2 : j < n := by
          have := (List.getElem?_eq_some_iff.mp hc2).1
          omega
        refine ⟨_, rfl, .inl ⟨rfl, _, SqL.of hF3⟩, _, rfl, F, _, _, rfl, rfl, hF3, Evl.sz_lt (by rw [List.length_map]; omega), ⟨_, _, rfl⟩, Evl.Ex.mut e3 wo_none, hj2, ns3 ++ [z], by rw [upd_same, List.map_append]; rfl, by rw [List.length_append, List.length_singleton]; omega, fun x hx => ?_⟩
        rcases List.mem_append.mp hx with hx | hx
        · exact hrng3 x hx
        · rw [List.mem_singleton] at hx
          subst hx
          exact rR _ (List.mem_of_getElem? hc2)
      · obtain ⟨⟨o5, o6, rfl⟩, e3, hj, ns3, hF3, hl3, hrng3⟩ := hI
        refine ⟨⟨_, _, rfl⟩, fun b o hb => ?_, hi2, ns3, hF3, by omega, hrng3⟩
        have bF : b ≠ F := ne_of_none hb nF
        exact e3 _ _ (by rw [wo_ne bF]; exact eR _ _ (e _ _ hb))
    · obtain ⟨⟨o5, o6, rfl⟩, e, hi, ns, hF, hl, hrng⟩ := hI
      refine ⟨fun m σ H' => ∃ ns : List Int, σ = [some (.ref a), some (.int 120), some (.ref p), some (.int n), some (.ref F), o5, o6] ∧ Ex H1 H' ∧ H' F = some (.lst (ns.map V.int)) ∧ ns.length ≤ 20000 ∧ (∀ x ∈ ns, 0 ≤ x ∧ x < 1009) ∧ m = 120 - ns.length,
        ⟨_, ns, rfl, e, hF, by omega, hrng, rfl⟩, fun m σ H' hI => ?_⟩
      obtain ⟨ns4, rfl, e4, hF4, hl4, hrng4, hm⟩ := hI
      refine ⟨_, rfl, F, _, rfl, .inl (SqL.of hF4), _, rfl, _, _, rfl, rfl, _, rfl, ?_⟩
      rw [List.length_map]
      by_cases lt : ns4.length < 120
      · refine itP (Int.ofNat_lt.mpr lt) ?_
        refine ⟨fun σ H' => ∃ m', m' < m ∧ ∃ ns : List Int, σ = [some (.ref a), some (.int 120), some (.ref p), some (.int n), some (.ref F), o5, o6] ∧ Ex H1 H' ∧ H' F = some (.lst (ns.map V.int)) ∧ ns.length ≤ 20000 ∧ (∀ x ∈ ns, 0 ≤ x ∧ x < 1009) ∧ m' = 120 - ns.length, fun _ _ h => h, ?_⟩
        refine ⟨_, rfl, .inl ⟨rfl, _, SqL.of hF4⟩, F, _, _, rfl, rfl, hF4, Evl.sz_lt (by rw [List.length_map]; omega), _, ?_, ns4 ++ [0], rfl, Evl.Ex.mut e4 nF, by rw [upd_same, List.map_append]; rfl, by rw [List.length_append, List.length_singleton]; omega, fun x hx => ?_, rfl⟩
        · rw [List.length_append, List.length_singleton]
          omega
        · rcases List.mem_append.mp hx with hx | hx
          · exact hrng4 x hx
          · rw [List.mem_singleton] at hx
            subst hx
            exact ⟨by decide, by decide⟩
      · refine itN (fun q => lt (Int.ofNat_lt.mp q)) ?_
        refine ⟨_, rfl, _, rfl, _, rfl, F, _, rfl, SqL.of hF4, fun z nz => ?_⟩
        rw [cut_map]
        have s1 : HT.sIx ns4.length ns4.length (some (120 : Int)) = min 120 ns4.length := sIx_some (k := 120)
        rw [s1]
        refine k z _ _ (Ex.free (e1.trans e4) nz) ((e1.trans e4).trans (Evl.Ex.new nz)) ⟨upd_same, ?_, fun x hx => hrng4 x (cut_mem hx)⟩
        rw [List.length_take, List.length_drop]
        show min (min 120 ns4.length - 0) (ns4.length - 0) = 120
        omega
end
end Ms

set_option maxHeartbeats 4000000
namespace Ms
open PySem PySem.Spec PyProof.Rows L2
open Evl (Ex)
open C8 (Cal Mak Met pe_c pe_mk pe_mt pe_mt0 pe_gc)
theorem flat_one (f : Nat → Nat) : ∀ l : List Nat, ((l.map fun i => (⟨#[f i]⟩ : Str)).map (·.cps.toList)).flatten = l.map f
  | [] => rfl
  | x :: r => by
    rw [List.map_cons, List.map_cons, List.flatten_cons, flat_one f r]
    rfl
theorem sum_one (f : Nat → Nat) : ∀ l : List Nat, ((l.map fun i => (⟨#[f i]⟩ : Str)).map (·.length)).sum = l.length
  | [] => rfl
  | x :: r => by
    rw [List.map_cons, List.map_cons, List.sum_cons, sum_one f r]
    show 1 + r.length = r.length + 1
    omega
theorem name_ok {ah : Str} (h1 : ah.cps.toList.length ≤ 3) (h2 : ∀ c ∈ ah.cps.toList, c ∈ lets) {j : Nat} (hj : j < 36) : NameOk (ah ++ letr j) := by
  have e : (ah ++ letr j).cps.toList = ah.cps.toList ++ [lets.getD j 0] := app_list _ _
  refine ⟨?_, ?_, fun c hc => ?_⟩
  · rw [len_list, e, List.length_append, List.length_singleton]
    omega
  · rw [len_list, e, List.length_append, List.length_singleton]
    omega
  · rw [e] at hc
    rcases List.mem_append.mp hc with hc | hc
    · exact h2 c hc
    · rw [List.mem_singleton] at hc
      subst hc
      exact letr_in hj
theorem name_inj {ah : Str} {i j : Nat} (hi : i < 36) (hj : j < 36) (h : ah ++ letr i = ah ++ letr j) : i = j := by
  have h2 := congrArg (fun z : Str => z.cps.toList) h
  simp only [app_list] at h2
  have h3 := List.append_cancel_left h2
  exact letr_inj hi hj (List.cons.inj h3).1
section
variable {P : Program} {w : World} {K : PySem.W.Frag} {mg : Str → Option Value} {base : Heap} {C M R : Addr}
abbrev sLnames : Stmt := top 53
abbrev nLnames : List Str := ["_law_number", "_law_many", "_law_letters", "_law_ahead", "_law_k"]
theorem scLnames : FnScope nLnames ["_law_number", "_law_many"] (defScope sLnames) := ⟨rfl, rfl, rfl, by decide +kernel, rfl, by decide +kernel, by decide +kernel⟩
def spNames : Sp := fun vs H Q _ => ∃ (n : Int) (many : Nat), vs = [.int n, .int (many : Nat)] ∧ 0 ≤ n ∧ n < 1009 ∧ many ≤ 30 ∧ ∀ a (xs : List Str) H', H a = none → Ex H H' → H' a = some (.lst (xs.map V.str)) → xs.length = many → xs.Nodup → (∀ x ∈ xs, NameOk x) → Q (.ref a) H'
theorem ok_names (d : Dn K mg "_law_names" sLnames ["_law_number", "_law_many"]) (G : Glb mg) : Cal P w K mg base 1 "_law_names" spNames [] := by
  refine d.cal scLnames (fun vs H Q E h => ?_) (fun f cdv A outer s H vs Q E hr h => ?_)
  · obtain ⟨n, many, rfl, _⟩ := h
    rfl
  · obtain ⟨n, many, rfl, n0, n1, hz, k⟩ := h
    refine ⟨_, (pss_cons (ps_set (i := 2) scLnames.nd rfl (by first | exact .inl rfl | exact .inr rfl) pe_str)
      (pss_cons (ps_set (i := 3) scLnames.nd rfl (by first | exact .inl rfl | exact .inr rfl) (pe_join pe_str (pe_lc (own := [("_law_k", 4)]) rfl scLnames.nd (pi_range1 rfl G.range (pa_cons (pe_op op_mod (pe_callTy call_int1 (by rfl) G.int (by decide +kernel) (pa_cons (pe_op op_fdiv (pv 0) pe_int) pa_nil)) pe_int) pa_nil)) (blkOk_by (N := nLnames) (sc := defScope sLnames) (by decide +kernel)) (fun _ _ _ _ _ => (pg_name (i := 4) scLnames.nd rfl (by first | exact .inl rfl | exact .inr rfl))) (fun _ _ _ _ _ => pts_nil) (fun _ _ _ _ _ => (pe_item_str (pv 2) (pe_op op_mod (pe_callTy call_int1 (by rfl) G.int (by decide +kernel) (pa_cons (pe_op op_add (pv 0) (pe_op op_mul (pe_op op_mul pe_int (pv 4)) (pv 4))) pa_nil)) pe_int) (fun _ _ => rfl))))))
      (pss_one (ps_ret (pe_lc (own := [("_law_k", 4)]) rfl scLnames.nd (pi_range1 rfl G.range (pa_cons (pv 1) pa_nil)) (blkOk_by (N := nLnames) (sc := defScope sLnames) (by decide +kernel)) (fun _ _ _ _ _ => (pg_name (i := 4) scLnames.nd rfl (by first | exact .inl rfl | exact .inr rfl))) (fun _ _ _ _ _ => pts_nil) (fun _ _ _ _ _ => (pe_op op_add_str (pv 3) (pe_item_str (pv 2) (pe_op op_mod (pe_callTy call_int1 (by rfl) G.int (by decide +kernel) (pa_cons (pe_op op_add (pv 0) (pe_op op_mul pe_int (pv 4))) pa_nil)) pe_int) (fun _ _ => rfl))))))))), ?_⟩
    refine ⟨⟨_, rfl⟩, ?_⟩
    have d0 : 0 ≤ n / 36 % 4 := Int.emod_nonneg _ (by decide)
    have d1 : n / 36 % 4 < 4 := Int.emod_lt_of_pos _ (by decide)
    have pw : ∀ e : Int, 0 ≤ e % 36 ∧ e % 36 < 36 ∧ (e % 36).toNat < 36 := fun e => by
      have a := Int.emod_nonneg e (show (36 : Int) ≠ 0 by decide)
      have b := Int.emod_lt_of_pos e (show (0 : Int) < 36 by decide)
      exact ⟨a, b, by omega⟩
    refine ⟨_, rfl, _, _, rfl, rfl, ⟨by decide, by decide⟩, .inl ⟨_, rfl, _, _, rfl, rfl, (by show (0 : Int) < _; decide), _, rfl, by omega, by omega, ?_⟩⟩
    refine lc_J (J := Itr 0 (n / 36 % 4).toNat) (fun v (i : Nat) _ => v = V.int i) (fun _ v x _ => v = V.str x) (fun _ => std_str) (fun i => some (⟨#[lets.getD ((n + 11 * (i : Nat) * (i : Nat)) % 36).toNat 0]⟩ : Str)) gv_range (by rw [List.length_range]; omega) (fun D x c H' T Y _ _ ex hc e hT hY => ?_) (fun D ys H1 nD e1 hD hl => ?_)
    · subst ex
      have hc := List.mem_range.mp hc
      have c4 : c < 4 := by omega
      obtain ⟨p1, p2, p3⟩ := pw (n + 11 * (c : Nat) * (c : Nat))
      have hm2 : CMul (11 * (c : Nat)) (c : Nat) := .inr ⟨by omega, by omega⟩
      exact ⟨rfl, _, rfl, _, rfl, _, rfl, _, _, rfl, rfl, .inl ⟨by decide, by decide⟩, _, rfl, _, _, rfl, rfl, hm2, _, _, rfl, rfl, .inl ⟨_, rfl, _, _, rfl, rfl, (by show (0 : Int) < _; decide), _, _, _, rfl, rfl, p1, by omega, by rw [lett_len]; exact p2, lett_at p3, hY _ rfl _ _ (Evl.Ex.refl _) rfl⟩⟩
    rw [filterMap_some] at hl
    have hy := ls_str hl
    subst hy
    refine ⟨_, D, _, rfl, rfl, .inl (SqL.of hD), ?_, ?_⟩
    · rw [sum_one (fun i => lets.getD ((n + 11 * (i : Nat) * (i : Nat)) % 36).toNat 0), List.length_range, List.length_map, List.length_range]
      have : (("" : Str)).length = 0 := by decide +kernel
      rw [this]
      omega
    generalize hah : Txt.join ("" : Str) ((List.range (n / 36 % 4).toNat).map fun i => (⟨#[lets.getD ((n + 11 * (i : Nat) * (i : Nat)) % 36).toNat 0]⟩ : Str)) = ah at *
    have ea : ah.cps.toList = (List.range (n / 36 % 4).toNat).map fun i => lets.getD ((n + 11 * (i : Nat) * (i : Nat)) % 36).toNat 0 := by
      rw [← hah, join_list]
      exact flat_one (fun i => lets.getD ((n + 11 * (i : Nat) * (i : Nat)) % 36).toNat 0) _
    have za : ah.cps.toList.length ≤ 3 := by
      rw [ea, List.length_map, List.length_range]
      omega
    have la : ∀ c ∈ ah.cps.toList, c ∈ lets := fun c hc => by
      rw [ea] at hc
      obtain ⟨i, _, e⟩ := List.mem_map.mp hc
      rw [← e]
      exact letr_in (pw _).2.2
    refine ⟨_, rfl, _, rfl, by omega, by omega, ?_⟩
    rw [show ((many : Nat) : Int).toNat = many from Int.toNat_natCast many]
    refine lc_J (J := Itr 0 many) (fun v (i : Nat) _ => v = V.int i) (fun _ v x _ => v = V.str x) (fun _ => std_str) (fun i => some (ah ++ letr ((n + 5 * (i : Nat)) % 36).toNat)) gv_range (by rw [List.length_range]; omega) (fun D x c H' T Y _ _ ex hc e hT hY => ?_) (fun D2 ys H2 nD2 e2 hD2 hl2 => ?_)
    · subst ex
      obtain ⟨p1, p2, p3⟩ := pw (n + 5 * (c : Nat))
      refine ⟨rfl, _, rfl, _, rfl, _, rfl, _, rfl, _, _, rfl, rfl, .inl ⟨by decide, by decide⟩, _, _, rfl, rfl, .inl ⟨_, rfl, _, _, rfl, rfl, (by show (0 : Int) < _; decide), _, _, _, rfl, rfl, p1, by omega, by rw [lett_len]; exact p2, lett_at p3, _, _, rfl, rfl, ?_, hY _ rfl _ _ (Evl.Ex.refl _) rfl⟩⟩
      refine sz1 ?_
      rw [len_list ah]
      show ah.cps.toList.length + 1 ≤ 100000
      omega
    rw [filterMap_some] at hl2
    have hy2 := ls_str hl2
    subst hy2
    refine k D2 _ H2 (Ex.free e1 nD2) (e1.trans e2) hD2 (by rw [List.length_map, List.length_range]) ?_ (fun x hx => ?_)
    · refine List.pairwise_map.mpr ?_
      refine List.Pairwise.imp_of_mem ?_ List.nodup_range
      intro i j hi hj hne e
      have hi := List.mem_range.mp hi
      have hj := List.mem_range.mp hj
      have := name_inj (pw _).2.2 (pw _).2.2 e
      have a := pw (n + 5 * (i : Nat))
      have b := pw (n + 5 * (j : Nat))
      omega
    · obtain ⟨i, _, e⟩ := List.mem_map.mp hx
      rw [← e]
      exact name_ok za la (pw _).2.2
abbrev sLlines : Stmt := top 54
abbrev nLlines : List Str := ["_law_numbers_here", "_law_at", "_law_knots", "_law_many", "_law_names_here", "_law_lines_here", "_law_k", "_law_ends"]
theorem scLlines : FnScope nLlines ["_law_numbers_here", "_law_at", "_law_knots", "_law_many"] (defScope sLlines) := ⟨rfl, rfl, rfl, by decide +kernel, rfl, by decide +kernel, by decide +kernel⟩
def spLines : Sp := fun vs H Q _ => ∃ (a b : Addr) (at_ many : Nat) (ns : List Int) (kn : List Str), vs = [.ref a, .int (at_ : Nat), .ref b, .int (many : Nat)] ∧ NsR H a ns ∧ H b = some (.lst (kn.map V.str)) ∧ kn ≠ [] ∧ kn.length ≤ 100 ∧ at_ + many < 120 ∧ many ≤ 30 ∧
  ∀ c ws (ls : List Ln) H', H c = none → Ex H H' → H' c = some (.lst ws) → LsR (TpR encL) H' ws ls → ls.length = many → (ls.map (·.n)).Nodup → (∀ x ∈ ls, NameOk x.n ∧ x.t ∈ kn ∧ x.h ∈ kn) → Q (.ref c) H'
theorem ok_lines (d : Dn K mg "_law_lines" sLlines ["_law_numbers_here", "_law_at", "_law_knots", "_law_many"]) (G : Glb mg) (c__law_names : Cal P w K mg base 1 "_law_names" spNames []) : Cal P w K mg base 2 "_law_lines" spLines [] := by
  refine d.cal scLlines (fun vs H Q E h => ?_) (fun f cdv A outer s H vs Q E hr h => ?_)
  · obtain ⟨a, b, at_, many, ns, kn, rfl, _⟩ := h
    rfl
  · obtain ⟨a, b, at_, many, ns, kn, rfl, ha, hb, kne, hzk, hat, hz, k⟩ := h
    refine ⟨_, (pss_cons (ps_set (i := 4) scLlines.nd rfl (by first | exact .inl rfl | exact .inr rfl) (pe_c c__law_names hr (by decide) rfl (pa_cons (pe_callTy call_int1 (by rfl) G.int (by decide +kernel) (pa_cons (pe_ix (ix_listK K) (pv 0) (pv 1) (fun _ _ => rfl)) pa_nil)) (pa_cons (pv 3) pa_nil))))
      (pss_cons (ps_set (i := 5) scLlines.nd rfl (by first | exact .inl rfl | exact .inr rfl) (pe_lst pa_nil))
      (pss_cons (ps_for PassesOwn.never rfl (pi_range1 rfl G.range (pa_cons (pv 3) pa_nil)) (pg_name (i := 6) scLlines.nd rfl (by first | exact .inl rfl | exact .inr rfl))
      (pss_cons (ps_set (i := 7) scLlines.nd rfl (by first | exact .inl rfl | exact .inr rfl) (pe_callTy call_int1 (by rfl) G.int (by decide +kernel) (pa_cons (pe_ix (ix_listK K) (pv 0) (pe_op op_add (pe_op op_add (pv 1) pe_int) (pv 6)) (fun _ _ => rfl)) pa_nil)))
      (pss_one (ps_expr (pe_bm PySem.F.plainAttrs_list PySem.F.slot_list_append PySem.F.type_list_append mt_append (pv 5) (pa_cons (pe_tup (pa_cons (pe_ix (ix_listK K) (pv 4) (pv 6) (fun _ _ => rfl)) (pa_cons (pe_ix (ix_listK K) (pv 2) (pe_op op_modN (pe_callTy call_int1 (by rfl) G.int (by decide +kernel) (pa_cons (pv 7) pa_nil)) (pe_callB (len_seqK K) (by rfl) G.len (by decide +kernel) (pa_cons (pv 2) pa_nil))) (fun _ _ => rfl)) (pa_cons (pe_ix (ix_listK K) (pv 2) (pe_op op_modN (pe_callTy call_int1 (by rfl) G.int (by decide +kernel) (pa_cons (pe_op op_add (pe_op op_fdiv (pv 7) pe_int) pe_int) pa_nil)) (pe_callB (len_seqK K) (by rfl) G.len (by decide +kernel) (pa_cons (pv 2) pa_nil))) (fun _ _ => rfl)) pa_nil)))) pa_nil))))))
      (pss_one (ps_ret (pv 5)))))), ?_⟩
    obtain ⟨n, hn, n0, n1⟩ := ha.at_ (i := (at_ : Nat)) rfl (by omega)
    refine ⟨_, rfl, _, rfl, a, _, _, _, rfl, rfl, SqL.of ha.h, hn, .inl ⟨_, rfl, _, rfl, n, many, rfl, n0, n1, hz, fun N xs H1 nN e1 hN lx ndx okx => ?_⟩⟩
    refine ⟨Nat.zero_le _, fun F nF => ?_⟩
    refine ⟨_, rfl, _, rfl, by omega, by omega, ?_⟩
    rw [show ((many : Nat) : Int).toNat = many from Int.toNat_natCast many]
    refine for_J (J := Itr 0 many) (B := H1) gv_range (fun i σ H' => (∃ o6 o7, σ = [some (.ref a), some (.int (at_ : Nat)), some (.ref b), some (.int (many : Nat)), some (.ref N), some (.ref F), o6, o7]) ∧ Ex H1 H' ∧ ∃ ws ls, H' F = some (.lst ws) ∧ LsR (TpR encL) H' ws ls ∧ ls.map (·.n) = xs.take i ∧ ∀ x ∈ ls, x.t ∈ kn ∧ x.h ∈ kn)
      ⟨⟨_, _, rfl⟩, Evl.Ex.new nF, [], [], upd_same, LsR.nil, rfl, by simp⟩ (fun i σ H' h => h.2.1) (fun i x y σ H' hc hx hI => ?_) (fun σ H' hI => ?_)
    · obtain ⟨⟨o6, o7, rfl⟩, e, ws, ls, hF, hl, hnm, hends⟩ := hI
      subst hx
      have yi : y = i := by
        have hi := (List.getElem?_eq_some_iff.mp hc).1
        rw [List.length_range] at hi
        rw [List.getElem?_range hi] at hc
        exact (Option.some.inj hc).symm
      have hi : i < many := by
        have hi := (List.getElem?_eq_some_iff.mp hc).1
        rw [List.length_range] at hi
        exact hi
      subst yi
      have e0 := e1.trans e
      obtain ⟨q, hq, q0, q1⟩ := (ha.mono e0).at_ (i := (at_ : Nat) + 1 + (y : Nat)) (j := at_ + 1 + y) (by omega) (by omega)
      have hb' := e0 _ _ hb
      refine ⟨_, rfl, _, rfl, _, _, rfl, rfl, _, rfl, _, _, rfl, rfl, a, _, _, _, rfl, rfl, SqL.of (ha.mono e0).h, hq, .inl ⟨_, rfl, ?_⟩⟩
      have hxy : y < xs.length := by rw [lx]; exact hi
      obtain ⟨t1, ht1, at1⟩ := at_mod V.str kne q
      obtain ⟨t2, ht2, at2⟩ := at_mod V.str kne (q / 16 + 1)
      have kl : ((kn.map V.str).length : Int) ≠ 0 ∧ (kn.map V.str).length < 1000 := by
        rw [List.length_map]
        have := List.length_pos_iff.mpr kne
        exact ⟨by omega, by omega⟩
      refine ⟨_, rfl, .inl ⟨rfl, _, SqL.of hF⟩, _, rfl, _, rfl, N, _, _, _, rfl, rfl, SqL.of (e _ _ hN), atI_nat (j := y) (v := V.str xs[y]) (by rw [List.getElem?_map, List.getElem?_eq_getElem hxy]; rfl), ?_⟩
      refine ⟨_, rfl, _, rfl, .inl ⟨_, rfl, _, rfl, b, _, rfl, .inl (SqL.of hb'), _, _, rfl, rfl, kl.1, b, _, _, _, rfl, rfl, SqL.of hb', at1, ?_⟩⟩
      refine ⟨_, rfl, _, rfl, _, _, rfl, rfl, ⟨by decide, by decide⟩, _, _, rfl, rfl, .inl ⟨_, rfl, _, rfl, b, _, rfl, .inl (SqL.of hb'), _, _, rfl, rfl, kl.1, b, _, _, _, rfl, rfl, SqL.of hb', at2, sz1 (by show 3 ≤ 100000; decide), fun p np => ?_⟩⟩
      obtain ⟨e2, hA2⟩ := snoc_tp (enc := encL) e nF hF hl np (⟨xs[y], t1, t2⟩ : Ln)
      have pF : p ≠ F := fun z => by rw [z, hF] at np; cases np
      have lw : ws.length ≤ 200 := by
        have l0 := congrArg List.length hnm
        rw [List.length_map, List.length_take] at l0
        rw [hl.1]
        omega
      refine ⟨F, ws, _, rfl, rfl, by rw [upd_ne pF.symm]; exact hF, Evl.sz_lt (by omega), ⟨_, _, rfl⟩, e2, _, _, upd_same, hA2, ?_, fun x hx => ?_⟩
      · rw [List.map_append, hnm, take_snoc (List.getElem?_eq_getElem hxy)]
        rfl
      · rcases List.mem_append.mp hx with hx | hx
        · exact hends x hx
        · rw [List.mem_singleton] at hx
          subst hx
          exact ⟨ht1, ht2⟩
    · obtain ⟨⟨o6, o7, rfl⟩, e, ws, ls, hF, hl, hnm, hends⟩ := hI
      rw [List.length_range, ← lx, List.take_length] at hnm
      refine ⟨_, rfl, k F ws ls H' (Ex.free e1 nF) (e1.trans e) hF hl ?_ (hnm ▸ ndx) fun x hx => ⟨okx _ (hnm ▸ List.mem_map_of_mem hx), hends x hx⟩⟩
      have l0 := congrArg List.length hnm
      rw [List.length_map] at l0
      omega
end
end Ms

set_option maxHeartbeats 4000000
namespace Ms
open PySem PySem.Spec PyProof.Rows L2
open Evl (Ex)
open C8 (Cal Mak Met pe_c pe_mk pe_mt pe_mt0 pe_gc)
theorem at_modV {ws : List V} (ne : ws ≠ []) (e : Int) : ∃ (j : Nat) (v : V), ws[j]? = some v ∧ atI ws (e.fmod (ws.length : Nat)) = some v := by
  have hp : 0 < ws.length := List.length_pos_iff.mpr ne
  have hp2 : (0 : Int) < (ws.length : Nat) := Int.ofNat_lt.mpr hp
  rw [Int.fmod_eq_emod_of_nonneg _ (Int.le_of_lt hp2)]
  have h0 := Int.emod_nonneg e (Int.ne_of_gt hp2)
  have h1 := Int.emod_lt_of_pos e hp2
  have h2 : (e % (ws.length : Nat)).toNat < ws.length := by omega
  exact ⟨(e % (ws.length : Nat)).toNat, ws[(e % (ws.length : Nat)).toNat], List.getElem?_eq_getElem h2, atI_int (j := (e % (ws.length : Nat)).toNat) (by omega) (List.getElem?_eq_getElem h2)⟩
theorem first_at (x : Str) : ∀ l : List Str, x ∈ l → ∃ j : Nat, l[j]? = some x ∧ ∀ (m : Nat) (y : Str), m < j → l[m]? = some y → (y == x) = false
  | [], h => by cases h
  | a :: r, h => by
    by_cases e : a = x
    · exact ⟨0, by rw [e]; rfl, fun m y hm => absurd hm (Nat.not_lt_zero m)⟩
    · have hr : x ∈ r := by
        rcases List.mem_cons.mp h with q | q
        · exact absurd q.symm e
        · exact q
      obtain ⟨j, h1, h2⟩ := first_at x r hr
      refine ⟨j + 1, h1, fun m y hm hy => ?_⟩
      cases m with
      | zero =>
        have : a = y := Option.some.inj hy
        subst this
        exact beq_eq_false_iff_ne.mpr e
      | succ m => exact h2 m y (by omega) hy
theorem idx_vals {x : Str} {l : List Str} (h : x ∈ l) : ∃ j : Nat, (l.map V.str)[j]? = some (.str x) ∧ eqV (.str x) (.str x) = true ∧ ∀ (m : Nat) (z : V), m < j → (l.map V.str)[m]? = some z → eqV z (.str x) = false := by
  obtain ⟨j, h1, h2⟩ := first_at x l h
  refine ⟨j, by rw [List.getElem?_map, h1]; rfl, ?_, fun m z hm hz => ?_⟩
  · show (x == x) = true
    exact beq_self_eq_true x
  · rw [List.getElem?_map] at hz
    cases e : l[m]? with
    | none => rw [e] at hz; cases hz
    | some y =>
      rw [e] at hz
      cases hz
      exact h2 m y hm e
section
variable {P : Program} {w : World} {K : PySem.W.Frag} {mg : Str → Option Value} {base : Heap} {C M R : Addr}
abbrev sLrounds : Stmt := top 55
abbrev nLrounds : List Str := ["_law_numbers_here", "_law_at", "_law_lines_here", "_law_flows", "_law_line", "_law_turn", "_law_place", "_law_seen", "_law_way", "_law_step", "_law_ways", "_law_name"]
theorem scLrounds : FnScope nLrounds ["_law_numbers_here", "_law_at", "_law_lines_here"] (defScope sLrounds) := ⟨rfl, rfl, rfl, by decide +kernel, rfl, by decide +kernel, by decide +kernel⟩
def spRounds : Sp := fun vs H Q _ => ∃ (a b : Addr) (at_ : Nat) (ns : List Int) (ws : List V) (ls : List Ln), vs = [.ref a, .int (at_ : Nat), .ref b] ∧ NsR H a ns ∧ H b = some (.lst ws) ∧ LsR (TpR encL) H ws ls ∧ (ls.map (·.n)).Nodup ∧ ls.length ≤ 9 ∧ at_ + 40 < 120 ∧
  ∀ d fl H', H d = none → Ex H H' → FlH H' d (ls.map (·.n)) fl → (∀ n, 0 ≤ fl n ∧ fl n ≤ 10000) → Q (.ref d) H'
theorem ok_rounds (d : Dn K mg "_law_rounds" sLrounds ["_law_numbers_here", "_law_at", "_law_lines_here"]) (G : Glb mg) : Cal P w K mg base 1 "_law_rounds" spRounds [] := by
  refine d.cal scLrounds (fun vs H Q E h => ?_) (fun f cdv A outer s H vs Q E hr h => ?_)
  · obtain ⟨a, b, at_, ns, ws, ls, rfl, _⟩ := h
    rfl
  · obtain ⟨a, b, at_, ns, ws, ls, rfl, ha, hb, hw, nd, hz, hat, k⟩ := h
    refine ⟨_, (pss_cons (ps_set (i := 3) scLrounds.nd rfl (by first | exact .inl rfl | exact .inr rfl) pe_dnewK)
      (pss_cons (ps_for PassesOwn.never rfl (pi_list (pv 2)) (pg_name (i := 4) scLrounds.nd rfl (by first | exact .inl rfl | exact .inr rfl))
      (pss_one (ps_dput (hu_of hr) (pv 3) (pe_ix (ix_tupK K) (pv 4) pe_int (fun _ _ => rfl)) pe_int rfl)))
      (pss_cons (ps_for PassesOwn.never rfl (pi_range1 rfl G.range (pa_cons (pe_callB (call_min2 rfl) (by rfl) G.min (by decide +kernel) (pa_cons pe_int (pa_cons (pe_callB (len_seqK K) (by rfl) G.len (by decide +kernel) (pa_cons (pv 2) pa_nil)) pa_nil))) pa_nil)) (pg_name (i := 5) scLrounds.nd rfl (by first | exact .inl rfl | exact .inr rfl))
      (pss_cons (ps_set (i := 6) scLrounds.nd rfl (by first | exact .inl rfl | exact .inr rfl) (pe_ix (ix_tupK K) (pe_ix (ix_listK K) (pv 2) (pe_op op_modN (pe_callTy call_int1 (by rfl) G.int (by decide +kernel) (pa_cons (pe_ix (ix_listK K) (pv 0) (pe_op op_add (pv 1) (pe_op op_mul pe_int (pv 5))) (fun _ _ => rfl)) pa_nil)) (pe_callB (len_seqK K) (by rfl) G.len (by decide +kernel) (pa_cons (pv 2) pa_nil))) (fun _ _ => rfl)) pe_int (fun _ _ => rfl)))
      (pss_cons (ps_par (i := 7) (j := 8) (by rfl) scLrounds.nd rfl rfl (by decide) rfl rfl (pa_cons (pe_lst (pa_cons (pv 6) pa_nil)) (pa_cons (pe_lst pa_nil) pa_nil)) (by rfl))
      (pss_one (ps_for PassesOwn.never rfl (pi_range1 rfl G.range (pa_cons pe_int pa_nil)) (pg_name (i := 9) scLrounds.nd rfl (by first | exact .inl rfl | exact .inr rfl))
      (pss_cons (ps_setLc (i := 10) (own := [("_law_line", 4)]) rfl scLrounds.nd rfl rfl (sw_true rfl rfl rfl (by decide +kernel)) (pi_list (pv 2)) (blkOk_by (N := nLrounds) (sc := defScope sLrounds) (by decide +kernel)) (fun _ _ _ _ _ => (pg_name (i := 4) scLrounds.nd rfl (by first | exact .inl rfl | exact .inr rfl))) (fun _ _ _ _ _ => (pts_one (pt_cmpR op_eq (pe_ix (ix_tupK K) (pv 4) pe_int (fun _ _ => rfl)) (pv 6) (nomark _)))) (fun _ _ _ _ _ => (pv 4)))
      (pss_cons (ps_if (pt_cmpR op_eq (pe_callB (len_seqK K) (by rfl) G.len (by decide +kernel) (pa_cons (pv 10) pa_nil)) pe_int (nomark _)) (pss_one ps_break) pss_nil)
      (pss_cons (ps_set (i := 4) scLrounds.nd rfl (by first | exact .inl rfl | exact .inr rfl) (pe_ix (ix_listK K) (pv 10) (pe_op op_modN (pe_callTy call_int1 (by rfl) G.int (by decide +kernel) (pa_cons (pe_ix (ix_listK K) (pv 0) (pe_op op_add (pe_op op_add (pe_op op_add (pv 1) (pe_op op_mul pe_int (pv 5))) pe_int) (pv 9)) (fun _ _ => rfl)) pa_nil)) (pe_callB (len_seqK K) (by rfl) G.len (by decide +kernel) (pa_cons (pv 10) pa_nil))) (fun _ _ => rfl)))
      (pss_cons (ps_expr (pe_bm PySem.F.plainAttrs_list PySem.F.slot_list_append PySem.F.type_list_append mt_append (pv 8) (pa_cons (pe_ix (ix_tupK K) (pv 4) pe_int (fun _ _ => rfl)) pa_nil)))
      (pss_cons (ps_set (i := 6) scLrounds.nd rfl (by first | exact .inl rfl | exact .inr rfl) (pe_ix (ix_tupK K) (pv 4) pe_int (fun _ _ => rfl)))
      (pss_cons (ps_if (pt_cmpR (in_seqK K) (pv 6) (pv 7) rfl) (pss_cons (ps_for PassesOwn.never rfl (pi_list (pe_slice sl_list (pv 8) (po_some (pe_bm PySem.F.plainAttrs_list PySem.F.slot_list_index PySem.F.type_list_index mt_index (pv 7) (pa_cons (pv 6) pa_nil))) po_none)) (pg_name (i := 11) scLrounds.nd rfl (by first | exact .inl rfl | exact .inr rfl))
      (pss_one (ps_dput (hu_of hr) (pv 3) (pv 11) (pe_op op_add (pe_op op_add (pe_dget (hu_of hr) (pv 3) (pv 11) (fun _ _ => rfl)) pe_int) (pe_op op_mod (pe_op op_fdiv (pe_callTy call_int1 (by rfl) G.int (by decide +kernel) (pa_cons (pe_ix (ix_listK K) (pv 0) (pe_op op_add (pv 1) (pe_op op_mul pe_int (pv 5))) (fun _ _ => rfl)) pa_nil)) pe_int) pe_int)) rfl)))
      (pss_one ps_break)) pss_nil)
      (pss_one (ps_expr (pe_bm PySem.F.plainAttrs_list PySem.F.slot_list_append PySem.F.type_list_append mt_append (pv 7) (pa_cons (pv 6) pa_nil)))))))))))))))
      (pss_one (ps_ret (pv 3)))))), ?_⟩
    refine fun D nD => ?_
    refine ⟨_, rfl, b, rfl, ⟨_, SqL.of (Evl.Ex.new nD _ _ hb)⟩, ?_⟩
    refine for_J (J := Itl K b) (B := H) (gv_list (SqL.of hb) hw) (fun i σ H' => (∃ o4 o5 o6 o7 o8 o9 o10 o11, σ = [some (.ref a), some (.int (at_ : Nat)), some (.ref b), some (.ref D), o4, o5, o6, o7, o8, o9, o10, o11]) ∧ Ex H H' ∧ FlH H' D ((ls.take i).map (·.n)) (fun _ => 0))
      ⟨⟨_, _, _, _, _, _, _, _, rfl⟩, Evl.Ex.new nD, upd_same⟩ (fun i σ H' h => h.2.1) (fun i x c σ H' hc hx hI => ?_) (fun σ H' hI => ?_)
    · obtain ⟨⟨o4, o5, o6, o7, o8, o9, o10, o11, rfl⟩, e, hD⟩ := hI
      obtain ⟨t, rfl, ht⟩ := hx
      have hi : i < ls.length := (List.getElem?_eq_some_iff.mp hc).1
      have no : c.n ∉ (ls.take i).map (·.n) := fun q => by
        have h2 : ((ls.take (i + 1)).map (·.n)).Nodup := List.Sublist.nodup ((List.take_sublist _ _).map _) nd
        rw [take_snoc hc, List.map_append] at h2
        exact (List.nodup_append.mp h2).2.2 _ q c.n (by simp) rfl
      refine ⟨_, rfl, _, rfl, t, _, _, _, rfl, rfl, SqT.of (e _ _ ht), rfl, D, _, rfl, dr_add hD no (by rw [List.length_map, List.length_take]; omega), ⟨_, _, _, _, _, _, _, _, rfl⟩, Evl.Ex.mut e nD, ?_⟩
      unfold FlH
      rw [upd_same, take_snoc hc, List.map_append]
      exact congrArg (fun z => some (HO.dK z)) (dr_congr fun n _ => by split <;> rfl)
    · obtain ⟨⟨o4, o5, o6, o7, o8, o9, o10, o11, rfl⟩, e, hD⟩ := hI
      rw [List.take_length] at hD
      refine ⟨_, rfl, b, _, rfl, .inl (SqL.of (e _ _ hb)), _, _, rfl, _, rfl, ?_, ?_, ?_⟩
      · split <;> omega
      · split <;> omega
      generalize hm : (if ((ws.length : Nat) : Int) < 3 then ((ws.length : Nat) : Int) else 3).toNat = m at *
      have hm3 : m ≤ 3 ∧ m ≤ ws.length := by
        rw [← hm]
        split <;> omega
      refine for_J (J := Itr 0 m) (B := H) gv_range (fun i σ H' => (∃ o4 o5 o6 o7 o8 o9 o10 o11, σ = [some (.ref a), some (.int (at_ : Nat)), some (.ref b), some (.ref D), o4, o5, o6, o7, o8, o9, o10, o11]) ∧ Ex H H' ∧ i ≤ 3 ∧ ∃ fl, FlH H' D (ls.map (·.n)) fl ∧ ∀ n, 0 ≤ fl n ∧ fl n ≤ 1000 * (i : Nat))
        ⟨⟨_, _, _, _, _, _, _, _, rfl⟩, e, Nat.zero_le _, _, hD, fun n => ⟨Int.le_refl _, by show (0 : Int) ≤ 1000 * ((0 : Nat) : Int); omega⟩⟩ (fun i σ H' h => h.2.1) (fun i x y σ H1 hc hx hI => ?_) (fun σ H1 hI => ?_)
      · obtain ⟨⟨o4, o5, o6, o7, o8, o9, o10, o11, rfl⟩, e1, hi3, fl, hF, hfl⟩ := hI
        subst hx
        have hi := (List.getElem?_eq_some_iff.mp hc).1
        rw [List.length_range] at hi
        have yi : y = i := by
          rw [List.getElem?_range hi] at hc
          exact (Option.some.inj hc).symm
        subst yi
        have wne : ws ≠ [] := fun q => by rw [q] at hm3; have := hm3.2; simp at this; omega
        obtain ⟨q, hq, q0, q1⟩ := (ha.mono e1).at_ (i := (at_ : Nat) + 10 * (y : Nat)) (j := at_ + 10 * y) (by omega) (by omega)
        obtain ⟨j1, v1, g1, at1⟩ := at_modV wne q
        obtain ⟨c1, hc1, t1, ev1, ht1⟩ := hw.2 j1 v1 g1
        subst ev1
        have wl : ((ws.length : Nat) : Int) ≠ 0 ∧ ws.length ≤ 9 := by
          have := List.length_pos_iff.mpr wne
          have := hw.1
          exact ⟨by omega, by omega⟩
        have cm10 : CMul 10 (y : Nat) := .inl ⟨by decide, by decide⟩
        -- place
        refine ⟨_, rfl, _, rfl, _, rfl, _, rfl, _, _, rfl, rfl, cm10, _, _, rfl, rfl, a, _, _, _, rfl, rfl, SqL.of (e1 _ _ ha.h), hq, .inl ⟨_, rfl, _, rfl, b, _, rfl, .inl (SqL.of (e1 _ _ hb)), _, _, rfl, rfl, wl.1, b, _, _, _, rfl, rfl, SqL.of (e1 _ _ hb), at1, t1, _, _, _, rfl, rfl, SqT.of (e1 _ _ ht1), rfl, ?_⟩⟩
        -- seen, way
        refine ⟨_, rfl, sz1 (by show 1 ≤ 100000; decide), fun S nS => ⟨Nat.zero_le _, fun W nW => ⟨_, _, rfl, ?_⟩⟩⟩
        have SW : S ≠ W := fun z => by rw [← z, upd_same] at nW; cases nW
        have nS0 : H S = none := Ex.free e1 nS
        have nW0 : H W = none := Ex.free (e1.trans (Evl.Ex.new nS)) nW
        have e2 : Ex H1 (upd (upd H1 S (.lst [.str c1.t])) W (.lst [])) := (Evl.Ex.new nS).trans (Evl.Ex.new nW)
        refine ⟨_, rfl, by decide, by decide, ?_⟩
        refine for_J (J := Itr 0 (9 : Int).toNat) (B := H) gv_range (fun j σ H' => (∃ o4 o9 o10 o11 pl, σ = [some (.ref a), some (.int (at_ : Nat)), some (.ref b), some (.ref D), o4, some (.int (y : Nat)), some (.str pl), some (.ref S), some (.ref W), o9, o10, o11]) ∧ Ex H H' ∧ FlH H' D (ls.map (·.n)) fl ∧ ∃ sn wy : List Str, H' S = some (.lst (sn.map V.str)) ∧ H' W = some (.lst (wy.map V.str)) ∧ (∀ n ∈ wy, n ∈ ls.map (·.n)) ∧ wy.length = j ∧ sn.length = j + 1)
          ⟨⟨_, _, _, _, _, rfl⟩, e1.trans e2, hF.mono e2, [c1.t], [], Evl.Ex.new nW _ _ upd_same, upd_same, by simp, rfl, rfl⟩ (fun i σ H' h => h.2.1) (fun j x z σ H2 hc2 hx2 hI => ?_) (fun σ H2 hI => ?_)
        · obtain ⟨⟨o4, o9, o10, o11, pl, rfl⟩, e3, hF2, sn, wy, hS, hW, hwy, lwy, lsn⟩ := hI
          subst hx2
          have hj := (List.getElem?_eq_some_iff.mp hc2).1
          rw [List.length_range] at hj
          have hj9 : j < 9 := hj
          have zj : z = j := by
            rw [List.getElem?_range hj] at hc2
            exact (Option.some.inj hc2).symm
          subst zj
          -- ways
          refine ⟨_, rfl, b, rfl, ⟨_, SqL.of (e3 _ _ hb)⟩, ?_⟩
          refine lc_J (J := Itl K b) (TpR encL) (fun _ => TpR encL) (fun _ => std_tp) (fun c => if c.t = pl then some c else none) (gv_list (SqL.of (e3 _ _ hb)) (hw.mono stb_tp e3)) (by omega) (fun D x c H' T Y _ _ ex hc e' hT hY => ?_) (fun L us H3 n3 e4 h3 hl3 => ?_)
          · obtain ⟨t, rfl, ht⟩ := ex
            refine ⟨rfl, _, rfl, t, _, _, _, rfl, rfl, SqT.of (e' _ _ ht), rfl, _, rfl, rfl, _, rfl, ?_⟩
            by_cases q : c.t = pl
            · exact itT (decide_eq_true (congrArg V.str q)) ⟨_, rfl, hY c (if_pos q) _ _ (Evl.Ex.refl _) ⟨t, rfl, e' _ _ ht⟩⟩
            · exact itF (decide_eq_false fun y => q (V.str.inj y)) (hT (if_neg q) _ (Evl.Ex.refl _))
          rw [fm_if (fun c : Ln => c.t = pl) (fun c => c), List.map_id'] at hl3
          have e03 := e3.trans e4
          have ul : us.length ≤ 9 := by
            rw [hl3.1]
            exact Nat.le_trans (List.length_filter_le _ _) hz
          have hF3 := hF2.mono e4
          refine ⟨_, rfl, L, _, rfl, .inl (SqL.of h3), rfl, _, rfl, ite2 (fun qz => ?_) (fun qz => ?_)⟩
          · refine ⟨⟨_, _, _, _, _, _, _, _, rfl⟩, e03, by omega, fl, hF3, fun n => ?_⟩
            have := hfl n
            omega
          have une : us ≠ [] := fun q => qz (by rw [q]; rfl)
          have ul0 : ((us.length : Nat) : Int) ≠ 0 := by
            have := List.length_pos_iff.mpr une
            omega
          -- line
          obtain ⟨q2, hq2, _⟩ := (ha.mono e03).at_ (i := (at_ : Nat) + 10 * (y : Nat) + 1 + (z : Nat)) (j := at_ + 10 * y + 1 + z) (by omega) (by omega)
          obtain ⟨j2, v2, g2, at2⟩ := at_modV une q2
          obtain ⟨c2, hc2', t2, ev2, ht2⟩ := hl3.2 j2 v2 g2
          subst ev2
          have c2m : c2 ∈ ls := (List.mem_filter.mp (List.mem_of_getElem? hc2')).1
          refine ⟨_, rfl, _, rfl, _, rfl, _, rfl, _, _, rfl, rfl, cm10, _, _, rfl, rfl, _, _, rfl, rfl, _, rfl, _, _, rfl, rfl, a, _, _, _, rfl, rfl, SqL.of (e03 _ _ ha.h), hq2, .inl ⟨_, rfl, _, rfl, L, _, rfl, .inl (SqL.of h3), _, _, rfl, rfl, ul0, L, _, _, _, rfl, rfl, SqL.of h3, at2, ?_⟩⟩
          -- way.append
          have hW3 := e4 _ _ hW
          have hS3 := e4 _ _ hS
          refine ⟨_, rfl, .inl ⟨rfl, _, SqL.of hW3⟩, _, rfl, t2, _, _, _, rfl, rfl, SqT.of ht2, rfl, W, _, _, rfl, rfl, hW3, Evl.sz_lt (by rw [List.length_map]; omega), ?_⟩
          have lst4 : wy.map V.str ++ [.str c2.n] = (wy ++ [c2.n]).map V.str := by rw [List.map_append]; rfl
          rw [lst4]
          have e04 : Ex H (upd H3 W (.lst ((wy ++ [c2.n]).map V.str))) := Evl.Ex.mut e03 nW0
          have DW : D ≠ W := ne_of hF3 hW3 (by intro z; cases z)
          have hF4 : FlH (upd H3 W (.lst ((wy ++ [c2.n]).map V.str))) D (ls.map (·.n)) fl := by
            unfold FlH
            rw [upd_ne DW]
            exact hF3
          have hS4 : (upd H3 W (.lst ((wy ++ [c2.n]).map V.str))) S = some (.lst (sn.map V.str)) := by rw [upd_ne SW]; exact hS3
          have hW4 : (upd H3 W (.lst ((wy ++ [c2.n]).map V.str))) W = some (.lst ((wy ++ [c2.n]).map V.str)) := upd_same
          have ht4 : (upd H3 W (.lst ((wy ++ [c2.n]).map V.str))) t2 = some (.tup (encL c2)) := by rw [upd_ne (ne_of ht2 hW3 (by intro z; cases z))]; exact ht2
          generalize hH4 : upd H3 W (.lst ((wy ++ [c2.n]).map V.str)) = H4 at *
          have hwy4 : ∀ n ∈ wy ++ [c2.n], n ∈ ls.map (·.n) := fun n hn => by
            rcases List.mem_append.mp hn with hn | hn
            · exact hwy n hn
            · rw [List.mem_singleton] at hn
              subst hn
              exact List.mem_map_of_mem c2m
          refine ⟨_, rfl, t2, _, _, _, rfl, rfl, SqT.of ht4, rfl, ?_⟩
          refine ⟨_, rfl, _, rfl, S, _, rfl, .inl (SqL.of hS4), rfl, flat_strs _, _, rfl, ?_⟩
          rw [if_neg Bool.false_ne_true, inV_str]
          by_cases qs : c2.h ∈ sn
          · refine itP qs ?_
            obtain ⟨ji, hji, eq1, mins⟩ := idx_vals qs
            refine ⟨_, rfl, _, rfl, .inl ⟨rfl, _, SqL.of hS4⟩, _, rfl, S, _, _, ji, _, rfl, rfl, SqL.of hS4, rfl, flat_strs _, hji, eq1, mins, _, rfl, W, _, rfl, SqL.of hW4, fun p np => ?_⟩
            rw [cut_map]
            generalize hsub : (((wy ++ [c2.n]).drop (HT.sIx (wy ++ [c2.n]).length 0 (some (ji : Nat)))).take (HT.sIx (wy ++ [c2.n]).length (wy ++ [c2.n]).length none - HT.sIx (wy ++ [c2.n]).length 0 (some (ji : Nat)))) = sub at *
            have hsubm : ∀ n ∈ sub, n ∈ ls.map (·.n) := fun n hn => by
              rw [← hsub] at hn
              exact hwy4 n (cut_mem hn)
            have zsub : sub.length ≤ 9 := by
              rw [← hsub, List.length_take, List.length_drop, List.length_append, List.length_singleton]
              omega
            have pD : p ≠ D := fun z => by rw [z] at np; rw [hF4] at np; cases np
            have nD5 : Ex H (wo (upd H4 p (.lst (sub.map V.str))) D) := fun b o hb => by
              rw [wo_ne (ne_of_none hb nD)]
              exact (e04.trans (Evl.Ex.new np)) _ _ hb
            refine ⟨p, rfl, ⟨_, SqL.of upd_same⟩, ?_⟩
            refine for_J (J := Itl K p) (B := wo (upd H4 p (.lst (sub.map V.str))) D) (gv_list (SqL.of (by rw [wo_ne pD]; exact upd_same)) (str_ls _ sub)) (fun i σ H' => (∃ o4 o9 o10 o11 pl, σ = [some (.ref a), some (.int (at_ : Nat)), some (.ref b), some (.ref D), o4, some (.int (y : Nat)), some (.str pl), some (.ref S), some (.ref W), o9, o10, o11]) ∧ Ex (wo (upd H4 p (.lst (sub.map V.str))) D) H' ∧ i ≤ 9 ∧ ∃ fl, FlH H' D (ls.map (·.n)) fl ∧ ∀ n, 0 ≤ fl n ∧ fl n ≤ 1000 * (y : Nat) + 6 * (i : Nat))
              ⟨⟨_, _, _, _, _, rfl⟩, wo_ex, Nat.zero_le _, fl, hF4.mono (Evl.Ex.new np), fun n => by have := hfl n; omega⟩ (fun i σ H' h => h.2.1) (fun i x c σ H5 hc5 hx5 hI => ?_) (fun σ H5 hI => ?_)
            · obtain ⟨⟨o4, o9, o10, o11, pl, rfl⟩, e5, hi9, fl5, hF5, hfl5⟩ := hI
              subst hx5
              have hi5 : i < sub.length := (List.getElem?_eq_some_iff.mp hc5).1
              have cm : c ∈ ls.map (·.n) := hsubm c (List.mem_of_getElem? hc5)
              have e05 := nD5.trans e5
              refine ⟨_, rfl, _, rfl, D, _, rfl, dr_get (.inl hF5) cm, _, _, rfl, rfl, ?_⟩
              refine ⟨_, rfl, _, rfl, _, rfl, _, _, rfl, rfl, cm10, _, _, rfl, rfl, a, _, _, _, rfl, rfl, SqL.of (e05 _ _ ha.h), hq, .inl ⟨_, rfl, _, _, rfl, rfl, ⟨by decide, by decide⟩, _, _, rfl, rfl, (by show (0 : Int) < _; decide), _, _, rfl, rfl, ?_⟩⟩
              refine ⟨_, rfl, _, rfl, D, _, rfl, dr_put hF5 cm (by rw [List.length_map]; omega), ⟨_, _, _, _, _, rfl⟩, Evl.Ex.mut e5 wo_none, by omega, fun m => if m = c then fl5 c + 1 + q / 16 % 6 else fl5 m, ?_, fun n => ?_⟩
              · unfold FlH
                rw [upd_same]
                refine congrArg (fun z => some (HO.dK z)) (dr_congr fun n _ => ?_)
                show (if n = c then V.int _ else V.int _) = V.int (if n = c then _ else _)
                split <;> rfl
              · have a1 := Int.emod_nonneg (q / 16) (show (6 : Int) ≠ 0 by decide)
                have a2 := Int.emod_lt_of_pos (q / 16) (show (0 : Int) < 6 by decide)
                have a3 := hfl5 c
                have a4 := hfl5 n
                show 0 ≤ (if n = c then fl5 c + 1 + q / 16 % 6 else fl5 n) ∧ (if n = c then fl5 c + 1 + q / 16 % 6 else fl5 n) ≤ 1000 * (y : Nat) + 6 * ((i + 1 : Nat) : Int)
                split <;> omega
            · obtain ⟨⟨o4, o9, o10, o11, pl, rfl⟩, e5, hi9, fl5, hF5, hfl5⟩ := hI
              refine ⟨⟨_, _, _, _, _, _, _, _, rfl⟩, nD5.trans e5, by omega, fl5, hF5, fun n => ?_⟩
              have := hfl5 n
              omega
          · refine itN qs ?_
            refine ⟨_, rfl, .inl ⟨rfl, _, SqL.of hS4⟩, _, rfl, S, _, _, rfl, rfl, hS4, Evl.sz_lt (by rw [List.length_map]; omega), ⟨_, _, _, _, _, rfl⟩, Evl.Ex.mut e04 nS0, ?_, sn ++ [c2.h], wy ++ [c2.n], by rw [upd_same, List.map_append]; rfl, by rw [upd_ne SW.symm]; exact hW4, hwy4, by rw [List.length_append, List.length_singleton, lwy], by rw [List.length_append, List.length_singleton, lsn]⟩
            unfold FlH
            rw [upd_ne (ne_of hF4 hS4 (by intro z; cases z))]
            exact hF4
        · obtain ⟨⟨o4, o9, o10, o11, pl, rfl⟩, e3, hF2, _⟩ := hI
          refine ⟨⟨_, _, _, _, _, _, _, _, rfl⟩, e3, by omega, fl, hF2, fun n => ?_⟩
          have := hfl n
          omega
      · obtain ⟨⟨o4, o5, o6, o7, o8, o9, o10, o11, rfl⟩, e1, hi3, fl, hF, hfl⟩ := hI
        refine ⟨_, rfl, k D fl H1 nD e1 hF fun n => ?_⟩
        have := hfl n
        omega
end
end Ms

set_option maxHeartbeats 4000000
namespace Ms
open PySem PySem.Spec PyProof.Rows L2
open Evl (Ex)
open C8 (Cal Mak Met pe_c pe_mk pe_mt pe_mt0 pe_gc)
/-- the law's own plant: a tuple of knots and streams -/
def LP (H : Hp) (pt : Addr) (kn : List Str) (ss : List Sm) : Prop := ∃ kl sl ws, H pt = some (.tup [.ref kl, .ref sl]) ∧ H kl = some (.lst (kn.map V.str)) ∧ H sl = some (.lst ws) ∧ LsR (TpR encS) H ws ss
theorem LP.mono {H H' : Hp} {pt : Addr} {kn : List Str} {ss : List Sm} (e : Ex H H') (h : LP H pt kn ss) : LP H' pt kn ss := by
  obtain ⟨kl, sl, ws, h1, h2, h3, h4⟩ := h
  exact ⟨kl, sl, ws, e _ _ h1, e _ _ h2, e _ _ h3, h4.mono stb_tp e⟩
theorem nat_of {x : Int} (h : 0 ≤ x) : x = (x.toNat : Int) := (Int.toNat_of_nonneg h).symm
theorem fmod_rng (x : Int) {m : Int} (h : 0 < m) : 0 ≤ x.fmod m ∧ x.fmod m < m := by
  rw [Int.fmod_eq_emod_of_nonneg _ (Int.le_of_lt h)]
  exact ⟨Int.emod_nonneg _ (Int.ne_of_gt h), Int.emod_lt_of_pos _ h⟩
section
variable {P : Program} {w : World} {K : PySem.W.Frag} {mg : Str → Option Value} {base : Heap} {C M R : Addr}
abbrev sLplant : Stmt := top 56
abbrev nLplant : List Str := ["_law_numbers_here", "_law_at", "_law_most_knots", "_law_most_streams", "_law_spread", "_law_knots", "_law_lines_here", "_law_flows", "_law_streams", "_law_k", "_law_bounds", "_law_middle"]
theorem scLplant : FnScope nLplant ["_law_numbers_here", "_law_at", "_law_most_knots", "_law_most_streams", "_law_spread"] (defScope sLplant) := ⟨rfl, rfl, rfl, by decide +kernel, rfl, by decide +kernel, by decide +kernel⟩
def spLplant : Sp := fun vs H Q _ => ∃ (a : Addr) (ns : List Int), vs = [.ref a, .int 0, .int 4, .int 6, .int 4] ∧ NsR H a ns ∧
  ∀ t pt dd kn ss fl H', H t = none → Ex H H' → H' t = some (.tup [.ref pt, .ref dd]) → LP H' pt kn ss → PlOk kn ss → kn.length ≤ 4 → ss.length ≤ 6 → FlH H' dd (ss.map (·.n)) fl → (∀ n, 0 ≤ fl n ∧ fl n ≤ 10000) → Q (.ref t) H'
theorem ok_plant (d : Dn K mg "_law_plant" sLplant ["_law_numbers_here", "_law_at", "_law_most_knots", "_law_most_streams", "_law_spread"]) (G : Glb mg) (c__law_names : Cal P w K mg base 1 "_law_names" spNames []) (c__law_lines : Cal P w K mg base 2 "_law_lines" spLines []) (c__law_rounds : Cal P w K mg base 1 "_law_rounds" spRounds []) : Cal P w K mg base 3 "_law_plant" spLplant [] := by
  refine d.cal scLplant (fun vs H Q E h => ?_) (fun f cdv A outer s H vs Q E hr h => ?_)
  · obtain ⟨a, ns, rfl, _⟩ := h
    rfl
  · obtain ⟨a, ns, rfl, ha, k⟩ := h
    refine ⟨_, (pss_cons (ps_set (i := 5) scLplant.nd rfl (by first | exact .inl rfl | exact .inr rfl) (pe_c c__law_names hr (by decide) rfl (pa_cons (pe_callTy call_int1 (by rfl) G.int (by decide +kernel) (pa_cons (pe_ix (ix_listK K) (pv 0) (pv 1) (fun _ _ => rfl)) pa_nil)) (pa_cons (pe_op op_add pe_int (pe_op op_modN (pe_callTy call_int1 (by rfl) G.int (by decide +kernel) (pa_cons (pe_ix (ix_listK K) (pv 0) (pe_op op_add (pv 1) pe_int) (fun _ _ => rfl)) pa_nil)) (pv 2))) pa_nil))))
      (pss_cons (ps_set (i := 6) scLplant.nd rfl (by first | exact .inl rfl | exact .inr rfl) (pe_c c__law_lines hr (by decide) rfl (pa_cons (pv 0) (pa_cons (pe_op op_add (pv 1) pe_int) (pa_cons (pv 5) (pa_cons (pe_op op_modN (pe_callTy call_int1 (by rfl) G.int (by decide +kernel) (pa_cons (pe_op op_fdiv (pe_ix (ix_listK K) (pv 0) (pe_op op_add (pv 1) pe_int) (fun _ _ => rfl)) pe_int) pa_nil)) (pe_op op_add (pv 3) pe_int)) pa_nil))))))
      (pss_cons (ps_set (i := 7) scLplant.nd rfl (by first | exact .inl rfl | exact .inr rfl) (pe_c c__law_rounds hr (by decide) rfl (pa_cons (pv 0) (pa_cons (pe_op op_add (pv 1) pe_int) (pa_cons (pv 6) pa_nil)))))
      (pss_cons (ps_set (i := 8) scLplant.nd rfl (by first | exact .inl rfl | exact .inr rfl) (pe_lst pa_nil))
      (pss_cons (ps_for PassesOwn.never rfl (pi_range1 rfl G.range (pa_cons (pe_callB (len_seqK K) (by rfl) G.len (by decide +kernel) (pa_cons (pv 6) pa_nil)) pa_nil)) (pg_name (i := 9) scLplant.nd rfl (by first | exact .inl rfl | exact .inr rfl))
      (pss_cons (ps_set (i := 10) scLplant.nd rfl (by first | exact .inl rfl | exact .inr rfl) (pe_callTy call_int1 (by rfl) G.int (by decide +kernel) (pa_cons (pe_ix (ix_listK K) (pv 0) (pe_op op_add (pe_op op_add (pv 1) pe_int) (pv 9)) (fun _ _ => rfl)) pa_nil)))
      (pss_cons (ps_set (i := 11) scLplant.nd rfl (by first | exact .inl rfl | exact .inr rfl) (pe_op op_add (pe_dget (hu_of hr) (pv 7) (pe_ix (ix_tupK K) (pe_ix (ix_listK K) (pv 6) (pv 9) (fun _ _ => rfl)) pe_int (fun _ _ => rfl)) (fun _ _ => rfl)) (pe_op op_mul pe_int (pe_callTy call_int1 (by rfl) G.int (by decide +kernel) (pa_cons (pe_cmpR op_eq (pe_op op_mod (pe_callTy call_int1 (by rfl) G.int (by decide +kernel) (pa_cons (pv 10) pa_nil)) pe_int) pe_int (nomark _)) pa_nil)))))
      (pss_one (ps_expr (pe_bm PySem.F.plainAttrs_list PySem.F.slot_list_append PySem.F.type_list_append mt_append (pv 8) (pa_cons (pe_op op_catT (pe_ix (ix_listK K) (pv 6) (pv 9) (fun _ _ => rfl)) (pe_tup (pa_cons (pe_callB (call_max2 rfl) (by rfl) G.max (by decide +kernel) (pa_cons pe_int (pa_cons (pe_op op_sub (pv 11) (pe_op op_modN (pe_callTy call_int1 (by rfl) G.int (by decide +kernel) (pa_cons (pv 10) pa_nil)) (pv 4))) pa_nil))) (pa_cons (pe_op op_add (pv 11) (pe_op op_modN (pe_callTy call_int1 (by rfl) G.int (by decide +kernel) (pa_cons (pe_op op_fdiv (pv 10) pe_int) pa_nil)) (pv 4))) pa_nil)))) pa_nil)))))))
      (pss_one (ps_ret (pe_tup (pa_cons (pe_tup (pa_cons (pv 5) (pa_cons (pv 8) pa_nil))) (pa_cons (pv 7) pa_nil)))))))))), ?_⟩
    obtain ⟨x0, hx0, x00, x01⟩ := ha.at_ (i := 0) (j := 0) rfl (by decide)
    obtain ⟨x1, hx1, _, _⟩ := ha.at_ (i := 0 + 1) (j := 1) rfl (by decide)
    obtain ⟨r0, r1⟩ := fmod_rng x1 (show (0 : Int) < 4 by decide)
    have mk : (1 : Int) + x1.fmod 4 = ((1 + x1.fmod 4).toNat : Nat) := nat_of (by omega)
    -- knots
    refine ⟨_, rfl, _, rfl, a, _, _, _, rfl, rfl, SqL.of ha.h, hx0, .inl ⟨_, rfl, _, rfl, _, rfl, _, _, rfl, rfl, a, _, _, _, rfl, rfl, SqL.of ha.h, hx1, .inl ⟨_, rfl, _, rfl, _, _, rfl, rfl, (by show (4 : Int) ≠ 0; decide), _, _, rfl, rfl, x0, (1 + x1.fmod 4).toNat, by rw [← mk]; rfl, x00, x01, by omega, fun N kn H1 nN e1 hN lk ndk okk => ?_⟩⟩⟩
    -- lines
    obtain ⟨l0, l1⟩ := fmod_rng (x1 / 16) (show (0 : Int) < 6 + 1 by decide)
    have ml : (x1 / 16).fmod (6 + 1) = (((x1 / 16).fmod (6 + 1)).toNat : Nat) := nat_of l0
    have kne : kn ≠ [] := fun q => by rw [q] at lk; simp at lk; omega
    have ha1 := ha.mono e1
    refine ⟨_, rfl, _, rfl, _, _, rfl, rfl, _, rfl, _, rfl, _, rfl, _, _, rfl, rfl, a, _, _, _, rfl, rfl, SqL.of ha1.h, hx1, _, _, rfl, rfl, ⟨by decide, by decide⟩, .inl ⟨_, rfl, _, rfl, _, _, rfl, rfl, _, _, rfl, rfl, (by show (6 + 1 : Int) ≠ 0; decide), a, N, 2, ((x1 / 16).fmod (6 + 1)).toNat, ns, kn, by rw [← ml]; rfl, ha1, hN, kne, by omega, by omega, by omega, fun L ws ls H2 nL e2 hL hlL ll ndl okl => ?_⟩⟩
    have e02 := e1.trans e2
    have ll6 : ls.length ≤ 6 := by omega
    -- flows
    refine ⟨_, rfl, _, rfl, _, _, rfl, rfl, _, rfl, a, L, 27, ns, ws, ls, rfl, ha.mono e02, hL, hlL, ndl, by omega, by decide, fun D fl H3 nD e3 hF hfl => ?_⟩
    have e03 := e02.trans e3
    -- streams
    refine ⟨Nat.zero_le _, fun Z nZ => ?_⟩
    refine ⟨_, rfl, L, _, rfl, .inl (SqL.of (Evl.Ex.new nZ _ _ (e3 _ _ hL))), _, rfl, by have := hlL.1; omega, by have := hlL.1; omega, ?_⟩
    rw [show ((ws.length : Nat) : Int).toNat = ws.length from Int.toNat_natCast _]
    refine for_J (J := Itr 0 ws.length) (B := H3) gv_range (fun i σ H' => (∃ o9 o10 o11, σ = [some (.ref a), some (.int 0), some (.int 4), some (.int 6), some (.int 4), some (.ref N), some (.ref L), some (.ref D), some (.ref Z), o9, o10, o11]) ∧ Ex H3 H' ∧ ∃ (us : List V) (ss : List Sm), H' Z = some (.lst us) ∧ LsR (TpR encS) H' us ss ∧ ss.map (fun s => (⟨s.n, s.t, s.h⟩ : Ln)) = ls.take i ∧ ∀ s ∈ ss, 0 ≤ s.lo ∧ s.lo ≤ s.hi ∧ s.hi ≤ 1000000)
      ⟨⟨_, _, _, rfl⟩, Evl.Ex.new nZ, [], [], upd_same, LsR.nil, rfl, by simp⟩ (fun i σ H' h => h.2.1) (fun i x y σ H' hc hx hI => ?_) (fun σ H' hI => ?_)
    · obtain ⟨⟨o9, o10, o11, rfl⟩, e, us, ss, hZ, hlZ, hnm, hrng⟩ := hI
      subst hx
      have hi := (List.getElem?_eq_some_iff.mp hc).1
      rw [List.length_range] at hi
      have yi : y = i := by
        rw [List.getElem?_range hi] at hc
        exact (Option.some.inj hc).symm
      subst yi
      have hi2 : y < ls.length := by rw [← hlL.1]; exact hi
      have e0 := e03.trans e
      obtain ⟨q, hq, q0, q1⟩ := (ha.mono e0).at_ (i := (0 : Int) + 15 + (y : Nat)) (j := 15 + y) (by omega) (by omega)
      obtain ⟨c, hc', t, ev, ht⟩ := hlL.2 y ws[y] (List.getElem?_eq_getElem hi)
      have ht' := (e3.trans e) _ _ ht
      have hL' := (e3.trans e) _ _ hL
      have hF' := hF.mono e
      have cm : c.n ∈ ls.map (·.n) := List.mem_map_of_mem (List.mem_of_getElem? hc')
      have atL : atI ws ((y : Nat) : Int) = some (.ref t) := atI_nat (by rw [List.getElem?_eq_getElem hi, ev])
      refine ⟨_, rfl, _, rfl, _, _, rfl, rfl, _, rfl, _, _, rfl, rfl, a, _, _, _, rfl, rfl, SqL.of (ha.mono e0).h, hq, .inl ⟨_, rfl, ?_⟩⟩
      -- middle
      refine ⟨_, rfl, _, rfl, _, rfl, L, _, _, _, rfl, rfl, SqL.of hL', atL, t, _, _, _, rfl, rfl, SqT.of ht', rfl, D, _, rfl, dr_get (.inl hF') cm, _, rfl, .inl ⟨_, rfl, _, _, rfl, rfl, (by show (0 : Int) < _; decide), rfl, .inr ⟨_, rfl, _, _, rfl, rfl, .inl ⟨by decide, by decide⟩, _, _, rfl, rfl, ?_⟩⟩⟩
      dsimp only
      generalize hmid : fl c.n + 2 * (if decide (V.int (q % 31) = V.int 9) = true then 1 else 0) = mid at *
      have hmid2 : 0 ≤ mid ∧ mid ≤ 10002 := by
        have := hfl c.n
        rw [← hmid]
        split <;> omega
      obtain ⟨u0, u1⟩ := fmod_rng q (show (0 : Int) < 4 by decide)
      obtain ⟨v0, v1⟩ := fmod_rng (q / 16) (show (0 : Int) < 4 by decide)
      -- append
      refine ⟨_, rfl, .inl ⟨rfl, _, SqL.of hZ⟩, _, rfl, _, rfl, L, _, _, _, rfl, rfl, SqL.of hL', atL, ?_⟩
      refine ⟨_, rfl, _, rfl, .inl ⟨_, rfl, _, rfl, _, _, rfl, rfl, (by show (4 : Int) ≠ 0; decide), _, _, rfl, rfl, _, _, rfl, _, rfl, _, rfl, _, _, rfl, rfl, ⟨by decide, by decide⟩, .inl ⟨_, rfl, _, rfl, _, _, rfl, rfl, (by show (4 : Int) ≠ 0; decide), _, _, rfl, rfl, sz1 (by show 2 ≤ 100000; decide), fun p np => ?_⟩⟩⟩
      refine ⟨t, p, _, _, rfl, rfl, SqT.of (Evl.Ex.new np _ _ ht'), SqT.of upd_same, (by intro z; cases z), sz1 (by show 3 + 2 ≤ 100000; decide), (fun z => by cases z), fun _ r nr => ?_⟩
      have zu : us.length ≤ 100 := by
        have l0 := congrArg List.length hnm
        rw [List.length_map, List.length_take] at l0
        rw [hlZ.1]
        omega
      have eP := e.trans (Evl.Ex.new (o := .tup [.int (if mid - q.fmod 4 > 0 then mid - q.fmod 4 else 0), .int (mid + (q / 16).fmod 4)]) np)
      obtain ⟨e2', hA2⟩ := snoc_tp (enc := encS) eP nZ (Evl.Ex.new np _ _ hZ) (hlZ.mono stb_tp (Evl.Ex.new np)) nr (⟨c.n, c.t, c.h, if mid - q.fmod 4 > 0 then mid - q.fmod 4 else 0, mid + (q / 16).fmod 4⟩ : Sm)
      have rZ : r ≠ Z := fun z => by rw [z, Evl.Ex.new np _ _ hZ] at nr; cases nr
      refine ⟨Z, us, _, rfl, rfl, by rw [upd_ne rZ.symm]; exact Evl.Ex.new np _ _ hZ, Evl.sz_lt (by omega), ⟨_, _, _, rfl⟩, e2', _, _, upd_same, hA2, ?_, fun s hs => ?_⟩
      · rw [List.map_append, hnm, take_snoc hc']
        rfl
      · rcases List.mem_append.mp hs with hs | hs
        · exact hrng s hs
        · rw [List.mem_singleton] at hs
          subst hs
          show 0 ≤ (if mid - q.fmod 4 > 0 then mid - q.fmod 4 else 0) ∧ (if mid - q.fmod 4 > 0 then mid - q.fmod 4 else 0) ≤ mid + (q / 16).fmod 4 ∧ mid + (q / 16).fmod 4 ≤ 1000000
          split <;> omega
    · obtain ⟨⟨o9, o10, o11, rfl⟩, e, us, ss, hZ, hlZ, hnm, hrng⟩ := hI
      rw [List.length_range, hlL.1, List.take_length] at hnm
      refine ⟨_, rfl, _, rfl, sz1 (by show 2 ≤ 100000; decide), fun p np => ⟨_, rfl, sz1 (by show 2 ≤ 100000; decide), fun t nt => ?_⟩⟩
      have eE := (Evl.Ex.new (o := .tup [.ref N, .ref Z]) np).trans (Evl.Ex.new (o := .tup [.ref p, .ref D]) nt)
      have e0 := (e03.trans e).trans eE
      have nms : ss.map (·.n) = ls.map (·.n) := by
        rw [← hnm, List.map_map]
        rfl
      have memL : ∀ s ∈ ss, (⟨s.n, s.t, s.h⟩ : Ln) ∈ ls := fun s hs => by
        rw [← hnm]
        exact List.mem_map_of_mem (f := fun s : Sm => (⟨s.n, s.t, s.h⟩ : Ln)) hs
      have sl : ss.length = ls.length := by
        rw [← hnm, List.length_map]
      refine k t p D kn ss fl _ (Ex.free (e03.trans e) (Ex.free (Evl.Ex.new np) nt)) e0 upd_same ⟨N, Z, us, Evl.Ex.new nt _ _ upd_same, ((e2.trans e3).trans (e.trans eE)) _ _ hN, eE _ _ hZ, hlZ.mono stb_tp eE⟩ ⟨by omega, by omega, okk, ndk, by omega, fun s hs => ?_, by rw [nms]; exact ndl⟩ (by omega) (by omega) (by rw [nms]; exact (hF.mono e).mono eE) hfl
      obtain ⟨b1, b2, b3⟩ := okl _ (memL s hs)
      obtain ⟨b4, b5, b6⟩ := hrng s hs
      exact ⟨b1, b2, b3, b4, b5, b6⟩
abbrev sLmade : Stmt := top 57
abbrev nLmade : List Str := ["_law_plant_here"]
theorem scLmade : FnScope nLmade ["_law_plant_here"] (defScope sLmade) := ⟨rfl, rfl, rfl, by decide +kernel, rfl, by decide +kernel, by decide +kernel⟩
def spMade (C : Addr) : Sp := fun vs H Q _ => ∃ (pt : Addr) (kn : List Str) (ss : List Sm), vs = [.ref pt] ∧ LP H pt kn ss ∧ PlOk kn ss ∧
  ∀ p kn' ss' H', H p = none → Ex H H' → Pl C H' p kn' ss' → kn'.Perm kn → sortedS kn' = true → ss'.Perm ss → Q (.ref p) H'
theorem ok_made (d : Dn K mg "_law_made" sLmade ["_law_plant_here"]) (G : Glb mg) (c_Plant : Mak P w K mg base 3 "Plant" C (spPlant K C) []) : Cal P w K mg base 5 "_law_made" (spMade C) [] := by
  refine d.cal scLmade (fun vs H Q E h => ?_) (fun f cdv A outer s H vs Q E hr h => ?_)
  · obtain ⟨pt, kn, ss, rfl, _⟩ := h
    rfl
  · obtain ⟨pt, kn, ss, rfl, ⟨kl, sl, ws, h1, h2, h3, h4⟩, ok, k⟩ := h
    refine ⟨_, (pss_one (ps_ret (pe_mk c_Plant hr (by decide) rfl (pa_cons (pe_callTy call_list_of (by rfl) G.list (by decide +kernel) (pa_cons (pe_ix (ix_tupK K) (pv 0) pe_int (fun _ _ => rfl)) pa_nil)) (pa_cons (pe_callTy call_list_of (by rfl) G.list (by decide +kernel) (pa_cons (pe_ix (ix_tupK K) (pv 0) pe_int (fun _ _ => rfl)) pa_nil)) pa_nil))))), ?_⟩
    refine ⟨_, rfl, pt, _, _, _, rfl, rfl, SqT.of h1, rfl, kl, _, rfl, .inl (SqL.of h2), fun a na => ?_⟩
    have e1 := Evl.Ex.new (o := .lst (kn.map V.str)) na
    refine ⟨_, rfl, pt, _, _, _, rfl, rfl, SqT.of (e1 _ _ h1), rfl, sl, _, rfl, .inl (SqL.of (e1 _ _ h3)), fun b nb => ?_⟩
    have e2 := Evl.Ex.new (o := .lst ws) nb
    intro x dx nx ndx nex
    have eX : Ex (upd (upd H a (.lst (kn.map V.str))) b (.lst ws)) (upd (upd (upd (upd H a (.lst (kn.map V.str))) b (.lst ws)) dx (.own x)) x (.ins C dx [])) := (Evl.Ex.new ndx).trans (Evl.Ex.new (by rw [upd_ne nex.symm]; exact nx))
    have e0 := (e1.trans e2).trans eX
    refine ⟨x, dx, a, b, kn, ws, ss, rfl, upd_same, SqL.of (eX _ _ (e2 _ _ upd_same)), SqL.of (eX _ _ upd_same), h4.mono stb_tp e0, ok, fun H' kn' ss' pk sk ps hp eb => ⟨rfl, ?_⟩⟩
    have nx0 : H x = none := Ex.free (e1.trans e2) nx
    refine k x kn' ss' H' nx0 (fun y o hy => eb y o (ne_of_none hy nx0) (e0 y o hy)) ⟨hp, ok.perm pk ps⟩ pk sk ps
end
end Ms

set_option maxHeartbeats 4000000
namespace Ms
open PySem PySem.Spec PyProof.Rows L2
open Evl (Ex)
open C8 (Cal Mak Met pe_c pe_mk pe_mt pe_mt0 pe_gc)
theorem lack_step2 (L : List Ln) (c : Sm) (fl : Str → Int) (m : Str) : (if m = c.h then V.int ((if c.h = c.t then MsM.exc L fl c.t - fl c.n else MsM.exc L fl c.h) + fl c.n) else if m = c.t then V.int (MsM.exc L fl c.t - fl c.n) else V.int (MsM.exc L fl m)) = V.int (MsM.exc (L ++ [⟨c.n, c.t, c.h⟩]) fl m) := lack_step L c fl m
/-- limits grow by a name -/
theorem lm_add {H : Hp} {D p : Addr} {ks : List Str} {lo hi : Str → Int} {g : Str → Addr} {n : Str} {x y : Int} (hD : H D = some (.dK (DR ks fun n => .ref (g n)))) (hg : ∀ n ∈ ks, H (g n) = some (.tup [.int (lo n), .int (hi n)])) (no : n ∉ ks) (np : H p = none) :
    LmH (upd (upd H p (.tup [.int x, .int y])) D (.dK (DR (ks ++ [n]) fun m => if m = n then .ref p else .ref (g m)))) D (ks ++ [n]) (fun m => if m = n then x else lo m) (fun m => if m = n then y else hi m) := by
  have pD : p ≠ D := fun z => by rw [z, hD] at np; cases np
  refine ⟨fun m => if m = n then p else g m, ?_, fun m hm => ?_⟩
  · rw [upd_same]
    refine congrArg (fun z => some (HO.dK z)) (dr_congr fun m _ => ?_)
    show (if m = n then V.ref p else V.ref (g m)) = V.ref (if m = n then p else g m)
    split <;> rfl
  · by_cases e : m = n
    · simp only [if_pos e]
      rw [upd_ne pD, upd_same]
    · have mk : m ∈ ks := by
        rcases List.mem_append.mp hm with h | h
        · exact h
        · rw [List.mem_singleton] at h
          exact absurd h e
      simp only [if_neg e]
      rw [upd_ne (ne_of (hg m mk) hD (by intro z; cases z)), upd_ne (ne_of_none (hg m mk) np)]
      exact hg m mk
section
variable {P : Program} {w : World} {K : PySem.W.Frag} {mg : Str → Option Value} {base : Heap} {C M R : Addr}
abbrev sLleft : Stmt := top 60
abbrev nLleft : List Str := ["_law_plant_here", "_law_flows", "_law_left_here", "_law_knot", "_law_name", "_law_tail", "_law_head", "_law_low", "_law_high"]
theorem scLleft : FnScope nLleft ["_law_plant_here", "_law_flows"] (defScope sLleft) := ⟨rfl, rfl, rfl, by decide +kernel, rfl, by decide +kernel, by decide +kernel⟩
def spLeft : Sp := fun vs H Q _ => ∃ (pt a : Addr) (kn : List Str) (ss : List Sm) (ks : List Str) (fl : Str → Int), vs = [.ref pt, .ref a] ∧ LP H pt kn ss ∧ PlOk kn ss ∧ FlH H a ks fl ∧ (∀ n, n ∈ ks ↔ n ∈ ss.map (·.n)) ∧ GivD kn (fun k => .int (MsM.exc (lnS ss) fl k)) H Q
theorem ok_left (d : Dn K mg "_law_left" sLleft ["_law_plant_here", "_law_flows"]) (G : Glb mg) : Cal P w K mg base 1 "_law_left" spLeft [] := by
  refine d.cal scLleft (fun vs H Q E h => ?_) (fun f cdv A outer s H vs Q E hr h => ?_)
  · obtain ⟨pt, a, kn, ss, ks, fl, rfl, _⟩ := h
    rfl
  · obtain ⟨pt, a, kn, ss, ks, fl, rfl, ⟨kl, sl, ws, h1, h2, h3, h4⟩, ok, ha, hk, k⟩ := h
    refine ⟨_, (pss_cons (ps_set (i := 2) scLleft.nd rfl (by first | exact .inl rfl | exact .inr rfl) pe_dnewK)
      (pss_cons (ps_for PassesOwn.never rfl (pi_list (pe_ix (ix_tupK K) (pv 0) pe_int (fun _ _ => rfl))) (pg_name (i := 3) scLleft.nd rfl (by first | exact .inl rfl | exact .inr rfl))
      (pss_one (ps_dput (hu_of hr) (pv 2) (pv 3) pe_int rfl)))
      (pss_cons (ps_for PassesOwn.never rfl (pi_list (pe_ix (ix_tupK K) (pv 0) pe_int (fun _ _ => rfl))) (pg_tupK K (n := 5) rfl (pgs_cons (pg_name (i := 4) scLleft.nd rfl (by first | exact .inl rfl | exact .inr rfl)) (pgs_cons (pg_name (i := 5) scLleft.nd rfl (by first | exact .inl rfl | exact .inr rfl)) (pgs_cons (pg_name (i := 6) scLleft.nd rfl (by first | exact .inl rfl | exact .inr rfl)) (pgs_cons (pg_name (i := 7) scLleft.nd rfl (by first | exact .inl rfl | exact .inr rfl)) (pgs_cons (pg_name (i := 8) scLleft.nd rfl (by first | exact .inl rfl | exact .inr rfl)) pgs_nil))))))
      (pss_cons (ps_dput (hu_of hr) (pv 2) (pv 5) (pe_op op_sub (pe_dget (hu_of hr) (pv 2) (pv 5) (fun _ _ => rfl)) (pe_dget (hu_of hr) (pv 1) (pv 4) (fun _ _ => rfl))) rfl)
      (pss_one (ps_dput (hu_of hr) (pv 2) (pv 6) (pe_op op_add (pe_dget (hu_of hr) (pv 2) (pv 6) (fun _ _ => rfl)) (pe_dget (hu_of hr) (pv 1) (pv 4) (fun _ _ => rfl))) rfl))))
      (pss_one (ps_ret (pv 2)))))), ?_⟩
    refine fun D nD => ?_
    have ku := ok.ku
    refine ⟨_, rfl, pt, _, _, _, rfl, rfl, SqT.of (Evl.Ex.new nD _ _ h1), rfl, kl, rfl, ⟨_, SqL.of (Evl.Ex.new nD _ _ h2)⟩, ?_⟩
    refine for_J (J := Itl K kl) (B := H) (gv_list (SqL.of h2) (str_ls _ kn)) (fun i σ H' => (∃ o3 o4 o5 o6 o7 o8, σ = [some (.ref pt), some (.ref a), some (.ref D), o3, o4, o5, o6, o7, o8]) ∧ Ex H H' ∧ H' D = some (.dK (DR (kn.take i) fun _ => .int 0)))
      ⟨⟨_, _, _, _, _, _, rfl⟩, Evl.Ex.new nD, upd_same⟩ (fun i σ H' h => h.2.1) (fun i x c σ H' hc hx hI => ?_) (fun σ H' hI => ?_)
    · obtain ⟨⟨o3, o4, o5, o6, o7, o8, rfl⟩, e, hD⟩ := hI
      subst hx
      have no : c ∉ kn.take i := fun q => by
        have h2 : (kn.take (i + 1)).Nodup := List.Sublist.nodup (List.take_sublist _ _) ok.knd
        rw [take_snoc hc] at h2
        exact (List.nodup_append.mp h2).2.2 _ q c (by simp) rfl
      refine ⟨_, rfl, _, rfl, D, _, rfl, dr_add hD no (by rw [List.length_take]; omega), ⟨_, _, _, _, _, _, rfl⟩, Evl.Ex.mut e nD, ?_⟩
      rw [upd_same, take_snoc hc]
      exact congrArg (fun z => some (HO.dK z)) (dr_congr fun n _ => by split <;> rfl)
    · obtain ⟨⟨o3, o4, o5, o6, o7, o8, rfl⟩, e, hD⟩ := hI
      rw [List.take_length] at hD
      refine ⟨_, rfl, pt, _, _, _, rfl, rfl, SqT.of (e _ _ h1), rfl, sl, rfl, ⟨_, SqL.of (e _ _ h3)⟩, ?_⟩
      refine for_J (J := Itl K sl) (B := H) (gv_list (SqL.of h3) h4) (fun i σ H' => (∃ o3 o4 o5 o6 o7 o8, σ = [some (.ref pt), some (.ref a), some (.ref D), o3, o4, o5, o6, o7, o8]) ∧ Ex H H' ∧ H' D = some (.dK (DR kn fun k => .int (MsM.exc (lnS (ss.take i)) fl k))))
        ⟨⟨_, _, _, _, _, _, rfl⟩, e, by rw [hD]; rfl⟩ (fun i σ H' h => h.2.1) (fun i x c σ H' hc hx hI => ?_) (fun σ H' hI => ?_)
      · obtain ⟨⟨o3, o4, o5, o6, o7, o8, rfl⟩, e5, h5⟩ := hI
        obtain ⟨t, rfl, ht⟩ := hx
        have hcm : c ∈ ss := List.mem_of_getElem? hc
        obtain ⟨_, ct, ch, _⟩ := ok.sok c hcm
        have fl5 : FlH H' a ks fl := ha.mono e5
        have hn : c.n ∈ ks := (hk _).mpr (List.mem_map_of_mem hcm)
        have aD : a ≠ D := ne_of_none ha nD
        refine ⟨t, _, rfl, SqT.of (e5 _ _ ht), rfl, _, _, rfl, _, _, rfl, _, _, rfl, _, _, rfl, _, _, rfl, rfl, ?_⟩
        refine ⟨_, rfl, _, rfl, D, _, rfl, dr_get (.inl h5) ct, _, rfl, _, rfl, a, _, rfl, dr_get (.inl fl5) hn, _, _, rfl, rfl, _, rfl, _, rfl, D, _, rfl, dr_put h5 ct (by omega), ?_⟩
        refine ⟨_, rfl, _, rfl, D, _, rfl, dr_get (.inl upd_same) ch, _, rfl, _, rfl, a, _, rfl, dr_get (.inl (by rw [upd_ne aD]; exact fl5)) hn, ?_⟩
        refine ⟨if c.h = c.t then MsM.exc (lnS (ss.take i)) fl c.t - fl c.n else MsM.exc (lnS (ss.take i)) fl c.h, fl c.n, ?_, rfl, _, rfl, _, rfl, D, _, rfl, dr_put upd_same ch (by omega), ⟨_, _, _, _, _, _, rfl⟩, ?_, ?_⟩
        · split <;> rfl
        · exact Evl.Ex.mut (Evl.Ex.mut e5 nD) nD
        · rw [upd_same]
          refine congrArg (fun z => some (HO.dK z)) (dr_congr fun m hm => ?_)
          have eL : lnS (ss.take (i + 1)) = lnS (ss.take i) ++ [⟨c.n, c.t, c.h⟩] := by
            rw [take_snoc hc]
            unfold lnS
            rw [List.map_append]
            rfl
          rw [eL]
          exact lack_step (lnS (ss.take i)) c fl m
      · obtain ⟨⟨o3, o4, o5, o6, o7, o8, rfl⟩, e5, h5⟩ := hI
        rw [List.take_length] at h5
        exact ⟨_, rfl, k D H' nD e5 h5⟩
abbrev sLbalanced : Stmt := top 61
abbrev nLbalanced : List Str := ["_law_plant_here", "_law_flows", "_law_number"]
theorem scLbalanced : FnScope nLbalanced ["_law_plant_here", "_law_flows"] (defScope sLbalanced) := ⟨rfl, rfl, rfl, by decide +kernel, rfl, by decide +kernel, by decide +kernel⟩
def spLbal : Sp := fun vs H Q _ => ∃ (pt a : Addr) (kn : List Str) (ss : List Sm) (ks : List Str) (fl : Str → Int), vs = [.ref pt, .ref a] ∧ LP H pt kn ss ∧ PlOk kn ss ∧ FlH H a ks fl ∧ (∀ n, n ∈ ks ↔ n ∈ ss.map (·.n)) ∧ Giv (.bl (balancedB kn ss fl)) H Q
theorem ok_lbalanced (d : Dn K mg "_law_balanced" sLbalanced ["_law_plant_here", "_law_flows"]) (G : Glb mg) (c__law_left : Cal P w K mg base 1 "_law_left" spLeft []) : Cal P w K mg base 2 "_law_balanced" spLbal [] := by
  refine d.cal scLbalanced (fun vs H Q E h => ?_) (fun f cdv A outer s H vs Q E hr h => ?_)
  · obtain ⟨pt, a, kn, ss, ks, fl, rfl, _⟩ := h
    rfl
  · obtain ⟨pt, a, kn, ss, ks, fl, rfl, hp, ok, ha, hk, k⟩ := h
    refine ⟨_, (pss_one (ps_ret (pe_callB (cr_all rfl) (by rfl) G.all (by decide +kernel) (pa_cons (pe_lc (own := [("_law_number", 2)]) rfl scLbalanced.nd (pi_values (pe_frz (pe_c c__law_left hr (by decide) rfl (pa_cons (pv 0) (pa_cons (pv 1) pa_nil))))) (blkOk_by (N := nLbalanced) (sc := defScope sLbalanced) (by decide +kernel)) (fun _ _ _ _ _ => (pg_name (i := 2) scLbalanced.nd rfl (by first | exact .inl rfl | exact .inr rfl))) (fun _ _ _ _ _ => pts_nil) (fun _ _ _ _ _ => (pe_cmpR op_eq (pv 2) pe_int (nomark _)))) pa_nil)))), ?_⟩
    refine ⟨_, rfl, _, rfl, pt, a, kn, ss, ks, fl, rfl, hp, ok, ha, hk, fun D H1 nD e1 h1 => ?_⟩
    refine ⟨D, _, rfl, h1, trivial, fun od => ⟨D, od, _, rfl, upd_same, ?_⟩⟩
    refine lc_J (J := Itd D od _) (fun x n _ => x = V.int (MsM.exc (lnS ss) fl n)) (fun _ v b _ => v = V.bl b) (fun _ => std_bl) (fun n => some (decide (MsM.exc (lnS ss) fl n = 0))) (gv_vals upd_same) (by have := ok.ku; omega) (fun D2 x c H' T Y _ _ ex hc e _ hY => ?_) (fun D2 ys H' hn e hy hl => ?_)
    · subst ex
      refine ⟨rfl, _, rfl, rfl, hY _ rfl _ _ (Evl.Ex.refl _) ?_⟩
      show V.bl (decide (V.int _ = V.int 0)) = V.bl _
      congr 1
      exact decide_eq_decide.mpr ⟨fun z => V.int.inj z, fun z => congrArg V.int z⟩
    · rw [filterMap_some] at hl
      refine ⟨D2, _, rfl, .inl (.inl (by rw [hy, ls_bl hl])), ?_⟩
      rw [List.all_map]
      exact k H' ((Evl.Ex.mut e1 nD).trans e)
abbrev sLinside : Stmt := top 62
abbrev nLinside : List Str := ["_law_limits", "_law_flows", "_law_name"]
theorem scLinside : FnScope nLinside ["_law_limits", "_law_flows"] (defScope sLinside) := ⟨rfl, rfl, rfl, by decide +kernel, rfl, by decide +kernel, by decide +kernel⟩
def spInside : Sp := fun vs H Q _ => ∃ (m a : Addr) (km kf : List Str) (lo hi fl : Str → Int), vs = [.ref m, .ref a] ∧ LmH H m km lo hi ∧ FlH H a kf fl ∧ kf.Perm km ∧ km.length ≤ 60 ∧ (∀ n ∈ km, PyData.strOk n = true) ∧ a ≠ m ∧ Giv (.bl (withinB km lo hi fl)) H Q
theorem ok_inside (d : Dn K mg "_law_inside" sLinside ["_law_limits", "_law_flows"]) (G : Glb mg) : Cal P w K mg base 1 "_law_inside" spInside [] := by
  refine d.cal scLinside (fun vs H Q E h => ?_) (fun f cdv A outer s H vs Q E hr h => ?_)
  · obtain ⟨m, a, km, kf, lo, hi, fl, rfl, _⟩ := h
    rfl
  · obtain ⟨m, a, km, kf, lo, hi, fl, rfl, ⟨g, hm, hg⟩, ha, pm, hz, hs, am, k⟩ := h
    refine ⟨_, (pss_cons (ps_if (pt_cmpR (op_neD hr.units) (pe_callB (call_sortedD rfl) (by rfl) G.sorted (by decide +kernel) (pa_cons (pv 1) pa_nil)) (pe_callB (call_sortedD rfl) (by rfl) G.sorted (by decide +kernel) (pa_cons (pv 0) pa_nil)) (nomark _)) (pss_one (ps_ret pe_bl)) pss_nil)
      (pss_one (ps_ret (pe_callB (cr_all rfl) (by rfl) G.all (by decide +kernel) (pa_cons (pe_lock (pe_lc (own := [("_law_name", 2)]) rfl scLinside.nd (pi_keys (pv 0)) (blkOk_by (N := nLinside) (sc := defScope sLinside) (by decide +kernel)) (fun _ _ _ _ _ => (pg_name (i := 2) scLinside.nd rfl (by first | exact .inl rfl | exact .inr rfl))) (fun _ _ _ _ _ => pts_nil) (fun _ _ _ _ _ => (pe_chain op_le op_le (pe_ix (ix_tupK K) (pe_dget (hu_of hr) (pv 0) (pv 2) (fun _ _ => rfl)) pe_int (fun _ _ => rfl)) (pe_dget (hu_of hr) (pv 1) (pv 2) (fun _ _ => rfl)) (pe_ix (ix_tupK K) (pe_dget (hu_of hr) (pv 0) (pv 2) (fun _ _ => rfl)) pe_int (fun _ _ => rfl)))))) pa_nil))))), ?_⟩
    have zf : kf.length ≤ 60 := by rw [pm.length_eq]; exact hz
    refine ⟨_, rfl, a, _, kf, rfl, .inl ha, dr_keys _ _, by omega, fun y1 p1 q1 s1 n1 => ?_⟩
    have e1 := Evl.Ex.new (o := .lst (y1.map V.str)) n1
    refine ⟨_, rfl, m, _, km, rfl, .inl (e1 _ _ hm), dr_keys _ _, by omega, fun y2 p2 q2 s2 n2 => ?_⟩
    have e2 := Evl.Ex.new (o := .lst (y2.map V.str)) n2
    have yy : y1 = y2 := sorted_unique ((q1.trans pm).trans q2.symm) s1 s2
    subst yy
    have sy : ∀ n ∈ y1, PyData.strOk n = true := fun n hn => hs n (q2.mem_iff.mp hn)
    refine ⟨_, _, .lst (SqL.of (e2 _ _ upd_same)) (dpAll_str y1), .lst (SqL.of upd_same) (dpAll_str y1), shaped_str sy, shaped_str sy, _, rfl, itF (by rw [eqD_str, decide_eq_true rfl]; rfl) ?_⟩
    have e02 := e1.trans e2
    generalize hH3 : upd (upd H p1 (.lst (y1.map V.str))) p2 (.lst (y1.map V.str)) = H3 at *
    have hm3 := e02 _ _ hm
    have hg3 : ∀ n ∈ km, H3 (g n) = some (.tup [.int (lo n), .int (hi n)]) := fun n hn => e02 _ _ (hg n hn)
    refine ⟨m, _, hm3, trivial, fun od => ⟨_, rfl, m, od, rfl, .inl ⟨_, upd_same, ?_⟩⟩⟩
    have hg4 : ∀ n ∈ km, (upd H3 m (.frz od (.dK (DR km fun n => .ref (g n))))) (g n) = some (.tup [.int (lo n), .int (hi n)]) := fun n hn => by
      rw [upd_ne (ne_of (hg3 n hn) hm3 (by intro z; cases z))]
      exact hg3 n hn
    have ha4 : FlH (upd H3 m (.frz od (.dK (DR km fun n => .ref (g n))))) a kf fl := by
      unfold FlH
      rw [upd_ne am]
      exact ha.mono e02
    refine lc_J (J := Itk m od _) (fun v (x : Str) _ => v = V.str x) (fun _ v b _ => v = V.bl b) (fun _ => std_bl) (fun n => some (decide (lo n ≤ fl n) && decide (fl n ≤ hi n))) (gv_keys upd_same) (by omega) (fun D x c H' T Y _ _ ex hc e _ hY => ?_) (fun D ys H' hn e hy hl => ?_)
    · subst ex
      have cf : c ∈ kf := pm.mem_iff.mpr hc
      refine ⟨rfl, _, rfl, _, rfl, m, _, rfl, dr_get (.inr ⟨od, e _ _ upd_same⟩) hc, g c, _, _, _, rfl, rfl, SqT.of (e _ _ (hg4 c hc)), rfl, ?_⟩
      refine ⟨_, rfl, _, rfl, a, _, rfl, dr_get (.inl (ha4.mono e)) cf, _, _, rfl, rfl, _, rfl, ?_⟩
      by_cases q1 : lo c ≤ fl c
      · refine itP q1 ?_
        refine ⟨_, rfl, _, rfl, m, _, rfl, dr_get (.inr ⟨od, e _ _ upd_same⟩) hc, g c, _, _, _, rfl, rfl, SqT.of (e _ _ (hg4 c hc)), rfl, _, _, rfl, rfl, ?_⟩
        exact hY _ rfl _ _ (Evl.Ex.refl _) (by rw [decide_eq_true q1, Bool.true_and])
      · exact itN q1 (hY _ rfl _ _ (Evl.Ex.refl _) (by rw [decide_eq_false q1, Bool.false_and]))
    · rw [filterMap_some] at hl
      have e4 := ex_unlock hm3 e
      have Dm : D ≠ m := fun q => by rw [q, upd_same] at hn; cases hn
      refine ⟨e _ _ upd_same, D, _, rfl, .inl (.inl (by rw [upd_ne Dm, hy, ls_bl hl])), ?_⟩
      rw [List.all_map]
      exact k _ (e02.trans e4)
abbrev sLare_good : Stmt := top 63
abbrev nLare_good : List Str := ["_law_plant_here", "_law_limits", "_law_flows"]
theorem scLare_good : FnScope nLare_good ["_law_plant_here", "_law_limits", "_law_flows"] (defScope sLare_good) := ⟨rfl, rfl, rfl, by decide +kernel, rfl, by decide +kernel, by decide +kernel⟩
def spGood : Sp := fun vs H Q _ => ∃ (pt m a : Addr) (kn : List Str) (ss : List Sm) (km kf : List Str) (lo hi fl : Str → Int), vs = [.ref pt, .ref m, .ref a] ∧ LP H pt kn ss ∧ PlOk kn ss ∧ LmH H m km lo hi ∧ FlH H a kf fl ∧ (∀ n, n ∈ kf ↔ n ∈ ss.map (·.n)) ∧ kf.Perm km ∧ km.length ≤ 60 ∧ (∀ n ∈ km, PyData.strOk n = true) ∧ a ≠ m ∧ Giv (.bl (withinB km lo hi fl && balancedB kn ss fl)) H Q
theorem ok_are_good (d : Dn K mg "_law_are_good" sLare_good ["_law_plant_here", "_law_limits", "_law_flows"]) (G : Glb mg) (c__law_inside : Cal P w K mg base 1 "_law_inside" spInside []) (c__law_balanced : Cal P w K mg base 2 "_law_balanced" spLbal []) : Cal P w K mg base 3 "_law_are_good" spGood [] := by
  refine d.cal scLare_good (fun vs H Q E h => ?_) (fun f cdv A outer s H vs Q E hr h => ?_)
  · obtain ⟨pt, m, a, kn, ss, km, kf, lo, hi, fl, rfl, _⟩ := h
    rfl
  · obtain ⟨pt, m, a, kn, ss, km, kf, lo, hi, fl, rfl, hp, ok, hm, ha, hk, pm, hz, hs, am, k⟩ := h
    refine ⟨_, (pss_one (ps_ret (pe_and (pe_callB call_isi (by rfl) G.isinstance (by decide +kernel) (pa_cons (pv 2) (pa_cons (pe_bltn (v := .ty "dict") (by rfl) G.dict boot_dict rfl) pa_nil))) (pe_and (pe_c c__law_inside hr (by decide) rfl (pa_cons (pv 1) (pa_cons (pv 2) pa_nil))) (pe_one (pe_c c__law_balanced hr (by decide) rfl (pa_cons (pv 0) (pa_cons (pv 2) pa_nil)))))))), ?_⟩
    refine ⟨_, rfl, _, _, _, _, true, rfl, .ty _, .base (.dK ha), rfl, _, rfl, itT rfl ?_⟩
    refine ⟨_, rfl, _, rfl, m, a, km, kf, lo, hi, fl, rfl, hm, ha, pm, hz, hs, am, fun H1 e1 => ⟨_, rfl, ?_⟩⟩
    cases q : withinB km lo hi fl with
    | false =>
      rw [q, Bool.false_and] at k
      exact itF rfl (k _ e1)
    | true =>
      rw [q, Bool.true_and] at k
      exact itT rfl ⟨_, rfl, _, rfl, pt, a, kn, ss, kf, fl, rfl, hp.mono e1, ok, ha.mono e1, hk, fun H2 e2 => k _ (e1.trans e2)⟩
abbrev sLpassing : Stmt := top 68
abbrev nLpassing : List Str := ["_law_plant_here", "_law_flows", "_law_knot", "_law_name", "_law_tail", "_law_head", "_law_low", "_law_high"]
theorem scLpassing : FnScope nLpassing ["_law_plant_here", "_law_flows", "_law_knot"] (defScope sLpassing) := ⟨rfl, rfl, rfl, by decide +kernel, rfl, by decide +kernel, by decide +kernel⟩
def spPassing : Sp := fun vs H Q _ => ∃ (pt a : Addr) (kn : List Str) (ss : List Sm) (kf : List Str) (fl : Str → Int) (x : Str), vs = [.ref pt, .ref a, .str x] ∧ LP H pt kn ss ∧ PlOk kn ss ∧ FlH H a kf fl ∧ (∀ n, n ∈ kf ↔ n ∈ ss.map (·.n)) ∧ Giv (.int (pass ss fl x)) H Q
theorem ok_passing (d : Dn K mg "_law_passing" sLpassing ["_law_plant_here", "_law_flows", "_law_knot"]) (G : Glb mg) : Cal P w K mg base 1 "_law_passing" spPassing [] := by
  refine d.cal scLpassing (fun vs H Q E h => ?_) (fun f cdv A outer s H vs Q E hr h => ?_)
  · obtain ⟨pt, a, kn, ss, kf, fl, x, rfl, _⟩ := h
    rfl
  · obtain ⟨pt, a, kn, ss, kf, fl, x, rfl, ⟨kl, sl, ws, h1, h2, h3, h4⟩, ok, ha, hk, k⟩ := h
    refine ⟨_, (pss_one (ps_ret (pe_callB (cr_sum rfl) (by rfl) G.sum (by decide +kernel) (pa_cons (pe_lc (own := [("_law_name", 3), ("_law_tail", 4), ("_law_head", 5), ("_law_low", 6), ("_law_high", 7)]) rfl scLpassing.nd (pi_list (pe_ix (ix_tupK K) (pv 0) pe_int (fun _ _ => rfl))) (blkOk_by (N := nLpassing) (sc := defScope sLpassing) (by decide +kernel)) (fun _ _ _ _ _ => (pg_tupK K (n := 5) rfl (pgs_cons (pg_name (i := 3) scLpassing.nd rfl (by first | exact .inl rfl | exact .inr rfl)) (pgs_cons (pg_name (i := 4) scLpassing.nd rfl (by first | exact .inl rfl | exact .inr rfl)) (pgs_cons (pg_name (i := 5) scLpassing.nd rfl (by first | exact .inl rfl | exact .inr rfl)) (pgs_cons (pg_name (i := 6) scLpassing.nd rfl (by first | exact .inl rfl | exact .inr rfl)) (pgs_cons (pg_name (i := 7) scLpassing.nd rfl (by first | exact .inl rfl | exact .inr rfl)) pgs_nil))))))) (fun _ _ _ _ _ => (pts_one (pt_cmpR op_eq (pv 5) (pv 2) (nomark _)))) (fun _ _ _ _ _ => (pe_dget (hu_of hr) (pv 1) (pv 3) (fun _ _ => rfl)))) pa_nil)))), ?_⟩
    refine ⟨_, rfl, pt, _, _, _, rfl, rfl, SqT.of h1, rfl, sl, rfl, ⟨_, SqL.of h3⟩, ?_⟩
    refine lc_J (J := Itl K sl) (TpR encS) (fun _ v x _ => v = V.int x) (fun _ => std_int) (fun s => if s.h = x then some (fl s.n) else none) (gv_list (SqL.of h3) h4) (by have := ok.su; omega) (fun D y c H' T Y _ _ ex hc e hT hY => ?_) (fun D ys H' hn e hy hl => ?_)
    · obtain ⟨t, rfl, ht⟩ := ex
      refine ⟨t, _, rfl, SqT.of (e _ _ ht), rfl, _, _, rfl, _, _, rfl, _, _, rfl, _, _, rfl, _, _, rfl, rfl, ?_, ?_⟩
      · simp only [wipe, L2.start, nLpassing, List.map_cons, List.map_nil, List.length_cons, List.length_nil, List.replicate, List.cons_append, List.nil_append, List.set_cons_succ, List.set_cons_zero, Nat.reduceAdd, Nat.reduceSub]
      refine ⟨_, rfl, _, rfl, rfl, _, rfl, ?_⟩
      by_cases q : c.h = x
      · exact itT (decide_eq_true (congrArg V.str q)) ⟨_, rfl, _, rfl, a, _, rfl, dr_get (.inl (ha.mono e)) ((hk _).mpr (List.mem_map_of_mem hc)), hY _ (if_pos q) _ _ (Evl.Ex.refl _) rfl⟩
      · exact itF (decide_eq_false fun z => q (V.str.inj z)) (hT (if_neg q) _ (Evl.Ex.refl _))
    · rw [fm_if (fun s : Sm => s.h = x) (fun s => fl s.n)] at hl
      exact ⟨D, _, rfl, .inl (.inl (by rw [hy, ls_int hl])), k _ e⟩
abbrev sLdrawn_limits : Stmt := top 58
abbrev nLdrawn_limits : List Str := ["_law_numbers_here", "_law_at", "_law_plant_here", "_law_flows", "_law_limits", "_law_k", "_law_first", "_law_name", "_law_middle", "_law_low"]
theorem scLdrawn_limits : FnScope nLdrawn_limits ["_law_numbers_here", "_law_at", "_law_plant_here", "_law_flows"] (defScope sLdrawn_limits) := ⟨rfl, rfl, rfl, by decide +kernel, rfl, by decide +kernel, by decide +kernel⟩
def Bnd (ks : List Str) (lo hi : Str → Int) : Prop := ∀ n ∈ ks, -100000 ≤ lo n ∧ lo n ≤ 100000 ∧ -100000 ≤ hi n ∧ hi n ≤ 100000
def spDrawn : Sp := fun vs H Q _ => ∃ (a : Addr) (ns : List Int) (pt dd : Addr) (kn : List Str) (ss : List Sm) (fl : Str → Int), vs = [.ref a, .int 60, .ref pt, .ref dd] ∧ NsR H a ns ∧ LP H pt kn ss ∧ PlOk kn ss ∧ ss.length ≤ 6 ∧ FlH H dd (ss.map (·.n)) fl ∧ (∀ n, 0 ≤ fl n ∧ fl n ≤ 10000) ∧
  ∀ m lo hi H', H m = none → Ex H H' → LmH H' m (ss.map (·.n)) lo hi → Bnd (ss.map (·.n)) lo hi → Q (.ref m) H'
theorem ok_drawn (d : Dn K mg "_law_drawn_limits" sLdrawn_limits ["_law_numbers_here", "_law_at", "_law_plant_here", "_law_flows"]) (G : Glb mg) : Cal P w K mg base 1 "_law_drawn_limits" spDrawn [] := by
  refine d.cal scLdrawn_limits (fun vs H Q E h => ?_) (fun f cdv A outer s H vs Q E hr h => ?_)
  · obtain ⟨a, ns, pt, dd, kn, ss, fl, rfl, _⟩ := h
    rfl
  · obtain ⟨a, ns, pt, dd, kn, ss, fl, rfl, ha, ⟨kl, sl, ws, h1, h2, h3, h4⟩, ok, hz, hF, hfl, k⟩ := h
    refine ⟨_, (pss_cons (ps_set (i := 4) scLdrawn_limits.nd rfl (by first | exact .inl rfl | exact .inr rfl) pe_dnewK)
      (pss_cons (ps_for PassesOwn.never rfl (pi_range1 rfl G.range (pa_cons (pe_callB (len_seqK K) (by rfl) G.len (by decide +kernel) (pa_cons (pe_ix (ix_tupK K) (pv 2) pe_int (fun _ _ => rfl)) pa_nil)) pa_nil)) (pg_name (i := 5) scLdrawn_limits.nd rfl (by first | exact .inl rfl | exact .inr rfl))
      (pss_cons (ps_set (i := 6) scLdrawn_limits.nd rfl (by first | exact .inl rfl | exact .inr rfl) (pe_callTy call_int1 (by rfl) G.int (by decide +kernel) (pa_cons (pe_ix (ix_listK K) (pv 0) (pe_op op_add (pv 1) (pv 5)) (fun _ _ => rfl)) pa_nil)))
      (pss_cons (ps_set (i := 7) scLdrawn_limits.nd rfl (by first | exact .inl rfl | exact .inr rfl) (pe_ix (ix_tupK K) (pe_ix (ix_listK K) (pe_ix (ix_tupK K) (pv 2) pe_int (fun _ _ => rfl)) (pv 5) (fun _ _ => rfl)) pe_int (fun _ _ => rfl)))
      (pss_cons (ps_set (i := 8) scLdrawn_limits.nd rfl (by first | exact .inl rfl | exact .inr rfl) (pe_op op_add (pe_dget (hu_of hr) (pv 3) (pv 7) (fun _ _ => rfl)) (pe_op op_mul pe_int (pe_callTy call_int1 (by rfl) G.int (by decide +kernel) (pa_cons (pe_cmpR op_eq (pe_op op_mod (pe_callTy call_int1 (by rfl) G.int (by decide +kernel) (pa_cons (pv 6) pa_nil)) pe_int) pe_int (nomark _)) pa_nil)))))
      (pss_cons (ps_set (i := 9) scLdrawn_limits.nd rfl (by first | exact .inl rfl | exact .inr rfl) (pe_op op_sub (pv 8) (pe_op op_mod (pe_callTy call_int1 (by rfl) G.int (by decide +kernel) (pa_cons (pv 6) pa_nil)) pe_int)))
      (pss_one (ps_dput (hu_of hr) (pv 4) (pv 7) (pe_tup (pa_cons (pv 9) (pa_cons (pe_op op_sub (pe_op op_add (pv 8) (pe_op op_mod (pe_callTy call_int1 (by rfl) G.int (by decide +kernel) (pa_cons (pe_op op_fdiv (pv 6) pe_int) pa_nil)) pe_int)) (pe_op op_mul pe_int (pe_callTy call_int1 (by rfl) G.int (by decide +kernel) (pa_cons (pe_cmpR op_eq (pe_op op_mod (pe_callTy call_int1 (by rfl) G.int (by decide +kernel) (pa_cons (pv 6) pa_nil)) pe_int) pe_int (nomark _)) pa_nil)))) pa_nil))) rfl)))))))
      (pss_one (ps_ret (pv 4))))), ?_⟩
    refine fun D nD => ?_
    have eD := Evl.Ex.new (o := .dK []) nD
    refine ⟨_, rfl, pt, _, _, _, rfl, rfl, SqT.of (eD _ _ h1), rfl, sl, _, rfl, .inl (SqL.of (eD _ _ h3)), _, rfl, by have := h4.1; omega, by have := h4.1; omega, ?_⟩
    rw [show ((ws.length : Nat) : Int).toNat = ws.length from Int.toNat_natCast _]
    refine for_J (J := Itr 0 ws.length) (B := H) gv_range (fun i σ H' => (∃ o5 o6 o7 o8 o9, σ = [some (.ref a), some (.int 60), some (.ref pt), some (.ref dd), some (.ref D), o5, o6, o7, o8, o9]) ∧ Ex H H' ∧ ∃ lo hi, LmH H' D ((ss.take i).map (·.n)) lo hi ∧ Bnd ((ss.take i).map (·.n)) lo hi)
      ⟨⟨_, _, _, _, _, rfl⟩, eD, fun _ => 0, fun _ => 0, ⟨fun _ => D, upd_same, by simp⟩, by intro n hn; simp at hn⟩ (fun i σ H' h => h.2.1) (fun i x y σ H' hc hx hI => ?_) (fun σ H' hI => ?_)
    · obtain ⟨⟨o5, o6, o7, o8, o9, rfl⟩, e, lo, hi, ⟨g, hD, hg⟩, hb⟩ := hI
      subst hx
      have hi' := (List.getElem?_eq_some_iff.mp hc).1
      rw [List.length_range] at hi'
      have yi : y = i := by
        rw [List.getElem?_range hi'] at hc
        exact (Option.some.inj hc).symm
      subst yi
      have hi2 : y < ss.length := by rw [← h4.1]; exact hi'
      obtain ⟨q, hq, q0, q1⟩ := (ha.mono e).at_ (i := (60 : Int) + (y : Nat)) (j := 60 + y) (by omega) (by omega)
      obtain ⟨c, hc', t, ev, ht⟩ := h4.2 y ws[y] (List.getElem?_eq_getElem hi')
      have cm : c.n ∈ ss.map (·.n) := List.mem_map_of_mem (List.mem_of_getElem? hc')
      have atL : atI ws ((y : Nat) : Int) = some (.ref t) := atI_nat (by rw [List.getElem?_eq_getElem hi', ev])
      refine ⟨_, rfl, _, rfl, _, rfl, _, _, rfl, rfl, a, _, _, _, rfl, rfl, SqL.of (ha.mono e).h, hq, .inl ⟨_, rfl, ?_⟩⟩
      refine ⟨_, rfl, pt, _, _, _, rfl, rfl, SqT.of (e _ _ h1), rfl, _, rfl, sl, _, _, _, rfl, rfl, SqL.of (e _ _ h3), atL, t, _, _, _, rfl, rfl, SqT.of (e _ _ ht), rfl, ?_⟩
      -- middle
      refine ⟨_, rfl, _, rfl, dd, _, rfl, dr_get (.inl (hF.mono e)) cm, _, rfl, .inl ⟨_, rfl, _, _, rfl, rfl, (by show (0 : Int) < _; decide), rfl, .inr ⟨_, rfl, _, _, rfl, rfl, .inl ⟨by decide, by decide⟩, _, _, rfl, rfl, ?_⟩⟩⟩
      dsimp only
      generalize hmid : fl c.n + 3 * (if decide (V.int (q % 23) = V.int 5) = true then 1 else 0) = mid at *
      have hmid2 : 0 ≤ mid ∧ mid ≤ 10003 := by
        have := hfl c.n
        rw [← hmid]
        split <;> omega
      -- low
      refine ⟨_, rfl, _, rfl, .inl ⟨_, rfl, _, _, rfl, rfl, (by show (0 : Int) < _; decide), _, _, rfl, rfl, ?_⟩⟩
      -- put
      refine ⟨_, rfl, _, rfl, _, rfl, _, _, rfl, rfl, ⟨by decide, by decide⟩, .inl ⟨_, rfl, _, _, rfl, rfl, (by show (0 : Int) < _; decide), _, _, rfl, rfl, _, rfl, .inl ⟨_, rfl, _, _, rfl, rfl, (by show (0 : Int) < _; decide), rfl, .inr ⟨_, rfl, _, _, rfl, rfl, .inl ⟨by decide, by decide⟩, _, _, rfl, rfl, sz1 (by show 2 ≤ 100000; decide), fun p np => ?_⟩⟩⟩⟩
      have no : c.n ∉ (ss.take y).map (·.n) := fun q => by
        have h2 : ((ss.take (y + 1)).map (·.n)).Nodup := List.Sublist.nodup ((List.take_sublist _ _).map _) ok.snd
        rw [take_snoc hc', List.map_append] at h2
        exact (List.nodup_append.mp h2).2.2 _ q c.n (by simp) rfl
      have pD : p ≠ D := fun z => by rw [z, hD] at np; cases np
      refine ⟨_, rfl, _, rfl, D, _, rfl, dr_add (by rw [upd_ne pD.symm]; exact hD) no (by rw [List.length_map, List.length_take]; omega), ⟨_, _, _, _, _, rfl⟩, Evl.Ex.mut (e.trans (Evl.Ex.new np)) nD, (fun m => if m = c.n then mid - q % 5 else lo m), (fun m => if m = c.n then mid + q / 5 % 5 - 9 * (if decide (V.int (q % 97) = V.int 11) = true then 1 else 0) else hi m), ?_, ?_⟩
      · rw [take_snoc hc', List.map_append]
        exact lm_add hD hg no np
      · rw [take_snoc hc', List.map_append]
        intro n hn
        have m0 := Int.emod_nonneg q (show (5 : Int) ≠ 0 by decide)
        have m1 := Int.emod_lt_of_pos q (show (0 : Int) < 5 by decide)
        have m2 := Int.emod_nonneg (q / 5) (show (5 : Int) ≠ 0 by decide)
        have m3 := Int.emod_lt_of_pos (q / 5) (show (0 : Int) < 5 by decide)
        by_cases en : n = c.n
        · simp only [if_pos en]
          split <;> omega
        · simp only [if_neg en]
          rcases List.mem_append.mp hn with hn | hn
          · exact hb n hn
          · exact absurd (List.mem_singleton.mp hn) en
    · obtain ⟨⟨o5, o6, o7, o8, o9, rfl⟩, e, lo, hi, hL, hb⟩ := hI
      rw [List.length_range, h4.1, List.take_length] at hL hb
      exact ⟨_, rfl, k D lo hi H' nD e hL hb⟩
end
end Ms

set_option maxHeartbeats 4000000
namespace Ms
open PySem PySem.Spec PyProof.Rows L2
open Evl (Ex)
open C8 (Cal Mak Met pe_c pe_mk pe_mt pe_mt0 pe_gc)
theorem gv_rangeL {lo : Int} {n : Nat} {H1 : Hp} : Gv (Itr lo n) H1 (fun v i _ => v = .int (lo + (i : Nat))) (List.range n) where
  go := fun i H e hi => by
    show i < n
    simpa using hi
  stop := fun H e => by
    show n ≤ _
    simp
  yld := fun i H v H' e hi y => by
    obtain ⟨rfl, q⟩ := y
    have hi : i < n := by simpa using hi
    exact ⟨rfl, i, List.getElem?_range hi, q⟩
/-- lists of texts by reference -/
def LoR (v : V) (lot : List Str) (H : Hp) : Prop := ∃ r, v = .ref r ∧ H r = some (.lst (lot.map V.str))
theorem stb_lo : Stb LoR := fun _ _ _ _ e ⟨r, h1, h2⟩ => ⟨r, h1, e _ _ h2⟩
/-- flows in dicts by reference -/
def RwR (ks : List Str) (v : V) (f : Str → Int) (H : Hp) : Prop := ∃ r, v = .ref r ∧ FlH H r ks f
theorem stb_rw {ks : List Str} : Stb (RwR ks) := fun _ _ _ _ e ⟨r, h1, h2⟩ => ⟨r, h1, e _ _ h2⟩
theorem std_rw {ks : List Str} {D : Addr} : StbD D (RwR ks) := fun v x H H' ⟨l, hl⟩ e ⟨r, h1, h2⟩ => ⟨r, h1, e _ _ (ne_of h2 hl (by intro z; cases z)) h2⟩
section
variable {P : Program} {w : World} {K : PySem.W.Frag} {mg : Str → Option Value} {base : Heap} {C M R : Addr}
abbrev sLnarrow : Stmt := top 66
abbrev nLnarrow : List Str := ["_law_limits", "_law_numbers_here", "_law_at", "_law_found", "_law_names_here", "_law_k", "_law_low", "_law_high"]
theorem scLnarrow : FnScope nLnarrow ["_law_limits", "_law_numbers_here", "_law_at"] (defScope sLnarrow) := ⟨rfl, rfl, rfl, by decide +kernel, rfl, by decide +kernel, by decide +kernel⟩
def spNarrow : Sp := fun vs H Q _ => ∃ (m a : Addr) (ns : List Int) (ks : List Str) (lo hi : Str → Int), vs = [.ref m, .ref a, .int 75] ∧ NsR H a ns ∧ LmH H m ks lo hi ∧ ks.Nodup ∧ ks.length ≤ 6 ∧ Bnd ks lo hi ∧
  ∀ dd ys lo' hi' H', H dd = none → Ex H H' → LmH H' dd ys lo' hi' → ys.Perm ks → Bnd ys lo' hi' → (∀ n ∈ ys, hi' n ≤ lo' n + 2) → Q (.ref dd) H'
theorem ok_narrow (d : Dn K mg "_law_narrow" sLnarrow ["_law_limits", "_law_numbers_here", "_law_at"]) (G : Glb mg) : Cal P w K mg base 1 "_law_narrow" spNarrow [] := by
  refine d.cal scLnarrow (fun vs H Q E h => ?_) (fun f cdv A outer s H vs Q E hr h => ?_)
  · obtain ⟨m, a, ns, ks, lo, hi, rfl, _⟩ := h
    rfl
  · obtain ⟨m, a, ns, ks, lo, hi, rfl, ha, ⟨g, hm, hg⟩, nd, hz, hb, k⟩ := h
    refine ⟨_, (pss_cons (ps_set (i := 3) scLnarrow.nd rfl (by first | exact .inl rfl | exact .inr rfl) pe_dnewK)
      (pss_cons (ps_set (i := 4) scLnarrow.nd rfl (by first | exact .inl rfl | exact .inr rfl) (pe_callB (call_sortedD rfl) (by rfl) G.sorted (by decide +kernel) (pa_cons (pv 0) pa_nil)))
      (pss_cons (ps_for PassesOwn.never rfl (pi_range1 rfl G.range (pa_cons (pe_callB (len_seqK K) (by rfl) G.len (by decide +kernel) (pa_cons (pv 4) pa_nil)) pa_nil)) (pg_name (i := 5) scLnarrow.nd rfl (by first | exact .inl rfl | exact .inr rfl))
      (pss_cons (ps_asg (pe_dget (hu_of hr) (pv 0) (pe_ix (ix_listK K) (pv 4) (pv 5) (fun _ _ => rfl)) (fun _ _ => rfl)) (pg_tupK K (n := 2) rfl (pgs_cons (pg_name (i := 6) scLnarrow.nd rfl (by first | exact .inl rfl | exact .inr rfl)) (pgs_cons (pg_name (i := 7) scLnarrow.nd rfl (by first | exact .inl rfl | exact .inr rfl)) pgs_nil))))
      (pss_one (ps_dput (hu_of hr) (pv 3) (pe_ix (ix_listK K) (pv 4) (pv 5) (fun _ _ => rfl)) (pe_tup (pa_cons (pv 6) (pa_cons (pe_callB (call_min2 rfl) (by rfl) G.min (by decide +kernel) (pa_cons (pv 7) (pa_cons (pe_op op_add (pv 6) (pe_op op_mod (pe_callTy call_int1 (by rfl) G.int (by decide +kernel) (pa_cons (pe_ix (ix_listK K) (pv 1) (pe_op op_add (pv 2) (pv 5)) (fun _ _ => rfl)) pa_nil)) pe_int)) pa_nil))) pa_nil))) rfl))))
      (pss_one (ps_ret (pv 3)))))), ?_⟩
    refine fun D nD => ?_
    have eD := Evl.Ex.new (o := .dK []) nD
    refine ⟨_, rfl, m, _, ks, rfl, .inl (eD _ _ hm), dr_keys _ _, by omega, fun ys p1 pm srt np => ?_⟩
    have ndy : ys.Nodup := pm.nodup_iff.mpr nd
    have zy : ys.length ≤ 6 := by rw [pm.length_eq]; exact hz
    have eP := eD.trans (Evl.Ex.new (o := .lst (ys.map V.str)) np)
    have nD1 : D ≠ p1 := fun z => by rw [← z, upd_same] at np; cases np
    have hN : (upd (upd H D (.dK [])) p1 (.lst (ys.map V.str))) p1 = some (.lst (ys.map V.str)) := upd_same
    refine ⟨_, rfl, p1, _, rfl, .inl (SqL.of hN), _, rfl, by rw [List.length_map]; omega, by rw [List.length_map]; omega, ?_⟩
    rw [List.length_map, show ((ys.length : Nat) : Int).toNat = ys.length from Int.toNat_natCast _]
    have hwoN : (wo (upd (upd H D (.dK [])) p1 (.lst (ys.map V.str))) D) p1 = some (.lst (ys.map V.str)) := by rw [wo_ne nD1.symm]; exact hN
    have eHw : Ex H (wo (upd (upd H D (.dK [])) p1 (.lst (ys.map V.str))) D) := fun b o hb => by
      rw [wo_ne (ne_of_none hb nD)]
      exact eP _ _ hb
    refine for_J (J := Itr 0 ys.length) (B := wo (upd (upd H D (.dK [])) p1 (.lst (ys.map V.str))) D) gv_range (fun i σ H' => (∃ o5 o6 o7, σ = [some (.ref m), some (.ref a), some (.int 75), some (.ref D), some (.ref p1), o5, o6, o7]) ∧ Ex (wo (upd (upd H D (.dK [])) p1 (.lst (ys.map V.str))) D) H' ∧ ∃ lo' hi', LmH H' D (ys.take i) lo' hi' ∧ Bnd (ys.take i) lo' hi' ∧ ∀ n ∈ ys.take i, hi' n ≤ lo' n + 2)
      ⟨⟨_, _, _, rfl⟩, wo_ex, fun _ => 0, fun _ => 0, ⟨fun _ => D, by rw [upd_ne nD1, upd_same]; rfl, by simp⟩, by intro n hn; simp at hn, by simp⟩ (fun i σ H' h => h.2.1) (fun i x y σ H' hc hx hI => ?_) (fun σ H' hI => ?_)
    · obtain ⟨⟨o5, o6, o7, rfl⟩, e, lo', hi', ⟨g', hD, hg'⟩, hb', hle⟩ := hI
      subst hx
      have hi2 := (List.getElem?_eq_some_iff.mp hc).1
      rw [List.length_range] at hi2
      have yi : y = i := by
        rw [List.getElem?_range hi2] at hc
        exact (Option.some.inj hc).symm
      subst yi
      have e0 := eHw.trans e
      obtain ⟨q, hq, q0, q1⟩ := (ha.mono e0).at_ (i := (75 : Int) + (y : Nat)) (j := 75 + y) (by omega) (by omega)
      have hcy : ys[y]? = some ys[y] := List.getElem?_eq_getElem hi2
      have nk : ys[y] ∈ ks := pm.mem_iff.mp (List.getElem_mem hi2)
      have atN : atI (ys.map V.str) ((y : Nat) : Int) = some (.str ys[y]) := atI_nat (by rw [List.getElem?_map, hcy]; rfl)
      refine ⟨_, rfl, _, rfl, _, rfl, p1, _, _, _, rfl, rfl, SqL.of (e _ _ hwoN), atN, m, _, rfl, dr_get (.inl (e0 _ _ hm)) nk, g ys[y], _, rfl, SqT.of (e0 _ _ (hg _ nk)), rfl, _, _, rfl, _, _, rfl, rfl, ?_⟩
      refine ⟨_, rfl, _, rfl, _, rfl, _, rfl, _, rfl, _, rfl, _, _, rfl, rfl, a, _, _, _, rfl, rfl, SqL.of (ha.mono e0).h, hq, .inl ⟨_, rfl, _, _, rfl, rfl, (by show (0 : Int) < _; decide), _, _, rfl, rfl, _, _, rfl, sz1 (by show 2 ≤ 100000; decide), fun p np2 => ?_⟩⟩
      have no : ys[y] ∉ ys.take y := fun q => by
        have h2 : (ys.take (y + 1)).Nodup := List.Sublist.nodup (List.take_sublist _ _) ndy
        rw [take_snoc hcy] at h2
        exact (List.nodup_append.mp h2).2.2 _ q ys[y] (by simp) rfl
      have pD : p ≠ D := fun z => by rw [z, hD] at np2; cases np2
      refine ⟨_, rfl, _, rfl, _, rfl, p1, _, _, _, rfl, rfl, SqL.of (Evl.Ex.new np2 _ _ (e _ _ hwoN)), atN, D, _, rfl, dr_add (by rw [upd_ne pD.symm]; exact hD) no (by rw [List.length_take]; omega), ⟨_, _, _, rfl⟩, Evl.Ex.mut (e.trans (Evl.Ex.new np2)) wo_none, (fun n => if n = ys[y] then lo ys[y] else lo' n), (fun n => if n = ys[y] then (if lo ys[y] + q % 3 < hi ys[y] then lo ys[y] + q % 3 else hi ys[y]) else hi' n), ?_, ?_, ?_⟩
      · rw [take_snoc hcy]
        exact lm_add hD hg' no np2
      · rw [take_snoc hcy]
        intro n hn
        have m0 := Int.emod_nonneg q (show (3 : Int) ≠ 0 by decide)
        have m1 := Int.emod_lt_of_pos q (show (0 : Int) < 3 by decide)
        have b0 := hb _ nk
        by_cases en : n = ys[y]
        · simp only [if_pos en]
          split <;> omega
        · simp only [if_neg en]
          rcases List.mem_append.mp hn with hn | hn
          · exact hb' n hn
          · exact absurd (List.mem_singleton.mp hn) en
      · rw [take_snoc hcy]
        intro n hn
        have m0 := Int.emod_nonneg q (show (3 : Int) ≠ 0 by decide)
        have m1 := Int.emod_lt_of_pos q (show (0 : Int) < 3 by decide)
        by_cases en : n = ys[y]
        · simp only [if_pos en]
          split <;> omega
        · simp only [if_neg en]
          rcases List.mem_append.mp hn with hn | hn
          · exact hle n hn
          · exact absurd (List.mem_singleton.mp hn) en
    · obtain ⟨⟨o5, o6, o7, rfl⟩, e, lo', hi', hL, hb', hle⟩ := hI
      rw [List.length_range, List.take_length] at hL hb' hle
      exact ⟨_, rfl, k D ys lo' hi' H' nD (eHw.trans e) hL pm hb' hle⟩
abbrev sLlots : Stmt := top 59
abbrev nLlots : List Str := ["_law_plant_here", "_law_lots_here", "_law_knot", "_law_lot"]
theorem scLlots : FnScope nLlots ["_law_plant_here"] (defScope sLlots) := ⟨rfl, rfl, rfl, by decide +kernel, rfl, by decide +kernel, by decide +kernel⟩
def spLots : Sp := fun vs H Q _ => ∃ (pt : Addr) (kn : List Str) (ss : List Sm), vs = [.ref pt] ∧ LP H pt kn ss ∧ kn.length ≤ 4 ∧
  ∀ L ws (lots : List (List Str)) H', H L = none → Ex H H' → H' L = some (.lst ws) → LsR LoR H' ws lots → lots.length ≤ 16 → (∀ lot ∈ lots, lot.length ≤ 4 ∧ ∀ y ∈ lot, y ∈ kn) → Q (.ref L) H'
theorem ok_lots (d : Dn K mg "_law_lots" sLlots ["_law_plant_here"]) (G : Glb mg) : Cal P w K mg base 1 "_law_lots" spLots [] := by
  refine d.cal scLlots (fun vs H Q E h => ?_) (fun f cdv A outer s H vs Q E hr h => ?_)
  · obtain ⟨pt, kn, ss, rfl, _⟩ := h
    rfl
  · obtain ⟨pt, kn, ss, rfl, ⟨kl, sl, ws, h1, h2, h3, h4⟩, hz, k⟩ := h
    refine ⟨_, (pss_cons (ps_set (i := 1) scLlots.nd rfl (by first | exact .inl rfl | exact .inr rfl) (pe_lst (pa_cons (pe_lst pa_nil) pa_nil)))
      (pss_cons (ps_for PassesOwn.never rfl (pi_list (pe_callB cr_sortedS (by rfl) G.sorted (by decide +kernel) (pa_cons (pe_ix (ix_tupK K) (pv 0) pe_int (fun _ _ => rfl)) pa_nil))) (pg_name (i := 2) scLlots.nd rfl (by first | exact .inl rfl | exact .inr rfl))
      (pss_one (ps_set (i := 1) scLlots.nd rfl (by first | exact .inl rfl | exact .inr rfl) (pe_op op_cat (pv 1) (pe_lc (own := [("_law_lot", 3)]) rfl scLlots.nd (pi_list (pv 1)) (blkOk_by (N := nLlots) (sc := defScope sLlots) (by decide +kernel)) (fun _ _ _ _ _ => (pg_name (i := 3) scLlots.nd rfl (by first | exact .inl rfl | exact .inr rfl))) (fun _ _ _ _ _ => pts_nil) (fun _ _ _ _ _ => (pe_op op_cat (pv 3) (pe_lst (pa_cons (pv 2) pa_nil)))))))))
      (pss_one (ps_ret (pv 1))))), ?_⟩
    refine ⟨Nat.zero_le _, fun E0 nE => ⟨sz1 (by show 1 ≤ 100000; decide), fun L nL => ?_⟩⟩
    have e1 := (Evl.Ex.new (o := .lst []) nE).trans (Evl.Ex.new (o := .lst [.ref E0]) nL)
    refine ⟨_, rfl, pt, _, _, _, rfl, rfl, SqT.of (e1 _ _ h1), rfl, kl, kn, rfl, SqL.of (e1 _ _ h2), by omega, fun ys p1 pm srt np => ?_⟩
    have e2 := e1.trans (Evl.Ex.new (o := .lst (ys.map V.str)) np)
    have zy : ys.length ≤ 4 := by rw [pm.length_eq]; exact hz
    have hE0 : (upd (upd (upd H E0 (.lst [])) L (.lst [.ref E0])) p1 (.lst (ys.map V.str))) E0 = some (.lst (([] : List Str).map V.str)) := Evl.Ex.new np _ _ (Evl.Ex.new nL _ _ upd_same)
    have hL0 : (upd (upd (upd H E0 (.lst [])) L (.lst [.ref E0])) p1 (.lst (ys.map V.str))) L = some (.lst [.ref E0]) := Evl.Ex.new np _ _ upd_same
    have hp1 : (upd (upd (upd H E0 (.lst [])) L (.lst [.ref E0])) p1 (.lst (ys.map V.str))) p1 = some (.lst (ys.map V.str)) := upd_same
    have nL0 : H L = none := Ex.free (Evl.Ex.new nE) nL
    generalize hH1 : upd (upd (upd H E0 (.lst [])) L (.lst [.ref E0])) p1 (.lst (ys.map V.str)) = H1 at *
    refine ⟨p1, rfl, ⟨_, SqL.of hp1⟩, ?_⟩
    refine for_J (J := Itl K p1) (B := H1) (gv_list (SqL.of hp1) (str_ls _ ys)) (fun i σ H' => Ex H1 H' ∧ i ≤ 4 ∧ ∃ L o2 o3 ws lots, σ = [some (.ref pt), some (.ref L), o2, o3] ∧ H L = none ∧ H' L = some (.lst ws) ∧ LsR LoR H' ws lots ∧ lots.length ≤ 2 ^ i ∧ ∀ lot ∈ lots, lot.length ≤ i ∧ ∀ y ∈ lot, y ∈ kn)
      ⟨Evl.Ex.refl _, Nat.zero_le _, L, _, _, _, [[]], rfl, nL0, hL0, LsR.nil.cons ⟨E0, rfl, hE0⟩, by decide, fun lot hl => by rw [List.mem_singleton] at hl; subst hl; exact ⟨Nat.le_refl _, by simp⟩⟩ (fun i σ H' h => h.1) (fun i x c σ H' hc hx hI => ?_) (fun σ H' hI => ?_)
    · obtain ⟨e, hi4, L2, o2, o3, us, lots, rfl, nL2, hL2, hl2, zl, pl⟩ := hI
      subst hx
      have hi := (List.getElem?_eq_some_iff.mp hc).1
      have ckn : c ∈ kn := pm.mem_iff.mp (List.mem_of_getElem? hc)
      have p16 : 2 ^ i ≤ 16 := Nat.pow_le_pow_right (n := 2) (by decide) (show i ≤ 4 by omega)
      refine ⟨_, rfl, _, rfl, L2, rfl, ⟨_, SqL.of hL2⟩, ?_⟩
      refine lc_J (J := Itl K L2) LoR (fun D v lot H => ∃ r, v = .ref r ∧ r ≠ D ∧ H r = some (.lst (lot.map V.str))) (fun D v x H H' _ e h => by obtain ⟨r, h1, h2, h3⟩ := h; exact ⟨r, h1, h2, e _ _ h2 h3⟩) (fun lot => some (lot ++ [c])) (gv_list (SqL.of hL2) hl2) (by omega) (fun D x lot H'' T Y nD hD ex hcl e' hT hY => ?_) (fun D zs H2 nD e3 hD hlD => ?_)
      · obtain ⟨r, rfl, hr⟩ := ex
        have zlot := (pl lot hcl).1
        refine ⟨rfl, _, rfl, _, rfl, sz1 (by show 1 ≤ 100000; decide), fun q nq => ?_⟩
        refine ⟨r, q, _, _, rfl, rfl, Evl.Ex.new nq _ _ (e' _ _ hr), upd_same, sz1 (by rw [List.length_map]; show lot.length + 1 ≤ 100000; omega), fun u nu => ?_⟩
        obtain ⟨l0, hD⟩ := hD
        refine hY _ rfl _ _ ((Evl.Ex.new nq).trans (Evl.Ex.new nu)) ⟨u, rfl, fun z => ?_, by rw [upd_same, List.map_append]; rfl⟩
        rw [z, Evl.Ex.new nq _ _ hD] at nu
        cases nu
      · rw [filterMap_some] at hlD
        have hlD2 : LsR LoR H2 zs (lots.map fun lot => lot ++ [c]) := ⟨hlD.1, fun j v hv => by
          obtain ⟨x, hx, r, q1, _, q3⟩ := hlD.2 j v hv
          exact ⟨x, hx, r, q1, q3⟩⟩
        have zz : zs.length = us.length := by rw [hlD.1, List.length_map, hl2.1]
        have zus : us.length = lots.length := hl2.1
        refine ⟨L2, D, _, _, rfl, rfl, e3 _ _ hL2, hD, sz1 (by omega), fun R nR => ?_⟩
        have eR := e3.trans (Evl.Ex.new (o := .lst (us ++ zs)) nR)
        refine ⟨e.trans eR, by omega, R, _, _, us ++ zs, lots ++ lots.map (fun lot => lot ++ [c]), rfl, Ex.free (e2.trans (e.trans e3)) nR, upd_same, ((hl2.mono stb_lo e3).app hlD2).mono stb_lo (Evl.Ex.new nR), ?_, fun lot hl => ?_⟩
        · rw [List.length_append, List.length_map, Nat.pow_succ]
          omega
        · rcases List.mem_append.mp hl with hl | hl
          · obtain ⟨b1, b2⟩ := pl lot hl
            exact ⟨by omega, b2⟩
          · obtain ⟨l0, hl0, rfl⟩ := List.mem_map.mp hl
            obtain ⟨b1, b2⟩ := pl l0 hl0
            refine ⟨by rw [List.length_append, List.length_singleton]; omega, fun y hy => ?_⟩
            rcases List.mem_append.mp hy with hy | hy
            · exact b2 y hy
            · rw [List.mem_singleton] at hy
              exact hy ▸ ckn
    · obtain ⟨e, hi4, L2, o2, o3, us, lots, rfl, nL2, hL2, hl2, zl, pl⟩ := hI
      refine ⟨_, rfl, k L2 us lots H' nL2 (e2.trans e) hL2 hl2 ?_ fun lot hl => ?_⟩
      · exact Nat.le_trans zl (Nat.pow_le_pow_right (n := 2) (by decide) hi4)
      · obtain ⟨b1, b2⟩ := pl lot hl
        exact ⟨by omega, b2⟩
end
end Ms

set_option maxHeartbeats 4000000
namespace Ms
open PySem PySem.Spec PyProof.Rows L2
open Evl (Ex)
open C8 (Cal Mak Met pe_c pe_mk pe_mt pe_mt0 pe_gc)
theorem exc_congr {ss : List Sm} {f g : Str → Int} (h : ∀ s ∈ ss, f s.n = g s.n) (k : Str) : MsM.exc (lnS ss) f k = MsM.exc (lnS ss) g k := by
  apply MsM.sumOf_congr
  intro l hl
  obtain ⟨s, hs, rfl⟩ := List.mem_map.mp hl
  show (if s.h = k then f s.n else 0) - (if s.t = k then f s.n else 0) = (if s.h = k then g s.n else 0) - (if s.t = k then g s.n else 0)
  rw [h s hs]
theorem bal_congr {kn : List Str} {ss : List Sm} {f g : Str → Int} (h : ∀ s ∈ ss, f s.n = g s.n) : balancedB kn ss f = balancedB kn ss g := by
  unfold balancedB
  congr 1
  funext k
  rw [exc_congr h]
/-- rows with one more name, all its values -/
def extR (c : Str) (lo hi : Str → Int) (f : Str → Int) : List (Str → Int) := (List.range (hi c + 1 - lo c).toNat).map fun k => fun m => if m = c then lo c + (k : Nat) else f m
def InR (ks : List Str) (lo hi f : Str → Int) : Prop := ∀ n ∈ ks, lo n ≤ f n ∧ f n ≤ hi n
theorem ext_sound {ks : List Str} {c : Str} {lo hi : Str → Int} {fs : List (Str → Int)} (no : c ∉ ks) (h : ∀ f ∈ fs, InR ks lo hi f) : ∀ f ∈ fs.flatMap (extR c lo hi), InR (ks ++ [c]) lo hi f := fun f hf n hn => by
  obtain ⟨f0, h0, hf⟩ := List.mem_flatMap.mp hf
  obtain ⟨k, hk, rfl⟩ := List.mem_map.mp hf
  have hk := List.mem_range.mp hk
  by_cases e : n = c
  · subst e
    simp only [if_true]
    omega
  · simp only [if_neg e]
    rcases List.mem_append.mp hn with hn | hn
    · exact h f0 h0 n hn
    · exact absurd (List.mem_singleton.mp hn) e
theorem ext_full {ks : List Str} {c : Str} {lo hi : Str → Int} {fs : List (Str → Int)} (no : c ∉ ks) (h : ∀ g, InR ks lo hi g → ∃ f ∈ fs, ∀ n ∈ ks, f n = g n) : ∀ g, InR (ks ++ [c]) lo hi g → ∃ f ∈ fs.flatMap (extR c lo hi), ∀ n ∈ ks ++ [c], f n = g n := fun g hg => by
  obtain ⟨f, hf, e⟩ := h g fun n hn => hg n (List.mem_append_left _ hn)
  have hc := hg c (by simp)
  refine ⟨fun m => if m = c then lo c + ((g c - lo c).toNat : Nat) else f m, List.mem_flatMap.mpr ⟨f, hf, List.mem_map.mpr ⟨(g c - lo c).toNat, List.mem_range.mpr (by omega), rfl⟩⟩, fun n hn => ?_⟩
  by_cases en : n = c
  · subst en
    simp only [if_true]
    omega
  · simp only [if_neg en]
    rcases List.mem_append.mp hn with hn | hn
    · exact e n hn
    · exact absurd (List.mem_singleton.mp hn) en
section
variable {P : Program} {w : World} {K : PySem.W.Frag} {mg : Str → Option Value} {base : Heap} {C M R : Addr}
abbrev sLevery : Stmt := top 64
abbrev nLevery : List Str := ["_law_limits", "_law_rows", "_law_name", "_law_longer", "_law_row_here", "_law_number", "_law_other"]
theorem scLevery : FnScope nLevery ["_law_limits"] (defScope sLevery) := ⟨rfl, rfl, rfl, by decide +kernel, rfl, by decide +kernel, by decide +kernel⟩
def spEvery : Sp := fun vs H Q _ => ∃ (m : Addr) (km : List Str) (lo hi : Str → Int), vs = [.ref m] ∧ LmH H m km lo hi ∧ km.Nodup ∧ km.length ≤ 6 ∧ Bnd km lo hi ∧ (∀ n ∈ km, hi n ≤ lo n + 2) ∧
  ∀ R ws fs ys H', H R = none → Ex H H' → H' R = some (.lst ws) → LsR (RwR ys) H' ws fs → ys.Perm km → fs.length ≤ 729 → (∀ f ∈ fs, InR ys lo hi f) → (∀ g, InR ys lo hi g → ∃ f ∈ fs, ∀ n ∈ ys, f n = g n) → Q (.ref R) H'
theorem ok_every (d : Dn K mg "_law_every" sLevery ["_law_limits"]) (G : Glb mg) : Cal P w K mg base 1 "_law_every" spEvery [] := by
  refine d.cal scLevery (fun vs H Q E h => ?_) (fun f cdv A outer s H vs Q E hr h => ?_)
  · obtain ⟨m, km, lo, hi, rfl, _⟩ := h
    rfl
  · obtain ⟨m, km, lo, hi, rfl, ⟨g, hm, hg⟩, nd, hz, hb, hw, k⟩ := h
    refine ⟨_, (pss_cons (ps_set (i := 1) scLevery.nd rfl (by first | exact .inl rfl | exact .inr rfl) (pe_lst (pa_cons pe_dnewK pa_nil)))
      (pss_cons (ps_for PassesOwn.never rfl (pi_list (pe_callB (call_sortedD rfl) (by rfl) G.sorted (by decide +kernel) (pa_cons (pv 0) pa_nil))) (pg_name (i := 2) scLevery.nd rfl (by first | exact .inl rfl | exact .inr rfl))
      (pss_cons (ps_set (i := 3) scLevery.nd rfl (by first | exact .inl rfl | exact .inr rfl) (pe_lst pa_nil))
      (pss_cons (ps_for PassesOwn.never rfl (pi_list (pv 1)) (pg_name (i := 4) scLevery.nd rfl (by first | exact .inl rfl | exact .inr rfl))
      (pss_one (ps_for PassesOwn.never rfl (pi_range2 rfl G.range (pa_cons (pe_ix (ix_tupK K) (pe_dget (hu_of hr) (pv 0) (pv 2) (fun _ _ => rfl)) pe_int (fun _ _ => rfl)) (pa_cons (pe_op op_add (pe_ix (ix_tupK K) (pe_dget (hu_of hr) (pv 0) (pv 2) (fun _ _ => rfl)) pe_int (fun _ _ => rfl)) pe_int) pa_nil))) (pg_name (i := 5) scLevery.nd rfl (by first | exact .inl rfl | exact .inr rfl))
      (pss_cons (ps_set (i := 6) scLevery.nd rfl (by first | exact .inl rfl | exact .inr rfl) (pe_callTy call_dictD (by rfl) G.dict (by decide +kernel) (pa_cons (pv 4) pa_nil)))
      (pss_cons (ps_dput (hu_of hr) (pv 6) (pv 2) (pv 5) rfl)
      (pss_one (ps_expr (pe_bm PySem.F.plainAttrs_list PySem.F.slot_list_append PySem.F.type_list_append mt_append (pv 3) (pa_cons (pv 6) pa_nil)))))))))
      (pss_one (ps_set (i := 1) scLevery.nd rfl (by first | exact .inl rfl | exact .inr rfl) (pv 3))))))
      (pss_one (ps_ret (pv 1))))), ?_⟩
    refine fun E0 nE => ⟨sz1 (by show 1 ≤ 100000; decide), fun L nL => ?_⟩
    have e1 := (Evl.Ex.new (o := .dK []) nE).trans (Evl.Ex.new (o := .lst [.ref E0]) nL)
    refine ⟨_, rfl, m, _, km, rfl, .inl (e1 _ _ hm), dr_keys _ _, by omega, fun ys p1 pm srt np => ?_⟩
    have e2 := e1.trans (Evl.Ex.new (o := .lst (ys.map V.str)) np)
    have zy : ys.length ≤ 6 := by rw [pm.length_eq]; exact hz
    have ndy : ys.Nodup := pm.nodup_iff.mpr nd
    have hE0 : FlH (upd (upd (upd H E0 (.dK [])) L (.lst [.ref E0])) p1 (.lst (ys.map V.str))) E0 [] (fun _ => 0) := Evl.Ex.new np _ _ (Evl.Ex.new nL _ _ upd_same)
    have hL0 : (upd (upd (upd H E0 (.dK [])) L (.lst [.ref E0])) p1 (.lst (ys.map V.str))) L = some (.lst [.ref E0]) := Evl.Ex.new np _ _ upd_same
    have hp1 : (upd (upd (upd H E0 (.dK [])) L (.lst [.ref E0])) p1 (.lst (ys.map V.str))) p1 = some (.lst (ys.map V.str)) := upd_same
    have nL0 : H L = none := Ex.free (Evl.Ex.new nE) nL
    generalize hH1 : upd (upd (upd H E0 (.dK [])) L (.lst [.ref E0])) p1 (.lst (ys.map V.str)) = H1 at *
    refine ⟨p1, rfl, ⟨_, SqL.of hp1⟩, ?_⟩
    refine for_J (J := Itl K p1) (B := H1) (gv_list (SqL.of hp1) (str_ls _ ys)) (fun i σ H' => Ex H1 H' ∧ i ≤ 6 ∧ ∃ L o2 o3 o4 o5 o6 us fs, σ = [some (.ref m), some (.ref L), o2, o3, o4, o5, o6] ∧ H L = none ∧ H' L = some (.lst us) ∧ LsR (RwR (ys.take i)) H' us fs ∧ fs.length ≤ 3 ^ i ∧ (∀ f ∈ fs, InR (ys.take i) lo hi f) ∧ (∀ g, InR (ys.take i) lo hi g → ∃ f ∈ fs, ∀ n ∈ ys.take i, f n = g n))
      ⟨Evl.Ex.refl _, Nat.zero_le _, L, _, _, _, _, _, _, [fun _ => 0], rfl, nL0, hL0, LsR.nil.cons ⟨E0, rfl, hE0⟩, by decide, fun f _ n hn => by simp at hn, fun g _ => ⟨_, List.mem_singleton.mpr rfl, fun n hn => by simp at hn⟩⟩ (fun i σ H' h => h.1) (fun i x c σ H' hc hx hI => ?_) (fun σ H' hI => ?_)
    · obtain ⟨e, hi6, L2, o2, o3, o4, o5, o6, us, fs, rfl, nL2, hL2, hl2, zf, snd, full⟩ := hI
      subst hx
      have hi1 := (List.getElem?_eq_some_iff.mp hc).1
      have ck : c ∈ km := pm.mem_iff.mp (List.mem_of_getElem? hc)
      have no : c ∉ ys.take i := fun q => by
        have h2 : (ys.take (i + 1)).Nodup := List.Sublist.nodup (List.take_sublist _ _) ndy
        rw [take_snoc hc] at h2
        exact (List.nodup_append.mp h2).2.2 _ q c (by simp) rfl
      have p243 : 3 ^ i ≤ 243 := Nat.pow_le_pow_right (n := 3) (by decide) (show i ≤ 5 by omega)
      have hbc := hb c ck
      have hwc := hw c ck
      have e0 := e2.trans e
      refine ⟨Nat.zero_le _, fun Gd nG => ?_⟩
      have nG0 : H Gd = none := Ex.free e0 nG
      refine ⟨_, rfl, L2, rfl, ⟨_, SqL.of (Evl.Ex.new nG _ _ hL2)⟩, ?_⟩
      refine for_J (J := Itl K L2) (B := H') (gv_list (SqL.of hL2) hl2) (fun j σ H3 => Ex H' H3 ∧ (∃ o4 o5 o6, σ = [some (.ref m), some (.ref L2), some (.str c), some (.ref Gd), o4, o5, o6]) ∧ ∃ gws gs, H3 Gd = some (.lst gws) ∧ LsR (RwR (ys.take i ++ [c])) H3 gws gs ∧ gs = (fs.take j).flatMap (extR c lo hi) ∧ gs.length ≤ 3 * j)
        ⟨Evl.Ex.new nG, ⟨_, _, _, rfl⟩, [], [], upd_same, LsR.nil, rfl, Nat.zero_le _⟩ (fun j σ H3 h => h.1) (fun j x f0 σ H3 hcj hxj hI => ?_) (fun σ H3 hI => ?_)
      · obtain ⟨e3, ⟨o4, o5, o6, rfl⟩, gws, gs, hG, hgl, hgs, zg⟩ := hI
        obtain ⟨r, rfl, hr⟩ := hxj
        have hj := (List.getElem?_eq_some_iff.mp hcj).1
        have e03 := e0.trans e3
        refine ⟨_, rfl, _, rfl, m, _, rfl, dr_get (.inl (e03 _ _ hm)) ck, g c, _, _, _, rfl, rfl, SqT.of (e03 _ _ (hg c ck)), rfl, _, rfl, _, rfl, m, _, rfl, dr_get (.inl (e03 _ _ hm)) ck, g c, _, _, _, rfl, rfl, SqT.of (e03 _ _ (hg c ck)), rfl, _, _, rfl, rfl, _, _, rfl, ⟨by omega, by omega, by omega, by omega⟩, ?_⟩
        refine for_J (J := Itr (lo c) (hi c + 1 - lo c).toNat) (B := H') gv_rangeL (fun kk σ H4 => Ex H' H4 ∧ kk ≤ 3 ∧ (∃ o5 o6, σ = [some (.ref m), some (.ref L2), some (.str c), some (.ref Gd), some (.ref r), o5, o6]) ∧ ∃ gws gs, H4 Gd = some (.lst gws) ∧ LsR (RwR (ys.take i ++ [c])) H4 gws gs ∧ gs = (fs.take j).flatMap (extR c lo hi) ++ (extR c lo hi f0).take kk ∧ gs.length ≤ 3 * j + kk)
          ⟨e3, Nat.zero_le _, ⟨_, _, rfl⟩, gws, gs, hG, hgl, by rw [List.take_zero, List.append_nil]; exact hgs, by omega⟩ (fun kk σ H4 h => h.1) (fun kk x y σ H4 hck hxk hI => ?_) (fun σ H4 hI => ?_)
        · obtain ⟨e4, hk3, ⟨o5, o6, rfl⟩, gws, gs, hG, hgl, hgs, zg⟩ := hI
          subst hxk
          have hk := (List.getElem?_eq_some_iff.mp hck).1
          rw [List.length_range] at hk
          have yk : y = kk := by
            rw [List.getElem?_range hk] at hck
            exact (Option.some.inj hck).symm
          subst yk
          refine ⟨_, rfl, r, _, rfl, .inl (e4 _ _ hr), fun p np => ?_⟩
          have pG : p ≠ Gd := fun z => by rw [z, hG] at np; cases np
          refine ⟨_, rfl, _, rfl, _, rfl, p, _, rfl, dr_add upd_same no (by rw [List.length_take]; omega), ?_⟩
          rw [upd_upd]
          have e5 : Ex H4 (upd H4 p (.dK (DR (ys.take i ++ [c]) fun m => if m = c then V.int (lo c + (y : Nat)) else .int (f0 m)))) := Evl.Ex.new np
          have hG5 := e5 _ _ hG
          have zfs : j < fs.length := hj
          refine ⟨_, rfl, .inl ⟨rfl, _, SqL.of hG5⟩, _, rfl, Gd, _, _, rfl, rfl, hG5, Evl.sz_lt (by rw [hgl.1]; omega), ?_⟩
          refine ⟨Evl.Ex.mut (e4.trans e5) nG, by omega, ⟨_, _, rfl⟩, _, gs ++ [fun m => if m = c then lo c + (y : Nat) else f0 m], upd_same, ?_, ?_, by rw [List.length_append, List.length_singleton]; omega⟩
          · refine ((hgl.mono stb_rw e5).snoc ⟨p, rfl, ?_⟩).monoD std_rw ⟨gws, hG5⟩ ExB.upd
            unfold FlH
            rw [upd_same]
            refine congrArg (fun z => some (HO.dK z)) (dr_congr fun n _ => ?_)
            show (if n = c then V.int _ else V.int _) = V.int (if n = c then _ else _)
            split <;> rfl
          · rw [hgs, List.append_assoc]
            congr 1
            have : (extR c lo hi f0)[y]? = some (fun m => if m = c then lo c + (y : Nat) else f0 m) := by
              unfold extR
              rw [List.getElem?_map, List.getElem?_range hk]
              rfl
            exact (take_snoc this).symm
        · obtain ⟨e4, hk3, ⟨o5, o6, rfl⟩, gws, gs, hG, hgl, hgs, zg⟩ := hI
          rw [List.length_range] at hgs zg
          have lx : (extR c lo hi f0).length = (hi c + 1 - lo c).toNat := by
            unfold extR
            rw [List.length_map, List.length_range]
          rw [← lx, List.take_length] at hgs
          refine ⟨e4, ⟨_, _, _, rfl⟩, gws, gs, hG, hgl, ?_, by omega⟩
          rw [hgs, take_snoc hcj, List.flatMap_append, List.flatMap_cons, List.flatMap_nil, List.append_nil]
      · obtain ⟨e3, ⟨o4, o5, o6, rfl⟩, gws, gs, hG, hgl, hgs, zg⟩ := hI
        rw [List.take_length] at hgs
        subst hgs
        refine ⟨_, rfl, e.trans e3, by omega, Gd, _, _, _, _, _, gws, fs.flatMap (extR c lo hi), rfl, nG0, hG, ?_, ?_, ?_, ?_⟩
        · rw [take_snoc hc]
          exact hgl
        · rw [Nat.pow_succ]
          omega
        · rw [take_snoc hc]
          exact ext_sound no snd
        · rw [take_snoc hc]
          exact ext_full no full
    · obtain ⟨e, hi6, L2, o2, o3, o4, o5, o6, us, fs, rfl, nL2, hL2, hl2, zf, snd, full⟩ := hI
      have p729 : 3 ^ ys.length ≤ 729 := Nat.pow_le_pow_right (n := 3) (by decide) zy
      rw [List.take_length] at hl2 snd full
      exact ⟨_, rfl, k L2 us fs ys H' nL2 (e2.trans e) hL2 hl2 pm (Nat.le_trans zf p729) snd full⟩
abbrev sLall_balanced : Stmt := top 65
abbrev nLall_balanced : List Str := ["_law_plant_here", "_law_limits", "_law_flows"]
theorem scLall_balanced : FnScope nLall_balanced ["_law_plant_here", "_law_limits"] (defScope sLall_balanced) := ⟨rfl, rfl, rfl, by decide +kernel, rfl, by decide +kernel, by decide +kernel⟩
def spAllBal : Sp := fun vs H Q _ => ∃ (pt m : Addr) (kn : List Str) (ss : List Sm) (km : List Str) (lo hi : Str → Int), vs = [.ref pt, .ref m] ∧ LP H pt kn ss ∧ PlOk kn ss ∧ LmH H m km lo hi ∧ km.Nodup ∧ km.length ≤ 6 ∧ Bnd km lo hi ∧ (∀ n ∈ km, hi n ≤ lo n + 2) ∧ (∀ n, n ∈ km ↔ n ∈ ss.map (·.n)) ∧
  ∀ R ws gs ys H', H R = none → Ex H H' → H' R = some (.lst ws) → LsR (RwR ys) H' ws gs → ys.Perm km → gs.length ≤ 729 → (∀ f ∈ gs, InR ys lo hi f ∧ balancedB kn ss f = true) → (∀ g, InR ys lo hi g → balancedB kn ss g = true → ∃ f ∈ gs, ∀ n ∈ ys, f n = g n) → Q (.ref R) H'
theorem ok_all_balanced (d : Dn K mg "_law_all_balanced" sLall_balanced ["_law_plant_here", "_law_limits"]) (G : Glb mg) (c__law_every : Cal P w K mg base 1 "_law_every" spEvery []) (c__law_balanced : Cal P w K mg base 2 "_law_balanced" spLbal []) : Cal P w K mg base 3 "_law_all_balanced" spAllBal [] := by
  refine d.cal scLall_balanced (fun vs H Q E h => ?_) (fun f cdv A outer s H vs Q E hr h => ?_)
  · obtain ⟨pt, m, kn, ss, km, lo, hi, rfl, _⟩ := h
    rfl
  · obtain ⟨pt, m, kn, ss, km, lo, hi, rfl, hp, ok, hm, nd, hz, hb, hw, hk, k⟩ := h
    refine ⟨_, (pss_one (ps_ret (pe_lc (own := [("_law_flows", 2)]) rfl scLall_balanced.nd (pi_list (pe_c c__law_every hr (by decide) rfl (pa_cons (pv 1) pa_nil))) (blkOk_by (N := nLall_balanced) (sc := defScope sLall_balanced) (by decide +kernel)) (fun _ _ _ _ _ => (pg_name (i := 2) scLall_balanced.nd rfl (by first | exact .inl rfl | exact .inr rfl))) (fun _ _ _ _ _ => (pts_one (pt_val (pe_c c__law_balanced hr (by decide) rfl (pa_cons (pv 0) (pa_cons (pv 2) pa_nil)))))) (fun _ _ _ _ _ => (pv 2))))), ?_⟩
    refine ⟨_, rfl, m, km, lo, hi, rfl, hm, nd, hz, hb, hw, fun R us fs ys H1 nR e1 hR hl pm zf snd full => ?_⟩
    have hky : ∀ n, n ∈ ys ↔ n ∈ ss.map (·.n) := fun n => ⟨fun h => (hk n).mp (pm.mem_iff.mp h), fun h => pm.mem_iff.mpr ((hk n).mpr h)⟩
    refine ⟨R, rfl, ⟨_, SqL.of hR⟩, ?_⟩
    refine lc_J (J := Itl K R) (RwR ys) (fun _ => RwR ys) (fun _ => std_rw) (fun f => if balancedB kn ss f = true then some f else none) (gv_list (SqL.of hR) hl) (by omega) (fun D x f0 H' T Y _ _ ex hc e hT hY => ?_) (fun D zs H2 nD e2 hD hlD => ?_)
    · obtain ⟨r, rfl, hr⟩ := ex
      refine ⟨rfl, _, rfl, _, rfl, pt, r, kn, ss, ys, f0, rfl, hp.mono (e1.trans e), ok, hr.mono e, hky, fun H3 e3 => ⟨_, rfl, ?_⟩⟩
      by_cases q : balancedB kn ss f0 = true
      · exact itT q ⟨_, rfl, hY f0 (if_pos q) _ _ e3 ⟨r, rfl, (hr.mono e).mono e3⟩⟩
      · exact itF (by cases h : balancedB kn ss f0 with | true => exact absurd h q | false => rfl) (hT (if_neg q) _ e3)
    · rw [fm_ifB (fun f => balancedB kn ss f) (fun f => f), List.map_id'] at hlD
      refine k D zs _ ys H2 (Ex.free e1 nD) (e1.trans e2) hD hlD pm (Nat.le_trans (List.length_filter_le _ _) zf) (fun f hf => ?_) (fun g hg hbg => ?_)
      · obtain ⟨a, b⟩ := List.mem_filter.mp hf
        exact ⟨snd f a, b⟩
      · obtain ⟨f, hf, ef⟩ := full g hg
        refine ⟨f, List.mem_filter.mpr ⟨hf, ?_⟩, ef⟩
        rw [bal_congr (g := g) fun s hs => ef s.n ((hky _).mpr (List.mem_map_of_mem hs))]
        exact hbg
end
end Ms

set_option maxHeartbeats 4000000
/-! What the law tells of a lot, and what the program tells of it: plain mathematics. -/
namespace Ms
open PySem PySem.Spec PyProof.Rows
def mA (x : Str) (lot : List Str) (s : Sm) : Bool := !decide (s.t ∈ lot) && (decide (s.h = x) || decide (s.h ∈ lot))
def mB (x : Str) (lot : List Str) (s : Sm) : Bool := decide (s.t ∈ lot) && (!decide (s.h ∈ lot) && !decide (s.h = x))
def lA (x : Str) (lot : List Str) (s : Sm) : Bool := !decide (s.h ∈ lot) && (decide (s.t = x) || decide (s.t ∈ lot))
def lB (x : Str) (lot : List Str) (s : Sm) : Bool := decide (s.h ∈ lot) && (!decide (s.t ∈ lot) && !decide (s.t = x))
def mostW (lo hi : Str → Int) (x : Str) (lot : List Str) (s : Sm) : Int := (if mA x lot s = true then hi s.n else 0) - (if mB x lot s = true then lo s.n else 0)
def leastW (lo hi : Str → Int) (x : Str) (lot : List Str) (s : Sm) : Int := (if lA x lot s = true then lo s.n else 0) - (if lB x lot s = true then hi s.n else 0)
def mostL (ss : List Sm) (lo hi : Str → Int) (x : Str) (lot : List Str) : Int := MsM.sumOf (mostW lo hi x lot) ss
def leastL (ss : List Sm) (lo hi : Str → Int) (x : Str) (lot : List Str) : Int := MsM.sumOf (leastW lo hi x lot) ss
theorem filt_sum {α : Type} (p : α → Bool) (f : α → Int) (l : List α) : ((l.filter p).map f).sum = MsM.sumOf (fun x => if p x = true then f x else 0) l := by
  rw [← MsM.sumOf_eq_sum, MsM.sumOf_filter]
theorem into_is (ss : List Sm) (x : Str) (hi : Str → Int) (pl : List Str) : sumInto (lnP x ss) hi pl = MsM.sumOf (fun s : Sm => if (decide (s.h ∈ pl) && !decide ((if s.t = x then ("" : Str) else s.t) ∈ pl)) = true then hi s.n else 0) ss := by
  unfold sumInto lnP
  rw [filt_sum, MsM.sumOf_eq_sum, MsM.sumOf_eq_sum, List.map_map]
  rfl
theorem from_is (ss : List Sm) (x : Str) (lo : Str → Int) (pl : List Str) : sumFrom (lnP x ss) lo pl = MsM.sumOf (fun s : Sm => if (decide ((if s.t = x then ("" : Str) else s.t) ∈ pl) && !decide (s.h ∈ pl)) = true then lo s.n else 0) ss := by
  unfold sumFrom lnP
  rw [filt_sum, MsM.sumOf_eq_sum, MsM.sumOf_eq_sum, List.map_map]
  rfl
section
variable {ss : List Sm} {lo hi : Str → Int} {x : Str} {lot : List Str}
theorem most_is (x0 : x ≠ ("" : Str)) (l0 : ("" : Str) ∉ lot) (hx : x ∉ lot) (hs : ∀ s ∈ ss, s.h ≠ ("" : Str) ∧ s.t ≠ ("" : Str)) : sumInto (lnP x ss) hi (lot ++ [x]) - sumFrom (lnP x ss) lo (lot ++ [x]) = mostL ss lo hi x lot := by
  rw [into_is, from_is, ← MsM.sumOf_sub]
  apply MsM.sumOf_congr
  intro s hm
  obtain ⟨h1, h2⟩ := hs s hm
  have e0 : ¬ ("" : Str) = x := fun q => x0 q.symm
  unfold mostW mA mB
  by_cases a : s.t = x
  · have a2 : s.t ∉ lot := fun q => hx (a ▸ q)
    by_cases b : s.h = x
    · have b2 : s.h ∉ lot := fun q => hx (b ▸ q)
      simp [a, b, hx, l0, e0]
    · by_cases c : s.h ∈ lot
      · simp [a, b, c, hx, l0, e0]
      · simp [a, b, c, hx, l0, e0]
  · by_cases d : s.t ∈ lot
    · by_cases b : s.h = x
      · simp [a, b, d, hx, l0, e0]
      · by_cases c : s.h ∈ lot
        · simp [a, b, c, d, hx, l0, e0]
        · simp [a, b, c, d, hx, l0, e0]
    · by_cases b : s.h = x
      · simp [a, b, d, hx, l0, e0]
      · by_cases c : s.h ∈ lot
        · simp [a, b, c, d, hx, l0, e0]
        · simp [a, b, c, d, hx, l0, e0]
theorem least_is (x0 : x ≠ ("" : Str)) (l0 : ("" : Str) ∉ lot) (hx : x ∉ lot) (hs : ∀ s ∈ ss, s.h ≠ ("" : Str) ∧ s.t ≠ ("" : Str)) : sumFrom (lnP x ss) lo (lot ++ [("" : Str)]) - sumInto (lnP x ss) hi (lot ++ [("" : Str)]) = leastL ss lo hi x lot := by
  rw [into_is, from_is, ← MsM.sumOf_sub]
  apply MsM.sumOf_congr
  intro s hm
  obtain ⟨h1, h2⟩ := hs s hm
  have e0 : ¬ ("" : Str) = x := fun q => x0 q.symm
  unfold leastW lA lB
  by_cases a : s.t = x
  · by_cases c : s.h ∈ lot
    · simp [a, c, hx, l0, e0, h1]
    · simp [a, c, hx, l0, e0, h1]
  · by_cases d : s.t ∈ lot
    · by_cases c : s.h ∈ lot
      · simp [a, c, d, hx, l0, e0, h1, h2]
      · simp [a, c, d, hx, l0, e0, h1, h2]
    · by_cases c : s.h ∈ lot
      · simp [a, c, d, hx, l0, e0, h1, h2]
      · simp [a, c, d, hx, l0, e0, h1, h2]
end
/-- what the law answers of told parts -/
def showsL (kn : List Str) (ss : List Sm) (lo hi : Str → Int) (x : Str) (l : Option (List Str)) (n : Int) (b : Bool) : Bool := lotB kn x l && (if b = true then decide (mostL ss lo hi x (l.getD []) ≤ n) else decide (n ≤ leastL ss lo hi x (l.getD [])))
def rightB (kn kn' : List Str) (ss : List Sm) (km : List Str) (lo hi : Str → Int) (x : Str) (low high : Int) (f1 f2 : Str → Int) (l1 l2 : Option (List Str)) : Bool :=
  (withinB km lo hi f1 && balancedB kn ss f1) && ((withinB km lo hi f2 && balancedB kn ss f2) && (decide (pass ss f1 x = low ∧ pass ss f2 x = high) && (showsL kn' ss lo hi x l1 low false && showsL kn' ss lo hi x l2 high true)))
theorem exc_perm {ss ss' : List Sm} (p : ss.Perm ss') (f : Str → Int) (k : Str) : MsM.exc (lnS ss) f k = MsM.exc (lnS ss') f k := MsM.sumOf_perm (p.map _)
theorem pass_perm {ss ss' : List Sm} (p : ss.Perm ss') (f : Str → Int) (k : Str) : pass ss f k = pass ss' f k := by
  unfold pass
  rw [← MsM.sumOf_eq_sum, ← MsM.sumOf_eq_sum]
  exact MsM.sumOf_perm (p.filter _)
theorem all_perm {α : Type} {p : α → Bool} {l l' : List α} (h : l.Perm l') : l.all p = l'.all p := by
  rw [Bool.eq_iff_iff, List.all_eq_true, List.all_eq_true]
  exact ⟨fun a x hx => a x (h.mem_iff.mpr hx), fun a x hx => a x (h.mem_iff.mp hx)⟩
theorem bal_perm {kn kn' : List Str} {ss ss' : List Sm} (pk : kn.Perm kn') (ps : ss.Perm ss') (f : Str → Int) : balancedB kn ss f = balancedB kn' ss' f := by
  unfold balancedB
  rw [all_perm pk]
  congr 1
  funext k
  rw [exc_perm ps]
theorem right_is {kn kn' : List Str} {ss ss' : List Sm} {km : List Str} {lo hi : Str → Int} {x : Str} {low high : Int} {f1 f2 : Str → Int} {l1 l2 : Option (List Str)} (pk : kn'.Perm kn) (ps : ss'.Perm ss) (ok : PlOk kn' ss') (hx : x ∈ kn') :
    checkB kn' ss' km lo hi x low high f1 f2 l1 l2 = rightB kn kn' ss km lo hi x low high f1 f2 l1 l2 := by
  obtain ⟨nes, nkn, _⟩ := ok.ne
  have x0 : x ≠ ("" : Str) := fun q => nkn (q ▸ hx)
  have key : ∀ l : Option (List Str), lotB kn' x l = true → ("" : Str) ∉ l.getD [] ∧ x ∉ l.getD [] := fun l h => by
    cases l with
    | none => cases h
    | some lot =>
      have h : (decide (lot = kn'.filter fun x => decide (x ∈ lot)) && !decide (x ∈ lot)) = true := h
      rw [Bool.and_eq_true_iff] at h
      have h1 := of_decide_eq_true h.1
      have h2 : x ∉ lot := by simpa using h.2
      refine ⟨fun q => ?_, h2⟩
      have q : ("" : Str) ∈ lot := q
      rw [h1] at q
      exact nkn (List.mem_filter.mp q).1
  have m1 : ∀ l : Option (List Str), lotB kn' x l = true → mostB (lnP x ss') lo hi (l.getD [] ++ [x]) high = decide (mostL ss lo hi x (l.getD []) ≤ high) := fun l h => by
    obtain ⟨a, b⟩ := key l h
    unfold mostB
    rw [most_is x0 a b nes]
    unfold mostL
    rw [MsM.sumOf_perm ps]
  have m2 : ∀ l : Option (List Str), lotB kn' x l = true → leastB (lnP x ss') lo hi (l.getD [] ++ [("" : Str)]) low = decide (low ≤ leastL ss lo hi x (l.getD [])) := fun l h => by
    obtain ⟨a, b⟩ := key l h
    unfold leastB
    rw [least_is x0 a b nes]
    unfold leastL
    rw [MsM.sumOf_perm ps]
  unfold checkB rightB goodB showsL
  rw [bal_perm pk ps, bal_perm pk ps, pass_perm ps, pass_perm ps]
  cases h1 : lotB kn' x l1 with
  | false =>
    cases h2 : lotB kn' x l2 <;> simp [Bool.and_comm]
  | true =>
    cases h2 : lotB kn' x l2 with
    | false => simp [Bool.and_comm]
    | true =>
      rw [m1 l2 h2, m2 l1 h1]
      simp [Bool.and_comm, Bool.and_assoc, Bool.and_left_comm]
end Ms

set_option maxHeartbeats 4000000
namespace Ms
open PySem PySem.Spec PyProof.Rows L2
open Evl (Ex)
open C8 (Cal Mak Met pe_c pe_mk pe_mt pe_mt0 pe_gc)
/-- a test that answers b -/
def TBo (t : TT) (σ : L2.St) (H : Hp) (b : Bool) : Prop := ∀ Q : Bool → Hp → Prop, Q b H → t σ H Q
theorem TBo.in_ {K : PySem.W.Frag} {σ : L2.St} {H : Hp} {i j : Nat} {x : Str} {xs : List Str} {p : Addr} (hi : σ[i]? = some (some (.str x))) (hj : σ[j]? = some (some (.ref p))) (h : SqL K H p (xs.map V.str)) : TBo (tTest (tOp (rIn K false) (tVar i) (tVar j))) σ H (decide (x ∈ xs)) := fun Q q =>
  ⟨_, hi, _, hj, p, _, rfl, .inl h, rfl, flat_strs _, _, rfl, by rw [if_neg Bool.false_ne_true, inV_str]; exact q⟩
theorem TBo.no_ {K : PySem.W.Frag} {σ : L2.St} {H : Hp} {i j : Nat} {x : Str} {xs : List Str} {p : Addr} (hi : σ[i]? = some (some (.str x))) (hj : σ[j]? = some (some (.ref p))) (h : SqL K H p (xs.map V.str)) : TBo (tTest (tOp (rIn K true) (tVar i) (tVar j))) σ H (!decide (x ∈ xs)) := fun Q q =>
  ⟨_, hi, _, hj, p, _, rfl, .inl h, rfl, flat_strs _, _, rfl, by rw [if_pos rfl, inV_str]; exact q⟩
theorem dec_str (x y : Str) : decide (V.str x = V.str y) = decide (x = y) := decide_eq_decide.mpr ⟨fun z => V.str.inj z, fun z => congrArg V.str z⟩
theorem TBo.eq_ {σ : L2.St} {H : Hp} {i j : Nat} {x y : Str} (hi : σ[i]? = some (some (.str x))) (hj : σ[j]? = some (some (.str y))) : TBo (tTest (tOp rEq (tVar i) (tVar j))) σ H (decide (x = y)) := fun Q q =>
  ⟨_, hi, _, hj, rfl, _, rfl, by rw [dec_str]; exact q⟩
theorem TBo.ne_ {σ : L2.St} {H : Hp} {i j : Nat} {x y : Str} (hi : σ[i]? = some (some (.str x))) (hj : σ[j]? = some (some (.str y))) : TBo (tTest (tOp rNe (tVar i) (tVar j))) σ H (!decide (x = y)) := fun Q q =>
  ⟨_, hi, _, hj, rfl, _, rfl, by rw [dec_str]; exact q⟩
theorem TBo.and {t u : TT} {σ : L2.St} {H : Hp} {a b : Bool} (h1 : TBo t σ H a) (h2 : TBo u σ H b) : TBo (tAnd t u) σ H (a && b) := fun Q q => h1 _ (by
  cases a with
  | true => exact itT rfl (h2 Q q)
  | false => exact itF rfl q)
theorem TBo.or {t u : TT} {σ : L2.St} {H : Hp} {a b : Bool} (h1 : TBo t σ H a) (h2 : TBo u σ H b) : TBo (tOr t u) σ H (a || b) := fun Q q => h1 _ (by
  cases a with
  | true => exact itT rfl q
  | false => exact itF rfl (h2 Q q))
theorem TBo.ifS {t : TT} {A B : TS} {D : Ends} {σ : L2.St} {H : Hp} {b : Bool} (h : TBo t σ H b) (h1 : b = true → A D σ H) (h2 : b = false → B D σ H) : tIfS t A B D σ H := h _ (it2 h1 h2)
section
variable {P : Program} {w : World} {K : PySem.W.Frag} {mg : Str → Option Value} {base : Heap} {C M R : Addr}
abbrev sLaround : Stmt := top 67
abbrev nLaround : List Str := ["_law_plant_here", "_law_limits", "_law_knot", "_law_lot", "_law_most", "_law_least", "_law_name", "_law_tail", "_law_head", "_law_low", "_law_high", "_law_comes", "_law_goes"]
theorem scLaround : FnScope nLaround ["_law_plant_here", "_law_limits", "_law_knot", "_law_lot"] (defScope sLaround) := ⟨rfl, rfl, rfl, by decide +kernel, rfl, by decide +kernel, by decide +kernel⟩
def spAround : Sp := fun vs H Q _ => ∃ (pt m l : Addr) (x : Str) (kn : List Str) (ss : List Sm) (km : List Str) (lo hi : Str → Int) (lot : List Str), vs = [.ref pt, .ref m, .str x, .ref l] ∧ LP H pt kn ss ∧ ss.length ≤ 60 ∧ LmH H m km lo hi ∧ (∀ n, n ∈ km ↔ n ∈ ss.map (·.n)) ∧ H l = some (.lst (lot.map V.str)) ∧
  ∀ t H', Ex H H' → H' t = some (.tup [.int (mostL ss lo hi x lot), .int (leastL ss lo hi x lot)]) → Q (.ref t) H'
theorem ok_around (d : Dn K mg "_law_around" sLaround ["_law_plant_here", "_law_limits", "_law_knot", "_law_lot"]) (G : Glb mg) : Cal P w K mg base 1 "_law_around" spAround [] := by
  refine d.cal scLaround (fun vs H Q E h => ?_) (fun f cdv A outer s H vs Q E hr h => ?_)
  · obtain ⟨pt, m, l, x, kn, ss, km, lo, hi, lot, rfl, _⟩ := h
    rfl
  · obtain ⟨pt, m, l, x, kn, ss, km, lo, hi, lot, rfl, ⟨kl, sl, ws, h1, h2, h3, h4⟩, hz, ⟨g, hm, hg⟩, hk, hl, k⟩ := h
    refine ⟨_, (pss_cons (ps_set (i := 4) scLaround.nd rfl (by first | exact .inl rfl | exact .inr rfl) pe_int)
      (pss_cons (ps_set (i := 5) scLaround.nd rfl (by first | exact .inl rfl | exact .inr rfl) pe_int)
      (pss_cons (ps_for PassesOwn.never rfl (pi_list (pe_ix (ix_tupK K) (pv 0) pe_int (fun _ _ => rfl))) (pg_tupK K (n := 5) rfl (pgs_cons (pg_name (i := 6) scLaround.nd rfl (by first | exact .inl rfl | exact .inr rfl)) (pgs_cons (pg_name (i := 7) scLaround.nd rfl (by first | exact .inl rfl | exact .inr rfl)) (pgs_cons (pg_name (i := 8) scLaround.nd rfl (by first | exact .inl rfl | exact .inr rfl)) (pgs_cons (pg_name (i := 9) scLaround.nd rfl (by first | exact .inl rfl | exact .inr rfl)) (pgs_cons (pg_name (i := 10) scLaround.nd rfl (by first | exact .inl rfl | exact .inr rfl)) pgs_nil))))))
      (pss_cons (ps_par (i := 11) (j := 12) (by rfl) scLaround.nd rfl rfl (by decide) rfl rfl (pa_cons (pe_ix (ix_tupK K) (pe_dget (hu_of hr) (pv 1) (pv 6) (fun _ _ => rfl)) pe_int (fun _ _ => rfl)) (pa_cons (pe_ix (ix_tupK K) (pe_dget (hu_of hr) (pv 1) (pv 6) (fun _ _ => rfl)) pe_int (fun _ _ => rfl)) pa_nil)) (by rfl))
      (pss_cons (ps_if (PW.pt (pw_and (pt_cmpR (notIn_seqK K) (pv 7) (pv 3) rfl) (pw_and1 (PW.pt (pw_or (pt_cmpR op_eq (pv 8) (pv 2) (nomark _)) (pw_or1 (pt_cmpR (in_seqK K) (pv 8) (pv 3) rfl))))))) (pss_one (ps_set (i := 4) scLaround.nd rfl (by first | exact .inl rfl | exact .inr rfl) (pe_op op_add (pv 4) (pv 11)))) pss_nil)
      (pss_cons (ps_if (PW.pt (pw_and (pt_cmpR (in_seqK K) (pv 7) (pv 3) rfl) (pw_and (pt_cmpR (notIn_seqK K) (pv 8) (pv 3) rfl) (pw_and1 (pt_cmpR op_ne (pv 8) (pv 2) (nomark _)))))) (pss_one (ps_set (i := 4) scLaround.nd rfl (by first | exact .inl rfl | exact .inr rfl) (pe_op op_sub (pv 4) (pv 12)))) pss_nil)
      (pss_cons (ps_if (PW.pt (pw_and (pt_cmpR (notIn_seqK K) (pv 8) (pv 3) rfl) (pw_and1 (PW.pt (pw_or (pt_cmpR op_eq (pv 7) (pv 2) (nomark _)) (pw_or1 (pt_cmpR (in_seqK K) (pv 7) (pv 3) rfl))))))) (pss_one (ps_set (i := 5) scLaround.nd rfl (by first | exact .inl rfl | exact .inr rfl) (pe_op op_add (pv 5) (pv 12)))) pss_nil)
      (pss_one (ps_if (PW.pt (pw_and (pt_cmpR (in_seqK K) (pv 8) (pv 3) rfl) (pw_and (pt_cmpR (notIn_seqK K) (pv 7) (pv 3) rfl) (pw_and1 (pt_cmpR op_ne (pv 7) (pv 2) (nomark _)))))) (pss_one (ps_set (i := 5) scLaround.nd rfl (by first | exact .inl rfl | exact .inr rfl) (pe_op op_sub (pv 5) (pv 11)))) pss_nil)))))))
      (pss_one (ps_ret (pe_tup (pa_cons (pv 4) (pa_cons (pv 5) pa_nil)))))))), ?_⟩
    refine ⟨_, rfl, pt, _, _, _, rfl, rfl, SqT.of h1, rfl, sl, rfl, ⟨_, SqL.of h3⟩, ?_⟩
    refine for_J (J := Itl K sl) (B := H) (gv_list (SqL.of h3) h4) (fun i σ H' => (∃ a b o6 o7 o8 o9 o10 o11 o12, a = MsM.sumOf (mostW lo hi x lot) (ss.take i) ∧ b = MsM.sumOf (leastW lo hi x lot) (ss.take i) ∧ σ = [some (.ref pt), some (.ref m), some (.str x), some (.ref l), some (.int a), some (.int b), o6, o7, o8, o9, o10, o11, o12]) ∧ Ex H H')
      ⟨⟨_, _, _, _, _, _, _, _, _, rfl, rfl, rfl⟩, Evl.Ex.refl _⟩ (fun i σ H' h => h.2) (fun i v c σ H' hc hx hI => ?_) (fun σ H' hI => ?_)
    · obtain ⟨⟨a, b, o6, o7, o8, o9, o10, o11, o12, ea, eb, rfl⟩, e⟩ := hI
      obtain ⟨t, rfl, ht⟩ := hx
      have ck : c.n ∈ km := (hk _).mpr (List.mem_map_of_mem (List.mem_of_getElem? hc))
      have hlot : SqL K H' l (lot.map V.str) := SqL.of (e _ _ hl)
      refine ⟨t, _, rfl, SqT.of (e _ _ ht), rfl, _, _, rfl, _, _, rfl, _, _, rfl, _, _, rfl, _, _, rfl, rfl, ?_⟩
      refine ⟨_, rfl, _, rfl, m, _, rfl, dr_get (.inl (e _ _ hm)) ck, g c.n, _, _, _, rfl, rfl, SqT.of (e _ _ (hg _ ck)), rfl, _, rfl, _, rfl, m, _, rfl, dr_get (.inl (e _ _ hm)) ck, g c.n, _, _, _, rfl, rfl, SqT.of (e _ _ (hg _ ck)), rfl, _, _, rfl, ?_⟩
      simp only [List.set_cons_succ, List.set_cons_zero]
      refine TBo.ifS (b := mA x lot c) (TBo.and (TBo.no_ rfl rfl hlot) (TBo.or (TBo.eq_ rfl rfl) (TBo.in_ rfl rfl hlot))) (fun q1 => ⟨_, rfl, _, rfl, _, _, rfl, rfl, ?_⟩) (fun q1 => ?_)
      all_goals refine TBo.ifS (b := mB x lot c) (TBo.and (TBo.in_ rfl rfl hlot) (TBo.and (TBo.no_ rfl rfl hlot) (TBo.ne_ rfl rfl))) (fun q2 => ⟨_, rfl, _, rfl, _, _, rfl, rfl, ?_⟩) (fun q2 => ?_)
      all_goals refine TBo.ifS (b := lA x lot c) (TBo.and (TBo.no_ rfl rfl hlot) (TBo.or (TBo.eq_ rfl rfl) (TBo.in_ rfl rfl hlot))) (fun q3 => ⟨_, rfl, _, rfl, _, _, rfl, rfl, ?_⟩) (fun q3 => ?_)
      all_goals refine TBo.ifS (b := lB x lot c) (TBo.and (TBo.in_ rfl rfl hlot) (TBo.and (TBo.no_ rfl rfl hlot) (TBo.ne_ rfl rfl))) (fun q4 => ⟨_, rfl, _, rfl, _, _, rfl, rfl, ?_⟩) (fun q4 => ?_)
      all_goals refine ⟨⟨_, _, _, _, _, _, _, _, _, ?_, ?_, rfl⟩, e⟩
      all_goals
        rw [take_snoc hc, MsM.sumOf_append]
        simp only [MsM.sumOf, mostW, leastW, q1, q2, q3, q4, if_true, Bool.false_eq_true, if_false]
        omega
    · obtain ⟨⟨a, b, o6, o7, o8, o9, o10, o11, o12, ea, eb, rfl⟩, e⟩ := hI
      rw [List.take_length] at ea eb
      subst ea eb
      exact ⟨_, rfl, _, rfl, sz1 (by show 2 ≤ 100000; decide), fun t nt => k t _ (e.trans (Evl.Ex.new nt)) upd_same⟩
abbrev sLshows : Stmt := top 69
abbrev nLshows : List Str := ["_law_plant_here", "_law_limits", "_law_knot", "_law_lot", "_law_number", "_law_is_high", "_law_most", "_law_least", "_law_one"]
theorem scLshows : FnScope nLshows ["_law_plant_here", "_law_limits", "_law_knot", "_law_lot", "_law_number", "_law_is_high"] (defScope sLshows) := ⟨rfl, rfl, rfl, by decide +kernel, rfl, by decide +kernel, by decide +kernel⟩
def spLshows (K : PySem.W.Frag) : Sp := fun vs H Q _ => ∃ (pt m : Addr) (x : Str) (v : V) (n : Int) (b : Bool) (kn kn' : List Str) (ss : List Sm) (km : List Str) (lo hi : Str → Int) (l : Option (List Str)), vs = [.ref pt, .ref m, .str x, v, .int n, .bl b] ∧ LP H pt kn ss ∧ PlOk kn ss ∧ kn'.Perm kn ∧ sortedS kn' = true ∧ LmH H m km lo hi ∧ (∀ n, n ∈ km ↔ n ∈ ss.map (·.n)) ∧ LotR K H v l ∧ LotOk l ∧ Giv (.bl (showsL kn' ss lo hi x l n b)) H Q
theorem ok_lshows (d : Dn K mg "_law_shows" sLshows ["_law_plant_here", "_law_limits", "_law_knot", "_law_lot", "_law_number", "_law_is_high"]) (G : Glb mg) (c__law_around : Cal P w K mg base 1 "_law_around" spAround []) : Cal P w K mg base 2 "_law_shows" (spLshows K) [] := by
  refine d.cal scLshows (fun vs H Q E h => ?_) (fun f cdv A outer s H vs Q E hr h => ?_)
  · obtain ⟨pt, m, x, v, n, b, kn, kn', ss, km, lo, hi, l, rfl, _⟩ := h
    rfl
  · obtain ⟨pt, m, x, v, n, b, kn, kn', ss, km, lo, hi, l, rfl, hp, ok, pk, sk, hm, hk, hv, hok, k⟩ := h
    refine ⟨_, (pss_cons (ps_if (PW.pt (pw_or (pt_cmp (pc_isN (pv 3))) (pw_or (pt_cmpR (op_neD hr.units) (pv 3) (pe_lc (own := [("_law_one", 8)]) rfl scLshows.nd (pi_list (pe_callB cr_sortedS (by rfl) G.sorted (by decide +kernel) (pa_cons (pe_ix (ix_tupK K) (pv 0) pe_int (fun _ _ => rfl)) pa_nil))) (blkOk_by (N := nLshows) (sc := defScope sLshows) (by decide +kernel)) (fun _ _ _ _ _ => (pg_name (i := 8) scLshows.nd rfl (by first | exact .inl rfl | exact .inr rfl))) (fun _ _ _ _ _ => (pts_one (pt_cmpR (in_seqK K) (pv 8) (pv 3) rfl))) (fun _ _ _ _ _ => (pv 8))) (nomark _)) (pw_or1 (pt_cmpR (in_seqK K) (pv 2) (pv 3) rfl))))) (pss_one (ps_ret pe_bl)) pss_nil)
      (pss_cons (ps_asg (pe_c c__law_around hr (by decide) rfl (pa_cons (pv 0) (pa_cons (pv 1) (pa_cons (pv 2) (pa_cons (pv 3) pa_nil))))) (pg_tupK K (n := 2) rfl (pgs_cons (pg_name (i := 6) scLshows.nd rfl (by first | exact .inl rfl | exact .inr rfl)) (pgs_cons (pg_name (i := 7) scLshows.nd rfl (by first | exact .inl rfl | exact .inr rfl)) pgs_nil))))
      (pss_one (ps_ret (pe_ifExp (pt_val (pv 5)) (pe_cmpR op_le (pv 6) (pv 4) (nomark _)) (pe_cmpR op_ge (pv 7) (pv 4) (nomark _))))))), ?_⟩
    cases l with
    | none =>
      have hv : v = .non := hv
      subst hv
      exact ⟨_, rfl, _, rfl, itT rfl (itT rfl (k _ (Evl.Ex.refl _)))⟩
    | some lot =>
      obtain ⟨r, rfl, hr⟩ := hv
      obtain ⟨zl, sl0⟩ := hok lot rfl
      obtain ⟨kl, sl, ws, h1, h2, h3, h4⟩ := hp
      refine ⟨_, rfl, _, rfl, itF rfl ?_⟩
      refine ⟨_, rfl, _, rfl, pt, _, _, _, rfl, rfl, SqT.of h1, rfl, kl, kn, rfl, SqL.of h2, by have := ok.ku; omega, fun ys p1 pm srt np => ?_⟩
      have ey : ys = kn' := sorted_unique (pm.trans pk.symm) srt sk
      subst ey
      have e1 := Evl.Ex.new (o := .lst (ys.map V.str)) np
      have zy : ys.length ≤ 24 := by rw [pm.length_eq]; exact ok.ku
      refine ⟨p1, rfl, ⟨_, SqL.of upd_same⟩, ?_⟩
      refine lc_J (J := Itl K p1) (fun v (x : Str) _ => v = V.str x) (fun _ v x _ => v = V.str x) (fun _ => std_str) (fun s => if s ∈ lot then some s else none) (gv_list (SqL.of upd_same) (str_ls _ _)) (by omega) (fun D y c H' T Y _ _ ex hc e hT hY => ?_) (fun D zs H' hn e hy hl => ?_)
      · subst ex
        refine ⟨rfl, _, rfl, _, rfl, r, _, rfl, .inl (SqL.of (e _ _ (e1 _ _ hr))), rfl, flat_strs _, _, rfl, ?_⟩
        rw [if_neg Bool.false_ne_true, inV_str]
        refine ite2 (fun q => ?_) (fun q => ?_)
        · exact ⟨_, rfl, hY c (if_pos (of_decide_eq_true q)) _ _ (Evl.Ex.refl _) rfl⟩
        · exact hT (if_neg fun z => q (decide_eq_true z)) _ (Evl.Ex.refl _)
      have e0 : (ys.filterMap fun s => if s ∈ lot then some s else none) = (ys.filter fun s => decide (s ∈ lot)) := by
        rw [fm_if (fun s => s ∈ lot) (fun s => s), List.map_id']
      rw [e0] at hl
      have e2 := e1.trans e
      refine ⟨_, _, .lst (SqL.of (e2 _ _ hr)) (dpAll_str lot), .lst (SqL.of (by rw [hy, ls_str hl])) (dpAll_str _), shaped_str sl0, shaped_str fun x hx => (ok.kok x (pm.mem_iff.mp (List.mem_filter.mp hx).1)).str, _, rfl, ?_⟩
      rw [eqD_str]
      have hs : showsL ys ss lo hi x (some lot) n b = ((decide (lot = ys.filter fun x => decide (x ∈ lot)) && !decide (x ∈ lot)) && (if b = true then decide (mostL ss lo hi x lot ≤ n) else decide (n ≤ leastL ss lo hi x lot))) := rfl
      rw [hs] at k
      by_cases q1 : lot = ys.filter fun x => decide (x ∈ lot)
      case neg =>
        rw [decide_eq_false q1] at k
        exact itT (by rw [decide_eq_false q1]; rfl) (itT rfl (k _ e2))
      rw [decide_eq_true q1] at k
      refine itF (by rw [decide_eq_true q1]; rfl) ?_
      refine ⟨_, rfl, _, rfl, r, _, rfl, .inl (SqL.of (e2 _ _ hr)), rfl, flat_strs _, _, rfl, ?_⟩
      rw [if_neg Bool.false_ne_true, inV_str]
      by_cases q2 : x ∈ lot
      · rw [decide_eq_true q2] at k
        exact itP q2 (k _ e2)
      rw [decide_eq_false q2] at k
      refine itN q2 ?_
      refine ⟨_, rfl, _, rfl, _, rfl, _, rfl, pt, m, r, x, kn, ss, km, lo, hi, lot, rfl, LP.mono e2 ⟨kl, sl, ws, h1, h2, h3, h4⟩, ok.su, hm.mono e2, hk, e2 _ _ hr, fun t H3 e3 ht => ?_⟩
      refine ⟨t, _, rfl, SqT.of ht, rfl, _, _, rfl, _, _, rfl, rfl, ?_⟩
      refine ⟨_, rfl, b, rfl, it2 (fun q => ?_) (fun q => ?_)⟩
      · subst q
        exact ⟨_, rfl, _, rfl, _, _, rfl, rfl, k _ (e2.trans e3)⟩
      · subst q
        exact ⟨_, rfl, _, rfl, _, _, rfl, rfl, k _ (e2.trans e3)⟩
abbrev sLis_right : Stmt := top 70
abbrev nLis_right : List Str := ["_law_plant_here", "_law_limits", "_law_knot", "_law_parts", "_law_low", "_law_high", "_law_low_flows", "_law_high_flows", "_law_low_lot", "_law_high_lot"]
theorem scLis_right : FnScope nLis_right ["_law_plant_here", "_law_limits", "_law_knot", "_law_parts"] (defScope sLis_right) := ⟨rfl, rfl, rfl, by decide +kernel, rfl, by decide +kernel, by decide +kernel⟩
def spRight (K : PySem.W.Frag) : Sp := fun vs H Q _ => ∃ (pt m t q1 q2 : Addr) (x : Str) (low high : Int) (v1 v2 : V) (kn kn' : List Str) (ss : List Sm) (km k1 k2 : List Str) (lo hi f1 f2 : Str → Int) (l1 l2 : Option (List Str)), vs = [.ref pt, .ref m, .str x, .ref t] ∧ H t = some (.tup [.int low, .int high, .ref q1, .ref q2, v1, v2]) ∧ LP H pt kn ss ∧ PlOk kn ss ∧ kn'.Perm kn ∧ sortedS kn' = true ∧ LmH H m km lo hi ∧ (∀ n, n ∈ km ↔ n ∈ ss.map (·.n)) ∧ km.length ≤ 60 ∧ FlH H q1 k1 f1 ∧ k1.Perm km ∧ q1 ≠ m ∧ FlH H q2 k2 f2 ∧ k2.Perm km ∧ q2 ≠ m ∧ LotR K H v1 l1 ∧ LotOk l1 ∧ LotR K H v2 l2 ∧ LotOk l2 ∧ Giv (.bl (rightB kn kn' ss km lo hi x low high f1 f2 l1 l2)) H Q
theorem ok_is_right (d : Dn K mg "_law_is_right" sLis_right ["_law_plant_here", "_law_limits", "_law_knot", "_law_parts"]) (G : Glb mg) (c__law_are_good : Cal P w K mg base 3 "_law_are_good" spGood []) (c__law_passing : Cal P w K mg base 1 "_law_passing" spPassing []) (c__law_shows : Cal P w K mg base 2 "_law_shows" (spLshows K) []) : Cal P w K mg base 4 "_law_is_right" (spRight K) [] := by
  refine d.cal scLis_right (fun vs H Q E h => ?_) (fun f cdv A outer s H vs Q E hr h => ?_)
  · obtain ⟨pt, m, t, q1, q2, x, low, high, v1, v2, kn, kn', ss, km, k1, k2, lo, hi, f1, f2, l1, l2, rfl, _⟩ := h
    rfl
  · obtain ⟨pt, m, t, q1, q2, x, low, high, v1, v2, kn, kn', ss, km, k1, k2, lo, hi, f1, f2, l1, l2, rfl, ht, hp, ok, pk, sk, hm, hk, hz, hq1, p1, n1, hq2, p2, n2, hv1, hl1, hv2, hl2, k⟩ := h
    refine ⟨_, (pss_cons (ps_asg (pv 3) (pg_tupK K (n := 6) rfl (pgs_cons (pg_name (i := 4) scLis_right.nd rfl (by first | exact .inl rfl | exact .inr rfl)) (pgs_cons (pg_name (i := 5) scLis_right.nd rfl (by first | exact .inl rfl | exact .inr rfl)) (pgs_cons (pg_name (i := 6) scLis_right.nd rfl (by first | exact .inl rfl | exact .inr rfl)) (pgs_cons (pg_name (i := 7) scLis_right.nd rfl (by first | exact .inl rfl | exact .inr rfl)) (pgs_cons (pg_name (i := 8) scLis_right.nd rfl (by first | exact .inl rfl | exact .inr rfl)) (pgs_cons (pg_name (i := 9) scLis_right.nd rfl (by first | exact .inl rfl | exact .inr rfl)) pgs_nil))))))))
      (pss_cons (ps_if (PW.pt (pw_or (pt_not (pt_val (pe_c c__law_are_good hr (by decide) rfl (pa_cons (pv 0) (pa_cons (pv 1) (pa_cons (pv 6) pa_nil)))))) (pw_or1 (pt_not (pt_val (pe_c c__law_are_good hr (by decide) rfl (pa_cons (pv 0) (pa_cons (pv 1) (pa_cons (pv 7) pa_nil))))))))) (pss_one (ps_ret pe_bl)) pss_nil)
      (pss_cons (ps_if (pt_cmpR (op_neD hr.units) (pe_tup (pa_cons (pe_c c__law_passing hr (by decide) rfl (pa_cons (pv 0) (pa_cons (pv 6) (pa_cons (pv 2) pa_nil)))) (pa_cons (pe_c c__law_passing hr (by decide) rfl (pa_cons (pv 0) (pa_cons (pv 7) (pa_cons (pv 2) pa_nil)))) pa_nil))) (pe_tup (pa_cons (pv 4) (pa_cons (pv 5) pa_nil))) (nomark _)) (pss_one (ps_ret pe_bl)) pss_nil)
      (pss_one (ps_ret (pe_and (pe_c c__law_shows hr (by decide) rfl (pa_cons (pv 0) (pa_cons (pv 1) (pa_cons (pv 2) (pa_cons (pv 8) (pa_cons (pv 4) (pa_cons pe_bl pa_nil))))))) (pe_one (pe_c c__law_shows hr (by decide) rfl (pa_cons (pv 0) (pa_cons (pv 1) (pa_cons (pv 2) (pa_cons (pv 9) (pa_cons (pv 5) (pa_cons pe_bl pa_nil)))))))))))))), ?_⟩
    have hk1 : ∀ n, n ∈ k1 ↔ n ∈ ss.map (·.n) := fun n => ⟨fun h => (hk n).mp (p1.mem_iff.mp h), fun h => p1.mem_iff.mpr ((hk n).mpr h)⟩
    have hk2 : ∀ n, n ∈ k2 ↔ n ∈ ss.map (·.n) := fun n => ⟨fun h => (hk n).mp (p2.mem_iff.mp h), fun h => p2.mem_iff.mpr ((hk n).mpr h)⟩
    have skm : ∀ n ∈ km, PyData.strOk n = true := fun n hn => by
      obtain ⟨s, hs, e⟩ := List.mem_map.mp ((hk n).mp hn)
      rw [← e]
      exact (ok.sok s hs).1.str
    refine ⟨_, rfl, t, _, rfl, SqT.of ht, rfl, _, _, rfl, _, _, rfl, _, _, rfl, _, _, rfl, _, _, rfl, _, _, rfl, rfl, ?_⟩
    unfold rightB at k
    refine ⟨_, rfl, _, rfl, _, rfl, pt, m, q1, kn, ss, km, k1, lo, hi, f1, rfl, hp, ok, hm, hq1, hk1, p1, hz, skm, n1, fun H1 e1 => ⟨_, rfl, ?_⟩⟩
    cases g1 : (withinB km lo hi f1 && balancedB kn ss f1) with
    | false =>
      rw [g1, Bool.false_and] at k
      exact itT rfl (itT rfl (k _ e1))
    | true =>
    rw [g1, Bool.true_and] at k
    refine itF rfl ?_
    refine ⟨_, rfl, _, rfl, _, rfl, pt, m, q2, kn, ss, km, k2, lo, hi, f2, rfl, hp.mono e1, ok, hm.mono e1, hq2.mono e1, hk2, p2, hz, skm, n2, fun H2 e2 => ⟨_, rfl, ?_⟩⟩
    have e02 := e1.trans e2
    cases g2 : (withinB km lo hi f2 && balancedB kn ss f2) with
    | false =>
      rw [g2, Bool.false_and] at k
      exact itT rfl (k _ e02)
    | true =>
    rw [g2, Bool.true_and] at k
    refine itF rfl ?_
    refine ⟨_, rfl, _, rfl, _, rfl, pt, q1, kn, ss, k1, f1, x, rfl, hp.mono e02, ok, hq1.mono e02, hk1, fun H3 e3 => ?_⟩
    have e03 := e02.trans e3
    refine ⟨_, rfl, _, rfl, _, rfl, pt, q2, kn, ss, k2, f2, x, rfl, hp.mono e03, ok, hq2.mono e03, hk2, fun H4 e4 => ?_⟩
    have e04 := e03.trans e4
    refine ⟨sz1 (by show 2 ≤ 100000; decide), fun t1 nt1 => ⟨_, rfl, _, rfl, sz1 (by show 2 ≤ 100000; decide), fun t2 nt2 => ?_⟩⟩
    have e05 := (e04.trans (Evl.Ex.new (o := .tup [.int (pass ss f1 x), .int (pass ss f2 x)]) nt1)).trans (Evl.Ex.new (o := .tup [.int low, .int high]) nt2)
    refine ⟨_, _, .tup (SqT.of (Evl.Ex.new nt2 _ _ upd_same)) (.cons (.int _) (.cons (.int _) .nil)), .tup (SqT.of upd_same) (.cons (.int _) (.cons (.int _) .nil)), shaped_pair _ _, shaped_pair _ _, _, rfl, ?_⟩
    rw [eqv_pair]
    by_cases gp : pass ss f1 x = low ∧ pass ss f2 x = high
    case neg =>
      rw [decide_eq_false gp, Bool.false_and] at k
      exact itT (by rw [decide_eq_false gp]; rfl) (k _ e05)
    rw [decide_eq_true gp, Bool.true_and] at k
    refine itF (by rw [decide_eq_true gp]; rfl) ?_
    refine ⟨_, rfl, _, rfl, _, rfl, _, rfl, _, rfl, pt, m, x, v1, low, false, kn, kn', ss, km, lo, hi, l1, rfl, hp.mono e05, ok, pk, sk, hm.mono e05, hk, hv1.mono e05, hl1, fun H6 e6 => ⟨_, rfl, ?_⟩⟩
    have e06 := e05.trans e6
    cases g3 : showsL kn' ss lo hi x l1 low false with
    | false =>
      rw [g3, Bool.false_and] at k
      exact itF rfl (k _ e06)
    | true =>
    rw [g3, Bool.true_and] at k
    refine itT rfl ?_
    exact ⟨_, rfl, _, rfl, _, rfl, _, rfl, _, rfl, pt, m, x, v2, high, true, kn, kn', ss, km, lo, hi, l2, rfl, hp.mono e06, ok, pk, sk, hm.mono e06, hk, hv2.mono e06, hl2, fun H7 e7 => k _ (e06.trans e7)⟩
end
end Ms

set_option maxHeartbeats 4000000
namespace Ms
open PySem PySem.Spec PyProof.Rows L2
open Evl (Ex)
open C8 (Cal Mak Met pe_c pe_mk pe_mt pe_mt0 pe_gc)
theorem strA_ok : PyData.strOk ("A" : Str) = true := by decide +kernel
theorem lotOk_none : LotOk none := fun lot h => by cases h
section
variable {P : Program} {w : World} {K : PySem.W.Frag} {mg : Str → Option Value} {base : Heap} {C M R : Addr}
abbrev sLchanged : Stmt := top 71
abbrev nLchanged : List Str := ["_law_numbers_here", "_law_at", "_law_plant_here", "_law_parts", "_law_kind", "_law_which", "_law_lots_here"]
theorem scLchanged : FnScope nLchanged ["_law_numbers_here", "_law_at", "_law_plant_here", "_law_parts"] (defScope sLchanged) := ⟨rfl, rfl, rfl, by decide +kernel, rfl, by decide +kernel, by decide +kernel⟩
def spChanged (K : PySem.W.Frag) : Sp := fun vs H Q _ => ∃ (a pt ps q1 q2 : Addr) (at_ : Nat) (ns : List Int) (kn : List Str) (ss : List Sm) (low high : Int) (v1 v2 : V) (l1 l2 : Option (List Str)), vs = [.ref a, .int (at_ : Nat), .ref pt, .ref ps] ∧ NsR H a ns ∧ at_ + 2 < 120 ∧ LP H pt kn ss ∧ kn.length ≤ 4 ∧ (∀ y ∈ kn, NameOk y) ∧ H ps = some (.lst [.int low, .int high, .ref q1, .ref q2, v1, v2]) ∧ LotR K H v1 l1 ∧ LotOk l1 ∧ LotR K H v2 l2 ∧ LotOk l2 ∧
  ∀ r low' high' q1' q2' w1 w2 m1 m2 H', H r = none → Ex H H' → H' r = some (.lst [.int low', .int high', .ref q1', .ref q2', w1, w2]) → ((q1' = q1 ∧ q2' = q2) ∨ (q1' = q2 ∧ q2' = q1)) → LotR K H' w1 m1 → LotOk m1 → LotR K H' w2 m2 → LotOk m2 → Q (.ref r) H'
theorem ok_changed (d : Dn K mg "_law_changed" sLchanged ["_law_numbers_here", "_law_at", "_law_plant_here", "_law_parts"]) (G : Glb mg) (c__law_lots : Cal P w K mg base 1 "_law_lots" spLots []) : Cal P w K mg base 2 "_law_changed" (spChanged K) [] := by
  refine d.cal scLchanged (fun vs H Q E h => ?_) (fun f cdv A outer s H vs Q E hr h => ?_)
  · obtain ⟨a, pt, ps, q1, q2, at_, ns, kn, ss, low, high, v1, v2, l1, l2, rfl, _⟩ := h
    rfl
  · obtain ⟨a, pt, ps, q1, q2, at_, ns, kn, ss, low, high, v1, v2, l1, l2, rfl, ha, hat, hp, hz, okk, hps, hv1, hl1, hv2, hl2, k⟩ := h
    refine ⟨_, (pss_cons (ps_set (i := 3) scLchanged.nd rfl (by first | exact .inl rfl | exact .inr rfl) (pe_callTy call_list_of (by rfl) G.list (by decide +kernel) (pa_cons (pv 3) pa_nil)))
      (pss_cons (ps_set (i := 4) scLchanged.nd rfl (by first | exact .inl rfl | exact .inr rfl) (pe_op op_mod (pe_callTy call_int1 (by rfl) G.int (by decide +kernel) (pa_cons (pe_ix (ix_listK K) (pv 0) (pv 1) (fun _ _ => rfl)) pa_nil)) pe_int))
      (pss_cons (ps_set (i := 5) scLchanged.nd rfl (by first | exact .inl rfl | exact .inr rfl) (pe_op op_mod (pe_callTy call_int1 (by rfl) G.int (by decide +kernel) (pa_cons (pe_ix (ix_listK K) (pv 0) (pe_op op_add (pv 1) pe_int) (fun _ _ => rfl)) pa_nil)) pe_int))
      (pss_cons (ps_if (pt_cmpR op_eq (pv 4) pe_int (nomark _)) (pss_one (ps_asg (pe_op op_sub (pe_op op_add (pe_ix (ix_listK K) (pv 3) (pv 5) (fun _ _ => rfl)) (pe_op op_mod (pe_callTy call_int1 (by rfl) G.int (by decide +kernel) (pa_cons (pe_ix (ix_listK K) (pv 0) (pe_op op_add (pv 1) pe_int) (fun _ _ => rfl)) pa_nil)) pe_int)) pe_int) (pg_sub (pv 3) (pv 5) set_list))) pss_nil)
      (pss_cons (ps_if (pt_cmpR op_eq (pv 4) pe_int (nomark _)) (pss_one (ps_asg (pe_tup (pa_cons (pe_ix (ix_listK K) (pv 3) pe_int (fun _ _ => rfl)) (pa_cons (pe_ix (ix_listK K) (pv 3) pe_int (fun _ _ => rfl)) pa_nil))) (pg_tupK K (n := 2) rfl (pgs_cons (pg_sub (pv 3) pe_int set_list) (pgs_cons (pg_sub (pv 3) pe_int set_list) pgs_nil))))) pss_nil)
      (pss_cons (ps_if (pt_cmpR op_eq (pv 4) pe_int (nomark _)) (pss_one (ps_asg pe_non (pg_sub (pv 3) (pe_op op_add pe_int (pv 5)) set_list))) pss_nil)
      (pss_cons (ps_if (pt_cmpR op_gt (pv 4) pe_int (nomark _)) (pss_cons (ps_set (i := 6) scLchanged.nd rfl (by first | exact .inl rfl | exact .inr rfl) (pe_op op_cat (pe_c c__law_lots hr (by decide) rfl (pa_cons (pv 2) pa_nil)) (pe_lst (pa_cons (pe_lst (pa_cons pe_str pa_nil)) pa_nil))))
      (pss_one (ps_asg (pe_ix (ix_listK K) (pv 6) (pe_op op_modN (pe_callTy call_int1 (by rfl) G.int (by decide +kernel) (pa_cons (pe_ix (ix_listK K) (pv 0) (pe_op op_add (pv 1) pe_int) (fun _ _ => rfl)) pa_nil)) (pe_callB (len_seqK K) (by rfl) G.len (by decide +kernel) (pa_cons (pv 6) pa_nil))) (fun _ _ => rfl)) (pg_sub (pv 3) (pe_op op_add pe_int (pv 5)) set_list)))) pss_nil)
      (pss_one (ps_ret (pv 3)))))))))), ?_⟩
    obtain ⟨x0, hx0, _, _⟩ := ha.at_ (i := (at_ : Nat)) (j := at_) rfl (by omega)
    obtain ⟨x1, hx1, _, _⟩ := ha.at_ (i := (at_ : Nat) + 1) (j := at_ + 1) (by omega) (by omega)
    obtain ⟨x2, hx2, _, _⟩ := ha.at_ (i := (at_ : Nat) + 2) (j := at_ + 2) (by omega) (by omega)
    refine ⟨_, rfl, ps, _, rfl, .inl (SqL.of hps), fun r nr => ?_⟩
    have e1 := Evl.Ex.new (o := .lst [.int low, .int high, .ref q1, .ref q2, v1, v2]) nr
    have hr1 : (upd H r (.lst [.int low, .int high, .ref q1, .ref q2, v1, v2])) r = some (.lst [.int low, .int high, .ref q1, .ref q2, v1, v2]) := upd_same
    generalize hH1 : upd H r (.lst [.int low, .int high, .ref q1, .ref q2, v1, v2]) = H1 at *
    have ha1 := e1 _ _ ha.h
    refine ⟨_, rfl, _, rfl, a, _, _, _, rfl, rfl, SqL.of ha1, hx0, .inl ⟨_, rfl, _, _, rfl, rfl, (by show (0 : Int) < _; decide), ?_⟩⟩
    refine ⟨_, rfl, _, rfl, _, _, rfl, rfl, a, _, _, _, rfl, rfl, SqL.of ha1, hx1, .inl ⟨_, rfl, _, _, rfl, rfl, (by show (0 : Int) < _; decide), ?_⟩⟩
    have wh0 := Int.emod_nonneg x1 (show (2 : Int) ≠ 0 by decide)
    have wh1 := Int.emod_lt_of_pos x1 (show (0 : Int) < 2 by decide)
    dsimp only
    generalize hwh : x1 % 2 = wh at *
    generalize hkd : x0 % 6 = kd at *
    have iN : ∀ n : Int, ¬ kd = n → decide (V.int kd = V.int n) = false := fun n h => decide_eq_false fun z => h (V.int.inj z)
    have whc : wh = 0 ∨ wh = 1 := by omega
    by_cases k1 : kd = 1
    · subst k1
      refine ⟨_, rfl, rfl, _, rfl, itT rfl ?_⟩
      rcases whc with rfl | rfl
      · refine ⟨_, rfl, _, rfl, r, _, _, _, rfl, rfl, SqL.of hr1, rfl, _, rfl, _, rfl, _, _, rfl, rfl, a, _, _, _, rfl, rfl, SqL.of ha1, hx2, .inl ⟨_, rfl, _, _, rfl, rfl, (by show (0 : Int) < _; decide), _, _, rfl, rfl, _, _, rfl, rfl, _, rfl, _, rfl, r, _, _, 0, rfl, rfl, hr1, rfl, ?_⟩⟩
        refine ⟨_, rfl, rfl, _, rfl, itF rfl ⟨_, rfl, rfl, _, rfl, itF rfl ⟨_, rfl, _, _, rfl, rfl, _, rfl, itF rfl ⟨_, rfl, ?_⟩⟩⟩⟩
        exact k r _ _ q1 q2 v1 v2 l1 l2 _ nr (Evl.Ex.mut e1 nr) upd_same (.inl ⟨rfl, rfl⟩) (hv1.mono (Evl.Ex.mut e1 nr)) hl1 (hv2.mono (Evl.Ex.mut e1 nr)) hl2
      · refine ⟨_, rfl, _, rfl, r, _, _, _, rfl, rfl, SqL.of hr1, rfl, _, rfl, _, rfl, _, _, rfl, rfl, a, _, _, _, rfl, rfl, SqL.of ha1, hx2, .inl ⟨_, rfl, _, _, rfl, rfl, (by show (0 : Int) < _; decide), _, _, rfl, rfl, _, _, rfl, rfl, _, rfl, _, rfl, r, _, _, 1, rfl, rfl, hr1, rfl, ?_⟩⟩
        refine ⟨_, rfl, rfl, _, rfl, itF rfl ⟨_, rfl, rfl, _, rfl, itF rfl ⟨_, rfl, _, _, rfl, rfl, _, rfl, itF rfl ⟨_, rfl, ?_⟩⟩⟩⟩
        exact k r _ _ q1 q2 v1 v2 l1 l2 _ nr (Evl.Ex.mut e1 nr) upd_same (.inl ⟨rfl, rfl⟩) (hv1.mono (Evl.Ex.mut e1 nr)) hl1 (hv2.mono (Evl.Ex.mut e1 nr)) hl2
    refine ⟨_, rfl, rfl, _, rfl, itF (iN 1 k1) ?_⟩
    by_cases k2 : kd = 2
    · subst k2
      refine ⟨_, rfl, rfl, _, rfl, itT rfl ?_⟩
      refine ⟨_, rfl, r, _, _, _, rfl, rfl, SqL.of hr1, rfl, _, rfl, r, _, _, _, rfl, rfl, SqL.of hr1, rfl, sz1 (by show 2 ≤ 100000; decide), fun t nt => ?_⟩
      have rt : r ≠ t := fun z => by rw [← z, hr1] at nt; cases nt
      have hr2 := Evl.Ex.new (o := .tup [.ref q2, .ref q1]) nt _ _ hr1
      have e2 := e1.trans (Evl.Ex.new (o := .tup [.ref q2, .ref q1]) nt)
      refine ⟨t, _, rfl, SqT.of upd_same, rfl, _, _, rfl, _, rfl, r, _, _, 2, rfl, rfl, hr2, rfl, _, _, rfl, _, rfl, r, _, _, 3, rfl, rfl, upd_same, rfl, rfl, ?_⟩
      refine ⟨_, rfl, rfl, _, rfl, itF rfl ⟨_, rfl, _, _, rfl, rfl, _, rfl, itF rfl ⟨_, rfl, ?_⟩⟩⟩
      have e3 := Evl.Ex.mut (o := .lst [.int low, .int high, .ref q2, .ref q1, v1, v2]) (Evl.Ex.mut (o := .lst [.int low, .int high, .ref q2, .ref q2, v1, v2]) e2 nr) nr
      exact k r _ _ q2 q1 v1 v2 l1 l2 _ nr e3 upd_same (.inr ⟨rfl, rfl⟩) (hv1.mono e3) hl1 (hv2.mono e3) hl2
    refine ⟨_, rfl, rfl, _, rfl, itF (iN 2 k2) ?_⟩
    by_cases k3 : kd = 3
    · subst k3
      refine ⟨_, rfl, rfl, _, rfl, itT rfl ?_⟩
      rcases whc with rfl | rfl
      · refine ⟨_, rfl, _, rfl, _, _, rfl, rfl, r, _, _, 4, rfl, rfl, hr1, rfl, ?_⟩
        refine ⟨_, rfl, _, _, rfl, rfl, _, rfl, itF rfl ⟨_, rfl, ?_⟩⟩
        exact k r _ _ q1 q2 .non v2 none l2 _ nr (Evl.Ex.mut e1 nr) upd_same (.inl ⟨rfl, rfl⟩) rfl lotOk_none (hv2.mono (Evl.Ex.mut e1 nr)) hl2
      · refine ⟨_, rfl, _, rfl, _, _, rfl, rfl, r, _, _, 5, rfl, rfl, hr1, rfl, ?_⟩
        refine ⟨_, rfl, _, _, rfl, rfl, _, rfl, itF rfl ⟨_, rfl, ?_⟩⟩
        exact k r _ _ q1 q2 v1 .non l1 none _ nr (Evl.Ex.mut e1 nr) upd_same (.inl ⟨rfl, rfl⟩) (hv1.mono (Evl.Ex.mut e1 nr)) hl1 rfl lotOk_none
    refine ⟨_, rfl, rfl, _, rfl, itF (iN 3 k3) ?_⟩
    by_cases k4 : 3 < kd
    · refine ⟨_, rfl, _, _, rfl, rfl, _, rfl, itP k4 ?_⟩
      refine ⟨_, rfl, pt, kn, ss, rfl, hp.mono e1, hz, fun L ws lots H2 nL e2 hL hlL z16 pl => ?_⟩
      refine ⟨sz1 (by show 1 ≤ 100000; decide), fun A1 nA => ⟨sz1 (by show 1 ≤ 100000; decide), fun B nB => ?_⟩⟩
      have eA := Evl.Ex.new (o := .lst [.str ("A" : Str)]) nA
      have eB := Evl.Ex.new (o := .lst [.ref A1]) nB
      have e2B := eA.trans eB
      refine ⟨L, B, _, _, rfl, rfl, e2B _ _ hL, upd_same, sz1 (by have := hlL.1; show ws.length + 1 ≤ 100000; omega), fun Z nZ => ?_⟩
      have eZ := Evl.Ex.new (o := .lst (ws ++ [.ref A1])) nZ
      have e2Z := e2B.trans eZ
      have e1Z := e2.trans e2Z
      have e0Z := e1.trans e1Z
      have hA : (upd (upd (upd H2 A1 (.lst [.str ("A" : Str)])) B (.lst [.ref A1])) Z (.lst (ws ++ [.ref A1]))) A1 = some (.lst (([("A" : Str)]).map V.str)) := eZ _ _ (eB _ _ upd_same)
      have hZ : (upd (upd (upd H2 A1 (.lst [.str ("A" : Str)])) B (.lst [.ref A1])) Z (.lst (ws ++ [.ref A1]))) Z = some (.lst (ws ++ [.ref A1])) := upd_same
      have hlZ : LsR LoR (upd (upd (upd H2 A1 (.lst [.str ("A" : Str)])) B (.lst [.ref A1])) Z (.lst (ws ++ [.ref A1]))) (ws ++ [.ref A1]) (lots ++ [[("A" : Str)]]) := (hlL.mono stb_lo e2Z).snoc ⟨A1, rfl, hA⟩
      generalize hHZ : (upd (upd (upd H2 A1 (.lst [.str ("A" : Str)])) B (.lst [.ref A1])) Z (.lst (ws ++ [.ref A1]))) = HZ at *
      have hrZ := e1Z _ _ hr1
      have ne : ws ++ [V.ref A1] ≠ [] := by simp
      have nl : (((ws ++ [V.ref A1]).length : Nat) : Int) ≠ 0 := by rw [List.length_append, List.length_singleton]; omega
      obtain ⟨j, v, gj, atj⟩ := at_modV ne x2
      obtain ⟨lot, hlot, rl, ev, hrl⟩ := hlZ.2 j v gj
      subst ev
      have okl : LotOk (some lot) := fun l0 h0 => by
        cases h0
        rcases List.mem_append.mp (List.mem_of_getElem? hlot) with h | h
        · obtain ⟨b1, b2⟩ := pl lot h
          exact ⟨by omega, fun y hy => (okk y (b2 y hy)).str⟩
        · rw [List.mem_singleton] at h
          subst h
          refine ⟨by decide, fun y hy => ?_⟩
          rw [List.mem_singleton] at hy
          subst hy
          exact strA_ok
      refine ⟨_, rfl, _, rfl, _, rfl, _, _, rfl, rfl, a, _, _, _, rfl, rfl, SqL.of (e1Z _ _ ha1), hx2, .inl ⟨_, rfl, _, rfl, Z, _, rfl, .inl (SqL.of hZ), _, _, rfl, rfl, nl, Z, _, _, _, rfl, rfl, SqL.of hZ, atj, ?_⟩⟩
      have eM : ∀ o, Ex H (upd HZ r o) := fun o => Evl.Ex.mut e0Z nr
      have rlr : rl ≠ r := fun z => by
        rw [z, hrZ] at hrl
        have h1 := Option.some.inj hrl
        have h2 := HO.lst.inj h1
        cases lot with
        | nil => cases h2
        | cons y ys =>
          have h3 := (List.cons.inj h2).1
          cases h3
      rcases whc with rfl | rfl
      · refine ⟨_, rfl, _, rfl, _, _, rfl, rfl, r, _, _, 4, rfl, rfl, hrZ, rfl, ⟨_, rfl, ?_⟩⟩
        exact k r _ _ q1 q2 (.ref rl) v2 (some lot) l2 _ nr (eM _) upd_same (.inl ⟨rfl, rfl⟩) ⟨rl, rfl, by rw [upd_ne rlr]; exact hrl⟩ okl (hv2.mono (eM _)) hl2
      · refine ⟨_, rfl, _, rfl, _, _, rfl, rfl, r, _, _, 5, rfl, rfl, hrZ, rfl, ⟨_, rfl, ?_⟩⟩
        exact k r _ _ q1 q2 v1 (.ref rl) l1 (some lot) _ nr (eM _) upd_same (.inl ⟨rfl, rfl⟩) (hv1.mono (eM _)) hl1 ⟨rl, rfl, by rw [upd_ne rlr]; exact hrl⟩ okl
    · refine ⟨_, rfl, _, _, rfl, rfl, _, rfl, itN k4 ⟨_, rfl, ?_⟩⟩
      exact k r _ _ q1 q2 v1 v2 l1 l2 _ nr e1 hr1 (.inl ⟨rfl, rfl⟩) (hv1.mono e1) hl1 (hv2.mono e1) hl2
end
end Ms

set_option maxHeartbeats 4000000
namespace Ms
open PySem PySem.Spec PyProof.Rows L2
open Evl (Ex)
open C8 (Cal Mak Met pe_c pe_mk pe_mt pe_mt0 pe_gc)
theorem balB_iff {kn : List Str} {ss : List Sm} {f : Str → Int} : balancedB kn ss f = true ↔ Balanced kn ss f := by
  unfold balancedB Balanced
  rw [List.all_eq_true]
  exact ⟨fun h k hk => of_decide_eq_true (h k hk), fun h k hk => decide_eq_true (h k hk)⟩
theorem inR_iff {ss : List Sm} {ks : List Str} {lo hi f : Str → Int} (hk : ∀ n, n ∈ ks ↔ n ∈ ss.map (·.n)) : InR ks lo hi f ↔ Within ss lo hi f :=
  ⟨fun h s hs => h s.n ((hk _).mpr (List.mem_map_of_mem hs)), fun h n hn => by
    obtain ⟨s, hs, e⟩ := List.mem_map.mp ((hk n).mp hn)
    rw [← e]
    exact h s hs⟩
theorem pass_congr {ss : List Sm} {f g : Str → Int} (h : ∀ s ∈ ss, f s.n = g s.n) (x : Str) : pass ss f x = pass ss g x := by
  unfold pass
  congr 1
  refine List.map_congr_left fun s hs => h s (List.mem_filter.mp hs).1
theorem repr_same (b : Bool) : (!decide (V.str (if b = true then ("True" : Str) else "False") = V.str (if b = true then ("True" : Str) else "False"))) = false := by
  rw [decide_eq_true rfl]
  rfl
section
variable {P : Program} {w : World} {K : PySem.W.Frag} {mg : Str → Option Value} {base : Heap} {C M R : Addr}
abbrev slaw : Stmt := top 72
abbrev nlaw : List Str := ["_law_script", "_law_numbers_here", "_law_plant_here", "_law_flows", "_law_limits", "_law_made_here", "_law_good", "_law_k", "_law_knot", "_law_told", "_law_passing_here", "_law_parts", "_law_turn", "_law_low", "_law_high", "_law_low_flows", "_law_high_flows", "_law_low_lot", "_law_high_lot", "_law_other", "_law_due", "_law_row_here"]
theorem sclaw : FnScope nlaw ["_law_script"] (defScope slaw) := ⟨rfl, rfl, rfl, by decide +kernel, rfl, by decide +kernel, by decide +kernel⟩
def spLaw (K : PySem.W.Frag) : Sp := fun vs H Q _ => ∃ (a : Addr) (cells : List Int), vs = [.ref a] ∧ SqL K H a (cells.map V.int) ∧ ∀ H', Q (.bl true) H'
theorem ok_law {f : Addr} {fd : FuncData} (F : FunD K "law" "law" (defArgs slaw) (defBody slaw) (defScope slaw) [] [] f fd) (G : Glb mg) (T : RgT K R) (c__law_numbers : Cal P w K mg base 2 "_law_numbers" (spNumbers K) []) (c__law_plant : Cal P w K mg base 3 "_law_plant" spLplant []) (c__law_narrow : Cal P w K mg base 1 "_law_narrow" spNarrow []) (c__law_drawn_limits : Cal P w K mg base 1 "_law_drawn_limits" spDrawn []) (c__law_made : Cal P w K mg base 5 "_law_made" (spMade C) []) (c__law_all_balanced : Cal P w K mg base 3 "_law_all_balanced" spAllBal []) (c_through_of : Cal P w K mg base 8 "through_of" (spThrough K C R) []) (c__law_passing : Cal P w K mg base 1 "_law_passing" spPassing []) (c__law_changed : Cal P w K mg base 2 "_law_changed" (spChanged K) []) (c_Range : Mak P w K mg base 1 "Range" R (spRange K R) []) (c__law_is_right : Cal P w K mg base 4 "_law_is_right" (spRight K) []) (c_check_through : Cal P w K mg base 7 "check_through" (spCheck K C R) []) : FnOk P w K mg base L2.CX0 9 f fd ["_law_script"] (spLaw K) := by
  refine fun_ok F sclaw (fun vs H Q E h => ?_) (fun f cdv A outer s H vs Q E hr h => ?_)
  · obtain ⟨a, cells, rfl, _⟩ := h
    rfl
  · obtain ⟨a, cells, rfl, ha, k⟩ := h
    refine ⟨_, (pss_cons (ps_set (i := 1) sclaw.nd rfl (by first | exact .inl rfl | exact .inr rfl) (pe_c c__law_numbers hr (by decide) rfl (pa_cons (pv 0) (pa_cons pe_int pa_nil))))
      (pss_cons (ps_asg (pe_c c__law_plant hr (by decide) rfl (pa_cons (pv 1) (pa_cons pe_int (pa_cons pe_int (pa_cons pe_int (pa_cons pe_int pa_nil)))))) (pg_tupK K (n := 2) rfl (pgs_cons (pg_name (i := 2) sclaw.nd rfl (by first | exact .inl rfl | exact .inr rfl)) (pgs_cons (pg_name (i := 3) sclaw.nd rfl (by first | exact .inl rfl | exact .inr rfl)) pgs_nil))))
      (pss_cons (ps_set (i := 4) sclaw.nd rfl (by first | exact .inl rfl | exact .inr rfl) (pe_c c__law_narrow hr (by decide) rfl (pa_cons (pe_c c__law_drawn_limits hr (by decide) rfl (pa_cons (pv 1) (pa_cons pe_int (pa_cons (pv 2) (pa_cons (pv 3) pa_nil))))) (pa_cons (pv 1) (pa_cons pe_int pa_nil)))))
      (pss_cons (ps_set (i := 5) sclaw.nd rfl (by first | exact .inl rfl | exact .inr rfl) (pe_c c__law_made hr (by decide) rfl (pa_cons (pv 2) pa_nil)))
      (pss_cons (ps_set (i := 6) sclaw.nd rfl (by first | exact .inl rfl | exact .inr rfl) (pe_c c__law_all_balanced hr (by decide) rfl (pa_cons (pv 2) (pa_cons (pv 4) pa_nil))))
      (pss_cons (ps_for PassesOwn.never rfl (pi_range1 rfl G.range (pa_cons (pe_callB (len_seqK K) (by rfl) G.len (by decide +kernel) (pa_cons (pe_ix (ix_tupK K) (pv 2) pe_int (fun _ _ => rfl)) pa_nil)) pa_nil)) (pg_name (i := 7) sclaw.nd rfl (by first | exact .inl rfl | exact .inr rfl))
      (pss_cons (ps_set (i := 8) sclaw.nd rfl (by first | exact .inl rfl | exact .inr rfl) (pe_ix (ix_listK K) (pe_ix (ix_tupK K) (pv 2) pe_int (fun _ _ => rfl)) (pv 7) (fun _ _ => rfl)))
      (pss_cons (ps_set (i := 9) sclaw.nd rfl (by first | exact .inl rfl | exact .inr rfl) (pe_c c_through_of hr (by decide) rfl (pa_cons (pv 5) (pa_cons (pv 4) (pa_cons (pv 8) pa_nil)))))
      (pss_cons (ps_if (pt_cmpR op_ne (pe_cmp (pc_isN (pv 9)) rfl) (pe_cmpR op_eq (pe_callB (len_seqK K) (by rfl) G.len (by decide +kernel) (pa_cons (pv 6) pa_nil)) pe_int (nomark _)) (nomark _)) (pss_one (ps_ret pe_bl)) pss_nil)
      (pss_cons (ps_if (pt_cmp (pc_isN (pv 9))) (pss_one ps_continue) pss_nil)
      (pss_cons (ps_setLc (i := 10) (own := [("_law_row_here", 21)]) rfl sclaw.nd rfl rfl (sw_true rfl rfl rfl (by decide +kernel)) (pi_list (pv 6)) (blkOk_by (N := nlaw) (sc := defScope slaw) (by decide +kernel)) (fun _ _ _ _ _ => (pg_name (i := 21) sclaw.nd rfl (by first | exact .inl rfl | exact .inr rfl))) (fun _ _ _ _ _ => pts_nil) (fun _ _ _ _ _ => (pe_c c__law_passing hr (by decide) rfl (pa_cons (pv 2) (pa_cons (pv 21) (pa_cons (pv 8) pa_nil))))))
      (pss_cons (ps_if (pt_cmpR (op_neD hr.units) (pe_tup (pa_cons (pe_fldK K (pv 9) rfl) (pa_cons (pe_fldK K (pv 9) rfl) pa_nil))) (pe_tup (pa_cons (pe_callB (cr_min rfl) (by rfl) G.min (by decide +kernel) (pa_cons (pv 10) pa_nil)) (pa_cons (pe_callB (cr_max rfl) (by rfl) G.max (by decide +kernel) (pa_cons (pv 10) pa_nil)) pa_nil))) (nomark _)) (pss_one (ps_ret pe_bl)) pss_nil)
      (pss_cons (ps_set (i := 11) sclaw.nd rfl (by first | exact .inl rfl | exact .inr rfl) (pe_lst (pa_cons (pe_fldK K (pv 9) rfl) (pa_cons (pe_fldK K (pv 9) rfl) (pa_cons (pe_fldK K (pv 9) rfl) (pa_cons (pe_fldK K (pv 9) rfl) (pa_cons (pe_fldK K (pv 9) rfl) (pa_cons (pe_fldK K (pv 9) rfl) pa_nil))))))))
      (pss_one (ps_for PassesOwn.never rfl (pi_range1 rfl G.range (pa_cons pe_int pa_nil)) (pg_name (i := 12) sclaw.nd rfl (by first | exact .inl rfl | exact .inr rfl))
      (pss_cons (ps_asg (pe_c c__law_changed hr (by decide) rfl (pa_cons (pv 1) (pa_cons (pe_op op_add (pe_op op_add pe_int (pe_op op_mul pe_int (pv 7))) (pe_op op_mul pe_int (pv 12))) (pa_cons (pv 2) (pa_cons (pv 11) pa_nil))))) (pg_unl rfl (pgs_cons (pg_name (i := 13) sclaw.nd rfl (by first | exact .inl rfl | exact .inr rfl)) (pgs_cons (pg_name (i := 14) sclaw.nd rfl (by first | exact .inl rfl | exact .inr rfl)) (pgs_cons (pg_name (i := 15) sclaw.nd rfl (by first | exact .inl rfl | exact .inr rfl)) (pgs_cons (pg_name (i := 16) sclaw.nd rfl (by first | exact .inl rfl | exact .inr rfl)) (pgs_cons (pg_name (i := 17) sclaw.nd rfl (by first | exact .inl rfl | exact .inr rfl)) (pgs_cons (pg_name (i := 18) sclaw.nd rfl (by first | exact .inl rfl | exact .inr rfl)) pgs_nil))))))))
      (pss_cons (ps_set (i := 19) sclaw.nd rfl (by first | exact .inl rfl | exact .inr rfl) (pe_mk c_Range hr (by decide) rfl (pa_cons (pv 13) (pa_cons (pv 14) (pa_cons (pv 15) (pa_cons (pv 16) (pa_cons (pv 17) (pa_cons (pv 18) pa_nil))))))))
      (pss_cons (ps_set (i := 20) sclaw.nd rfl (by first | exact .inl rfl | exact .inr rfl) (pe_c c__law_is_right hr (by decide) rfl (pa_cons (pv 2) (pa_cons (pv 4) (pa_cons (pv 8) (pa_cons (pe_tup (pa_cons (pv 13) (pa_cons (pv 14) (pa_cons (pv 15) (pa_cons (pv 16) (pa_cons (pv 17) (pa_cons (pv 18) pa_nil))))))) pa_nil))))))
      (pss_one (ps_if (pt_cmpR op_ne (pe_callB call_repr_bool (by rfl) G.repr (by decide +kernel) (pa_cons (pe_c c_check_through hr (by decide) rfl (pa_cons (pv 5) (pa_cons (pv 4) (pa_cons (pv 8) (pa_cons (pv 19) pa_nil))))) pa_nil)) (pe_callB call_repr_bool (by rfl) G.repr (by decide +kernel) (pa_cons (pv 20) pa_nil)) (nomark _)) (pss_one (ps_ret pe_bl)) pss_nil)))))))))))))))
      (pss_one (ps_ret pe_bl)))))))), ?_⟩
    refine ⟨_, rfl, a, cells, rfl, ha, fun N ns H1 nN e1 hN => ?_⟩
    refine ⟨_, rfl, N, ns, rfl, hN, fun t pt dd kn ss fl H2 nt e2 ht hp ok z4 z6 hF hfl => ?_⟩
    refine ⟨t, _, rfl, SqT.of ht, rfl, _, _, rfl, _, _, rfl, rfl, ?_⟩
    refine ⟨_, rfl, _, rfl, _, rfl, N, ns, pt, dd, kn, ss, fl, rfl, hN.mono e2, hp, ok, z6, hF, hfl, fun m0 lo0 hi0 H3 nm0 e3 hm0 hb0 => ?_⟩
    have zs : (ss.map (·.n)).length ≤ 6 := by rw [List.length_map]; exact z6
    refine ⟨_, rfl, m0, N, ns, ss.map (·.n), lo0, hi0, rfl, hN.mono (e2.trans e3), hm0, ok.snd, zs, hb0, fun m ys lo hi H4 nm e4 hm py hb hw => ?_⟩
    have e24 := e3.trans e4
    have hky : ∀ n, n ∈ ys ↔ n ∈ ss.map (·.n) := fun n => py.mem_iff
    have ndy : ys.Nodup := py.nodup_iff.mpr ok.snd
    have zy : ys.length ≤ 6 := by rw [py.length_eq]; exact zs
    refine ⟨_, rfl, pt, kn, ss, rfl, hp.mono e24, ok, fun p kn' ss' H5 np e5 hpl pk sk ps => ?_⟩
    have e25 := e24.trans e5
    refine ⟨_, rfl, _, rfl, pt, m, kn, ss, ys, lo, hi, rfl, hp.mono e25, ok, hm.mono e5, ndy, zy, hb, hw, hky, fun Rg us gs zz H6 nRg e6 hRg hlg pz zg sndg fullg => ?_⟩
    have e26 := e25.trans e6
    have hky' : ∀ n, n ∈ ys ↔ n ∈ ss'.map (·.n) := fun n => (hky n).trans (ps.map _).mem_iff.symm
    have hkz : ∀ n, n ∈ zz ↔ n ∈ ss.map (·.n) := fun n => pz.mem_iff.trans (hky n)
    have hN6 := hN.mono (e2.trans e26)
    have hp6 := hp.mono e26
    have hm6 := hm.mono (e5.trans e6)
    have hpl6 := hpl.mono e6
    obtain ⟨kl, sl, wss, hpt, hkl, hsl, hls⟩ := hp6
    have hp6 : LP H6 pt kn ss := ⟨kl, sl, wss, hpt, hkl, hsl, hls⟩
    have rng : ∀ f, (∀ f0, f0 ∈ gs → f = f0 → Within ss lo hi f) := fun f f0 h e => (inR_iff hkz).mp (e ▸ (sndg f0 h).1)
    refine ⟨_, rfl, pt, _, _, _, rfl, rfl, SqT.of hpt, rfl, kl, _, rfl, .inl (SqL.of hkl), _, rfl, by rw [List.length_map]; omega, by rw [List.length_map]; omega, ?_⟩
    rw [List.length_map, show ((kn.length : Nat) : Int).toNat = kn.length from Int.toNat_natCast _]
    refine for_J (J := Itr 0 kn.length) (B := H6) gv_range (fun i σ H' => (∃ o7 o8 o9 o10 o11 o12 o13 o14 o15 o16 o17 o18 o19 o20 o21, σ = [some (.ref a), some (.ref N), some (.ref pt), some (.ref dd), some (.ref m), some (.ref p), some (.ref Rg), o7, o8, o9, o10, o11, o12, o13, o14, o15, o16, o17, o18, o19, o20, o21]) ∧ Ex H6 H')
      ⟨⟨_, _, _, _, _, _, _, _, _, _, _, _, _, _, _, rfl⟩, Evl.Ex.refl _⟩ (fun i σ H' h => h.2) (fun i v y σ H7 hc hx hI => ?_) (fun σ H' hI => ?_)
    · obtain ⟨⟨o7, o8, o9, o10, o11, o12, o13, o14, o15, o16, o17, o18, o19, o20, o21, rfl⟩, e7⟩ := hI
      subst hx
      have hi1 := (List.getElem?_eq_some_iff.mp hc).1
      rw [List.length_range] at hi1
      have yi : y = i := by
        rw [List.getElem?_range hi1] at hc
        exact (Option.some.inj hc).symm
      subst yi
      have atk : atI (kn.map V.str) ((y : Nat) : Int) = some (.str kn[y]) := atI_nat (by rw [List.getElem?_map, List.getElem?_eq_getElem hi1]; rfl)
      have xk : kn[y] ∈ kn := List.getElem_mem hi1
      generalize hxx : kn[y] = x at *
      have xk' : x ∈ kn' := pk.mem_iff.mpr xk
      refine ⟨_, rfl, pt, _, _, _, rfl, rfl, SqT.of (e7 _ _ hpt), rfl, _, rfl, kl, _, _, _, rfl, rfl, SqL.of (e7 _ _ hkl), atk, ?_⟩
      simp only [List.set_cons_succ, List.set_cons_zero]
      refine ⟨_, rfl, _, rfl, _, rfl, p, m, kn', ss', ys, lo, hi, x, rfl, hpl6.mono e7, hm6.mono e7, hky', ndy, by omega, xk', fun hno H8 e8 => ?_, fun rt low high q1 q2 f1 f2 l1 l2 H8 nq1 nq2 e8 hRr zl1 sub1 zl2 sub2 th => ?_⟩
      · -- nothing fits
        have gs0 : gs = [] := List.eq_nil_iff_forall_not_mem.mpr fun g hg => by
          obtain ⟨b1, b2⟩ := sndg g hg
          have w1 : Within ss' lo hi g := fun s hs => (inR_iff hkz).mp b1 s (ps.mem_iff.mp hs)
          have w2 : Balanced kn' ss' g := by
            rw [← balB_iff, bal_perm pk ps]
            exact b2
          exact hno g w1 w2
        have us0 : us.length = 0 := by rw [hlg.1, gs0]; rfl
        refine ⟨_, rfl, _, rfl, Rg, _, rfl, .inl (SqL.of ((e7.trans e8) _ _ hRg)), rfl, rfl, _, rfl, itF ?_ ?_⟩
        · rw [us0]
          rfl
        · exact ⟨_, rfl, _, rfl, itT rfl ⟨⟨_, _, _, _, _, _, _, _, _, _, _, _, _, _, _, rfl⟩, e7.trans e8⟩⟩
      · have e68 := e7.trans e8
        obtain ⟨w1, bb1, w2, bb2, p1, p2, all⟩ := th
        have agree : ∀ f, Within ss' lo hi f → Balanced kn' ss' f → ∃ g ∈ gs, pass ss g x = pass ss' f x := fun f wf bf => by
          have a1 : InR zz lo hi f := (inR_iff hkz).mpr fun s hs => wf s (ps.mem_iff.mpr hs)
          have a2 : balancedB kn ss f = true := by
            rw [← bal_perm pk ps]
            exact balB_iff.mpr bf
          obtain ⟨g, hg, eg⟩ := fullg f a1 a2
          exact ⟨g, hg, by rw [pass_congr (g := f) fun s hs => eg s.n ((hkz _).mpr (List.mem_map_of_mem hs)), pass_perm ps]⟩
        obtain ⟨g1, hg1, eg1⟩ := agree f1 w1 bb1
        obtain ⟨g2, hg2, eg2⟩ := agree f2 w2 bb2
        have gin : ∀ g ∈ gs, low ≤ pass ss g x ∧ pass ss g x ≤ high := fun g hg => by
          obtain ⟨b1, b2⟩ := sndg g hg
          have a1 : Within ss' lo hi g := fun s hs => (inR_iff hkz).mp b1 s (ps.mem_iff.mp hs)
          have a2 : Balanced kn' ss' g := by
            rw [← balB_iff, bal_perm pk ps]
            exact b2
          rw [← pass_perm ps]
          exact all g a1 a2
        have usl : us.length = gs.length := hlg.1
        have gs1 : 0 < gs.length := List.length_pos_of_mem hg1
        have hR0 := hRr
        obtain ⟨⟨dxr, fs, v1, v2, hrt, a1, a2, a3, a4, a5, a6, b1, b2⟩, hq1, hq2⟩ := hRr
        refine ⟨_, rfl, _, rfl, Rg, _, rfl, .inl (SqL.of (e68 _ _ hRg)), rfl, rfl, _, rfl, itF ?_ ?_⟩
        · have : decide (V.int (us.length : Nat) = V.int 0) = false := decide_eq_false fun z => by
            have := V.int.inj z
            omega
          rw [this]
          rfl
        refine ⟨_, rfl, _, rfl, itF rfl ?_⟩
        simp only [List.set_cons_succ, List.set_cons_zero]
        -- passing of all rows
        refine ⟨_, rfl, Rg, rfl, ⟨_, SqL.of (e68 _ _ hRg)⟩, ?_⟩
        refine lc_J (J := Itl K Rg) (RwR zz) (fun _ v x _ => v = V.int x) (fun _ => std_int) (fun g => some (pass ss g x)) (gv_list (SqL.of (e68 _ _ hRg)) (hlg.mono stb_rw e68)) (by omega) (fun D v g H' T Y _ _ ex hc e hT hY => ?_) (fun D zs H9 nD e9 hD hlD => ?_)
        · obtain ⟨r, rfl, hr⟩ := ex
          exact ⟨rfl, _, rfl, _, rfl, _, rfl, pt, r, kn, ss, zz, g, x, rfl, hp6.mono (e68.trans e), ok, hr.mono e, hkz, fun H4 e4 => hY _ rfl _ _ e4 rfl⟩
        rw [filterMap_some] at hlD
        have yD := ls_int hlD
        subst yD
        have e69 := e68.trans e9
        have hrt9 := e9 _ _ hrt
        -- compare
        refine ⟨_, rfl, rt, R, dxr, fs, _, rfl, hrt9, T.cl, T.n1, a1, _, rfl, rt, R, dxr, fs, _, rfl, hrt9, T.cl, T.n2, a2, sz1 (by show 2 ≤ 100000; decide), fun t1 nt1 => ?_⟩
        have eT := Evl.Ex.new (o := .tup [.int low, .int high]) nt1
        have pos : 0 < (gs.map fun g => pass ss g x).length := by rw [List.length_map]; exact gs1
        refine ⟨_, rfl, D, _, rfl, SqL.of (eT _ _ hD), pos, fun mn hmn hle => ?_⟩
        refine ⟨_, rfl, D, _, rfl, SqL.of (eT _ _ hD), pos, fun mx hmx hge => ?_⟩
        have emn : low = mn := by
          obtain ⟨g, hg, eg⟩ := List.mem_map.mp hmn
          have c1 := (gin g hg).1
          have c2 := hle _ (List.mem_map_of_mem (f := fun g => pass ss g x) hg1)
          have c3 : pass ss g1 x = low := by rw [eg1, p1]
          have c2 : mn ≤ pass ss g1 x := c2
          have eg : pass ss g x = mn := eg
          omega
        have emx : high = mx := by
          obtain ⟨g, hg, eg⟩ := List.mem_map.mp hmx
          have c1 := (gin g hg).2
          have c2 := hge _ (List.mem_map_of_mem (f := fun g => pass ss g x) hg2)
          have c3 : pass ss g2 x = high := by rw [eg2, p2]
          have c2 : pass ss g2 x ≤ mx := c2
          have eg : pass ss g x = mx := eg
          omega
        refine ⟨sz1 (by show 2 ≤ 100000; decide), fun t2 nt2 => ?_⟩
        have eT2 := Evl.Ex.new (o := .tup [.int mn, .int mx]) nt2
        refine ⟨_, _, .tup (SqT.of (eT2 _ _ upd_same)) (.cons (.int _) (.cons (.int _) .nil)), .tup (SqT.of upd_same) (.cons (.int _) (.cons (.int _) .nil)), shaped_pair _ _, shaped_pair _ _, _, rfl, itF (by rw [eqv_pair, decide_eq_true ⟨emn, emx⟩]; rfl) ?_⟩
        have e9U := eT.trans eT2
        have hrtU := e9U _ _ hrt9
        -- parts
        refine ⟨_, rfl, rt, R, dxr, fs, _, rfl, hrtU, T.cl, T.n1, a1, _, rfl, rt, R, dxr, fs, _, rfl, hrtU, T.cl, T.n2, a2, _, rfl, rt, R, dxr, fs, _, rfl, hrtU, T.cl, T.n3, a3, _, rfl, rt, R, dxr, fs, _, rfl, hrtU, T.cl, T.n4, a4, _, rfl, rt, R, dxr, fs, _, rfl, hrtU, T.cl, T.n5, a5, _, rfl, rt, R, dxr, fs, _, rfl, hrtU, T.cl, T.n6, a6, sz1 (by show 6 ≤ 100000; decide), fun PS nPS => ?_⟩
        have eP := e9U.trans (Evl.Ex.new (o := .lst [.int low, .int high, .ref q1, .ref q2, v1, v2]) nPS)
        have hPS : (upd (upd (upd H9 t1 (.tup [.int low, .int high])) t2 (.tup [.int mn, .int mx])) PS (.lst [.int low, .int high, .ref q1, .ref q2, v1, v2])) PS = some (.lst [.int low, .int high, .ref q1, .ref q2, v1, v2]) := upd_same
        generalize hHP : (upd (upd (upd H9 t1 (.tup [.int low, .int high])) t2 (.tup [.int mn, .int mx])) PS (.lst [.int low, .int high, .ref q1, .ref q2, v1, v2])) = HP at *
        have e8P := e9.trans eP
        have e6P := e68.trans e8P
        have hq1P : FlH HP q1 ys f1 := e8P _ _ hq1
        have hq2P : FlH HP q2 ys f2 := e8P _ _ hq2
        have b1P : LotR K HP v1 (some l1) := b1.mono e8P
        have b2P : LotR K HP v2 (some l2) := b2.mono e8P
        have ok' := hpl6.ok
        have lk1 : LotOk (some l1) := fun lot h => by
          cases h
          exact ⟨by omega, fun y hy => (ok'.kok y (sub1 y hy)).str⟩
        have lk2 : LotOk (some l2) := fun lot h => by
          cases h
          exact ⟨by omega, fun y hy => (ok'.kok y (sub2 y hy)).str⟩
        have hm7 := hm6.mono e7
        have mq : m ≠ q1 ∧ m ≠ q2 := by
          obtain ⟨g0, hg0, _⟩ := hm7
          exact ⟨ne_of_none hg0 nq1, ne_of_none hg0 nq2⟩
        refine ⟨_, rfl, by decide, by decide, ?_⟩
        refine for_J (J := Itr 0 (3 : Int).toNat) (B := HP) gv_range (fun j σ H' => (∃ o12 o13 o14 o15 o16 o17 o18 o19 o20 o21, σ = [some (.ref a), some (.ref N), some (.ref pt), some (.ref dd), some (.ref m), some (.ref p), some (.ref Rg), some (.int (y : Nat)), some (.str x), some (.ref rt), some (.ref D), some (.ref PS), o12, o13, o14, o15, o16, o17, o18, o19, o20, o21]) ∧ Ex HP H')
          ⟨⟨_, _, _, _, _, _, _, _, _, _, rfl⟩, Evl.Ex.refl _⟩ (fun i σ H' h => h.2) (fun j v z σ HT hcj hxj hI => ?_) (fun σ H' hI => ?_)
        · obtain ⟨⟨o12, o13, o14, o15, o16, o17, o18, o19, o20, o21, rfl⟩, eT7⟩ := hI
          subst hxj
          have hj := (List.getElem?_eq_some_iff.mp hcj).1
          rw [List.length_range] at hj
          have zj : z = j := by
            rw [List.getElem?_range hj] at hcj
            exact (Option.some.inj hcj).symm
          subst zj
          have hj3 : z < 3 := hj
          have e6T := e6P.trans eT7
          have cast : (82 + 9 * ((y : Nat) : Int) + 3 * ((z : Nat) : Int)) = ((82 + 9 * y + 3 * z : Nat) : Int) := by omega
          simp only [List.set_cons_succ, List.set_cons_zero]
          refine ⟨_, rfl, _, rfl, _, _, rfl, rfl, .inl ⟨by decide, by decide⟩, _, _, rfl, rfl, _, rfl, _, _, rfl, rfl, .inl ⟨by decide, by decide⟩, _, _, rfl, rfl, _, rfl, _, rfl, ?_⟩
          refine ⟨N, pt, PS, q1, q2, 82 + 9 * y + 3 * z, ns, kn, ss, low, high, v1, v2, some l1, some l2, by rw [← cast]; rfl, hN6.mono e6T, by omega, hp6.mono e6T, z4, ok.kok, eT7 _ _ hPS, b1P.mono eT7, lk1, b2P.mono eT7, lk2, fun r lw hg qa qb wa wb ma mb HC nr eC hr hqq hma oka hmb okb => ?_⟩
          refine ⟨r, _, rfl, SqL.of hr, rfl, _, _, rfl, _, _, rfl, _, _, rfl, _, _, rfl, _, _, rfl, _, _, rfl, rfl, ?_⟩
          simp only [List.set_cons_succ, List.set_cons_zero]
          have ePC := eT7.trans eC
          have flows : ∃ fa fb, FlH HC qa ys fa ∧ FlH HC qb ys fb ∧ qa ≠ m ∧ qb ≠ m := by
            rcases hqq with ⟨e1, e2⟩ | ⟨e1, e2⟩
            · subst e1 e2
              exact ⟨f1, f2, hq1P.mono ePC, hq2P.mono ePC, mq.1.symm, mq.2.symm⟩
            · subst e1 e2
              exact ⟨f2, f1, hq2P.mono ePC, hq1P.mono ePC, mq.2.symm, mq.1.symm⟩
          obtain ⟨fa, fb, hqa, hqb, nqa, nqb⟩ := flows
          have e6C := e6P.trans ePC
          -- Range
          refine ⟨_, rfl, _, rfl, _, rfl, _, rfl, _, rfl, _, rfl, ?_⟩
          intro xr dx2 nx ndx nex
          have eX : Ex HC (upd (upd HC dx2 (.own xr)) xr (.ins R dx2 [])) := (Evl.Ex.new ndx).trans (Evl.Ex.new (by rw [upd_ne nex.symm]; exact nx))
          refine ⟨xr, dx2, qa, qb, lw, hg, _, _, wa, wb, ma, mb, rfl, upd_same, hqa.mono eX, hqb.mono eX, hma.mono eX, hmb.mono eX, fun HR q3 q4 nq3 nq4 hRo eb => ⟨rfl, ?_⟩⟩
          simp only [List.set_cons_succ, List.set_cons_zero]
          have eCR : Ex HC HR := fun b o hb => eb b o (ne_of_none hb nx) (eX b o hb)
          have e6R := e6C.trans eCR
          have hmC := hm6.mono e6C
          have mq3 : q3 ≠ m ∧ q4 ≠ m := by
            obtain ⟨g0, hg0, _⟩ := hmC.mono eX
            exact ⟨(ne_of_none hg0 nq3).symm, (ne_of_none hg0 nq4).symm⟩
          -- due
          refine ⟨_, rfl, _, rfl, _, rfl, _, rfl, _, rfl, _, rfl, _, rfl, _, rfl, _, rfl, sz1 (by show 6 ≤ 100000; decide), fun t3 nt3 => ?_⟩
          have eR3 := Evl.Ex.new (o := .tup [.int lw, .int hg, .ref qa, .ref qb, wa, wb]) nt3
          have eC3 := eCR.trans eR3
          have e63 := e6C.trans eC3
          refine ⟨pt, m, t3, qa, qb, x, lw, hg, wa, wb, kn, kn', ss, ys, ys, ys, lo, hi, fa, fb, ma, mb, rfl, upd_same, hp6.mono e63, ok, pk, sk, hm6.mono e63, hky, by omega, hqa.mono eC3, .refl _, nqa, hqb.mono eC3, .refl _, nqb, hma.mono eC3, oka, hmb.mono eC3, okb, fun HG eG => ?_⟩
          simp only [List.set_cons_succ, List.set_cons_zero]
          have e6G := e63.trans eG
          -- check
          refine ⟨_, rfl, _, rfl, _, rfl, _, rfl, p, m, xr, q3, q4, kn', ss', ys, ys, ys, lo, hi, x, lw, hg, fa, fb, ma, mb, rfl, hpl6.mono e6G, hm6.mono e6G, hky', ndy, by omega, xk', hRo.mono (eR3.trans eG), hky', by omega, hky', by omega, mq3.1, mq3.2, oka, okb, fun HK eK => ?_⟩
          refine ⟨_, rfl, _, rfl, _, rfl, rfl, _, rfl, itF ?_ ⟨⟨_, _, _, _, _, _, _, _, _, _, rfl⟩, ((ePC.trans eC3).trans eG).trans eK⟩⟩
          rw [right_is pk ps ok' xk']
          exact repr_same _
        · obtain ⟨⟨o12, o13, o14, o15, o16, o17, o18, o19, o20, o21, rfl⟩, eT7⟩ := hI
          exact ⟨⟨_, _, _, _, _, _, _, _, _, _, _, _, _, _, _, rfl⟩, e6P.trans eT7⟩
    · obtain ⟨⟨o7, o8, o9, o10, o11, o12, o13, o14, o15, o16, o17, o18, o19, o20, o21, rfl⟩, e7⟩ := hI
      exact k H'
end
end Ms

set_option maxHeartbeats 0

namespace Ms
open PySem PySem.Spec PyProof.Rows L2
open C8 (Cal Mak Met)
/-! ### properties: a Hook's facts -/
/-- what stands at a class's name x -/
def pAd (K : PySem.W.Frag) (C : Addr) (x : Str) : Addr := match PySem.W.findIn K (.ref C) x with
  | some (some (.ref p)) => p
  | _ => 0
/-- the getter of the property at p -/
def gAd (K : PySem.W.Frag) (p : Addr) : Addr := match PySem.W.recIn K p "property" with
  | some (.ref g :: _) => g
  | _ => 0
def getAt (K : PySem.W.Frag) (c x : Str) : Addr := gAd K (pAd K (He.ga K c) x)
structure GtD where
  cls : Str
  name : Str
  qual : Str
  params : Arguments
  body : List Stmt
  scope : Scope
def GtD.val (d : GtD) : He.FnW := some (d.name, d.qual, d.params, .stmts d.body, d.scope, mainGlobals, [], builtinsNs)
def gtW (K : PySem.W.Frag) (d : GtD) : He.FnW := match K.lookup (getAt K d.cls d.name) with
  | some ⟨_, _, .func fd, _⟩ => some (fd.name, fd.qualname, fd.params, fd.body, fd.scope, fd.globals, fd.closure, fd.builtins)
  | _ => none
def gtFn (K : PySem.W.Frag) (d : GtD) : Bool := match K.lookup (getAt K d.cls d.name) with
  | some ⟨_, _, .func fd, _⟩ => PySem.W.codeIn K fd.code d.qual && decide (fd.defaults = .none)
  | _ => false
def gtRec (K : PySem.W.Frag) (d : GtD) : Bool := match PySem.W.recIn K (pAd K (He.ga K d.cls) d.name) "property" with
  | some (.ref g :: _) => decide (g = getAt K d.cls d.name)
  | _ => false
def GtD.ok (K : PySem.W.Frag) (d : GtD) : Bool :=
  decide (PySem.W.findIn K (.ref (He.ga K d.cls)) d.name = some (some (.ref (pAd K (He.ga K d.cls) d.name)))) && (decide (PySem.W.specialIn K (.ref (pAd K (He.ga K d.cls) d.name)) "__get__" = some (some (.builtin "property.__get__"))) && (decide (PySem.W.takesIn K (.ref (pAd K (He.ga K d.cls) d.name)) = some true) && (gtRec K d && (PySem.W.keepIn K (.ref (getAt K d.cls d.name)) && gtFn K d))))
theorem GtD.says {K : PySem.W.Frag} {d : GtD} (e : gtW K d = d.val) (c : d.ok K = true) :
    PropOf K (He.ga K d.cls) d.name (pAd K (He.ga K d.cls) d.name) (getAt K d.cls d.name) ∧ ∃ fd, FunD K d.name d.qual d.params d.body d.scope [] [] (getAt K d.cls d.name) fd := by
  obtain ⟨c1, c⟩ := He.ba c
  obtain ⟨c2, c⟩ := He.ba c
  obtain ⟨c3, c⟩ := He.ba c
  obtain ⟨c4, c⟩ := He.ba c
  obtain ⟨c5, c6⟩ := He.ba c
  refine ⟨⟨of_decide_eq_true c1, of_decide_eq_true c2, of_decide_eq_true c3, ?_⟩, ?_⟩
  · unfold gtRec at c4
    split at c4
    · rename_i g rest q
      rw [q, of_decide_eq_true c4]
      exact ⟨rest, rfl⟩
    · cases c4
  · unfold gtFn at c6
    unfold gtW at e
    split at c6
    · rename_i oc od fd osl q
      rw [q] at e
      obtain ⟨k1, k2⟩ := He.ba c6
      have k2 := of_decide_eq_true k2
      obtain ⟨n1, n2, n3, n4, n5, n6, n7, n8, n9, n10, n11, n12, n13, n14, n15⟩ := fd
      have e2 : (some (n1, n2, n3, n4, n5, n6, n7, n15) : He.FnW) = some (d.name, d.qual, d.params, .stmts d.body, d.scope, mainGlobals, [], builtinsNs) := e
      simp only [Option.some.injEq, Prod.mk.injEq] at e2
      obtain ⟨h1, h2, h3, h4, h5, h6, h7, h8⟩ := e2
      subst h1 h2 h3 h4 h5 h6 h7 h8
      have k2 : n8 = .none := k2
      subst k2
      exact ⟨_, ⟨oc, od, .none, n9, n10, n11, n12, n13, n14, osl, rfl, q, k1, .inl ⟨rfl, rfl⟩, .inl rfl⟩, c5⟩
    · cases c6
abbrev AlX : Type := He.AlD × (Bool × List He.FnW)
def obsX (fa : List He.Fa) (fn : List He.DefD) (gt : List GtD) (K : PySem.W.Frag) : AlX := (He.obsD fa fn K, (gt.all fun d => d.ok K, gt.map fun d => gtW K d))
def valX (fn : List He.DefD) (gt : List GtD) : AlX := (He.valD fn, (true, gt.map GtD.val))
def SaysX (fa : List He.Fa) (fn : List He.DefD) (gt : List GtD) (K : PySem.W.Frag) : Prop := obsX fa fn gt K = valX fn gt
def obsXG (n : Nat) (fa : List He.Fa) (fn : List He.DefD) (gt : List GtD) (g : Addr → Option Obj) : AlX := obsX fa fn gt (He.frG g (He.asD g n))
def hookX (n : Nat) (fa : List He.Fa) (fn : List He.DefD) (gt : List GtD) : PySem.W.Hook where
  α := AlX
  obs := fun s => obsXG n fa fn gt s.heap.get?
  val := fun _ => valX fn gt
  says := fun _ h => ∃ K : PySem.W.Frag, K.In h ∧ SaysX fa fn gt K
  of := fun _ _ e => ⟨_, He.frG_in, e⟩
  keeps := fun _ _ _ ⟨K, hK, c⟩ k => ⟨K, PySem.W.Frag.In.keeps hK k, c⟩
theorem obsXG_eq {n : Nat} {fa : List He.Fa} {fn : List He.DefD} {gt : List GtD} {g : Addr → Option Obj} {s : Shared} (h : ∀ a, g a = s.heap.get? a) : obsXG n fa fn gt g = (hookX n fa fn gt).obs s := by
  have e : g = s.heap.get? := funext h
  rw [e] <;> rfl
theorem SaysX.d {fa : List He.Fa} {fn : List He.DefD} {gt : List GtD} {K : PySem.W.Frag} (c : SaysX fa fn gt K) : He.SaysD fa fn K := congrArg (fun z : AlX => z.1) c
theorem SaysX.get {fa : List He.Fa} {fn : List He.DefD} {gt : List GtD} {K : PySem.W.Frag} (c : SaysX fa fn gt K) (i : Nat) {d : GtD} (h : gt[i]? = some d := by rfl) :
    PropOf K (He.ga K d.cls) d.name (pAd K (He.ga K d.cls) d.name) (getAt K d.cls d.name) ∧ ∃ fd, FunD K d.name d.qual d.params d.body d.scope [] [] (getAt K d.cls d.name) fd := by
  have c1 : (gt.all fun d => d.ok K) = true := congrArg (fun z : AlX => z.2.1) c
  have e : gt.map (fun d => gtW K d) = gt.map GtD.val := congrArg (fun z : AlX => z.2.2) c
  have e2 : (gt.map fun d => gtW K d)[i]? = (gt.map GtD.val)[i]? := by rw [e]
  rw [List.getElem?_map, List.getElem?_map, h] at e2
  exact GtD.says (Option.some.inj e2) (List.all_eq_true.mp c1 d (List.mem_of_getElem? h))
/-! ### this program's -/
def dd_is_name : He.DefD := ⟨("is_name", none), "is_name", "is_name", defArgs sis_name, defBody sis_name, defScope sis_name, [], []⟩
def dd_are_names : He.DefD := ⟨("are_names", none), "are_names", "are_names", defArgs sare_names, defBody sare_names, defScope sare_names, [], []⟩
def dd_is_stream : He.DefD := ⟨("is_stream", none), "is_stream", "is_stream", defArgs sis_stream, defBody sis_stream, defScope sis_stream, [], []⟩
def dd_check_flows : He.DefD := ⟨("check_flows", none), "check_flows", "check_flows", defArgs scheck_flows, defBody scheck_flows, defScope scheck_flows, [], []⟩
def dd_lacks : He.DefD := ⟨("lacks", none), "lacks", "lacks", defArgs slacks, defBody slacks, defScope slacks, [], []⟩
def dd_is_balanced : He.DefD := ⟨("is_balanced", none), "is_balanced", "is_balanced", defArgs sis_balanced, defBody sis_balanced, defScope sis_balanced, [], []⟩
def dd_is_lot : He.DefD := ⟨("is_lot", none), "is_lot", "is_lot", defArgs sis_lot, defBody sis_lot, defScope sis_lot, [], []⟩
def dd_lines_of : He.DefD := ⟨("lines_of", none), "lines_of", "lines_of", defArgs slines_of, defBody slines_of, defScope slines_of, [], []⟩
def dd_parted_lines : He.DefD := ⟨("parted_lines", none), "parted_lines", "parted_lines", defArgs sparted_lines, defBody sparted_lines, defScope sparted_lines, [], []⟩
def dd_arcs_of : He.DefD := ⟨("arcs_of", none), "arcs_of", "arcs_of", defArgs sarcs_of, defBody sarcs_of, defScope sarcs_of, [], []⟩
def dd_way_between : He.DefD := ⟨("way_between", none), "way_between", "way_between", defArgs sway_between, defBody sway_between, defScope sway_between, [], []⟩
def dd_way_back : He.DefD := ⟨("way_back", none), "way_back", "way_back", defArgs sway_back, defBody sway_back, defScope sway_back, [], []⟩
def dd_push : He.DefD := ⟨("push", none), "push", "push", defArgs spush, defBody spush, defScope spush, [], []⟩
def dd_push_all : He.DefD := ⟨("push_all", none), "push_all", "push_all", defArgs spush_all, defBody spush_all, defScope spush_all, [], []⟩
def dd_leading_to : He.DefD := ⟨("leading_to", none), "leading_to", "leading_to", defArgs sleading_to, defBody sleading_to, defScope sleading_to, [], []⟩
def dd_led_from : He.DefD := ⟨("led_from", none), "led_from", "led_from", defArgs sled_from, defBody sled_from, defScope sled_from, [], []⟩
def dd_come_to : He.DefD := ⟨("come_to", none), "come_to", "come_to", defArgs scome_to, defBody scome_to, defScope scome_to, [], []⟩
def dd_check_limits : He.DefD := ⟨("check_limits", none), "check_limits", "check_limits", defArgs scheck_limits, defBody scheck_limits, defScope scheck_limits, [], []⟩
def dd_crossed : He.DefD := ⟨("crossed", none), "crossed", "crossed", defArgs scrossed, defBody scrossed, defScope scrossed, [], []⟩
def dd_missing_of : He.DefD := ⟨("missing_of", none), "missing_of", "missing_of", defArgs smissing_of, defBody smissing_of, defScope smissing_of, [], []⟩
def dd_least_missing : He.DefD := ⟨("least_missing", none), "least_missing", "least_missing", defArgs sleast_missing, defBody sleast_missing, defScope sleast_missing, [], []⟩
def dd_are_within : He.DefD := ⟨("are_within", none), "are_within", "are_within", defArgs sare_within, defBody sare_within, defScope sare_within, [], []⟩
def dd_flows_within : He.DefD := ⟨("flows_within", none), "flows_within", "flows_within", defArgs sflows_within, defBody sflows_within, defScope sflows_within, [], []⟩
def dd_pushed_to : He.DefD := ⟨("pushed_to", none), "pushed_to", "pushed_to", defArgs spushed_to, defBody spushed_to, defScope spushed_to, [], []⟩
def dd_sum_into : He.DefD := ⟨("sum_into", none), "sum_into", "sum_into", defArgs ssum_into, defBody ssum_into, defScope ssum_into, [], []⟩
def dd_sum_from : He.DefD := ⟨("sum_from", none), "sum_from", "sum_from", defArgs ssum_from, defBody ssum_from, defScope ssum_from, [], []⟩
def dd_shows_most : He.DefD := ⟨("shows_most", none), "shows_most", "shows_most", defArgs sshows_most, defBody sshows_most, defScope sshows_most, [], []⟩
def dd_shows_least : He.DefD := ⟨("shows_least", none), "shows_least", "shows_least", defArgs sshows_least, defBody sshows_least, defScope sshows_least, [], []⟩
def dd_sum_through : He.DefD := ⟨("sum_through", none), "sum_through", "sum_through", defArgs ssum_through, defBody ssum_through, defScope ssum_through, [], []⟩
def dd_through_of : He.DefD := ⟨("through_of", none), "through_of", "through_of", defArgs sthrough_of, defBody sthrough_of, defScope sthrough_of, [], []⟩
def dd_check_through : He.DefD := ⟨("check_through", none), "check_through", "check_through", defArgs scheck_through, defBody scheck_through, defScope scheck_through, [], []⟩
def dd__law_row : He.DefD := ⟨("_law_row", none), "_law_row", "_law_row", defArgs sLrow, defBody sLrow, defScope sLrow, [], []⟩
def dd__law_numbers : He.DefD := ⟨("_law_numbers", none), "_law_numbers", "_law_numbers", defArgs sLnumbers, defBody sLnumbers, defScope sLnumbers, [], []⟩
def dd__law_names : He.DefD := ⟨("_law_names", none), "_law_names", "_law_names", defArgs sLnames, defBody sLnames, defScope sLnames, [], []⟩
def dd__law_lines : He.DefD := ⟨("_law_lines", none), "_law_lines", "_law_lines", defArgs sLlines, defBody sLlines, defScope sLlines, [], []⟩
def dd__law_rounds : He.DefD := ⟨("_law_rounds", none), "_law_rounds", "_law_rounds", defArgs sLrounds, defBody sLrounds, defScope sLrounds, [], []⟩
def dd__law_plant : He.DefD := ⟨("_law_plant", none), "_law_plant", "_law_plant", defArgs sLplant, defBody sLplant, defScope sLplant, [], []⟩
def dd__law_made : He.DefD := ⟨("_law_made", none), "_law_made", "_law_made", defArgs sLmade, defBody sLmade, defScope sLmade, [], []⟩
def dd__law_drawn_limits : He.DefD := ⟨("_law_drawn_limits", none), "_law_drawn_limits", "_law_drawn_limits", defArgs sLdrawn_limits, defBody sLdrawn_limits, defScope sLdrawn_limits, [], []⟩
def dd__law_lots : He.DefD := ⟨("_law_lots", none), "_law_lots", "_law_lots", defArgs sLlots, defBody sLlots, defScope sLlots, [], []⟩
def dd__law_left : He.DefD := ⟨("_law_left", none), "_law_left", "_law_left", defArgs sLleft, defBody sLleft, defScope sLleft, [], []⟩
def dd__law_balanced : He.DefD := ⟨("_law_balanced", none), "_law_balanced", "_law_balanced", defArgs sLbalanced, defBody sLbalanced, defScope sLbalanced, [], []⟩
def dd__law_inside : He.DefD := ⟨("_law_inside", none), "_law_inside", "_law_inside", defArgs sLinside, defBody sLinside, defScope sLinside, [], []⟩
def dd__law_are_good : He.DefD := ⟨("_law_are_good", none), "_law_are_good", "_law_are_good", defArgs sLare_good, defBody sLare_good, defScope sLare_good, [], []⟩
def dd__law_every : He.DefD := ⟨("_law_every", none), "_law_every", "_law_every", defArgs sLevery, defBody sLevery, defScope sLevery, [], []⟩
def dd__law_all_balanced : He.DefD := ⟨("_law_all_balanced", none), "_law_all_balanced", "_law_all_balanced", defArgs sLall_balanced, defBody sLall_balanced, defScope sLall_balanced, [], []⟩
def dd__law_narrow : He.DefD := ⟨("_law_narrow", none), "_law_narrow", "_law_narrow", defArgs sLnarrow, defBody sLnarrow, defScope sLnarrow, [], []⟩
def dd__law_around : He.DefD := ⟨("_law_around", none), "_law_around", "_law_around", defArgs sLaround, defBody sLaround, defScope sLaround, [], []⟩
def dd__law_passing : He.DefD := ⟨("_law_passing", none), "_law_passing", "_law_passing", defArgs sLpassing, defBody sLpassing, defScope sLpassing, [], []⟩
def dd__law_shows : He.DefD := ⟨("_law_shows", none), "_law_shows", "_law_shows", defArgs sLshows, defBody sLshows, defScope sLshows, [], []⟩
def dd__law_is_right : He.DefD := ⟨("_law_is_right", none), "_law_is_right", "_law_is_right", defArgs sLis_right, defBody sLis_right, defScope sLis_right, [], []⟩
def dd__law_changed : He.DefD := ⟨("_law_changed", none), "_law_changed", "_law_changed", defArgs sLchanged, defBody sLchanged, defScope sLchanged, [], []⟩
def dd_law : He.DefD := ⟨("law", none), "law", "law", defArgs slaw, defBody slaw, defScope slaw, [], []⟩
def dd_Plant_init : He.DefD := ⟨("Plant", some "__init__"), "__init__", "Plant.__init__", defArgs sPlant_init, defBody sPlant_init, defScope sPlant_init, [], []⟩
def dd_Missing_init : He.DefD := ⟨("Missing", some "__init__"), "__init__", "Missing.__init__", defArgs sMissing_init, defBody sMissing_init, defScope sMissing_init, [], []⟩
def dd_Range_init : He.DefD := ⟨("Range", some "__init__"), "__init__", "Range.__init__", defArgs sRange_init, defBody sRange_init, defScope sRange_init, [], []⟩
def dd_Plant_stream_names : He.DefD := ⟨("Plant", some "stream_names"), "stream_names", "Plant.stream_names", defArgs sPlant_stream_names, defBody sPlant_stream_names, defScope sPlant_stream_names, [], []⟩
def dd_Plant_check_knot : He.DefD := ⟨("Plant", some "check_knot"), "check_knot", "Plant.check_knot", defArgs sPlant_check_knot, defBody sPlant_check_knot, defScope sPlant_check_knot, [], []⟩
def dd_Plant_streams_into : He.DefD := ⟨("Plant", some "streams_into"), "streams_into", "Plant.streams_into", defArgs sPlant_streams_into, defBody sPlant_streams_into, defScope sPlant_streams_into, [], []⟩
def gt_knots : GtD := ⟨"Plant", "knots", "Plant.knots", defArgs sPlant_knots, defBody sPlant_knots, defScope sPlant_knots⟩
def gt_streams : GtD := ⟨"Plant", "streams", "Plant.streams", defArgs sPlant_streams, defBody sPlant_streams, defScope sPlant_streams⟩
def fn0 : List He.DefD := [dd_is_name, dd_are_names, dd_is_stream, dd_check_flows, dd_lacks, dd_is_balanced, dd_is_lot, dd_lines_of, dd_parted_lines, dd_arcs_of, dd_way_between, dd_way_back, dd_push, dd_push_all, dd_leading_to, dd_led_from, dd_come_to, dd_check_limits, dd_crossed, dd_missing_of, dd_least_missing, dd_are_within, dd_flows_within, dd_pushed_to, dd_sum_into, dd_sum_from, dd_shows_most, dd_shows_least, dd_sum_through, dd_through_of]
def fn1 : List He.DefD := [dd_check_through, dd__law_row, dd__law_numbers, dd__law_names, dd__law_lines, dd__law_rounds, dd__law_plant, dd__law_made, dd__law_drawn_limits, dd__law_lots, dd__law_left, dd__law_balanced, dd__law_inside, dd__law_are_good, dd__law_every, dd__law_all_balanced, dd__law_narrow, dd__law_around, dd__law_passing, dd__law_shows, dd__law_is_right, dd__law_changed, dd_law, dd_Plant_init, dd_Missing_init, dd_Range_init, dd_Plant_stream_names, dd_Plant_check_knot, dd_Plant_streams_into]
def fns : List He.DefD := fn0 ++ fn1
def fa0 : List He.Fa := [.glo "is_name", .glo "are_names", .glo "is_stream", .glo "check_flows", .glo "lacks", .glo "is_balanced", .glo "is_lot", .glo "lines_of", .glo "parted_lines", .glo "arcs_of", .glo "way_between", .glo "way_back", .glo "push", .glo "push_all", .glo "leading_to", .glo "led_from", .glo "come_to", .glo "check_limits", .glo "crossed", .glo "missing_of", .glo "least_missing", .glo "are_within", .glo "flows_within", .glo "pushed_to", .glo "sum_into", .glo "sum_from", .glo "shows_most", .glo "shows_least", .glo "sum_through", .glo "through_of"]
def fa1 : List He.Fa := [.glo "check_through", .glo "_law_row", .glo "_law_numbers", .glo "_law_names", .glo "_law_lines", .glo "_law_rounds", .glo "_law_plant", .glo "_law_made", .glo "_law_drawn_limits", .glo "_law_lots", .glo "_law_left", .glo "_law_balanced", .glo "_law_inside", .glo "_law_are_good", .glo "_law_every", .glo "_law_all_balanced", .glo "_law_narrow", .glo "_law_around", .glo "_law_passing", .glo "_law_shows", .glo "_law_is_right", .glo "_law_changed", .glo "law", .glo "Plant", .glo "Missing", .glo "Range", .free "len", .free "abs", .free "int", .free "min"]
def fa2 : List He.Fa := [.free "max", .free "sum", .free "all", .free "sorted", .free "list", .free "dict", .free "repr", .free "isinstance", .free "set", .free "range", .int "MOST_FLOW" 1000000, .int "MOST_KNOTS" 24, .int "MOST_STREAMS" 60, .str "LETTERS" "abcdefghijklmnopqrstuvwxyz0123456789", .str "APART" "", .cls "Plant", .mkr "Plant", .cls "Missing", .mkr "Missing", .cls "Range", .mkr "Range", .meth "Plant" "stream_names", .meth "Plant" "check_knot", .meth "Plant" "streams_into", .noat "Plant" "_knots", .noat "Plant" "_streams", .noat "Missing" "number", .noat "Missing" "flows", .noat "Missing" "least", .noat "Missing" "greatest"]
def fa3 : List He.Fa := [.noat "Range" "low", .noat "Range" "high", .noat "Range" "low_flows", .noat "Range" "high_flows", .noat "Range" "low_lot", .noat "Range" "high_lot"]
def fas : List He.Fa := fa0 ++ fa1 ++ fa2 ++ fa3
def gts : List GtD := [gt_knots, gt_streams]
def names0 : List PySem.Str := [PySem.Str.ofString "_wall", PySem.Str.ofString "MeterError", PySem.Str.ofString "InvalidPlant", PySem.Str.ofString "UnknownKnot", PySem.Str.ofString "UnknownStream", PySem.Str.ofString "LETTERS", PySem.Str.ofString "MOST_FLOW", PySem.Str.ofString "MOST_KNOTS", PySem.Str.ofString "MOST_STREAMS", PySem.Str.ofString "is_name", PySem.Str.ofString "are_names", PySem.Str.ofString "is_stream", PySem.Str.ofString "Plant", PySem.Str.ofString "check_flows", PySem.Str.ofString "lacks", PySem.Str.ofString "is_balanced", PySem.Str.ofString "is_lot", PySem.Str.ofString "lines_of", PySem.Str.ofString "parted_lines", PySem.Str.ofString "arcs_of", PySem.Str.ofString "way_between", PySem.Str.ofString "way_back", PySem.Str.ofString "push", PySem.Str.ofString "push_all", PySem.Str.ofString "leading_to", PySem.Str.ofString "led_from", PySem.Str.ofString "come_to", PySem.Str.ofString "Missing", PySem.Str.ofString "check_limits", PySem.Str.ofString "crossed", PySem.Str.ofString "missing_of", PySem.Str.ofString "least_missing", PySem.Str.ofString "are_within", PySem.Str.ofString "flows_within", PySem.Str.ofString "APART"]
def names1 : List PySem.Str := [PySem.Str.ofString "Range", PySem.Str.ofString "pushed_to", PySem.Str.ofString "sum_into", PySem.Str.ofString "sum_from", PySem.Str.ofString "shows_most", PySem.Str.ofString "shows_least", PySem.Str.ofString "sum_through", PySem.Str.ofString "through_of", PySem.Str.ofString "check_through", PySem.Str.ofString "_law_row", PySem.Str.ofString "_law_numbers", PySem.Str.ofString "_law_names", PySem.Str.ofString "_law_lines", PySem.Str.ofString "_law_rounds", PySem.Str.ofString "_law_plant", PySem.Str.ofString "_law_made", PySem.Str.ofString "_law_drawn_limits", PySem.Str.ofString "_law_lots", PySem.Str.ofString "_law_left", PySem.Str.ofString "_law_balanced", PySem.Str.ofString "_law_inside", PySem.Str.ofString "_law_are_good", PySem.Str.ofString "_law_every", PySem.Str.ofString "_law_all_balanced", PySem.Str.ofString "_law_narrow", PySem.Str.ofString "_law_around", PySem.Str.ofString "_law_passing", PySem.Str.ofString "_law_shows", PySem.Str.ofString "_law_is_right", PySem.Str.ofString "_law_changed"]
def names : List PySem.Str := names0 ++ names1
abbrev R : PySem.W.OpenRow := PySem.W.OpenLaw.row PySem.Challenge.rw_metersure_k35_whole_passing_through_smal
abbrev hk : PySem.W.Hook := hookX 6 fas fns gts
def ob (s : PySem.W.SharedT) : AlX := obsXG 6 fas fns gts (HandSHeadRun.getT s)
theorem ob_eq (s : PySem.W.SharedT) : ob s = hk.obs s.abs := obsXG_eq (HandSHeadRun.getT_eq s)
theorem run (w : World) : HandSHeadRun.RunEq R (PySem.W.view R.prog [72]) hk ob 6000 names w := by
  intro os
  kernel_rfl
section
variable {P : Program} {w : World} {K : PySem.W.Frag} {h : Heap} {mg : Str → Option Value}
theorem glb (X : K.In h) (G : h.Ns mainGlobals mg) (c : He.SaysD fas fns K) : Glb mg where
  len := He.free_ok X G (c.fact 56 (f := .free "len") rfl)
  abs := He.free_ok X G (c.fact 57 (f := .free "abs") rfl)
  int := He.free_ok X G (c.fact 58 (f := .free "int") rfl)
  min := He.free_ok X G (c.fact 59 (f := .free "min") rfl)
  max := He.free_ok X G (c.fact 60 (f := .free "max") rfl)
  sum := He.free_ok X G (c.fact 61 (f := .free "sum") rfl)
  all := He.free_ok X G (c.fact 62 (f := .free "all") rfl)
  sorted := He.free_ok X G (c.fact 63 (f := .free "sorted") rfl)
  list := He.free_ok X G (c.fact 64 (f := .free "list") rfl)
  dict := He.free_ok X G (c.fact 65 (f := .free "dict") rfl)
  repr := He.free_ok X G (c.fact 66 (f := .free "repr") rfl)
  isinstance := He.free_ok X G (c.fact 67 (f := .free "isinstance") rfl)
  set := He.free_ok X G (c.fact 68 (f := .free "set") rfl)
  range := He.free_ok X G (c.fact 69 (f := .free "range") rfl)
  c_MOST_FLOW := by
    obtain ⟨t, e⟩ := He.int_ok X G (c.fact 70 (f := .int "MOST_FLOW" 1000000) rfl)
    exact ⟨_, e, t, rfl⟩
  c_MOST_KNOTS := by
    obtain ⟨t, e⟩ := He.int_ok X G (c.fact 71 (f := .int "MOST_KNOTS" 24) rfl)
    exact ⟨_, e, t, rfl⟩
  c_MOST_STREAMS := by
    obtain ⟨t, e⟩ := He.int_ok X G (c.fact 72 (f := .int "MOST_STREAMS" 60) rfl)
    exact ⟨_, e, t, rfl⟩
  c_LETTERS := by
    obtain ⟨t, e⟩ := He.str_ok X G (c.fact 73 (f := .str "LETTERS" "abcdefghijklmnopqrstuvwxyz0123456789") rfl)
    exact ⟨_, e, t, rfl⟩
  c_APART := by
    obtain ⟨t, e⟩ := He.str_ok X G (c.fact 74 (f := .str "APART" "") rfl)
    exact ⟨_, e, t, rfl⟩
theorem dn_is_name (X : K.In h) (G : h.Ns mainGlobals mg) (c : He.SaysD fas fns K) : Dn K mg "is_name" sis_name ["text"] := by
  obtain ⟨fd, F⟩ := c.def_ 0 (d := dd_is_name) rfl
  exact ⟨_, fd, F, He.glo_ok X G (c.fact 0 (f := .glo "is_name") rfl), FunD.bindsN F fun _ _ _ _ _ _ us hl => match us, hl with | [_], _ => rfl⟩
theorem dn_are_names (X : K.In h) (G : h.Ns mainGlobals mg) (c : He.SaysD fas fns K) : Dn K mg "are_names" sare_names ["texts"] := by
  obtain ⟨fd, F⟩ := c.def_ 1 (d := dd_are_names) rfl
  exact ⟨_, fd, F, He.glo_ok X G (c.fact 1 (f := .glo "are_names") rfl), FunD.bindsN F fun _ _ _ _ _ _ us hl => match us, hl with | [_], _ => rfl⟩
theorem dn_is_stream (X : K.In h) (G : h.Ns mainGlobals mg) (c : He.SaysD fas fns K) : Dn K mg "is_stream" sis_stream ["stream", "knots"] := by
  obtain ⟨fd, F⟩ := c.def_ 2 (d := dd_is_stream) rfl
  exact ⟨_, fd, F, He.glo_ok X G (c.fact 2 (f := .glo "is_stream") rfl), FunD.bindsN F fun _ _ _ _ _ _ us hl => match us, hl with | [_, _], _ => rfl⟩
theorem dn_check_flows (X : K.In h) (G : h.Ns mainGlobals mg) (c : He.SaysD fas fns K) : Dn K mg "check_flows" scheck_flows ["plant", "flows"] := by
  obtain ⟨fd, F⟩ := c.def_ 3 (d := dd_check_flows) rfl
  exact ⟨_, fd, F, He.glo_ok X G (c.fact 3 (f := .glo "check_flows") rfl), FunD.bindsN F fun _ _ _ _ _ _ us hl => match us, hl with | [_, _], _ => rfl⟩
theorem dn_lacks (X : K.In h) (G : h.Ns mainGlobals mg) (c : He.SaysD fas fns K) : Dn K mg "lacks" slacks ["plant", "flows"] := by
  obtain ⟨fd, F⟩ := c.def_ 4 (d := dd_lacks) rfl
  exact ⟨_, fd, F, He.glo_ok X G (c.fact 4 (f := .glo "lacks") rfl), FunD.bindsN F fun _ _ _ _ _ _ us hl => match us, hl with | [_, _], _ => rfl⟩
theorem dn_is_balanced (X : K.In h) (G : h.Ns mainGlobals mg) (c : He.SaysD fas fns K) : Dn K mg "is_balanced" sis_balanced ["plant", "flows"] := by
  obtain ⟨fd, F⟩ := c.def_ 5 (d := dd_is_balanced) rfl
  exact ⟨_, fd, F, He.glo_ok X G (c.fact 5 (f := .glo "is_balanced") rfl), FunD.bindsN F fun _ _ _ _ _ _ us hl => match us, hl with | [_, _], _ => rfl⟩
theorem dn_is_lot (X : K.In h) (G : h.Ns mainGlobals mg) (c : He.SaysD fas fns K) : Dn K mg "is_lot" sis_lot ["plant", "lot"] := by
  obtain ⟨fd, F⟩ := c.def_ 6 (d := dd_is_lot) rfl
  exact ⟨_, fd, F, He.glo_ok X G (c.fact 6 (f := .glo "is_lot") rfl), FunD.bindsN F fun _ _ _ _ _ _ us hl => match us, hl with | [_, _], _ => rfl⟩
theorem dn_lines_of (X : K.In h) (G : h.Ns mainGlobals mg) (c : He.SaysD fas fns K) : Dn K mg "lines_of" slines_of ["plant"] := by
  obtain ⟨fd, F⟩ := c.def_ 7 (d := dd_lines_of) rfl
  exact ⟨_, fd, F, He.glo_ok X G (c.fact 7 (f := .glo "lines_of") rfl), FunD.bindsN F fun _ _ _ _ _ _ us hl => match us, hl with | [_], _ => rfl⟩
theorem dn_parted_lines (X : K.In h) (G : h.Ns mainGlobals mg) (c : He.SaysD fas fns K) : Dn K mg "parted_lines" sparted_lines ["plant", "knot"] := by
  obtain ⟨fd, F⟩ := c.def_ 8 (d := dd_parted_lines) rfl
  exact ⟨_, fd, F, He.glo_ok X G (c.fact 8 (f := .glo "parted_lines") rfl), FunD.bindsN F fun _ _ _ _ _ _ us hl => match us, hl with | [_, _], _ => rfl⟩
theorem dn_arcs_of (X : K.In h) (G : h.Ns mainGlobals mg) (c : He.SaysD fas fns K) : Dn K mg "arcs_of" sarcs_of ["lines", "limits", "flows"] := by
  obtain ⟨fd, F⟩ := c.def_ 9 (d := dd_arcs_of) rfl
  exact ⟨_, fd, F, He.glo_ok X G (c.fact 9 (f := .glo "arcs_of") rfl), FunD.bindsN F fun _ _ _ _ _ _ us hl => match us, hl with | [_, _, _], _ => rfl⟩
theorem dn_way_between (X : K.In h) (G : h.Ns mainGlobals mg) (c : He.SaysD fas fns K) : Dn K mg "way_between" sway_between ["arcs", "starts", "ends"] := by
  obtain ⟨fd, F⟩ := c.def_ 10 (d := dd_way_between) rfl
  exact ⟨_, fd, F, He.glo_ok X G (c.fact 10 (f := .glo "way_between") rfl), FunD.bindsN F fun _ _ _ _ _ _ us hl => match us, hl with | [_, _, _], _ => rfl⟩
theorem dn_way_back (X : K.In h) (G : h.Ns mainGlobals mg) (c : He.SaysD fas fns K) : Dn K mg "way_back" sway_back ["before", "place"] := by
  obtain ⟨fd, F⟩ := c.def_ 11 (d := dd_way_back) rfl
  exact ⟨_, fd, F, He.glo_ok X G (c.fact 11 (f := .glo "way_back") rfl), FunD.bindsN F fun _ _ _ _ _ _ us hl => match us, hl with | [_, _], _ => rfl⟩
theorem dn_push (X : K.In h) (G : h.Ns mainGlobals mg) (c : He.SaysD fas fns K) : Dn K mg "push" spush ["flows", "way", "most"] := by
  obtain ⟨fd, F⟩ := c.def_ 12 (d := dd_push) rfl
  exact ⟨_, fd, F, He.glo_ok X G (c.fact 12 (f := .glo "push") rfl), FunD.bindsN F fun _ _ _ _ _ _ us hl => match us, hl with | [_, _, _], _ => rfl⟩
theorem dn_push_all (X : K.In h) (G : h.Ns mainGlobals mg) (c : He.SaysD fas fns K) : Dn K mg "push_all" spush_all ["lines", "limits", "flows", "start", "end", "most"] := by
  obtain ⟨fd, F⟩ := c.def_ 13 (d := dd_push_all) rfl
  exact ⟨_, fd, F, He.glo_ok X G (c.fact 13 (f := .glo "push_all") rfl), FunD.bindsN F fun _ _ _ _ _ _ us hl => match us, hl with | [_, _, _, _, _, _], _ => rfl⟩
theorem dn_leading_to (X : K.In h) (G : h.Ns mainGlobals mg) (c : He.SaysD fas fns K) : Dn K mg "leading_to" sleading_to ["lines", "limits", "flows", "ends"] := by
  obtain ⟨fd, F⟩ := c.def_ 14 (d := dd_leading_to) rfl
  exact ⟨_, fd, F, He.glo_ok X G (c.fact 14 (f := .glo "leading_to") rfl), FunD.bindsN F fun _ _ _ _ _ _ us hl => match us, hl with | [_, _, _, _], _ => rfl⟩
theorem dn_led_from (X : K.In h) (G : h.Ns mainGlobals mg) (c : He.SaysD fas fns K) : Dn K mg "led_from" sled_from ["lines", "limits", "flows", "starts"] := by
  obtain ⟨fd, F⟩ := c.def_ 15 (d := dd_led_from) rfl
  exact ⟨_, fd, F, He.glo_ok X G (c.fact 15 (f := .glo "led_from") rfl), FunD.bindsN F fun _ _ _ _ _ _ us hl => match us, hl with | [_, _, _, _], _ => rfl⟩
theorem dn_come_to (X : K.In h) (G : h.Ns mainGlobals mg) (c : He.SaysD fas fns K) : Dn K mg "come_to" scome_to ["pairs", "starts"] := by
  obtain ⟨fd, F⟩ := c.def_ 16 (d := dd_come_to) rfl
  exact ⟨_, fd, F, He.glo_ok X G (c.fact 16 (f := .glo "come_to") rfl), FunD.bindsN F fun _ _ _ _ _ _ us hl => match us, hl with | [_, _], _ => rfl⟩
theorem dn_check_limits (X : K.In h) (G : h.Ns mainGlobals mg) (c : He.SaysD fas fns K) : Dn K mg "check_limits" scheck_limits ["plant", "limits"] := by
  obtain ⟨fd, F⟩ := c.def_ 17 (d := dd_check_limits) rfl
  exact ⟨_, fd, F, He.glo_ok X G (c.fact 17 (f := .glo "check_limits") rfl), FunD.bindsN F fun _ _ _ _ _ _ us hl => match us, hl with | [_, _], _ => rfl⟩
theorem dn_crossed (X : K.In h) (G : h.Ns mainGlobals mg) (c : He.SaysD fas fns K) : Dn K mg "crossed" scrossed ["plant", "limits"] := by
  obtain ⟨fd, F⟩ := c.def_ 18 (d := dd_crossed) rfl
  exact ⟨_, fd, F, He.glo_ok X G (c.fact 18 (f := .glo "crossed") rfl), FunD.bindsN F fun _ _ _ _ _ _ us hl => match us, hl with | [_, _], _ => rfl⟩
theorem dn_missing_of (X : K.In h) (G : h.Ns mainGlobals mg) (c : He.SaysD fas fns K) : Dn K mg "missing_of" smissing_of ["plant", "flows"] := by
  obtain ⟨fd, F⟩ := c.def_ 19 (d := dd_missing_of) rfl
  exact ⟨_, fd, F, He.glo_ok X G (c.fact 19 (f := .glo "missing_of") rfl), FunD.bindsN F fun _ _ _ _ _ _ us hl => match us, hl with | [_, _], _ => rfl⟩
theorem dn_least_missing (X : K.In h) (G : h.Ns mainGlobals mg) (c : He.SaysD fas fns K) : Dn K mg "least_missing" sleast_missing ["plant", "limits"] := by
  obtain ⟨fd, F⟩ := c.def_ 20 (d := dd_least_missing) rfl
  exact ⟨_, fd, F, He.glo_ok X G (c.fact 20 (f := .glo "least_missing") rfl), FunD.bindsN F fun _ _ _ _ _ _ us hl => match us, hl with | [_, _], _ => rfl⟩
theorem dn_are_within (X : K.In h) (G : h.Ns mainGlobals mg) (c : He.SaysD fas fns K) : Dn K mg "are_within" sare_within ["plant", "limits", "flows"] := by
  obtain ⟨fd, F⟩ := c.def_ 21 (d := dd_are_within) rfl
  exact ⟨_, fd, F, He.glo_ok X G (c.fact 21 (f := .glo "are_within") rfl), FunD.bindsN F fun _ _ _ _ _ _ us hl => match us, hl with | [_, _, _], _ => rfl⟩
theorem dn_flows_within (X : K.In h) (G : h.Ns mainGlobals mg) (c : He.SaysD fas fns K) : Dn K mg "flows_within" sflows_within ["plant", "limits"] := by
  obtain ⟨fd, F⟩ := c.def_ 22 (d := dd_flows_within) rfl
  exact ⟨_, fd, F, He.glo_ok X G (c.fact 22 (f := .glo "flows_within") rfl), FunD.bindsN F fun _ _ _ _ _ _ us hl => match us, hl with | [_, _], _ => rfl⟩
theorem dn_pushed_to (X : K.In h) (G : h.Ns mainGlobals mg) (c : He.SaysD fas fns K) : Dn K mg "pushed_to" spushed_to ["plant", "lines", "limits", "flows", "start", "end", "most"] := by
  obtain ⟨fd, F⟩ := c.def_ 23 (d := dd_pushed_to) rfl
  exact ⟨_, fd, F, He.glo_ok X G (c.fact 23 (f := .glo "pushed_to") rfl), FunD.bindsN F fun _ _ _ _ _ _ us hl => match us, hl with | [_, _, _, _, _, _, _], _ => rfl⟩
theorem dn_sum_into (X : K.In h) (G : h.Ns mainGlobals mg) (c : He.SaysD fas fns K) : Dn K mg "sum_into" ssum_into ["lines", "limits", "places"] := by
  obtain ⟨fd, F⟩ := c.def_ 24 (d := dd_sum_into) rfl
  exact ⟨_, fd, F, He.glo_ok X G (c.fact 24 (f := .glo "sum_into") rfl), FunD.bindsN F fun _ _ _ _ _ _ us hl => match us, hl with | [_, _, _], _ => rfl⟩
theorem dn_sum_from (X : K.In h) (G : h.Ns mainGlobals mg) (c : He.SaysD fas fns K) : Dn K mg "sum_from" ssum_from ["lines", "limits", "places"] := by
  obtain ⟨fd, F⟩ := c.def_ 25 (d := dd_sum_from) rfl
  exact ⟨_, fd, F, He.glo_ok X G (c.fact 25 (f := .glo "sum_from") rfl), FunD.bindsN F fun _ _ _ _ _ _ us hl => match us, hl with | [_, _, _], _ => rfl⟩
theorem dn_shows_most (X : K.In h) (G : h.Ns mainGlobals mg) (c : He.SaysD fas fns K) : Dn K mg "shows_most" sshows_most ["lines", "limits", "places", "number"] := by
  obtain ⟨fd, F⟩ := c.def_ 26 (d := dd_shows_most) rfl
  exact ⟨_, fd, F, He.glo_ok X G (c.fact 26 (f := .glo "shows_most") rfl), FunD.bindsN F fun _ _ _ _ _ _ us hl => match us, hl with | [_, _, _, _], _ => rfl⟩
theorem dn_shows_least (X : K.In h) (G : h.Ns mainGlobals mg) (c : He.SaysD fas fns K) : Dn K mg "shows_least" sshows_least ["lines", "limits", "places", "number"] := by
  obtain ⟨fd, F⟩ := c.def_ 27 (d := dd_shows_least) rfl
  exact ⟨_, fd, F, He.glo_ok X G (c.fact 27 (f := .glo "shows_least") rfl), FunD.bindsN F fun _ _ _ _ _ _ us hl => match us, hl with | [_, _, _, _], _ => rfl⟩
theorem dn_sum_through (X : K.In h) (G : h.Ns mainGlobals mg) (c : He.SaysD fas fns K) : Dn K mg "sum_through" ssum_through ["plant", "flows", "knot"] := by
  obtain ⟨fd, F⟩ := c.def_ 28 (d := dd_sum_through) rfl
  exact ⟨_, fd, F, He.glo_ok X G (c.fact 28 (f := .glo "sum_through") rfl), FunD.bindsN F fun _ _ _ _ _ _ us hl => match us, hl with | [_, _, _], _ => rfl⟩
theorem dn_through_of (X : K.In h) (G : h.Ns mainGlobals mg) (c : He.SaysD fas fns K) : Dn K mg "through_of" sthrough_of ["plant", "limits", "knot"] := by
  obtain ⟨fd, F⟩ := c.def_ 29 (d := dd_through_of) rfl
  exact ⟨_, fd, F, He.glo_ok X G (c.fact 29 (f := .glo "through_of") rfl), FunD.bindsN F fun _ _ _ _ _ _ us hl => match us, hl with | [_, _, _], _ => rfl⟩
theorem dn_check_through (X : K.In h) (G : h.Ns mainGlobals mg) (c : He.SaysD fas fns K) : Dn K mg "check_through" scheck_through ["plant", "limits", "knot", "told"] := by
  obtain ⟨fd, F⟩ := c.def_ 30 (d := dd_check_through) rfl
  exact ⟨_, fd, F, He.glo_ok X G (c.fact 30 (f := .glo "check_through") rfl), FunD.bindsN F fun _ _ _ _ _ _ us hl => match us, hl with | [_, _, _, _], _ => rfl⟩
theorem dn__law_row (X : K.In h) (G : h.Ns mainGlobals mg) (c : He.SaysD fas fns K) : Dn K mg "_law_row" sLrow ["_law_cell", "_law_many"] := by
  obtain ⟨fd, F⟩ := c.def_ 31 (d := dd__law_row) rfl
  exact ⟨_, fd, F, He.glo_ok X G (c.fact 31 (f := .glo "_law_row") rfl), FunD.bindsN F fun _ _ _ _ _ _ us hl => match us, hl with | [_, _], _ => rfl⟩
theorem dn__law_numbers (X : K.In h) (G : h.Ns mainGlobals mg) (c : He.SaysD fas fns K) : Dn K mg "_law_numbers" sLnumbers ["_law_script", "_law_many"] := by
  obtain ⟨fd, F⟩ := c.def_ 32 (d := dd__law_numbers) rfl
  exact ⟨_, fd, F, He.glo_ok X G (c.fact 32 (f := .glo "_law_numbers") rfl), FunD.bindsN F fun _ _ _ _ _ _ us hl => match us, hl with | [_, _], _ => rfl⟩
theorem dn__law_names (X : K.In h) (G : h.Ns mainGlobals mg) (c : He.SaysD fas fns K) : Dn K mg "_law_names" sLnames ["_law_number", "_law_many"] := by
  obtain ⟨fd, F⟩ := c.def_ 33 (d := dd__law_names) rfl
  exact ⟨_, fd, F, He.glo_ok X G (c.fact 33 (f := .glo "_law_names") rfl), FunD.bindsN F fun _ _ _ _ _ _ us hl => match us, hl with | [_, _], _ => rfl⟩
theorem dn__law_lines (X : K.In h) (G : h.Ns mainGlobals mg) (c : He.SaysD fas fns K) : Dn K mg "_law_lines" sLlines ["_law_numbers_here", "_law_at", "_law_knots", "_law_many"] := by
  obtain ⟨fd, F⟩ := c.def_ 34 (d := dd__law_lines) rfl
  exact ⟨_, fd, F, He.glo_ok X G (c.fact 34 (f := .glo "_law_lines") rfl), FunD.bindsN F fun _ _ _ _ _ _ us hl => match us, hl with | [_, _, _, _], _ => rfl⟩
theorem dn__law_rounds (X : K.In h) (G : h.Ns mainGlobals mg) (c : He.SaysD fas fns K) : Dn K mg "_law_rounds" sLrounds ["_law_numbers_here", "_law_at", "_law_lines_here"] := by
  obtain ⟨fd, F⟩ := c.def_ 35 (d := dd__law_rounds) rfl
  exact ⟨_, fd, F, He.glo_ok X G (c.fact 35 (f := .glo "_law_rounds") rfl), FunD.bindsN F fun _ _ _ _ _ _ us hl => match us, hl with | [_, _, _], _ => rfl⟩
theorem dn__law_plant (X : K.In h) (G : h.Ns mainGlobals mg) (c : He.SaysD fas fns K) : Dn K mg "_law_plant" sLplant ["_law_numbers_here", "_law_at", "_law_most_knots", "_law_most_streams", "_law_spread"] := by
  obtain ⟨fd, F⟩ := c.def_ 36 (d := dd__law_plant) rfl
  exact ⟨_, fd, F, He.glo_ok X G (c.fact 36 (f := .glo "_law_plant") rfl), FunD.bindsN F fun _ _ _ _ _ _ us hl => match us, hl with | [_, _, _, _, _], _ => rfl⟩
theorem dn__law_made (X : K.In h) (G : h.Ns mainGlobals mg) (c : He.SaysD fas fns K) : Dn K mg "_law_made" sLmade ["_law_plant_here"] := by
  obtain ⟨fd, F⟩ := c.def_ 37 (d := dd__law_made) rfl
  exact ⟨_, fd, F, He.glo_ok X G (c.fact 37 (f := .glo "_law_made") rfl), FunD.bindsN F fun _ _ _ _ _ _ us hl => match us, hl with | [_], _ => rfl⟩
theorem dn__law_drawn_limits (X : K.In h) (G : h.Ns mainGlobals mg) (c : He.SaysD fas fns K) : Dn K mg "_law_drawn_limits" sLdrawn_limits ["_law_numbers_here", "_law_at", "_law_plant_here", "_law_flows"] := by
  obtain ⟨fd, F⟩ := c.def_ 38 (d := dd__law_drawn_limits) rfl
  exact ⟨_, fd, F, He.glo_ok X G (c.fact 38 (f := .glo "_law_drawn_limits") rfl), FunD.bindsN F fun _ _ _ _ _ _ us hl => match us, hl with | [_, _, _, _], _ => rfl⟩
theorem dn__law_lots (X : K.In h) (G : h.Ns mainGlobals mg) (c : He.SaysD fas fns K) : Dn K mg "_law_lots" sLlots ["_law_plant_here"] := by
  obtain ⟨fd, F⟩ := c.def_ 39 (d := dd__law_lots) rfl
  exact ⟨_, fd, F, He.glo_ok X G (c.fact 39 (f := .glo "_law_lots") rfl), FunD.bindsN F fun _ _ _ _ _ _ us hl => match us, hl with | [_], _ => rfl⟩
theorem dn__law_left (X : K.In h) (G : h.Ns mainGlobals mg) (c : He.SaysD fas fns K) : Dn K mg "_law_left" sLleft ["_law_plant_here", "_law_flows"] := by
  obtain ⟨fd, F⟩ := c.def_ 40 (d := dd__law_left) rfl
  exact ⟨_, fd, F, He.glo_ok X G (c.fact 40 (f := .glo "_law_left") rfl), FunD.bindsN F fun _ _ _ _ _ _ us hl => match us, hl with | [_, _], _ => rfl⟩
theorem dn__law_balanced (X : K.In h) (G : h.Ns mainGlobals mg) (c : He.SaysD fas fns K) : Dn K mg "_law_balanced" sLbalanced ["_law_plant_here", "_law_flows"] := by
  obtain ⟨fd, F⟩ := c.def_ 41 (d := dd__law_balanced) rfl
  exact ⟨_, fd, F, He.glo_ok X G (c.fact 41 (f := .glo "_law_balanced") rfl), FunD.bindsN F fun _ _ _ _ _ _ us hl => match us, hl with | [_, _], _ => rfl⟩
theorem dn__law_inside (X : K.In h) (G : h.Ns mainGlobals mg) (c : He.SaysD fas fns K) : Dn K mg "_law_inside" sLinside ["_law_limits", "_law_flows"] := by
  obtain ⟨fd, F⟩ := c.def_ 42 (d := dd__law_inside) rfl
  exact ⟨_, fd, F, He.glo_ok X G (c.fact 42 (f := .glo "_law_inside") rfl), FunD.bindsN F fun _ _ _ _ _ _ us hl => match us, hl with | [_, _], _ => rfl⟩
theorem dn__law_are_good (X : K.In h) (G : h.Ns mainGlobals mg) (c : He.SaysD fas fns K) : Dn K mg "_law_are_good" sLare_good ["_law_plant_here", "_law_limits", "_law_flows"] := by
  obtain ⟨fd, F⟩ := c.def_ 43 (d := dd__law_are_good) rfl
  exact ⟨_, fd, F, He.glo_ok X G (c.fact 43 (f := .glo "_law_are_good") rfl), FunD.bindsN F fun _ _ _ _ _ _ us hl => match us, hl with | [_, _, _], _ => rfl⟩
theorem dn__law_every (X : K.In h) (G : h.Ns mainGlobals mg) (c : He.SaysD fas fns K) : Dn K mg "_law_every" sLevery ["_law_limits"] := by
  obtain ⟨fd, F⟩ := c.def_ 44 (d := dd__law_every) rfl
  exact ⟨_, fd, F, He.glo_ok X G (c.fact 44 (f := .glo "_law_every") rfl), FunD.bindsN F fun _ _ _ _ _ _ us hl => match us, hl with | [_], _ => rfl⟩
theorem dn__law_all_balanced (X : K.In h) (G : h.Ns mainGlobals mg) (c : He.SaysD fas fns K) : Dn K mg "_law_all_balanced" sLall_balanced ["_law_plant_here", "_law_limits"] := by
  obtain ⟨fd, F⟩ := c.def_ 45 (d := dd__law_all_balanced) rfl
  exact ⟨_, fd, F, He.glo_ok X G (c.fact 45 (f := .glo "_law_all_balanced") rfl), FunD.bindsN F fun _ _ _ _ _ _ us hl => match us, hl with | [_, _], _ => rfl⟩
theorem dn__law_narrow (X : K.In h) (G : h.Ns mainGlobals mg) (c : He.SaysD fas fns K) : Dn K mg "_law_narrow" sLnarrow ["_law_limits", "_law_numbers_here", "_law_at"] := by
  obtain ⟨fd, F⟩ := c.def_ 46 (d := dd__law_narrow) rfl
  exact ⟨_, fd, F, He.glo_ok X G (c.fact 46 (f := .glo "_law_narrow") rfl), FunD.bindsN F fun _ _ _ _ _ _ us hl => match us, hl with | [_, _, _], _ => rfl⟩
theorem dn__law_around (X : K.In h) (G : h.Ns mainGlobals mg) (c : He.SaysD fas fns K) : Dn K mg "_law_around" sLaround ["_law_plant_here", "_law_limits", "_law_knot", "_law_lot"] := by
  obtain ⟨fd, F⟩ := c.def_ 47 (d := dd__law_around) rfl
  exact ⟨_, fd, F, He.glo_ok X G (c.fact 47 (f := .glo "_law_around") rfl), FunD.bindsN F fun _ _ _ _ _ _ us hl => match us, hl with | [_, _, _, _], _ => rfl⟩
theorem dn__law_passing (X : K.In h) (G : h.Ns mainGlobals mg) (c : He.SaysD fas fns K) : Dn K mg "_law_passing" sLpassing ["_law_plant_here", "_law_flows", "_law_knot"] := by
  obtain ⟨fd, F⟩ := c.def_ 48 (d := dd__law_passing) rfl
  exact ⟨_, fd, F, He.glo_ok X G (c.fact 48 (f := .glo "_law_passing") rfl), FunD.bindsN F fun _ _ _ _ _ _ us hl => match us, hl with | [_, _, _], _ => rfl⟩
theorem dn__law_shows (X : K.In h) (G : h.Ns mainGlobals mg) (c : He.SaysD fas fns K) : Dn K mg "_law_shows" sLshows ["_law_plant_here", "_law_limits", "_law_knot", "_law_lot", "_law_number", "_law_is_high"] := by
  obtain ⟨fd, F⟩ := c.def_ 49 (d := dd__law_shows) rfl
  exact ⟨_, fd, F, He.glo_ok X G (c.fact 49 (f := .glo "_law_shows") rfl), FunD.bindsN F fun _ _ _ _ _ _ us hl => match us, hl with | [_, _, _, _, _, _], _ => rfl⟩
theorem dn__law_is_right (X : K.In h) (G : h.Ns mainGlobals mg) (c : He.SaysD fas fns K) : Dn K mg "_law_is_right" sLis_right ["_law_plant_here", "_law_limits", "_law_knot", "_law_parts"] := by
  obtain ⟨fd, F⟩ := c.def_ 50 (d := dd__law_is_right) rfl
  exact ⟨_, fd, F, He.glo_ok X G (c.fact 50 (f := .glo "_law_is_right") rfl), FunD.bindsN F fun _ _ _ _ _ _ us hl => match us, hl with | [_, _, _, _], _ => rfl⟩
theorem dn__law_changed (X : K.In h) (G : h.Ns mainGlobals mg) (c : He.SaysD fas fns K) : Dn K mg "_law_changed" sLchanged ["_law_numbers_here", "_law_at", "_law_plant_here", "_law_parts"] := by
  obtain ⟨fd, F⟩ := c.def_ 51 (d := dd__law_changed) rfl
  exact ⟨_, fd, F, He.glo_ok X G (c.fact 51 (f := .glo "_law_changed") rfl), FunD.bindsN F fun _ _ _ _ _ _ us hl => match us, hl with | [_, _, _, _], _ => rfl⟩
theorem kn_Plant (X : K.In h) (G : h.Ns mainGlobals mg) (c : He.SaysD fas fns K) : Kn K mg "Plant" (He.ga K "Plant") "Plant.__init__" sPlant_init ["self", "knots", "streams"] := by
  obtain ⟨fd, F⟩ := c.def_ 53 (d := dd_Plant_init) rfl
  exact ⟨_, fd, He.mkr_ok (c.fact 76 (f := .mkr "Plant") rfl), F, He.glo_ok X G (c.fact 53 (f := .glo "Plant") rfl), FunD.bindsN F fun _ _ _ _ _ _ us hl => match us, hl with | [_, _, _], _ => rfl⟩
theorem kn_Missing (X : K.In h) (G : h.Ns mainGlobals mg) (c : He.SaysD fas fns K) : Kn K mg "Missing" (He.ga K "Missing") "Missing.__init__" sMissing_init ["self", "number", "flows", "least", "greatest"] := by
  obtain ⟨fd, F⟩ := c.def_ 54 (d := dd_Missing_init) rfl
  exact ⟨_, fd, He.mkr_ok (c.fact 78 (f := .mkr "Missing") rfl), F, He.glo_ok X G (c.fact 54 (f := .glo "Missing") rfl), FunD.bindsN F fun _ _ _ _ _ _ us hl => match us, hl with | [_, _, _, _, _], _ => rfl⟩
theorem kn_Range (X : K.In h) (G : h.Ns mainGlobals mg) (c : He.SaysD fas fns K) : Kn K mg "Range" (He.ga K "Range") "Range.__init__" sRange_init ["self", "low", "high", "low_flows", "high_flows", "low_lot", "high_lot"] := by
  obtain ⟨fd, F⟩ := c.def_ 55 (d := dd_Range_init) rfl
  exact ⟨_, fd, He.mkr_ok (c.fact 80 (f := .mkr "Range") rfl), F, He.glo_ok X G (c.fact 55 (f := .glo "Range") rfl), FunD.bindsN F fun _ _ _ _ _ _ us hl => match us, hl with | [_, _, _, _, _, _, _], _ => rfl⟩
theorem mn_stream_names (c : He.SaysD fas fns K) : Mn K (He.ga K "Plant") "stream_names" "Plant.stream_names" sPlant_stream_names ["self"] := by
  obtain ⟨fd, F⟩ := c.def_ 56 (d := dd_Plant_stream_names) rfl
  exact ⟨_, fd, He.cls_ok (c.fact 75 (f := .cls "Plant") rfl), He.meth_ok (c.fact 81 (f := .meth "Plant" "stream_names") rfl), F, FunD.bindsN F fun _ _ _ _ _ _ us hl => match us, hl with | [_], _ => rfl⟩
theorem mn_check_knot (c : He.SaysD fas fns K) : Mn K (He.ga K "Plant") "check_knot" "Plant.check_knot" sPlant_check_knot ["self", "knot"] := by
  obtain ⟨fd, F⟩ := c.def_ 57 (d := dd_Plant_check_knot) rfl
  exact ⟨_, fd, He.cls_ok (c.fact 75 (f := .cls "Plant") rfl), He.meth_ok (c.fact 82 (f := .meth "Plant" "check_knot") rfl), F, FunD.bindsN F fun _ _ _ _ _ _ us hl => match us, hl with | [_, _], _ => rfl⟩
theorem mn_streams_into (c : He.SaysD fas fns K) : Mn K (He.ga K "Plant") "streams_into" "Plant.streams_into" sPlant_streams_into ["self", "knot"] := by
  obtain ⟨fd, F⟩ := c.def_ 58 (d := dd_Plant_streams_into) rfl
  exact ⟨_, fd, He.cls_ok (c.fact 75 (f := .cls "Plant") rfl), He.meth_ok (c.fact 83 (f := .meth "Plant" "streams_into") rfl), F, FunD.bindsN F fun _ _ _ _ _ _ us hl => match us, hl with | [_, _], _ => rfl⟩
theorem rn_knots (c : SaysX fas fns gts K) : Rn K (He.ga K "Plant") "knots" "Plant.knots" sPlant_knots ["self"] := by
  obtain ⟨p, fd, F⟩ := c.get 0 (d := gt_knots) rfl
  exact ⟨_, _, fd, He.cls_ok (c.d.fact 75 (f := .cls "Plant") rfl), p, F, FunD.bindsN F fun _ _ _ _ _ _ us hl => match us, hl with | [_], _ => rfl⟩
theorem rn_streams (c : SaysX fas fns gts K) : Rn K (He.ga K "Plant") "streams" "Plant.streams" sPlant_streams ["self"] := by
  obtain ⟨p, fd, F⟩ := c.get 1 (d := gt_streams) rfl
  exact ⟨_, _, fd, He.cls_ok (c.d.fact 75 (f := .cls "Plant") rfl), p, F, FunD.bindsN F fun _ _ _ _ _ _ us hl => match us, hl with | [_], _ => rfl⟩
theorem plT (c : He.SaysD fas fns K) : PlT K (He.ga K "Plant") := ⟨He.cls_ok (c.fact 75 (f := .cls "Plant") rfl), He.noat_ok (c.fact 84 (f := .noat "Plant" "_knots") rfl), He.noat_ok (c.fact 85 (f := .noat "Plant" "_streams") rfl)⟩
theorem miT (c : He.SaysD fas fns K) : MiT K (He.ga K "Missing") := ⟨He.cls_ok (c.fact 77 (f := .cls "Missing") rfl), He.noat_ok (c.fact 86 (f := .noat "Missing" "number") rfl), He.noat_ok (c.fact 87 (f := .noat "Missing" "flows") rfl), He.noat_ok (c.fact 88 (f := .noat "Missing" "least") rfl), He.noat_ok (c.fact 89 (f := .noat "Missing" "greatest") rfl)⟩
theorem rgT (c : He.SaysD fas fns K) : RgT K (He.ga K "Range") := ⟨He.cls_ok (c.fact 79 (f := .cls "Range") rfl), He.noat_ok (c.fact 90 (f := .noat "Range" "low") rfl), He.noat_ok (c.fact 91 (f := .noat "Range" "high") rfl), He.noat_ok (c.fact 92 (f := .noat "Range" "low_flows") rfl), He.noat_ok (c.fact 93 (f := .noat "Range" "high_flows") rfl), He.noat_ok (c.fact 94 (f := .noat "Range" "low_lot") rfl), He.noat_ok (c.fact 95 (f := .noat "Range" "high_lot") rfl)⟩
theorem facts (X : K.In h) (G : h.Ns mainGlobals mg) {f : Addr} (hfa : mg ("law" : Str) = some (.ref f)) (cx : SaysX fas fns gts K) :
    ∃ fd : FuncData, (∀ (s : Shared) (v : Value), BindsTo s fd ⟨[v], []⟩ [("_law_script", v)]) ∧ ∀ base : Heap, K.In base → base.Ns mainGlobals mg → FnOk P w K mg base CX0 9 f fd ["_law_script"] (spLaw K) := by
  have c := cx.d
  have g := glb X G c
  have PT := plT c
  have MT := miT c
  have RT := rgT c
  obtain ⟨fd, F⟩ := c.def_ 52 (d := dd_law) rfl
  have e := hfa.symm.trans (He.glo_ok X G (c.fact 52 (f := .glo "law") rfl))
  cases e
  have b := FunD.bindsA (ps := ["_law_script"]) F fun _ _ _ _ _ _ us hl => match us, hl with | [_], _ => rfl
  refine ⟨fd, fun s v => b s [v] rfl, fun base _ _ => ?_⟩
  have c_is_name := ok_is_name (P := P) (w := w) (base := base) (dn_is_name X G c) g 
  have c_are_names := ok_are_names (P := P) (w := w) (base := base) (dn_are_names X G c) g c_is_name
  have c_is_stream := ok_is_stream (P := P) (w := w) (base := base) (dn_is_stream X G c) g 
  have c_Plant := ok_Plant (P := P) (w := w) (base := base) (kn_Plant X G c) g PT c_are_names c_is_stream
  have p_knots := ok_knots (P := P) (w := w) (base := base) (rn_knots cx) g PT
  have p_streams := ok_streams (P := P) (w := w) (base := base) (rn_streams cx) g PT
  have c_stream_names := ok_stream_names (P := P) (w := w) (base := base) (mn_stream_names c) g PT
  have c_check_knot := ok_check_knot (P := P) (w := w) (base := base) (mn_check_knot c) g PT
  have c_streams_into := ok_streams_into (P := P) (w := w) (base := base) (mn_streams_into c) g PT c_check_knot
  have c_check_flows := ok_check_flows (P := P) (w := w) (base := base) (dn_check_flows X G c) g c_stream_names
  have c_lacks := ok_lacks (P := P) (w := w) (base := base) (dn_lacks X G c) g c_check_flows p_knots p_streams
  have c_is_balanced := ok_is_balanced (P := P) (w := w) (base := base) (dn_is_balanced X G c) g c_lacks
  have c_is_lot := ok_is_lot (P := P) (w := w) (base := base) (dn_is_lot X G c) g p_knots
  have c_lines_of := ok_lines_of (P := P) (w := w) (base := base) (dn_lines_of X G c) g p_streams
  have c_parted_lines := ok_parted_lines (P := P) (w := w) (base := base) (dn_parted_lines X G c) g p_streams
  have c_arcs_of := ok_arcs_of (P := P) (w := w) (base := base) (dn_arcs_of X G c) g 
  have c_come_to := ok_come_to (P := P) (w := w) (base := base) (dn_come_to X G c) g 
  have c_leading_to := ok_leading_to (P := P) (w := w) (base := base) (dn_leading_to X G c) g c_arcs_of c_come_to
  have c_led_from := ok_led_from (P := P) (w := w) (base := base) (dn_led_from X G c) g c_arcs_of c_come_to
  have c_way_back := ok_way_back (P := P) (w := w) (base := base) (dn_way_back X G c) g 
  have c_push := ok_push (P := P) (w := w) (base := base) (dn_push X G c) g 
  have c_way_between := ok_way_between (P := P) (w := w) (base := base) (dn_way_between X G c) g c_way_back
  have c_push_all := ok_push_all (P := P) (w := w) (base := base) (dn_push_all X G c) g c_arcs_of c_way_between c_push
  have c_check_limits := ok_check_limits (P := P) (w := w) (base := base) (dn_check_limits X G c) g c_lacks
  have c_crossed := ok_crossed (P := P) (w := w) (base := base) (dn_crossed X G c) g c_check_limits c_stream_names
  have c_missing_of := ok_missing_of (P := P) (w := w) (base := base) (dn_missing_of X G c) g c_lacks
  have c_Missing := ok_Missing (P := P) (w := w) (base := base) (kn_Missing X G c) g MT
  have c_least_missing := ok_least_missing (P := P) (w := w) (base := base) (dn_least_missing X G c) g MT c_crossed c_lines_of c_lacks c_arcs_of c_way_between c_push c_leading_to c_led_from c_missing_of c_Missing p_knots
  have c_are_within := ok_are_within (P := P) (w := w) (base := base) (dn_are_within X G c) g c_check_flows c_crossed c_is_balanced
  have c_flows_within := ok_flows_within (P := P) (w := w) (base := base) (dn_flows_within X G c) g MT c_least_missing
  have c_Range := ok_Range (P := P) (w := w) (base := base) (kn_Range X G c) g RT
  have c_pushed_to := ok_pushed_to (P := P) (w := w) (base := base) (dn_pushed_to X G c) g c_push_all c_leading_to p_knots
  have c_sum_into := ok_sum_into (P := P) (w := w) (base := base) (dn_sum_into X G c) g 
  have c_sum_from := ok_sum_from (P := P) (w := w) (base := base) (dn_sum_from X G c) g 
  have c_shows_most := ok_shows_most (P := P) (w := w) (base := base) (dn_shows_most X G c) g c_sum_into c_sum_from
  have c_shows_least := ok_shows_least (P := P) (w := w) (base := base) (dn_shows_least X G c) g c_sum_into c_sum_from
  have c_sum_through := ok_sum_through (P := P) (w := w) (base := base) (dn_sum_through X G c) g c_streams_into
  have c_through_of := ok_through_of (P := P) (w := w) (base := base) (dn_through_of X G c) g PT c_check_knot c_flows_within c_parted_lines c_pushed_to c_sum_through c_Range
  have c_check_through := ok_check_through (P := P) (w := w) (base := base) (dn_check_through X G c) g PT RT c_check_knot c_crossed c_are_within c_sum_through c_is_lot c_parted_lines c_shows_least c_shows_most
  have c__law_row := ok_row (P := P) (w := w) (base := base) (dn__law_row X G c) g 
  have c__law_numbers := ok_numbers (P := P) (w := w) (base := base) (dn__law_numbers X G c) g c__law_row
  have c__law_names := ok_names (P := P) (w := w) (base := base) (dn__law_names X G c) g 
  have c__law_lines := ok_lines (P := P) (w := w) (base := base) (dn__law_lines X G c) g c__law_names
  have c__law_rounds := ok_rounds (P := P) (w := w) (base := base) (dn__law_rounds X G c) g 
  have c__law_plant := ok_plant (P := P) (w := w) (base := base) (dn__law_plant X G c) g c__law_names c__law_lines c__law_rounds
  have c__law_made := ok_made (P := P) (w := w) (base := base) (dn__law_made X G c) g c_Plant
  have c__law_left := ok_left (P := P) (w := w) (base := base) (dn__law_left X G c) g 
  have c__law_balanced := ok_lbalanced (P := P) (w := w) (base := base) (dn__law_balanced X G c) g c__law_left
  have c__law_inside := ok_inside (P := P) (w := w) (base := base) (dn__law_inside X G c) g 
  have c__law_are_good := ok_are_good (P := P) (w := w) (base := base) (dn__law_are_good X G c) g c__law_inside c__law_balanced
  have c__law_passing := ok_passing (P := P) (w := w) (base := base) (dn__law_passing X G c) g 
  have c__law_drawn_limits := ok_drawn (P := P) (w := w) (base := base) (dn__law_drawn_limits X G c) g 
  have c__law_narrow := ok_narrow (P := P) (w := w) (base := base) (dn__law_narrow X G c) g 
  have c__law_lots := ok_lots (P := P) (w := w) (base := base) (dn__law_lots X G c) g 
  have c__law_every := ok_every (P := P) (w := w) (base := base) (dn__law_every X G c) g 
  have c__law_all_balanced := ok_all_balanced (P := P) (w := w) (base := base) (dn__law_all_balanced X G c) g c__law_every c__law_balanced
  have c__law_around := ok_around (P := P) (w := w) (base := base) (dn__law_around X G c) g 
  have c__law_shows := ok_lshows (P := P) (w := w) (base := base) (dn__law_shows X G c) g c__law_around
  have c__law_is_right := ok_is_right (P := P) (w := w) (base := base) (dn__law_is_right X G c) g c__law_are_good c__law_passing c__law_shows
  have c__law_changed := ok_changed (P := P) (w := w) (base := base) (dn__law_changed X G c) g c__law_lots
  exact ok_law (P := P) (w := w) (base := base) F g RT c__law_numbers c__law_plant c__law_narrow c__law_drawn_limits c__law_made c__law_all_balanced c_through_of c__law_passing c__law_changed c_Range c__law_is_right c_check_through
end
end Ms
open PySem PySem.W PySem.Calls PyProof.Rows
theorem PySem.Challenge.cw_metersure_k35_whole_passing_through_smal_holds : PySem.Challenge.rw_metersure_k35_whole_passing_through_smal.Holds := by
  w_on; o_law
  refine HandSHeadRun.head_any (r := OpenLaw.row PySem.Challenge.rw_metersure_k35_whole_passing_through_smal) (q := view (OpenLaw.row PySem.Challenge.rw_metersure_k35_whole_passing_through_smal).prog [72]) (H := Ms.hk) (ob := Ms.ob) (M := 6000) (loose := Ms.names) (d := HandSHeadRun.topDef (OpenLaw.row PySem.Challenge.rw_metersure_k35_whole_passing_through_smal).prog 72) (kwd := []) Ms.ob_eq
    (by kernel_rfl) (fun s => by kernel_rfl) Ms.run (by kernel_rfl) (by kernel_rfl) (by kernel_rfl) (by rfl) (by first | assumption | decide +kernel) (by decide +kernel) ⟨rfl, rfl, rfl, rfl, rfl, by decide +kernel⟩ ?hw ?hc
  case hw => w_witness2
  case hc =>
    refine L2.walk_ofE (l := PySem.Challenge.rw_metersure_k35_whole_passing_through_smal) (n := 63) (k := 9) (x := "_law_script") (CX := L2.CX0) rfl (by decide) (by kernel_rfl) ⟨rfl, by decide, by decide⟩ ?F (fun _ _ _ _ z => z)
    intro w mg fa h Y G hmg0
    obtain ⟨K, KX, c⟩ := Y
    have hmg : mg ("law" : PySem.Str) = some (.ref fa) := by
      have e : (HandSHeadRun.topDef (OpenLaw.row PySem.Challenge.rw_metersure_k35_whole_passing_through_smal).prog 72).name = ("law" : PySem.Str) := by kernel_rfl
      rw [← e]
      exact hmg0
    obtain ⟨fd, hb, hF⟩ := Ms.facts (P := (PySem.Challenge.rw_metersure_k35_whole_passing_through_smal).prog) (w := w) KX G hmg c
    exact ⟨K, fd, Ms.spLaw K, KX, hb, fun H a ns hl _ hS => ⟨a, ns, rfl, hS, fun _ => rfl⟩, hF⟩
