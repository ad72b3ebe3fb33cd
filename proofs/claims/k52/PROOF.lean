import PyProof.Rows.All
import Wide.All
import OpenK.AllK
import Wide.FinOn
import HandS.ForMost
import HandS.Codes
import HandS.Deep
import HandS.Wide
import HandS.WideBits
import HandS.SortInts
import HandS.IsInst
import HandS.Flow
import KE.SortData
import KE.DataFind
import PyProof.Rows.NestShow
import PyProof.ReprRoads
import PySem.Challenge.RW_trunkweb_k52_whole_quick_choices
set_option Elab.async false
set_option linter.all false
set_option maxRecDepth 100000
set_option maxHeartbeats 4000000
namespace Gw
/-! plain sums -/
theorem sum_append (a b : List Int) : (a ++ b).sum = a.sum + b.sum := by
  induction a with
  | nil => simp
  | cons x r ih => simp [List.sum_cons, ih]; omega
theorem sum_map_add {α : Type} (f g : α → Int) (l : List α) : (l.map fun x => f x + g x).sum = (l.map f).sum + (l.map g).sum := by
  induction l with
  | nil => simp
  | cons x r ih => simp [List.sum_cons, ih]; omega
theorem sum_map_mul {α : Type} (c : Int) (f : α → Int) (l : List α) : (l.map fun x => c * f x).sum = c * (l.map f).sum := by
  induction l with
  | nil => simp
  | cons x r ih => simp [List.sum_cons, ih, Int.mul_add]
theorem sum_map_le {α : Type} {f g : α → Int} {l : List α} (h : ∀ x ∈ l, f x ≤ g x) : (l.map f).sum ≤ (l.map g).sum := by
  induction l with
  | nil => simp
  | cons x r ih =>
    have h1 := h x List.mem_cons_self
    have h2 := ih fun y hy => h y (List.mem_cons_of_mem _ hy)
    simp [List.sum_cons]; omega
theorem sum_map_congr {α : Type} {f g : α → Int} {l : List α} (h : ∀ x ∈ l, f x = g x) : (l.map f).sum = (l.map g).sum := by
  rw [List.map_congr_left h]
theorem sum_map_zero {α : Type} {f : α → Int} {l : List α} (h : ∀ x ∈ l, f x = 0) : (l.map f).sum = 0 := by
  induction l with
  | nil => simp
  | cons x r ih =>
    have h1 := h x List.mem_cons_self
    have h2 := ih fun y hy => h y (List.mem_cons_of_mem _ hy)
    simp [List.sum_cons]; omega
theorem sum_map_nn {α : Type} {f : α → Int} {l : List α} (h : ∀ x ∈ l, 0 ≤ f x) : 0 ≤ (l.map f).sum := by
  induction l with
  | nil => simp
  | cons x r ih =>
    have h1 := h x List.mem_cons_self
    have h2 := ih fun y hy => h y (List.mem_cons_of_mem _ hy)
    simp [List.sum_cons]; omega
theorem sum_map_one {α : Type} (l : List α) : (l.map fun _ => (1 : Int)).sum = l.length := by
  induction l with
  | nil => simp
  | cons x r ih => simp [List.sum_cons, ih]; omega
theorem sum_map_ge_one {α : Type} {f : α → Int} {l : List α} (h : ∀ x ∈ l, 0 ≤ f x) {a : α} (ha : a ∈ l) : f a ≤ (l.map f).sum := by
  induction l with
  | nil => cases ha
  | cons x r ih =>
    have h1 := h x List.mem_cons_self
    have h3 := sum_map_nn (f := f) (l := r) fun y hy => h y (List.mem_cons_of_mem _ hy)
    rcases List.mem_cons.mp ha with e | ha
    · subst e; simp [List.sum_cons]; omega
    · have h2 := ih (fun y hy => h y (List.mem_cons_of_mem _ hy)) ha
      simp [List.sum_cons]; omega
theorem sum_pos_ex {α : Type} {f : α → Int} {l : List α} (h : 0 < (l.map f).sum) : ∃ x ∈ l, 0 < f x := by
  induction l with
  | nil => simp at h
  | cons x r ih =>
    simp [List.sum_cons] at h
    by_cases hx : 0 < f x
    · exact ⟨x, List.mem_cons_self, hx⟩
    · obtain ⟨y, hy, q⟩ := ih (by omega)
      exact ⟨y, List.mem_cons_of_mem _ hy, q⟩
/-- one element taken out -/
theorem sum_erase {α : Type} [BEq α] [LawfulBEq α] (f : α → Int) {l : List α} {a : α} (ha : a ∈ l) : (l.map f).sum = f a + ((l.erase a).map f).sum := by
  induction l with
  | nil => cases ha
  | cons x r ih =>
    by_cases e : x = a
    · subst e; simp [List.sum_cons]
    · have ha' : a ∈ r := by
        rcases List.mem_cons.mp ha with q | q
        · exact absurd q.symm e
        · exact q
      have q := ih ha'
      rw [List.erase_cons_tail (by simpa using e)]
      simp [List.sum_cons]; omega
theorem sum_filter {α : Type} (p : α → Bool) (f : α → Int) (l : List α) : ((l.filter p).map f).sum = (l.map fun x => if p x then f x else 0).sum := by
  induction l with
  | nil => simp
  | cons x r ih =>
    by_cases h : p x = true
    · rw [List.filter_cons_of_pos h]; simp [List.sum_cons, ih, h]
    · rw [List.filter_cons_of_neg h]; simp [List.sum_cons, ih, h]
/-- at most one item of a list without repeats counts, where two that count are one -/
theorem sum_unique {α : Type} {l : List α} (hn : l.Nodup) (p : α → Prop) [DecidablePred p] (hu : ∀ a ∈ l, ∀ b ∈ l, p a → p b → a = b) {a : α} (ha : a ∈ l) (hp : p a) : (l.map fun x => if p x then (1 : Int) else 0).sum = 1 := by
  induction l with
  | nil => cases ha
  | cons x r ih =>
    have hn' := List.nodup_cons.mp hn
    by_cases e : p x
    · have : (r.map fun x => if p x then (1 : Int) else 0).sum = 0 := sum_map_zero fun y hy => by
        by_cases q : p y
        · have := hu x List.mem_cons_self y (List.mem_cons_of_mem _ hy) e q
          subst this; exact absurd hy hn'.1
        · simp [q]
      simp [List.sum_cons, this, e]
    · have ha' : a ∈ r := by
        rcases List.mem_cons.mp ha with q | q
        · subst q; exact absurd hp e
        · exact q
      have q := ih hn'.2 (fun a h1 b h2 => hu a (List.mem_cons_of_mem _ h1) b (List.mem_cons_of_mem _ h2)) ha'
      simp [List.sum_cons, e, q]

/-! weighted sums over heights -/
abbrev Hts := List (List Int × Int)
def ws (f : List Int → Int) (hs : Hts) : Int := (hs.map fun e => f e.1 * e.2).sum
theorem ws_nil (f : List Int → Int) : ws f [] = 0 := rfl
theorem ws_cons (f : List Int → Int) (e : List Int × Int) (hs : Hts) : ws f (e :: hs) = f e.1 * e.2 + ws f hs := by simp [ws, List.sum_cons]
theorem ws_append (f : List Int → Int) (a b : Hts) : ws f (a ++ b) = ws f a + ws f b := by simp [ws, sum_append]
theorem ws_add (f g : List Int → Int) (hs : Hts) : ws (fun u => f u + g u) hs = ws f hs + ws g hs := by
  simp only [ws, ← sum_map_add]
  exact sum_map_congr fun e _ => Int.add_mul ..
theorem ws_le {f g : List Int → Int} {hs : Hts} (hy : ∀ e ∈ hs, 0 ≤ e.2) (h : ∀ e ∈ hs, f e.1 ≤ g e.1) : ws f hs ≤ ws g hs :=
  sum_map_le fun e he => Int.mul_le_mul_of_nonneg_right (h e he) (hy e he)
theorem ws_congr {f g : List Int → Int} {hs : Hts} (h : ∀ e ∈ hs, f e.1 = g e.1) : ws f hs = ws g hs :=
  sum_map_congr fun e he => by rw [h e he]
theorem ws_zero {f : List Int → Int} {hs : Hts} (h : ∀ e ∈ hs, f e.1 = 0) : ws f hs = 0 :=
  sum_map_zero fun e he => by rw [h e he, Int.zero_mul]
theorem ws_new (f : List Int → Int) (A : List (List Int)) (t : Int) : ws f (A.map fun g => (g, t)) = t * (A.map f).sum := by
  rw [ws, List.map_map, ← sum_map_mul]
  exact sum_map_congr fun g _ => Int.mul_comm ..
/-- the moats grow by t -/
def grown (hs : Hts) (A : List (List Int)) (t : Int) : Hts := if 0 < t then hs ++ A.map fun g => (g, t) else hs
theorem ws_grown (f : List Int → Int) (hs : Hts) (A : List (List Int)) {t : Int} (ht : 0 ≤ t) : ws f (grown hs A t) = ws f hs + t * (A.map f).sum := by
  unfold grown
  split
  · rw [ws_append, ws_new]
  · have : t = 0 := by omega
    subst this; simp
theorem ws_sum {α : Type} (F : α → List Int → Int) (l : List α) (hs : Hts) : ws (fun u => (l.map fun k => F k u).sum) hs = (l.map fun k => ws (F k) hs).sum := by
  induction l with
  | nil => simp; exact ws_zero fun _ _ => rfl
  | cons x r ih => simp only [List.map_cons, List.sum_cons, ws_add, ih]
theorem dvd_sum {c : Int} {l : List Int} (h : ∀ x ∈ l, c ∣ x) : c ∣ l.sum := by
  induction l with
  | nil => exact ⟨0, by simp⟩
  | cons x r ih =>
    rw [List.sum_cons]
    exact Int.dvd_add (h x List.mem_cons_self) (ih fun y hy => h y (List.mem_cons_of_mem _ hy))
theorem dvd_ws {c : Int} (f : List Int → Int) {hs : Hts} (h : ∀ e ∈ hs, c ∣ e.2) : c ∣ ws f hs := by
  unfold ws
  refine dvd_sum fun x hx => ?_
  obtain ⟨e, he, rfl⟩ := List.mem_map.mp hx
  exact Int.dvd_mul_of_dvd_right (h e he)

/-! ascending lists -/
theorem asc_ext : ∀ {a b : List Int}, a.Pairwise (· < ·) → b.Pairwise (· < ·) → (∀ v, v ∈ a ↔ v ∈ b) → a = b
  | [], [], _, _, _ => rfl
  | [], y :: _, _, _, h => by have := (h y).mpr List.mem_cons_self; cases this
  | x :: _, [], _, _, h => by have := (h x).mp List.mem_cons_self; cases this
  | x :: a, y :: b, ha, hb, h => by
    have ha' := List.pairwise_cons.mp ha
    have hb' := List.pairwise_cons.mp hb
    have e : x = y := by
      rcases List.mem_cons.mp ((h x).mp List.mem_cons_self) with q | q
      · exact q
      · rcases List.mem_cons.mp ((h y).mpr List.mem_cons_self) with r | r
        · exact r.symm
        · have := ha'.1 _ r; have := hb'.1 _ q; omega
    subst e
    rw [asc_ext ha'.2 hb'.2 fun v => ?_]
    constructor
    · intro hv
      rcases List.mem_cons.mp ((h v).mp (List.mem_cons_of_mem _ hv)) with q | q
      · subst q; have := ha'.1 _ hv; omega
      · exact q
    · intro hv
      rcases List.mem_cons.mp ((h v).mpr (List.mem_cons_of_mem _ hv)) with q | q
      · subst q; have := hb'.1 _ hv; omega
      · exact q
theorem asc_nodup {a : List Int} (h : a.Pairwise (· < ·)) : a.Nodup := h.imp fun q e => by omega
end Gw

namespace Gw
abbrev Ed := Int × Int × Int
/-- the unit -/
def UN : Int := 2 ^ 200
theorem UN_pos : 0 < UN := by unfold UN; decide
theorem getD_lt {α : Type} {l : List α} {i : Nat} {d : α} (h : i < l.length) : l.getD i d = l[i] := by simp [List.getD, h]
theorem getD_ge {α : Type} {l : List α} {i : Nat} {d : α} (h : l.length ≤ i) : l.getD i d = d := by simp [List.getD, h]
structure Net where
  n : Nat
  es : List Ed
  root : Int
  pz : List Int
def Net.ed (N : Net) (k : Int) : Ed := N.es.getD k.toNat (0, 0, 0)
def Net.pr (N : Net) (v : Int) : Int := N.pz.getD v.toNat 0
def Net.prL (N : Net) (g : List Int) : Int := (g.map N.pr).sum
structure Net.Ok (N : Net) : Prop where
  n1 : 1 ≤ N.n
  n9 : N.n ≤ 40
  root : 0 ≤ N.root ∧ N.root < N.n
  ends : ∀ e ∈ N.es, (0 ≤ e.1 ∧ e.1 < N.n) ∧ (0 ≤ e.2.1 ∧ e.2.1 < N.n) ∧ e.1 ≠ e.2.1 ∧ 0 ≤ e.2.2 ∧ e.2.2 ≤ 1048576
  plen : N.pz.length = N.n
  pnn : ∀ p ∈ N.pz, 0 ≤ p ∧ p ≤ 1048576
theorem Net.Ok.pr_nn {N : Net} (o : N.Ok) (v : Int) : 0 ≤ N.pr v := by
  unfold Net.pr
  by_cases h : v.toNat < N.pz.length
  · rw [getD_lt h]; exact (o.pnn _ (List.getElem_mem h)).1
  · rw [getD_ge (by omega)]; exact Int.le_refl _
/-- the number k is that of an edge -/
def Net.isE (N : Net) (k : Int) : Prop := 0 ≤ k ∧ k < N.es.length
theorem Net.ed_mem {N : Net} {k : Int} (h : N.isE k) : N.ed k ∈ N.es := by
  unfold Net.ed
  have : k.toNat < N.es.length := by have := h.1; have := h.2; omega
  rw [getD_lt this]; exact List.getElem_mem this

/-- 1 where just one of u and v is in g -/
def cut (u v : Int) (g : List Int) : Int := if (u ∈ g) ≠ (v ∈ g) then 1 else 0
def inn (v : Int) (g : List Int) : Int := if v ∈ g then 1 else 0
/-- 1 where g is a part of X -/
noncomputable def sub (X : Int → Prop) (g : List Int) : Int := open Classical in if ∀ v ∈ g, X v then 1 else 0
def Net.ct (N : Net) (k : Int) (g : List Int) : Int := cut (N.ed k).1 (N.ed k).2.1 g

theorem cut_nn {u v : Int} {g : List Int} : 0 ≤ cut u v g := by unfold cut; split <;> decide
theorem inn_nn {v : Int} {g : List Int} : 0 ≤ inn v g := by unfold inn; split <;> decide
theorem sub_nn {X : Int → Prop} {g : List Int} : 0 ≤ sub X g := by unfold sub; split <;> decide
theorem cut_eq_add {u v : Int} {g : List Int} (h : ¬ (u ∈ g ∧ v ∈ g)) : cut u v g = inn u g + inn v g := by
  unfold cut inn
  by_cases hu : u ∈ g <;> by_cases hv : v ∈ g <;> simp [hu, hv] at h ⊢
theorem cut_zero {u v : Int} {g : List Int} (h : u ∈ g ↔ v ∈ g) : cut u v g = 0 := by
  unfold cut; rw [if_neg]; intro q; exact q (propext h)
theorem cut_one {u v : Int} {g : List Int} (h : u ∈ g ↔ v ∉ g) : cut u v g = 1 := by
  unfold cut; rw [if_pos]; intro q
  by_cases hv : v ∈ g
  · have : u ∈ g := by rw [q]; exact hv
    exact h.mp this hv
  · have := h.mpr hv
    rw [q] at this; exact hv this
theorem cut_pos {u v : Int} {g : List Int} (h : 0 < cut u v g) : (u ∈ g ∧ v ∉ g) ∨ (v ∈ g ∧ u ∉ g) := by
  unfold cut at h
  by_cases hu : u ∈ g <;> by_cases hv : v ∈ g <;> simp [hu, hv] at h ⊢

/-- the state of the growth -/
structure St where
  gs : List (List Int)
  hs : Hts
  ch : List Int
  sp : List (List Int)

/-- the groups stand: a partition -/
structure Part (n : Nat) (gs : List (List Int)) : Prop where
  nd : gs.Nodup
  asc : ∀ g ∈ gs, g.Pairwise (· < ·)
  ne : ∀ g ∈ gs, g ≠ []
  rng : ∀ g ∈ gs, ∀ v ∈ g, 0 ≤ v ∧ v < n
  cov : ∀ v : Int, 0 ≤ v → v < n → ∃ g ∈ gs, v ∈ g
  dis : ∀ a ∈ gs, ∀ b ∈ gs, ∀ v, v ∈ a → v ∈ b → a = b

theorem ne_mem {g : List Int} (h : g ≠ []) : ∃ v, v ∈ g := by
  cases g with
  | nil => exact absurd rfl h
  | cons x r => exact ⟨x, List.mem_cons_self⟩
theorem Part.sub_eq {n : Nat} {gs : List (List Int)} (P : Part n gs) {a b : List Int} (ha : a ∈ gs) (hb : b ∈ gs) (h : ∀ v ∈ a, v ∈ b) : a = b := by
  obtain ⟨v, hv⟩ := ne_mem (P.ne a ha)
  exact P.dis a ha b hb v hv (h v hv)

open Classical in
/-- the weight of what may still happen -/
noncomputable def wt (sp : List (List Int)) (g : List Int) : Int := if g ∈ sp then 1 else 2
noncomputable def mu (s : St) : Int := (s.gs.map (wt s.sp)).sum
theorem wt_bd (sp : List (List Int)) (g : List Int) : 1 ≤ wt sp g ∧ wt sp g ≤ 2 := by unfold wt; split <;> decide
theorem mu_nn (s : St) : 0 ≤ mu s := sum_map_nn fun g _ => by have := wt_bd s.sp g; omega
/-- all heights are multiples of this -/
noncomputable def dvE (n : Nat) (s : St) : Nat := 200 - 2 * n + (mu s).toNat

structure Inv (N : Net) (s : St) : Prop where
  P : Part N.n s.gs
  len : s.gs.length + s.ch.length = N.n
  hpos : ∀ e ∈ s.hs, 0 < e.2
  hne : ∀ e ∈ s.hs, e.1 ≠ []
  hasc : ∀ e ∈ s.hs, e.1.Pairwise (· < ·)
  hrng : ∀ e ∈ s.hs, ∀ v ∈ e.1, 0 ≤ v ∧ v < N.n
  hrt : ∀ e ∈ s.hs, N.root ∉ e.1
  hin : ∀ e ∈ s.hs, ∃ g ∈ s.gs, ∀ v ∈ e.1, v ∈ g
  hlam : s.hs.Pairwise fun a b => (∀ v ∈ a.1, v ∈ b.1) ∨ (∀ v ∈ a.1, v ∉ b.1)
  hpr : ∀ e ∈ s.hs, ws (sub (· ∈ e.1)) s.hs ≤ N.prL e.1 * UN
  gpr : ∀ g ∈ s.gs, N.root ∉ g → ws (sub (· ∈ g)) s.hs ≤ N.prL g * UN
  sasc : ∀ S ∈ s.sp, S.Pairwise (· < ·)
  sne : ∀ S ∈ s.sp, S ≠ []
  srng : ∀ S ∈ s.sp, ∀ v ∈ S, 0 ≤ v ∧ v < N.n
  srt : ∀ S ∈ s.sp, N.root ∉ S
  sin : ∀ S ∈ s.sp, ∃ g ∈ s.gs, ∀ v ∈ S, v ∈ g
  stig : ∀ S ∈ s.sp, ws (sub (· ∈ S)) s.hs = N.prL S * UN
  slam : s.sp.Pairwise fun a b => (∀ v ∈ a, v ∈ b) ∨ (∀ v ∈ a, v ∉ b)
  epd : ∀ e ∈ N.es, ws (cut e.1 e.2.1) s.hs ≤ e.2.2 * UN
  cE : ∀ k ∈ s.ch, N.isE k
  cnd : s.ch.Nodup
  cpd : ∀ k ∈ s.ch, ws (N.ct k) s.hs = (N.ed k).2.2 * UN
  cin : ∀ k ∈ s.ch, ∃ g ∈ s.gs, (N.ed k).1 ∈ g ∧ (N.ed k).2.1 ∈ g
  conn : ∀ X : Int → Prop, (∀ k ∈ s.ch, (X (N.ed k).1 ↔ X (N.ed k).2.1)) → ∀ g ∈ s.gs, ∀ a ∈ g, ∀ b ∈ g, X a → X b
/-- all heights are multiples of what the state says -/
def Dvd (N : Net) (s : St) : Prop := ∀ e ∈ s.hs, (2 : Int) ^ (dvE N.n s) ∣ e.2

/-- the groups that grow -/
def isAct (root : Int) (sp : List (List Int)) (g : List Int) : Bool := !g.contains root && !sp.contains g
def act (root : Int) (s : St) : List (List Int) := s.gs.filter (isAct root s.sp)
theorem mem_act {root : Int} {s : St} {g : List Int} : g ∈ act root s ↔ g ∈ s.gs ∧ root ∉ g ∧ g ∉ s.sp := by
  simp [act, isAct, List.mem_filter]
theorem act_nodup {root : Int} {s : St} (h : s.gs.Nodup) : (act root s).Nodup := h.sublist List.filter_sublist

section
variable {N : Net} {s : St} (I : Inv N s)
include I
/-- how many of the growing groups have v -/
theorem act_inn {v : Int} {g : List Int} (hg : g ∈ s.gs) (hv : v ∈ g) : ((act N.root s).map (inn v)).sum = if g ∈ act N.root s then 1 else 0 := by
  by_cases h : g ∈ act N.root s
  · rw [if_pos h]
    exact sum_unique (act_nodup I.P.nd) (fun x => v ∈ x) (fun a ha b hb h1 h2 => I.P.dis a (mem_act.mp ha).1 b (mem_act.mp hb).1 v h1 h2) h hv
  · rw [if_neg h]
    refine sum_map_zero fun C hC => ?_
    unfold inn
    rw [if_neg]
    intro q
    have := I.P.dis C (mem_act.mp hC).1 g hg v q hv
    subst this; exact h hC
/-- how many growing groups are parts of a group -/
theorem act_sub {g : List Int} (hg : g ∈ s.gs) : ((act N.root s).map (sub (· ∈ g))).sum = if g ∈ act N.root s then 1 else 0 := by
  by_cases h : g ∈ act N.root s
  · rw [if_pos h]
    have q := open Classical in sum_unique (act_nodup I.P.nd) (fun x => ∀ v ∈ x, v ∈ g) (fun a ha b hb h1 h2 => (I.P.sub_eq (mem_act.mp ha).1 hg h1).trans (I.P.sub_eq (mem_act.mp hb).1 hg h2).symm) h (fun v hv => hv)
    refine Eq.trans (sum_map_congr fun x _ => ?_) q
    unfold sub
    split <;> rfl
  · rw [if_neg h]
    refine sum_map_zero fun C hC => ?_
    unfold sub
    rw [if_neg]
    intro q
    have := I.P.sub_eq (mem_act.mp hC).1 hg q
    subst this; exact h hC
/-- a part of a group that is not a growing group: none in it grows -/
theorem act_sub_zero {U : List Int} {g : List Int} (hg : g ∈ s.gs) (hU : ∀ v ∈ U, v ∈ g) (ha : U.Pairwise (· < ·)) (hn : U ∉ act N.root s) : ((act N.root s).map (sub (· ∈ U))).sum = 0 := by
  refine sum_map_zero fun C hC => ?_
  unfold sub
  rw [if_neg]
  intro q
  have e := I.P.sub_eq (mem_act.mp hC).1 hg (fun v hv => hU v (q v hv))
  subst e
  have : C = U := asc_ext (I.P.asc C hg) ha fun v => ⟨q v, hU v⟩
  subst this; exact hn hC
theorem act_cut_same {u v : Int} {g : List Int} (hg : g ∈ s.gs) (hu : u ∈ g) (hv : v ∈ g) : ((act N.root s).map (cut u v)).sum = 0 := by
  refine sum_map_zero fun C hC => cut_zero ?_
  have hC' := (mem_act.mp hC).1
  constructor
  · intro q; have := I.P.dis C hC' g hg u q hu; subst this; exact hv
  · intro q; have := I.P.dis C hC' g hg v q hv; subst this; exact hu
theorem act_cut_diff {u v : Int} {g1 g2 : List Int} (h1 : g1 ∈ s.gs) (h2 : g2 ∈ s.gs) (hu : u ∈ g1) (hv : v ∈ g2) (hd : g1 ≠ g2) :
    ((act N.root s).map (cut u v)).sum = (if g1 ∈ act N.root s then 1 else 0) + (if g2 ∈ act N.root s then 1 else 0) := by
  rw [← act_inn I h1 hu, ← act_inn I h2 hv, ← sum_map_add]
  refine sum_map_congr fun C hC => cut_eq_add ?_
  rintro ⟨a, b⟩
  have e1 := I.P.dis C (mem_act.mp hC).1 g1 h1 u a hu
  have e2 := I.P.dis C (mem_act.mp hC).1 g2 h2 v b hv
  exact hd (e1.symm.trans e2)
/-- ends in different groups: the moats across are those around either -/
theorem ws_cut_diff {u v : Int} {g1 g2 : List Int} (h1 : g1 ∈ s.gs) (h2 : g2 ∈ s.gs) (hu : u ∈ g1) (hv : v ∈ g2) (hd : g1 ≠ g2) : ws (cut u v) s.hs = ws (inn u) s.hs + ws (inn v) s.hs := by
  rw [← ws_add]
  refine ws_congr fun e he => cut_eq_add ?_
  rintro ⟨a, b⟩
  obtain ⟨g, hg, q⟩ := I.hin e he
  exact hd ((I.P.dis g1 h1 g hg u hu (q _ a)).trans (I.P.dis g hg g2 h2 v (q _ b) hv))
end

/-- t is not more than any room, and no edge is overpaid by it -/
structure May (N : Net) (s : St) (t : Int) : Prop where
  nn : 0 ≤ t
  room : ∀ g ∈ act N.root s, t ≤ N.prL g * UN - ws (sub (· ∈ g)) s.hs
  edge : ∀ e ∈ N.es, ∀ g1 ∈ s.gs, ∀ g2 ∈ s.gs, e.1 ∈ g1 → e.2.1 ∈ g2 → g1 ≠ g2 →
    ((if g1 ∈ act N.root s then 1 else 0) + (if g2 ∈ act N.root s then 1 else 0)) * t ≤ e.2.2 * UN - ws (inn e.1) s.hs - ws (inn e.2.1) s.hs

theorem mem_grown {hs : Hts} {A : List (List Int)} {t : Int} {e : List Int × Int} (h : e ∈ grown hs A t) : e ∈ hs ∨ (0 < t ∧ e.2 = t ∧ e.1 ∈ A) := by
  unfold grown at h
  split at h
  · rename_i ht
    rcases List.mem_append.mp h with h | h
    · exact .inl h
    · obtain ⟨g, hg, rfl⟩ := List.mem_map.mp h
      exact .inr ⟨ht, rfl, hg⟩
  · exact .inl h

/-- the state when the moats have grown by t -/
def St.grow (root : Int) (s : St) (t : Int) : St := { s with hs := Gw.grown s.hs (act root s) t }

/-- the invariant stands when the moats have grown -/
theorem Inv.grow {N : Net} {s : St} (o : N.Ok) (I : Inv N s) {t : Int} (m : May N s t) : Inv N (s.grow N.root t) := by
  have gp : ∀ g ∈ s.gs, N.root ∉ g → ws (sub (· ∈ g)) (grown s.hs (act N.root s) t) ≤ N.prL g * UN := fun g hg hr => by
    rw [ws_grown _ _ _ m.nn, act_sub I hg]
    split
    · rename_i h; have := m.room g h; omega
    · have := I.gpr g hg hr; omega
  have old : ∀ U g, g ∈ s.gs → (∀ v ∈ U, v ∈ g) → U.Pairwise (· < ·) → U ∉ act N.root s → ws (sub (· ∈ U)) (grown s.hs (act N.root s) t) = ws (sub (· ∈ U)) s.hs := fun U g hg hU ha hn => by
    rw [ws_grown _ _ _ m.nn, act_sub_zero I hg hU ha hn]; omega
  refine ⟨I.P, I.len, fun e he => ?_, fun e he => ?_, fun e he => ?_, fun e he => ?_, fun e he => ?_, fun e he => ?_, ?_, fun e he => ?_, gp, I.sasc, I.sne, I.srng, I.srt, I.sin, fun S hS => ?_, I.slam, fun e he => ?_, I.cE, I.cnd, fun k hk => ?_, I.cin, I.conn⟩
  · rcases mem_grown he with h | ⟨h1, h2, h3⟩
    · exact I.hpos e h
    · omega
  · rcases mem_grown he with h | ⟨h1, h2, h3⟩
    · exact I.hne e h
    · exact I.P.ne _ (mem_act.mp h3).1
  · rcases mem_grown he with h | ⟨h1, h2, h3⟩
    · exact I.hasc e h
    · exact I.P.asc _ (mem_act.mp h3).1
  · rcases mem_grown he with h | ⟨h1, h2, h3⟩
    · exact I.hrng e h
    · exact I.P.rng _ (mem_act.mp h3).1
  · rcases mem_grown he with h | ⟨h1, h2, h3⟩
    · exact I.hrt e h
    · exact (mem_act.mp h3).2.1
  · rcases mem_grown he with h | ⟨h1, h2, h3⟩
    · exact I.hin e h
    · exact ⟨_, (mem_act.mp h3).1, fun v hv => hv⟩
  · show (grown s.hs (act N.root s) t).Pairwise _
    unfold grown
    split
    · refine List.pairwise_append.mpr ⟨I.hlam, ?_, fun a ha b hb => ?_⟩
      · rw [List.pairwise_map]
        refine (act_nodup I.P.nd).imp_of_mem fun {a b} ha hb hab => .inr fun v h1 h2 => ?_
        exact hab (I.P.dis a (mem_act.mp ha).1 b (mem_act.mp hb).1 v h1 h2)
      · obtain ⟨C, hC, rfl⟩ := List.mem_map.mp hb
        obtain ⟨g, hg, q⟩ := I.hin a ha
        by_cases h : g = C
        · subst h; exact .inl q
        · exact .inr fun v h1 h2 => h (I.P.dis g hg C (mem_act.mp hC).1 v (q v h1) h2)
    · exact I.hlam
  · show ws _ (grown s.hs (act N.root s) t) ≤ _
    rcases mem_grown he with h | ⟨h1, h2, h3⟩
    · by_cases ha : e.1 ∈ act N.root s
      · exact gp _ (mem_act.mp ha).1 (mem_act.mp ha).2.1
      · obtain ⟨g, hg, q⟩ := I.hin e h
        rw [old e.1 g hg q (I.hasc e h) ha]; exact I.hpr e h
    · exact gp _ (mem_act.mp h3).1 (mem_act.mp h3).2.1
  · show ws _ (grown s.hs (act N.root s) t) = _
    obtain ⟨g, hg, q⟩ := I.sin S hS
    rw [old S g hg q (I.sasc S hS) fun h => (mem_act.mp h).2.2 hS]; exact I.stig S hS
  · show ws _ (grown s.hs (act N.root s) t) ≤ _
    rw [ws_grown _ _ _ m.nn]
    obtain ⟨⟨u0, u1⟩, ⟨v0, v1⟩, _⟩ := o.ends e he
    obtain ⟨g1, h1, m1⟩ := I.P.cov _ u0 u1
    obtain ⟨g2, h2, m2⟩ := I.P.cov _ v0 v1
    by_cases hd : g1 = g2
    · subst hd
      rw [act_cut_same I h1 m1 m2]; have := I.epd e he; omega
    · rw [act_cut_diff I h1 h2 m1 m2 hd, ws_cut_diff I h1 h2 m1 m2 hd]
      have := m.edge e he g1 h1 g2 h2 m1 m2 hd
      rw [Int.mul_comm] at this
      omega
  · show ws _ (grown s.hs (act N.root s) t) = _
    rw [ws_grown _ _ _ m.nn]
    obtain ⟨g, hg, a, b⟩ := I.cin k hk
    have q : ((act N.root s).map (N.ct k)).sum = 0 := act_cut_same I hg a b
    rw [q]; have := I.cpd k hk; omega
end Gw

namespace Gw
theorem sum_perm {f : Int → Int} {a b : List Int} (h : a.Perm b) : (a.map f).sum = (b.map f).sum := by
  induction h with
  | nil => rfl
  | cons x _ ih => simp [List.sum_cons, ih]
  | swap x y l => simp [List.sum_cons]; omega
  | trans _ _ h1 h2 => exact h1.trans h2
theorem Net.prL_append (N : Net) (a b : List Int) : N.prL (a ++ b) = N.prL a + N.prL b := by simp [Net.prL, sum_append]

/-- the groups when one and two become new -/
def joined (gs : List (List Int)) (one two new : List Int) : List (List Int) := ((gs.erase one).erase two) ++ [new]
section
variable {n : Nat} {gs : List (List Int)} (P : Part n gs) {one two new : List Int} (h1 : one ∈ gs) (h2 : two ∈ gs) (hd : one ≠ two) (hp : new.Perm (one ++ two)) (ha : new.Pairwise (· < ·))
include P h1 h2 hd hp
theorem mem_joined {g : List Int} : g ∈ joined gs one two new ↔ (g ∈ gs ∧ g ≠ one ∧ g ≠ two) ∨ g = new := by
  unfold joined
  rw [List.mem_append, List.mem_singleton, (P.nd.erase one).mem_erase_iff, P.nd.mem_erase_iff]
  constructor
  · rintro (⟨a, b, c⟩ | h)
    · exact .inl ⟨c, b, a⟩
    · exact .inr h
  · rintro (⟨a, b, c⟩ | h)
    · exact .inl ⟨c, b, a⟩
    · exact .inr h
theorem mem_new {v : Int} : v ∈ new ↔ v ∈ one ∨ v ∈ two := by rw [hp.mem_iff, List.mem_append]
theorem joined_len : (joined gs one two new).length + 1 = gs.length := by
  have e2 : two ∈ gs.erase one := P.nd.mem_erase_iff.mpr ⟨Ne.symm hd, h2⟩
  unfold joined
  rw [List.length_append, List.length_erase_of_mem e2, List.length_erase_of_mem h1]
  have : 0 < (gs.erase one).length := List.length_pos_of_mem e2
  rw [List.length_erase_of_mem h1] at this
  simp; omega
theorem joined_sum (f : List Int → Int) : ((joined gs one two new).map f).sum + f one + f two = (gs.map f).sum + f new := by
  have e2 : two ∈ gs.erase one := P.nd.mem_erase_iff.mpr ⟨Ne.symm hd, h2⟩
  have a := sum_erase f h1
  have b := sum_erase f e2
  unfold joined
  rw [List.map_append, sum_append]
  simp [List.sum_cons]; omega
include ha
theorem Part.joined : Part n (joined gs one two new) := by
  have mj := fun g => mem_joined P h1 h2 hd hp (g := g)
  have mn := fun v => mem_new P h1 h2 hd hp (v := v)
  have nn : new ≠ [] := by
    obtain ⟨v, hv⟩ := ne_mem (P.ne one h1)
    exact List.ne_nil_of_mem ((mn v).mpr (.inl hv))
  have only : ∀ g ∈ gs, ∀ v, v ∈ g → v ∈ new → g = one ∨ g = two := fun g hg v hv hn => by
    rcases (mn v).mp hn with q | q
    · exact .inl (P.dis g hg one h1 v hv q)
    · exact .inr (P.dis g hg two h2 v hv q)
  refine ⟨?_, fun g hg => ?_, fun g hg => ?_, fun g hg v hv => ?_, fun v h0 hn => ?_, fun a ha' b hb' v hva hvb => ?_⟩
  · unfold Gw.joined
    refine List.nodup_append.mpr ⟨(P.nd.erase one).erase two, List.nodup_cons.mpr ⟨List.not_mem_nil, List.nodup_nil⟩, fun a ha' b hb' e => ?_⟩
    rw [List.mem_singleton] at hb'
    subst hb'; subst e
    rw [(P.nd.erase one).mem_erase_iff, P.nd.mem_erase_iff] at ha'
    obtain ⟨v, hv⟩ := ne_mem nn
    rcases only a ha'.2.2 v hv hv with q | q
    · exact ha'.2.1 q
    · exact ha'.1 q
  · rcases (mj g).mp hg with q | q
    · exact P.asc g q.1
    · rw [q]; exact ha
  · rcases (mj g).mp hg with q | q
    · exact P.ne g q.1
    · rw [q]; exact nn
  · rcases (mj g).mp hg with q | q
    · exact P.rng g q.1 v hv
    · rw [q] at hv
      rcases (mn v).mp hv with r | r
      · exact P.rng _ h1 v r
      · exact P.rng _ h2 v r
  · obtain ⟨g, hg, hv⟩ := P.cov v h0 hn
    by_cases e1 : g = one
    · exact ⟨new, (mj new).mpr (.inr rfl), (mn v).mpr (.inl (e1 ▸ hv))⟩
    · by_cases e2 : g = two
      · exact ⟨new, (mj new).mpr (.inr rfl), (mn v).mpr (.inr (e2 ▸ hv))⟩
      · exact ⟨g, (mj g).mpr (.inl ⟨hg, e1, e2⟩), hv⟩
  · rcases (mj a).mp ha' with q | q <;> rcases (mj b).mp hb' with r | r
    · exact P.dis a q.1 b r.1 v hva hvb
    · subst r
      rcases only a q.1 v hva hvb with z | z
      · exact absurd z q.2.1
      · exact absurd z q.2.2
    · subst q
      rcases only b r.1 v hvb hva with z | z
      · exact absurd z r.2.1
      · exact absurd z r.2.2
    · rw [q, r]
/-- where the old groups are now -/
theorem joined_at {g : List Int} (hg : g ∈ gs) : ∃ g' ∈ Gw.joined gs one two new, ∀ v ∈ g, v ∈ g' := by
  have mj := fun g => mem_joined P h1 h2 hd hp (g := g)
  have mn := fun v => mem_new P h1 h2 hd hp (v := v)
  by_cases e1 : g = one
  · exact ⟨new, (mj new).mpr (.inr rfl), fun v hv => (mn v).mpr (.inl (e1 ▸ hv))⟩
  · by_cases e2 : g = two
    · exact ⟨new, (mj new).mpr (.inr rfl), fun v hv => (mn v).mpr (.inr (e2 ▸ hv))⟩
    · exact ⟨g, (mj g).mpr (.inl ⟨hg, e1, e2⟩), fun v hv => hv⟩
end

/-- a component stops -/
def St.stop (s : St) (g : List Int) : St := { s with sp := s.sp ++ [g] }
def St.join (s : St) (k : Int) (one two new : List Int) : St := { s with gs := joined s.gs one two new, ch := s.ch ++ [k] }

theorem Inv.stop {N : Net} {s : St} (I : Inv N s) {g : List Int} (hg : g ∈ act N.root s) (ht : ws (sub (· ∈ g)) s.hs = N.prL g * UN) : Inv N (s.stop g) := by
  have hg' := mem_act.mp hg
  have ms : ∀ {S}, S ∈ s.sp ++ [g] → S ∈ s.sp ∨ S = g := fun h => (List.mem_append.mp h).imp_right List.mem_singleton.mp
  refine ⟨I.P, I.len, I.hpos, I.hne, I.hasc, I.hrng, I.hrt, I.hin, I.hlam, I.hpr, I.gpr, fun S hS => ?_, fun S hS => ?_, fun S hS => ?_, fun S hS => ?_, fun S hS => ?_, fun S hS => ?_, ?_, I.epd, I.cE, I.cnd, I.cpd, I.cin, I.conn⟩
  · rcases ms hS with h | rfl
    · exact I.sasc S h
    · exact I.P.asc _ hg'.1
  · rcases ms hS with h | rfl
    · exact I.sne S h
    · exact I.P.ne _ hg'.1
  · rcases ms hS with h | rfl
    · exact I.srng S h
    · exact I.P.rng _ hg'.1
  · rcases ms hS with h | rfl
    · exact I.srt S h
    · exact hg'.2.1
  · rcases ms hS with h | rfl
    · exact I.sin S h
    · exact ⟨_, hg'.1, fun _ h => h⟩
  · rcases ms hS with h | rfl
    · exact I.stig S h
    · exact ht
  · show (s.sp ++ [g]).Pairwise _
    refine List.pairwise_append.mpr ⟨I.slam, List.pairwise_singleton .., fun a ha b hb => ?_⟩
    rw [List.mem_singleton] at hb
    subst hb
    obtain ⟨g2, h2, q⟩ := I.sin a ha
    by_cases e : g2 = b
    · subst e; exact .inl q
    · exact .inr fun v h3 h4 => e (I.P.dis g2 h2 b hg'.1 v (q v h3) h4)

theorem Inv.join {N : Net} {s : St} (I : Inv N s) {k : Int} {one two new : List Int} (hk : N.isE k) (h1 : one ∈ s.gs) (h2 : two ∈ s.gs) (hd : one ≠ two) (hu : (N.ed k).1 ∈ one) (hv : (N.ed k).2.1 ∈ two)
    (hp : new.Perm (one ++ two)) (ha : new.Pairwise (· < ·)) (ht : ws (N.ct k) s.hs = (N.ed k).2.2 * UN) : Inv N (s.join k one two new) := by
  have mj := fun g => mem_joined I.P h1 h2 hd hp (g := g)
  have mn := fun v => mem_new I.P h1 h2 hd hp (v := v)
  have mk : ∀ {j}, j ∈ s.ch ++ [k] → j ∈ s.ch ∨ j = k := fun h => (List.mem_append.mp h).imp_right List.mem_singleton.mp
  have nk : k ∉ s.ch := fun h => by
    obtain ⟨g, hg, a, b⟩ := I.cin k h
    exact hd ((I.P.dis one h1 g hg _ hu a).trans (I.P.dis g hg two h2 _ b hv))
  refine ⟨I.P.joined h1 h2 hd hp ha, ?_, I.hpos, I.hne, I.hasc, I.hrng, I.hrt, fun e he => ?_, I.hlam, I.hpr, fun g hg hr => ?_, I.sasc, I.sne, I.srng, I.srt, fun S hS => ?_, I.stig, I.slam, I.epd, fun j hj => ?_, ?_, fun j hj => ?_, fun j hj => ?_, fun X hX g hg a ha' b hb' xa => ?_⟩
  · have := joined_len I.P h1 h2 hd hp
    have := I.len
    show (joined s.gs one two new).length + (s.ch ++ [k]).length = N.n
    rw [List.length_append]; simp; omega
  · obtain ⟨g, hg, q⟩ := I.hin e he
    obtain ⟨g', hg', q'⟩ := joined_at I.P h1 h2 hd hp ha hg
    exact ⟨g', hg', fun v hv => q' v (q v hv)⟩
  · rcases (mj g).mp hg with q | q
    · exact I.gpr g q.1 hr
    · subst q
      have r1 : N.root ∉ one := fun h => hr ((mn _).mpr (.inl h))
      have r2 : N.root ∉ two := fun h => hr ((mn _).mpr (.inr h))
      have e : ws (sub (· ∈ g)) s.hs = ws (sub (· ∈ one)) s.hs + ws (sub (· ∈ two)) s.hs := by
        rw [← ws_add]
        refine ws_congr fun e he => ?_
        obtain ⟨c, hc, q⟩ := I.hin e he
        obtain ⟨x, hx⟩ := ne_mem (I.hne e he)
        unfold sub
        by_cases a1 : ∀ v ∈ e.1, v ∈ one
        · have a2 : ¬ ∀ v ∈ e.1, v ∈ two := fun h => hd (I.P.dis one h1 two h2 x (a1 x hx) (h x hx))
          rw [if_pos a1, if_neg a2, if_pos fun v hv => (mn v).mpr (.inl (a1 v hv))]; rfl
        · by_cases a2 : ∀ v ∈ e.1, v ∈ two
          · rw [if_neg a1, if_pos a2, if_pos fun v hv => (mn v).mpr (.inr (a2 v hv))]; rfl
          · rw [if_neg a1, if_neg a2, if_neg fun h => ?_]; rfl
            rcases (mn x).mp (h x hx) with r | r
            · have e := I.P.dis c hc one h1 x (q x hx) r
              subst e; exact a1 q
            · have e := I.P.dis c hc two h2 x (q x hx) r
              subst e; exact a2 q
      have p : N.prL g = N.prL one + N.prL two := by
        rw [← Net.prL_append]; exact sum_perm hp
      show ws (sub (· ∈ g)) s.hs ≤ _
      rw [e, p, Int.add_mul]
      have := I.gpr one h1 r1
      have := I.gpr two h2 r2
      omega
  · obtain ⟨g, hg, q⟩ := I.sin S hS
    obtain ⟨g', hg', q'⟩ := joined_at I.P h1 h2 hd hp ha hg
    exact ⟨g', hg', fun v hv => q' v (q v hv)⟩
  · rcases mk hj with h | rfl
    · exact I.cE j h
    · exact hk
  · show (s.ch ++ [k]).Nodup
    refine List.nodup_append.mpr ⟨I.cnd, List.nodup_cons.mpr ⟨List.not_mem_nil, List.nodup_nil⟩, fun a ha' b hb' e => ?_⟩
    rw [List.mem_singleton] at hb'
    subst hb'; subst e; exact nk ha'
  · rcases mk hj with h | rfl
    · exact I.cpd j h
    · exact ht
  · rcases mk hj with h | rfl
    · obtain ⟨g, hg, a, b⟩ := I.cin j h
      obtain ⟨g', hg', q'⟩ := joined_at I.P h1 h2 hd hp ha hg
      exact ⟨g', hg', q' _ a, q' _ b⟩
    · exact ⟨new, (mj new).mpr (.inr rfl), (mn _).mpr (.inl hu), (mn _).mpr (.inr hv)⟩
  · have cl : ∀ j ∈ s.ch, (X (N.ed j).1 ↔ X (N.ed j).2.1) := fun j hj => hX j (List.mem_append_left _ hj)
    have ck := hX k (List.mem_append_right _ (List.mem_singleton.mpr rfl))
    rcases (mj g).mp hg with q | q
    · exact I.conn X cl g q.1 a ha' b hb' xa
    · subst q
      have c1 := I.conn X cl one h1
      have c2 := I.conn X cl two h2
      rcases (mn a).mp ha' with x | x <;> rcases (mn b).mp hb' with y | y
      · exact c1 a x b y xa
      · exact c2 _ hv b y (ck.mp (c1 a x _ hu xa))
      · exact c1 _ hu b y (ck.mpr (c2 a x _ hv xa))
      · exact c2 a x b y xa

/-! the measure, the divisors -/
theorem mu_le {N : Net} {s : St} (I : Inv N s) : mu s ≤ 2 * N.n := by
  have h : mu s ≤ (s.gs.map fun _ => (2 : Int) * 1).sum := sum_map_le fun g _ => by have := wt_bd s.sp g; omega
  rw [sum_map_mul, sum_map_one] at h
  have := I.len
  omega
theorem mu_grow {root : Int} {s : St} {t : Int} : mu (s.grow root t) = mu s := rfl
theorem mu_stop {N : Net} {s : St} {g : List Int} (hg : g ∈ act N.root s) : mu (s.stop g) < mu s := by
  have hg' := mem_act.mp hg
  have a := sum_erase (wt s.sp) hg'.1
  have b := sum_erase (wt (s.sp ++ [g])) hg'.1
  have c : ((s.gs.erase g).map (wt (s.sp ++ [g]))).sum ≤ ((s.gs.erase g).map (wt s.sp)).sum := sum_map_le fun x _ => by
    unfold wt
    by_cases q : x ∈ s.sp
    · rw [if_pos q, if_pos (List.mem_append_left _ q)]; exact Int.le_refl _
    · rw [if_neg q]; split <;> decide
  have d : wt s.sp g = 2 := by unfold wt; rw [if_neg hg'.2.2]
  have e : wt (s.sp ++ [g]) g = 1 := by unfold wt; rw [if_pos (List.mem_append_right _ (List.mem_singleton.mpr rfl))]
  show (s.gs.map (wt (s.sp ++ [g]))).sum < (s.gs.map (wt s.sp)).sum
  omega
theorem mu_join {N : Net} {s : St} (I : Inv N s) {k : Int} {one two new : List Int} (h1 : one ∈ s.gs) (h2 : two ∈ s.gs) (hd : one ≠ two) (hp : new.Perm (one ++ two)) (ha : one ∈ act N.root s ∨ two ∈ act N.root s) : mu (s.join k one two new) < mu s := by
  have a := joined_sum I.P h1 h2 hd hp (wt s.sp)
  have b1 := wt_bd s.sp one
  have b2 := wt_bd s.sp two
  have b3 := wt_bd s.sp new
  have c : wt s.sp one = 2 ∨ wt s.sp two = 2 := ha.imp (fun h => by unfold wt; rw [if_neg (mem_act.mp h).2.2]) (fun h => by unfold wt; rw [if_neg (mem_act.mp h).2.2])
  show ((joined s.gs one two new).map (wt s.sp)).sum < (s.gs.map (wt s.sp)).sum
  omega
theorem pow_dvd {a b : Nat} (h : a ≤ b) : (2 : Int) ^ a ∣ 2 ^ b := by
  obtain ⟨c, rfl⟩ := Nat.le.dest h
  exact ⟨2 ^ c, Int.pow_add ..⟩
end Gw

namespace Gw
/-- the rate of an edge between two groups -/
def rate (N : Net) (s : St) (g1 g2 : List Int) : Int := (if g1 ∈ act N.root s then 1 else 0) + (if g2 ∈ act N.root s then 1 else 0)
/-- what an edge still has -/
def left (N : Net) (s : St) (k : Int) : Int := (N.ed k).2.2 * UN - ws (inn (N.ed k).1) s.hs - ws (inn (N.ed k).2.1) s.hs
noncomputable def room (N : Net) (s : St) (g : List Int) : Int := N.prL g * UN - ws (sub (· ∈ g)) s.hs
inductive Step (N : Net) : St → St → Prop
  | stop (s : St) (t : Int) (g : List Int) (m : May N s t) (hg : g ∈ act N.root s) (ht : t = room N s g) : Step N s ((s.grow N.root t).stop g)
  | join (s : St) (t k : Int) (one two new : List Int) (m : May N s t) (hk : N.isE k) (h1 : one ∈ s.gs) (h2 : two ∈ s.gs) (hd : one ≠ two) (hu : (N.ed k).1 ∈ one) (hv : (N.ed k).2.1 ∈ two)
      (ha : one ∈ act N.root s ∨ two ∈ act N.root s) (ht : t = left N s k / rate N s one two) (hp : new.Perm (one ++ two)) (hs : new.Pairwise (· < ·)) : Step N s ((s.grow N.root t).join k one two new)

structure Good (N : Net) (s : St) : Prop where
  I : Inv N s
  D : Dvd N s

theorem dvE_le {N : Net} (o : N.Ok) {s : St} (I : Inv N s) : dvE N.n s ≤ 200 := by
  have := mu_le I
  have := mu_nn s
  have := o.n9
  unfold dvE
  omega
theorem dvd_UN {N : Net} (o : N.Ok) {s : St} (I : Inv N s) : (2 : Int) ^ dvE N.n s ∣ UN := pow_dvd (dvE_le o I)
theorem dvd_room {N : Net} (o : N.Ok) {s : St} (G : Good N s) (g : List Int) : (2 : Int) ^ dvE N.n s ∣ room N s g :=
  Int.dvd_sub (Int.dvd_mul_of_dvd_right (dvd_UN o G.I)) (dvd_ws _ G.D)
theorem dvd_left {N : Net} (o : N.Ok) {s : St} (G : Good N s) (k : Int) : (2 : Int) ^ dvE N.n s ∣ left N s k :=
  Int.dvd_sub (Int.dvd_sub (Int.dvd_mul_of_dvd_right (dvd_UN o G.I)) (dvd_ws _ G.D)) (dvd_ws _ G.D)
theorem Dvd.lower {N : Net} {s s' : St} {t : Int} (D : Dvd N s) (hs : s'.hs = grown s.hs (act N.root s) t) (hm : mu s' < mu s) (ht : (2 : Int) ^ (dvE N.n s - 1) ∣ t) : Dvd N s' := by
  intro e he
  rw [hs] at he
  have e1 : dvE N.n s' ≤ dvE N.n s - 1 := by
    have := mu_nn s'
    unfold dvE
    omega
  refine Int.dvd_trans (pow_dvd e1) ?_
  rcases mem_grown he with h | ⟨_, h, _⟩
  · exact Int.dvd_trans (pow_dvd (by omega)) (D e h)
  · rw [h]; exact ht
theorem mu_pos {N : Net} (o : N.Ok) {s : St} (I : Inv N s) : 0 < mu s := by
  obtain ⟨g, hg, _⟩ := I.P.cov _ o.root.1 o.root.2
  have := sum_map_ge_one (f := wt s.sp) (l := s.gs) (fun g _ => by have := wt_bd s.sp g; omega) hg
  have := wt_bd s.sp g
  unfold mu
  omega
/-- the time of an edge is exact -/
theorem rate_exact {N : Net} (o : N.Ok) {s : St} (G : Good N s) {one two : List Int} (ha : one ∈ act N.root s ∨ two ∈ act N.root s) (k : Int) :
    rate N s one two * (left N s k / rate N s one two) = left N s k ∧ (2 : Int) ^ (dvE N.n s - 1) ∣ left N s k / rate N s one two := by
  obtain ⟨c, hc⟩ := dvd_left o G k
  have e : dvE N.n s = (dvE N.n s - 1) + 1 := by
    have := mu_pos o G.I
    unfold dvE
    omega
  have hc2 : left N s k = 2 * (2 ^ (dvE N.n s - 1) * c) := by
    rw [hc]
    have q : (2 : Int) ^ dvE N.n s = 2 ^ (dvE N.n s - 1) * 2 := by
      have q2 : (2 : Int) ^ ((dvE N.n s - 1) + 1) = 2 ^ (dvE N.n s - 1) * 2 := Int.pow_succ _ _
      rw [← e] at q2; exact q2
    rw [q]
    rw [Int.mul_comm _ 2, Int.mul_assoc]
  unfold rate
  by_cases a1 : one ∈ act N.root s <;> by_cases a2 : two ∈ act N.root s
  · rw [if_pos a1, if_pos a2, hc2]
    have : (1 : Int) + 1 = 2 := rfl
    rw [this, Int.mul_ediv_cancel_left _ (by decide)]
    exact ⟨rfl, c, rfl⟩
  · rw [if_pos a1, if_neg a2]
    have : (1 : Int) + 0 = 1 := rfl
    rw [this, Int.ediv_one, Int.one_mul]
    exact ⟨rfl, 2 * c, by rw [hc2, Int.mul_left_comm]⟩
  · rw [if_neg a1, if_pos a2]
    have : (0 : Int) + 1 = 1 := rfl
    rw [this, Int.ediv_one, Int.one_mul]
    exact ⟨rfl, 2 * c, by rw [hc2, Int.mul_left_comm]⟩
  · exact absurd ha (by simp [a1, a2])

theorem mem_act_grow {root : Int} {s : St} {t : Int} : act root (s.grow root t) = act root s := rfl

theorem Step.good {N : Net} (o : N.Ok) {s s' : St} (G : Good N s) (st : Step N s s') : Good N s' ∧ mu s' < mu s := by
  cases st with
  | stop t g m hg ht =>
    have I1 := G.I.grow o m
    have hm : mu ((s.grow N.root t).stop g) < mu s := mu_stop (N := N) (s := s.grow N.root t) hg
    refine ⟨⟨I1.stop hg ?_, G.D.lower rfl hm ?_⟩, hm⟩
    · show ws _ (grown s.hs (act N.root s) t) = _
      rw [ws_grown _ _ _ m.nn, act_sub G.I (mem_act.mp hg).1, if_pos hg, ht]
      unfold room
      omega
    · rw [ht]; exact Int.dvd_trans (pow_dvd (by omega)) (dvd_room o G g)
  | join t k one two new m hk h1 h2 hd hu hv ha ht hp hs =>
    have I1 := G.I.grow o m
    have hm : mu ((s.grow N.root t).join k one two new) < mu s := mu_join I1 h1 h2 hd hp ha
    obtain ⟨x1, x2⟩ := rate_exact o G ha k
    refine ⟨⟨I1.join hk h1 h2 hd hu hv hp hs ?_, G.D.lower rfl hm ?_⟩, hm⟩
    · show ws (cut _ _) (grown s.hs (act N.root s) t) = _
      rw [ws_grown _ _ _ m.nn, act_cut_diff G.I h1 h2 hu hv hd, ws_cut_diff G.I h1 h2 hu hv hd]
      rw [← ht] at x1
      unfold rate at x1
      rw [Int.mul_comm] at x1
      unfold left at x1
      omega
    · rw [ht]; exact x2

inductive Star (N : Net) : St → St → Prop
  | refl (s : St) : Star N s s
  | head {a b c : St} : Step N a b → Star N b c → Star N a c
theorem Star.snoc {N : Net} {a b c : St} (h : Star N a b) (st : Step N b c) : Star N a c := by
  induction h with
  | refl s => exact .head st (.refl _)
  | head x _ ih => exact .head x (ih st)
theorem Star.good {N : Net} (o : N.Ok) {a b : St} (h : Star N a b) (G : Good N a) : Good N b := by
  induction h with
  | refl s => exact G
  | head x _ ih => exact ih (x.good o G).1

/-- the first state -/
def st0 (n : Nat) : St := ⟨(List.range n).map fun (i : Nat) => [(i : Int)], [], [], []⟩
theorem mem_st0 {n : Nat} {g : List Int} : g ∈ (st0 n).gs ↔ ∃ i : Nat, i < n ∧ g = [(i : Int)] := by
  show g ∈ (List.range n).map _ ↔ _
  rw [List.mem_map]
  constructor
  · rintro ⟨i, hi, rfl⟩; exact ⟨i, List.mem_range.mp hi, rfl⟩
  · rintro ⟨i, hi, rfl⟩; exact ⟨i, List.mem_range.mpr hi, rfl⟩
theorem prL_nn {N : Net} (o : N.Ok) (g : List Int) : 0 ≤ N.prL g := sum_map_nn fun v _ => o.pr_nn v
theorem st0_good {N : Net} (o : N.Ok) : Good N (st0 N.n) := by
  have P : Part N.n (st0 N.n).gs := by
    refine ⟨?_, fun g hg => ?_, fun g hg => ?_, fun g hg v hv => ?_, fun v h0 hn => ?_, fun a ha b hb v h1 h2 => ?_⟩
    · show ((List.range N.n).map _).Nodup
      refine List.pairwise_map.mpr (List.nodup_range.imp fun {a b} h e => h ?_)
      have := List.head_eq_of_cons_eq e
      omega
    · obtain ⟨i, _, rfl⟩ := mem_st0.mp hg; exact List.pairwise_singleton ..
    · obtain ⟨i, _, rfl⟩ := mem_st0.mp hg; exact List.cons_ne_nil _ _
    · obtain ⟨i, hi, rfl⟩ := mem_st0.mp hg
      rw [List.mem_singleton] at hv; omega
    · exact ⟨[v], mem_st0.mpr ⟨v.toNat, by omega, by rw [Int.toNat_of_nonneg h0]⟩, List.mem_singleton.mpr rfl⟩
    · obtain ⟨i, _, rfl⟩ := mem_st0.mp ha
      obtain ⟨j, _, rfl⟩ := mem_st0.mp hb
      rw [List.mem_singleton] at h1 h2
      rw [← h1, ← h2]
  have nm : ∀ {α : Type} {a : α} {p : Prop}, a ∈ ([] : List α) → p := fun h => absurd h List.not_mem_nil
  have ab : ∀ u v w : Int, 0 ≤ w → ws (cut u v) (st0 N.n).hs ≤ w * UN := fun u v w h => Int.mul_nonneg h (Int.le_of_lt UN_pos)
  refine ⟨⟨P, ?_, fun e he => nm he, fun e he => nm he, fun e he => nm he, fun e he => nm he, fun e he => nm he, fun e he => nm he, .nil, fun e he => nm he, fun g hg hr => ?_, fun e he => nm he, fun e he => nm he, fun e he => nm he, fun e he => nm he, fun e he => nm he,
    fun e he => nm he, .nil, fun e he => ab _ _ _ (o.ends e he).2.2.2.1, fun e he => nm he, .nil, fun e he => nm he, fun e he => nm he, fun X _ g hg a ha b hb xa => ?_⟩, fun e he => nm he⟩
  · show ((List.range N.n).map _).length + 0 = N.n
    simp
  · exact Int.mul_nonneg (prL_nn o g) (Int.le_of_lt UN_pos)
  · obtain ⟨i, _, rfl⟩ := mem_st0.mp hg
    rw [List.mem_singleton] at ha hb
    rw [hb, ← ha]; exact xa
end Gw

namespace Gw
open Classical in
/-- the prizes of the vertices of X -/
noncomputable def piX (N : Net) (X : Int → Prop) : Int := ((List.range N.n).map fun (i : Nat) => if X (i : Int) then N.pr i else 0).sum
theorem piX_congr {N : Net} {X Y : Int → Prop} (h : ∀ v : Int, 0 ≤ v → v < N.n → (X v ↔ Y v)) : piX N X = piX N Y := by
  unfold piX
  refine sum_map_congr fun i hi => ?_
  have := List.mem_range.mp hi
  have q := h i (by omega) (by omega)
  by_cases x : X (i : Int)
  · rw [if_pos x, if_pos (q.mp x)]
  · rw [if_neg x, if_neg fun y => x (q.mpr y)]
theorem piX_nn {N : Net} (o : N.Ok) (X : Int → Prop) : 0 ≤ piX N X := by
  unfold piX
  refine sum_map_nn fun i _ => ?_
  split
  · exact o.pr_nn _
  · exact Int.le_refl _
theorem piX_split {N : Net} (X Y : Int → Prop) : piX N X = piX N (fun v => X v ∧ Y v) + piX N (fun v => X v ∧ ¬ Y v) := by
  unfold piX
  rw [← sum_map_add]
  refine sum_map_congr fun i _ => ?_
  by_cases x : X (i : Int) <;> by_cases y : Y (i : Int) <;> simp [x, y]
theorem range_one (n : Nat) (f : Int → Int) (a : Int) (h0 : 0 ≤ a) (hn : a < n) : ((List.range n).map fun (i : Nat) => if (i : Int) = a then f i else 0).sum = f a := by
  induction n with
  | zero => omega
  | succ n ih =>
    rw [List.range_succ, List.map_append, sum_append]
    by_cases e : a = n
    · have : ((List.range n).map fun (i : Nat) => if (i : Int) = a then f i else 0).sum = 0 := sum_map_zero fun i hi => by
        have := List.mem_range.mp hi
        rw [if_neg (by omega)]
      rw [this]; simp [e]
    · rw [ih (by omega)]
      have : ¬ (n : Int) = a := by omega
      simp [this]
theorem piX_list {N : Net} : ∀ {S : List Int}, S.Nodup → (∀ v ∈ S, 0 ≤ v ∧ v < N.n) → piX N (· ∈ S) = N.prL S
  | [], _, _ => by
    unfold piX
    rw [sum_map_zero fun i _ => by simp]
    rfl
  | a :: S, hd, hr => by
    have hd' := List.nodup_cons.mp hd
    have ha := hr a List.mem_cons_self
    have ih := piX_list (N := N) hd'.2 fun v hv => hr v (List.mem_cons_of_mem _ hv)
    rw [piX_split _ (· = a)]
    have e1 : piX N (fun v => v ∈ a :: S ∧ v = a) = N.pr a := by
      have q := range_one N.n N.pr a ha.1 ha.2
      rw [← q]
      unfold piX
      refine sum_map_congr fun i _ => ?_
      by_cases e : (i : Int) = a <;> simp [e]
    have e2 : piX N (fun v => v ∈ a :: S ∧ ¬ v = a) = piX N (· ∈ S) := piX_congr fun v _ _ => by
      rw [List.mem_cons]
      constructor
      · rintro ⟨h | h, q⟩
        · exact absurd h q
        · exact h
      · intro h; exact ⟨.inr h, fun e => hd'.1 (e ▸ h)⟩
    rw [e1, e2, ih]
    rfl
theorem piX_off {N : Net} {X : Int → Prop} {S : List Int} (hd : S.Nodup) (hr : ∀ v ∈ S, 0 ≤ v ∧ v < N.n) (hX : ∀ v ∈ S, X v) : piX N X = N.prL S + piX N (fun v => X v ∧ v ∉ S) := by
  rw [piX_split X (· ∈ S), ← piX_list hd hr]
  congr 1
  exact piX_congr fun v _ _ => ⟨fun h => h.2, fun h => ⟨hX v h, h⟩⟩

/-- vertices that lie in sets that stopped, all of them apart: their prizes are paid -/
theorem tight_le {N : Net} (o : N.Ok) {hs : Hts} (hy : ∀ e ∈ hs, 0 < e.2) (hne : ∀ e ∈ hs, e.1 ≠ []) : ∀ (L : List (List Int)), (L.Pairwise fun b a => (∀ v ∈ a, v ∈ b) ∨ (∀ v ∈ a, v ∉ b)) →
    (∀ S ∈ L, S.Pairwise (· < ·) ∧ (∀ v ∈ S, 0 ≤ v ∧ v < N.n) ∧ ws (sub (· ∈ S)) hs = N.prL S * UN) → ∀ X : Int → Prop, (∀ v, X v → ∃ S ∈ L, v ∈ S ∧ ∀ w ∈ S, X w) → piX N X * UN ≤ ws (sub X) hs
  | [], _, _, X, hX => by
    have : piX N X = 0 := by
      unfold piX
      refine sum_map_zero fun i _ => ?_
      rw [if_neg]
      intro h
      obtain ⟨S, hS, _⟩ := hX _ h
      cases hS
    rw [this, Int.zero_mul]
    exact sum_map_nn fun e he => Int.mul_nonneg sub_nn (Int.le_of_lt (hy e he))
  | S :: L, hp, hL, X, hX => by
    have hp' := List.pairwise_cons.mp hp
    have ih := tight_le o hy hne L hp'.2 fun S hS => hL S (List.mem_cons_of_mem _ hS)
    by_cases hS : ∀ w ∈ S, X w
    · obtain ⟨h1, h2, h3⟩ := hL S List.mem_cons_self
      rw [piX_off (asc_nodup h1) h2 hS, Int.add_mul, ← h3]
      have i2 := ih (fun v => X v ∧ v ∉ S) fun v hv => by
        obtain ⟨S', m, a, b⟩ := hX v hv.1
        rcases List.mem_cons.mp m with e | m
        · subst e; exact absurd a hv.2
        · rcases hp'.1 S' m with q | q
          · exact absurd (q v a) hv.2
          · exact ⟨S', m, a, fun w hw => ⟨b w hw, q w hw⟩⟩
      have : ws (sub (· ∈ S)) hs + ws (sub fun v => X v ∧ v ∉ S) hs ≤ ws (sub X) hs := by
        rw [← ws_add]
        refine ws_le (fun e he => Int.le_of_lt (hy e he)) fun e he => ?_
        obtain ⟨x, hx⟩ := ne_mem (hne e he)
        unfold sub
        by_cases c1 : ∀ v ∈ e.1, v ∈ S
        · have c2 : ¬ ∀ v ∈ e.1, X v ∧ v ∉ S := fun h => (h x hx).2 (c1 x hx)
          rw [if_pos c1, if_neg c2, if_pos fun v hv => hS v (c1 v hv)]; decide
        · by_cases c2 : ∀ v ∈ e.1, X v ∧ v ∉ S
          · rw [if_neg c1, if_pos c2, if_pos fun v hv => (c2 v hv).1]; decide
          · rw [if_neg c1, if_neg c2]; split <;> decide
      omega
    · refine ih X fun v hv => ?_
      obtain ⟨S', m, a, b⟩ := hX v hv
      rcases List.mem_cons.mp m with e | m
      · subst e; exact absurd b hS
      · exact ⟨S', m, a, b⟩
/-- the moats within X cost at most its prizes -/
theorem part_le {N : Net} (o : N.Ok) {hs : Hts} (hy : ∀ e ∈ hs, 0 < e.2) (hne : ∀ e ∈ hs, e.1 ≠ []) : ∀ (L : List (List Int)), (L.Pairwise fun b a => (∀ v ∈ a, v ∈ b) ∨ (∀ v ∈ a, v ∉ b)) →
    (∀ S ∈ L, S.Pairwise (· < ·) ∧ (∀ v ∈ S, 0 ≤ v ∧ v < N.n) ∧ ws (sub (· ∈ S)) hs ≤ N.prL S * UN) → ∀ X : Int → Prop, (∀ e ∈ hs, (∀ v ∈ e.1, X v) → ∃ S ∈ L, (∀ v ∈ e.1, v ∈ S) ∧ ∀ w ∈ S, X w) → ws (sub X) hs ≤ piX N X * UN
  | [], _, _, X, hX => by
    have : ws (sub X) hs = 0 := ws_zero fun e he => by
      unfold sub
      rw [if_neg]
      intro h
      obtain ⟨S, hS, _⟩ := hX e he h
      cases hS
    rw [this]
    exact Int.mul_nonneg (piX_nn o X) (Int.le_of_lt UN_pos)
  | S :: L, hp, hL, X, hX => by
    have hp' := List.pairwise_cons.mp hp
    have ih := part_le o hy hne L hp'.2 fun S hS => hL S (List.mem_cons_of_mem _ hS)
    by_cases hS : ∀ w ∈ S, X w
    · obtain ⟨h1, h2, h3⟩ := hL S List.mem_cons_self
      rw [piX_off (asc_nodup h1) h2 hS, Int.add_mul]
      have i2 := ih (fun v => X v ∧ v ∉ S) fun e he hv => by
        obtain ⟨x, hx⟩ := ne_mem (hne e he)
        obtain ⟨S', m, a, b⟩ := hX e he fun v h => (hv v h).1
        rcases List.mem_cons.mp m with q | m
        · subst q; exact absurd (a x hx) (hv x hx).2
        · rcases hp'.1 S' m with q | q
          · exact absurd (q x (a x hx)) (hv x hx).2
          · exact ⟨S', m, a, fun w hw => ⟨b w hw, q w hw⟩⟩
      have : ws (sub X) hs ≤ ws (sub (· ∈ S)) hs + ws (sub fun v => X v ∧ v ∉ S) hs := by
        rw [← ws_add]
        refine ws_le (fun e he => Int.le_of_lt (hy e he)) fun e he => ?_
        unfold sub
        by_cases c : ∀ v ∈ e.1, X v
        · rw [if_pos c]
          obtain ⟨S', m, a, b⟩ := hX e he c
          rcases List.mem_cons.mp m with q | m
          · subst q; rw [if_pos a]; split <;> decide
          · rcases hp'.1 S' m with q | q
            · rw [if_pos fun v hv => q v (a v hv)]; split <;> decide
            · have : ∀ v ∈ e.1, X v ∧ v ∉ S := fun v hv => ⟨c v hv, q v (a v hv)⟩
              rw [if_pos this]; split <;> decide
        · rw [if_neg c]; split <;> split <;> decide
      omega
    · refine ih X fun e he hv => ?_
      obtain ⟨S', m, a, b⟩ := hX e he hv
      rcases List.mem_cons.mp m with e | m
      · subst e; exact absurd b hS
      · exact ⟨S', m, a, b⟩

/-- R is the set that is reached from the root by the edges of C -/
structure Reach (N : Net) (C : List Int) (R : Int → Prop) : Prop where
  root : R N.root
  cl : ∀ k ∈ C, (R (N.ed k).1 ↔ R (N.ed k).2.1)
  least : ∀ X : Int → Prop, X N.root → (∀ k ∈ C, (X (N.ed k).1 ↔ X (N.ed k).2.1)) → ∀ v, R v → X v
noncomputable def costI (N : Net) (C : List Int) (R : Int → Prop) : Int := (C.map fun k => (N.ed k).2.2).sum + piX N (fun v => ¬ R v)
def dT (N : Net) (T : List Int) (g : List Int) : Int := (T.map fun k => N.ct k g).sum
theorem dT_nn {N : Net} {T : List Int} {g : List Int} : 0 ≤ dT N T g := sum_map_nn fun _ _ => cut_nn
def tot (hs : Hts) : Int := ws (fun _ => 1) hs
/-- weak duality: the heights together are at most the cost of any choice -/
theorem weak {N : Net} (o : N.Ok) {s : St} (I : Inv N s) {C : List Int} (hC : ∀ k ∈ C, N.isE k) {R : Int → Prop} (h : Reach N C R) : tot s.hs ≤ costI N C R * UN := by
  have a : tot s.hs ≤ ws (fun g => dT N C g + sub (fun v => ¬ R v) g) s.hs := by
    refine ws_le (fun e he => Int.le_of_lt (I.hpos e he)) fun e he => ?_
    have d0 := dT_nn (N := N) (T := C) (g := e.1)
    by_cases d : 0 < dT N C e.1
    · have := sub_nn (X := fun v => ¬ R v) (g := e.1); omega
    · have z : ∀ k ∈ C, ((N.ed k).1 ∈ e.1 ↔ (N.ed k).2.1 ∈ e.1) := fun k hk => by
        have q := sum_map_ge_one (f := fun k => N.ct k e.1) (l := C) (fun _ _ => cut_nn) hk
        unfold dT at d
        have q2 : N.ct k e.1 = 0 := by
          have q3 : (0 : Int) ≤ N.ct k e.1 := cut_nn
          omega
        unfold Net.ct cut at q2
        by_cases x : (N.ed k).1 ∈ e.1 <;> by_cases y : (N.ed k).2.1 ∈ e.1 <;> simp [x, y] at q2 ⊢
      have : sub (fun v => ¬ R v) e.1 = 1 := by
        unfold sub
        rw [if_pos]
        intro v hv r
        have q := h.least (fun v => R v ∧ v ∉ e.1) ⟨h.root, I.hrt e he⟩ (fun k hk => by
          have := h.cl k hk
          have := z k hk
          simp_all) v r
        exact q.2 hv
      omega
  rw [ws_add] at a
  have b : ws (dT N C) s.hs ≤ (C.map fun k => (N.ed k).2.2).sum * UN := by
    have q := ws_sum (fun k g => N.ct k g) C s.hs
    show ws (fun g => (C.map fun k => N.ct k g).sum) s.hs ≤ _
    rw [q, Int.mul_comm, ← sum_map_mul]
    refine sum_map_le fun k hk => ?_
    rw [Int.mul_comm]
    exact I.epd _ (N.ed_mem (hC k hk))
  have c : ws (sub fun v => ¬ R v) s.hs ≤ piX N (fun v => ¬ R v) * UN := by
    refine part_le o I.hpos I.hne (s.hs.map (·.1)).reverse ?_ (fun S hS => ?_) _ fun e he hv => ⟨e.1, List.mem_reverse.mpr (List.mem_map.mpr ⟨e, he, rfl⟩), fun v h => h, hv⟩
    · rw [List.pairwise_reverse, List.pairwise_map]
      exact I.hlam
    · obtain ⟨e, he, rfl⟩ := List.mem_map.mp (List.mem_reverse.mp hS)
      exact ⟨I.hasc e he, I.hrng e he, I.hpr e he⟩
  unfold costI
  rw [Int.add_mul]
  omega
end Gw

namespace Gw
theorem len_le {α : Type} [BEq α] [LawfulBEq α] : ∀ {a b : List α}, a.Nodup → (∀ x ∈ a, x ∈ b) → a.length ≤ b.length
  | [], _, _, _ => Nat.zero_le _
  | x :: a, b, hn, hs => by
    have hn' := List.nodup_cons.mp hn
    have hx := hs x List.mem_cons_self
    have ih := len_le (b := b.erase x) hn'.2 fun y hy => by
      have : y ≠ x := fun e => hn'.1 (e ▸ hy)
      exact (List.mem_erase_of_ne this).mpr (hs y (List.mem_cons_of_mem _ hy))
    rw [List.length_erase_of_mem hx] at ih
    have := List.length_pos_of_mem hx
    rw [List.length_cons]
    omega
/-- all edges of T are reached from the root -/
def Conn (N : Net) (T : List Int) : Prop := ∀ X : Int → Prop, X N.root → (∀ k ∈ T, (X (N.ed k).1 ↔ X (N.ed k).2.1)) → ∀ k ∈ T, X (N.ed k).1 ∧ X (N.ed k).2.1
def Lost (N : Net) (T : List Int) (v : Int) : Prop := (0 ≤ v ∧ v < N.n) ∧ v ≠ N.root ∧ ∀ k ∈ T, (N.ed k).1 ≠ v ∧ (N.ed k).2.1 ≠ v
open Classical in
noncomputable def kap (N : Net) (T : List Int) (g : List Int) : Int := if N.root ∉ g ∧ 0 < dT N T g then 1 else 0
noncomputable def hh (N : Net) (T : List Int) (g : List Int) : Int := dT N T g - 2 * kap N T g
theorem kap_bd {N : Net} {T : List Int} {g : List Int} : 0 ≤ kap N T g ∧ kap N T g ≤ 1 := by unfold kap; split <;> decide

theorem arith {n a x c d : Int} (hn : 2 ≤ n) (h0 : 0 ≤ a) (hc0 : 0 ≤ c) (hca : c ≤ a) (hx : x ≤ a + c - d) (hd : 0 ≤ d) (hd1 : 1 ≤ c → 1 ≤ d) (ha : a ≤ n - 1) : (n - 1) * x ≤ (2 * n - 3) * a := by
  by_cases h : 1 ≤ c
  · have x1 : x ≤ 2 * a - 1 := by have := hd1 h; omega
    have q : (n - 1) * x ≤ (n - 1) * (2 * a - 1) := Int.mul_le_mul_of_nonneg_left x1 (by omega)
    have e : (n - 1) * (2 * a - 1) = (2 * n - 3) * a + (a - (n - 1)) := by grind
    omega
  · have x1 : x ≤ a := by omega
    have q : (n - 1) * x ≤ (n - 1) * a := Int.mul_le_mul_of_nonneg_left x1 (by omega)
    have e : (2 * n - 3) * a = (n - 1) * a + (n - 2) * a := by grind
    have e2 : 0 ≤ (n - 2) * a := Int.mul_nonneg (by omega) h0
    omega

section
variable {N : Net} (o : N.Ok) {T : List Int} (cT : Conn N T)
include o cT
/-- the growing components of one step touch the tree at most so often -/
theorem step_bound {s : St} (I : Inv N s) (hn : 2 ≤ N.n) (hS : ∀ S ∈ s.sp, dT N T S ≠ 1) (F : (s.gs.map (hh N T)).sum ≤ 0) :
    ((N.n : Int) - 1) * ((act N.root s).map fun g => dT N T g + sub (Lost N T) g).sum ≤ (2 * (N.n : Int) - 3) * (act N.root s).length := by
  obtain ⟨g0, hg0, hr0⟩ := I.P.cov _ o.root.1 o.root.2
  have n0 : g0 ∉ act N.root s := fun h => (mem_act.mp h).2.1 hr0
  -- the others have no negative share
  have oth : ∀ g ∈ s.gs, g ∉ act N.root s → 0 ≤ hh N T g := fun g hg hn => by
    have d0 := dT_nn (N := N) (T := T) (g := g)
    unfold hh kap
    by_cases r : N.root ∈ g
    · rw [if_neg fun q => q.1 r]; omega
    · have hs : g ∈ s.sp := by
        refine Classical.byContradiction fun q => hn (mem_act.mpr ⟨hg, r, q⟩)
      have := hS g hs
      split <;> rename_i q
      · omega
      · omega
  have split1 : (s.gs.map (hh N T)).sum = ((act N.root s).map (hh N T)).sum + (s.gs.map fun g => if isAct N.root s.sp g = true then 0 else hh N T g).sum := by
    unfold act
    rw [sum_filter, ← sum_map_add]
    refine sum_map_congr fun g _ => ?_
    split <;> omega
  have rest : hh N T g0 ≤ (s.gs.map fun g => if isAct N.root s.sp g = true then 0 else hh N T g).sum := by
    have q := sum_map_ge_one (f := fun g => if isAct N.root s.sp g = true then 0 else hh N T g) (l := s.gs) (fun g hg => by
      show 0 ≤ (if isAct N.root s.sp g = true then 0 else hh N T g)
      split
      · exact Int.le_refl _
      · rename_i q
        exact oth g hg fun h => q (List.mem_filter.mp h).2) hg0
    have e : (if isAct N.root s.sp g0 = true then 0 else hh N T g0) = hh N T g0 := by
      rw [if_neg]
      intro q
      exact n0 (List.mem_filter.mpr ⟨hg0, q⟩)
    simp only [e] at q
    exact q
  have e0 : hh N T g0 = dT N T g0 := by
    unfold hh kap
    rw [if_neg fun q => q.1 hr0]; omega
  -- sums over the growing ones
  have s1 : ((act N.root s).map (hh N T)).sum + 2 * ((act N.root s).map (kap N T)).sum = ((act N.root s).map (dT N T)).sum := by
    rw [← sum_map_mul, ← sum_map_add]
    refine sum_map_congr fun g _ => ?_
    unfold hh; omega
  have s2 : ((act N.root s).map (sub (Lost N T))).sum + ((act N.root s).map (kap N T)).sum ≤ (act N.root s).length := by
    rw [← sum_map_one, ← sum_map_add]
    refine sum_map_le fun g hg => ?_
    have k1 := kap_bd (N := N) (T := T) (g := g)
    unfold sub
    split
    · rename_i q
      have z : kap N T g = 0 := by
        unfold kap
        rw [if_neg]
        rintro ⟨_, p⟩
        obtain ⟨k, hk, pk⟩ := sum_pos_ex p
        rcases cut_pos pk with ⟨m, _⟩ | ⟨m, _⟩
        · exact ((q _ m).2.2 k hk).1 rfl
        · exact ((q _ m).2.2 k hk).2 rfl
      omega
    · omega
  have s3 : ((act N.root s).map fun g => dT N T g + sub (Lost N T) g).sum = ((act N.root s).map (dT N T)).sum + ((act N.root s).map (sub (Lost N T))).sum := sum_map_add ..
  have k0 : 0 ≤ ((act N.root s).map (kap N T)).sum := sum_map_nn fun g _ => kap_bd.1
  have k1 : ((act N.root s).map (kap N T)).sum ≤ (act N.root s).length := by
    rw [← sum_map_one]
    exact sum_map_le fun g _ => kap_bd.2
  have len : ((act N.root s).length : Int) ≤ N.n - 1 := by
    have l1 : (act N.root s).length + 1 ≤ s.gs.length := by
      have h : (g0 :: act N.root s).Nodup := List.nodup_cons.mpr ⟨n0, act_nodup I.P.nd⟩
      have := len_le (b := s.gs) h fun g hg => by
        rcases List.mem_cons.mp hg with e | e
        · rw [e]; exact hg0
        · exact (mem_act.mp e).1
      simpa using this
    have := I.len
    omega
  refine arith (c := ((act N.root s).map (kap N T)).sum) (d := dT N T g0) (by omega) (by omega) k0 k1 ?_ dT_nn (fun h => ?_) len
  · rw [s3]; omega
  · -- some growing component touches the tree: then the root's does
    refine Classical.byContradiction fun q => ?_
    have dz : ∀ k ∈ T, ((N.ed k).1 ∈ g0 ↔ (N.ed k).2.1 ∈ g0) := fun k hk => by
      have q1 := sum_map_ge_one (f := fun k => N.ct k g0) (l := T) (fun _ _ => cut_nn) hk
      have q2 : N.ct k g0 = 0 := by
        have q3 : (0 : Int) ≤ N.ct k g0 := cut_nn
        unfold dT at q
        omega
      unfold Net.ct cut at q2
      by_cases x : (N.ed k).1 ∈ g0 <;> by_cases y : (N.ed k).2.1 ∈ g0 <;> simp [x, y] at q2 ⊢
    have al := cT (· ∈ g0) hr0 dz
    obtain ⟨C, hC, p⟩ := sum_pos_ex (f := kap N T) (l := act N.root s) (by omega)
    have hC' := mem_act.mp hC
    unfold kap at p
    by_cases cc : N.root ∉ C ∧ 0 < dT N T C
    · obtain ⟨k, hk, pk⟩ := sum_pos_ex cc.2
      have e : g0 = C := by
        rcases cut_pos pk with ⟨m, _⟩ | ⟨m, _⟩
        · exact I.P.dis g0 hg0 C hC'.1 _ (al k hk).1 m
        · exact I.P.dis g0 hg0 C hC'.1 _ (al k hk).2 m
      exact n0 (e ▸ hC)
    · rw [if_neg cc] at p; omega
end
end Gw

namespace Gw
/-- what the later joins are, seen from s: edges of the end that s has not chosen go between its groups -/
def Later (N : Net) (f s : St) : Prop := ∀ k ∈ f.ch, k ∈ s.ch ∨ ¬ ∃ g ∈ s.gs, (N.ed k).1 ∈ g ∧ (N.ed k).2.1 ∈ g
noncomputable def Wt (N : Net) (T : List Int) (hs : Hts) : Int := ws (fun g => dT N T g + sub (Lost N T) g) hs

theorem cut_join {u v : Int} {one two new : List Int} (mn : ∀ v, v ∈ new ↔ v ∈ one ∨ v ∈ two) (dj : ∀ v, v ∈ one → v ∈ two → False) :
    cut u v one + cut u v two - cut u v new = if (u ∈ one ∧ v ∈ two) ∨ (u ∈ two ∧ v ∈ one) then 2 else 0 := by
  have du := dj u
  have dv := dj v
  unfold cut
  by_cases a : u ∈ one <;> by_cases b : u ∈ two <;> by_cases c : v ∈ one <;> by_cases d : v ∈ two <;> simp_all

section
variable {N : Net} (o : N.Ok) {f : St} {T : List Int} (cT : Conn N T) (hT : ∀ k ∈ T, k ∈ f.ch) (nT : T.Nodup) (hn : 2 ≤ N.n) (hS : ∀ S ∈ f.sp, dT N T S ≠ 1)
include o cT hT nT hn hS
theorem star_bound {s : St} (st : Star N s f) : Good N s → (∀ S ∈ s.sp, S ∈ f.sp) ∧ Later N f s ∧ (s.gs.map (hh N T)).sum ≤ 0 ∧
    ((N.n : Int) - 1) * (Wt N T f.hs - Wt N T s.hs) ≤ (2 * (N.n : Int) - 3) * (tot f.hs - tot s.hs) := by
  induction st with
  | refl s =>
    intro G
    refine ⟨fun _ h => h, fun _ h => .inl h, ?_, by simp⟩
    have : (s.gs.map (hh N T)).sum = 0 := sum_map_zero fun g hg => by
      have d : dT N T g = 0 := sum_map_zero fun k hk => by
        obtain ⟨c, hc, a, b⟩ := G.I.cin k (hT k hk)
        refine cut_zero ⟨fun q => ?_, fun q => ?_⟩
        · have e := G.I.P.dis c hc g hg _ a q
          subst e; exact b
        · have e := G.I.P.dis c hc g hg _ b q
          subst e; exact a
      unfold hh kap
      rw [d, if_neg fun q => absurd q.2 (by decide)]; rfl
    omega
  | @head s b f x _ ih =>
    intro G
    obtain ⟨p1, p2, p3, p4⟩ := ih hT hS (x.good o G).1
    have spm : ∀ S ∈ s.sp, S ∈ b.sp := by
      cases x with
      | stop t g m hg ht => intro S h; exact List.mem_append_left _ h
      | join t k one two new m hk h1 h2 hd hu hv ha ht hp hs => intro S h; exact h
    have F : (s.gs.map (hh N T)).sum ≤ 0 ∧ Later N f s := by
      cases x with
      | stop t g m hg ht => exact ⟨p3, p2⟩
      | join t k one two new m hk h1 h2 hd hu hv ha ht hp hs =>
        have mj := fun g => mem_joined G.I.P h1 h2 hd hp (g := g)
        have mn := fun v => mem_new G.I.P h1 h2 hd hp (v := v)
        have lt : Later N f s := fun j hj => by
          rcases p2 j hj with q | q
          · rcases List.mem_append.mp q with q | q
            · exact .inl q
            · rw [List.mem_singleton] at q
              subst q
              refine .inr fun ⟨g, hg, a, b⟩ => ?_
              exact hd ((G.I.P.dis one h1 g hg _ hu a).trans (G.I.P.dis g hg two h2 _ b hv))
          · refine .inr fun ⟨g, hg, a, b⟩ => q ?_
            obtain ⟨g', hg', q'⟩ := joined_at G.I.P h1 h2 hd hp hs hg
            exact ⟨g', hg', q' _ a, q' _ b⟩
        refine ⟨?_, lt⟩
        have js := joined_sum G.I.P h1 h2 hd hp (hh N T)
        have p3 : ((joined s.gs one two new).map (hh N T)).sum ≤ 0 := p3
        have dj : ∀ v, v ∈ one → v ∈ two → False := fun v a b => hd (G.I.P.dis one h1 two h2 v a b)
        -- only k goes between the two
        have only : ∀ j ∈ T, ((N.ed j).1 ∈ one ∧ (N.ed j).2.1 ∈ two) ∨ ((N.ed j).1 ∈ two ∧ (N.ed j).2.1 ∈ one) → j = k := fun j hj h => by
          have n1 : j ∉ s.ch := fun q => by
            obtain ⟨g, hg, a, b⟩ := G.I.cin j q
            rcases h with ⟨c, d⟩ | ⟨c, d⟩
            · exact hd ((G.I.P.dis one h1 g hg _ c a).trans (G.I.P.dis g hg two h2 _ b d))
            · exact hd ((G.I.P.dis one h1 g hg _ d b).trans (G.I.P.dis g hg two h2 _ a c))
          rcases p2 j (hT j hj) with q | q
          · rcases List.mem_append.mp q with q | q
            · exact absurd q n1
            · exact List.mem_singleton.mp q
          · refine absurd ⟨new, (mj new).mpr (.inr rfl), ?_⟩ q
            rcases h with ⟨c, d⟩ | ⟨c, d⟩
            · exact ⟨(mn _).mpr (.inl c), (mn _).mpr (.inr d)⟩
            · exact ⟨(mn _).mpr (.inr c), (mn _).mpr (.inl d)⟩
        have dsum : dT N T one + dT N T two = dT N T new + (T.map fun j => 2 * (if j = k then (1 : Int) else 0)).sum := by
          unfold dT
          rw [← sum_map_add, ← sum_map_add]
          refine sum_map_congr fun j hj => ?_
          have q := cut_join (u := (N.ed j).1) (v := (N.ed j).2.1) mn dj
          unfold Net.ct
          by_cases e : j = k
          · subst e
            rw [if_pos (.inl ⟨hu, hv⟩)] at q
            rw [if_pos rfl]; omega
          · rw [if_neg fun z => e (only j hj z)] at q
            rw [if_neg e]; omega
        rw [sum_map_mul] at dsum
        have d1 := dT_nn (N := N) (T := T) (g := one)
        have d2 := dT_nn (N := N) (T := T) (g := two)
        have k1 := kap_bd (N := N) (T := T) (g := one)
        have k2 := kap_bd (N := N) (T := T) (g := two)
        have k3 := kap_bd (N := N) (T := T) (g := new)
        have rn : N.root ∉ new → N.root ∉ one ∧ N.root ∉ two := fun r => ⟨fun h => r ((mn _).mpr (.inl h)), fun h => r ((mn _).mpr (.inr h))⟩
        have key : hh N T one + hh N T two ≤ hh N T new := by
          by_cases hkT : k ∈ T
          · rw [sum_unique nT (· = k) (fun a _ b _ h1 h2 => h1.trans h2.symm) hkT rfl] at dsum
            have c1 : 1 ≤ dT N T one := by
              have q := sum_map_ge_one (f := fun j => N.ct j one) (l := T) (fun _ _ => cut_nn) hkT
              have e : N.ct k one = 1 := cut_one ⟨fun _ z => dj _ z hv, fun _ => hu⟩
              simp only [e] at q
              exact q
            have c2 : 1 ≤ dT N T two := by
              have q := sum_map_ge_one (f := fun j => N.ct j two) (l := T) (fun _ _ => cut_nn) hkT
              have e : N.ct k two = 1 := cut_one ⟨fun z _ => dj _ hu z, fun z => absurd hv z⟩
              simp only [e] at q
              exact q
            have ks : kap N T new + 1 ≤ kap N T one + kap N T two := by
              by_cases r : N.root ∈ new
              · have e : kap N T new = 0 := by unfold kap; rw [if_neg fun q => q.1 r]
                rcases (mn _).mp r with z | z
                · have e2 : kap N T two = 1 := by unfold kap; rw [if_pos ⟨fun w => dj _ z w, by omega⟩]
                  omega
                · have e2 : kap N T one = 1 := by unfold kap; rw [if_pos ⟨fun w => dj _ w z, by omega⟩]
                  omega
              · obtain ⟨r1, r2⟩ := rn r
                have e1 : kap N T one = 1 := by unfold kap; rw [if_pos ⟨r1, by omega⟩]
                have e2 : kap N T two = 1 := by unfold kap; rw [if_pos ⟨r2, by omega⟩]
                omega
            unfold hh; omega
          · have z : (T.map fun j => if j = k then (1 : Int) else 0).sum = 0 := sum_map_zero fun j hj => by
              rw [if_neg]; intro e; subst e; exact hkT hj
            rw [z] at dsum
            have ks : kap N T new ≤ kap N T one + kap N T two := by
              unfold kap
              by_cases q : N.root ∉ new ∧ 0 < dT N T new
              · obtain ⟨r1, r2⟩ := rn q.1
                rw [if_pos q]
                by_cases z1 : 0 < dT N T one
                · rw [if_pos ⟨r1, z1⟩]; split <;> decide
                · rw [if_pos (c := N.root ∉ two ∧ _) ⟨r2, by omega⟩]; split <;> decide
              · rw [if_neg q]; split <;> split <;> decide
            unfold hh; omega
        have : ((s.gs.map (hh N T)).sum) + hh N T new = ((joined s.gs one two new).map (hh N T)).sum + hh N T one + hh N T two := js.symm
        omega
    refine ⟨fun S h => p1 S (spm S h), F.2, F.1, ?_⟩
    have sb := step_bound o cT G.I hn (fun S h => hS S (p1 S (spm S h))) F.1
    obtain ⟨t, t0, hb⟩ : ∃ t, 0 ≤ t ∧ b.hs = grown s.hs (act N.root s) t := by
      cases x with
      | stop t g m hg ht => exact ⟨t, m.nn, rfl⟩
      | join t k one two new m hk h1 h2 hd hu hv ha ht hp hs => exact ⟨t, m.nn, rfl⟩
    have w1 : Wt N T b.hs = Wt N T s.hs + t * ((act N.root s).map fun g => dT N T g + sub (Lost N T) g).sum := by
      unfold Wt; rw [hb, ws_grown _ _ _ t0]
    have w2 : tot b.hs = tot s.hs + t * (act N.root s).length := by
      unfold tot; rw [hb, ws_grown _ _ _ t0, sum_map_one]
    have q := Int.mul_le_mul_of_nonneg_left sb t0
    generalize ((act N.root s).map fun g => dT N T g + sub (Lost N T) g).sum = x at *
    generalize ((act N.root s).length : Int) = y at *
    have e1 : ((N.n : Int) - 1) * (Wt N T f.hs - Wt N T s.hs) = ((N.n : Int) - 1) * (Wt N T f.hs - Wt N T b.hs) + t * (((N.n : Int) - 1) * x) := by rw [w1]; grind
    have e2 : (2 * (N.n : Int) - 3) * (tot f.hs - tot s.hs) = (2 * (N.n : Int) - 3) * (tot f.hs - tot b.hs) + t * ((2 * (N.n : Int) - 3) * y) := by rw [w2]; grind
    omega

/-- the choice is near: T is the tree, R what it reaches -/
theorem near (st : Star N (st0 N.n) f) (cov : ∀ v, Lost N T v → ∃ S ∈ f.sp, v ∈ S ∧ ∀ w ∈ S, Lost N T w) {R : Int → Prop} (hR : Reach N T R) :
    ((N.n : Int) - 1) * costI N T R * UN ≤ (2 * (N.n : Int) - 3) * tot f.hs := by
  have Gf := st.good o (st0_good o)
  obtain ⟨_, _, _, q⟩ := star_bound o cT hT nT hn hS st (st0_good o)
  have z1 : Wt N T (st0 N.n).hs = 0 := rfl
  have z2 : tot (st0 N.n).hs = 0 := rfl
  rw [z1, z2, Int.sub_zero, Int.sub_zero] at q
  have lost : piX N (fun v => ¬ R v) = piX N (Lost N T) := piX_congr fun v h0 h1 => by
    constructor
    · intro h
      refine ⟨⟨h0, h1⟩, fun e => h (e ▸ hR.root), fun k hk => ⟨fun e => h ?_, fun e => h ?_⟩⟩
      · rw [← e]; exact (cT R hR.root hR.cl k hk).1
      · rw [← e]; exact (cT R hR.root hR.cl k hk).2
    · intro h r
      have := hR.least (fun v => v = N.root ∨ ∃ k ∈ T, (N.ed k).1 = v ∨ (N.ed k).2.1 = v) (.inl rfl) (fun k hk => ⟨fun _ => .inr ⟨k, hk, .inr rfl⟩, fun _ => .inr ⟨k, hk, .inl rfl⟩⟩) v r
      rcases this with e | ⟨k, hk, e | e⟩
      · exact h.2.1 e
      · exact (h.2.2 k hk).1 e
      · exact (h.2.2 k hk).2 e
  have b : (T.map fun k => (N.ed k).2.2).sum * UN = ws (dT N T) f.hs := by
    have q := ws_sum (fun k g => N.ct k g) T f.hs
    show _ = ws (fun g => (T.map fun k => N.ct k g).sum) f.hs
    rw [q, Int.mul_comm, ← sum_map_mul]
    refine sum_map_congr fun k hk => ?_
    rw [Int.mul_comm]
    exact (Gf.I.cpd k (hT k hk)).symm
  have c : piX N (Lost N T) * UN ≤ ws (sub (Lost N T)) f.hs := by
    refine tight_le o Gf.I.hpos Gf.I.hne f.sp.reverse ?_ (fun S hS => ?_) _ fun v hv => ?_
    · rw [List.pairwise_reverse]; exact Gf.I.slam
    · have hS := List.mem_reverse.mp hS
      exact ⟨Gf.I.sasc S hS, Gf.I.srng S hS, Gf.I.stig S hS⟩
    · obtain ⟨S, hS, a⟩ := cov v hv
      exact ⟨S, List.mem_reverse.mpr hS, a⟩
  have w : costI N T R * UN ≤ Wt N T f.hs := by
    unfold costI Wt
    rw [lost, Int.add_mul, ws_add, b]
    omega
  have := Int.mul_le_mul_of_nonneg_left w (show 0 ≤ (N.n : Int) - 1 by omega)
  rw [Int.mul_assoc]
  omega
end

/-! ### the tree is pruned -/
/-- what stands of a tree while it is pruned -/
structure Tree (N : Net) (f : St) (T : List Int) : Prop where
  cT : Conn N T
  hT : ∀ k ∈ T, k ∈ f.ch
  nT : T.Nodup
  cov : ∀ v, Lost N T v → ∃ S ∈ f.sp, v ∈ S ∧ ∀ w ∈ S, Lost N T w
theorem Tree.first {N : Net} (o : N.Ok) {f : St} (I : Inv N f) (ha : act N.root f = []) {R : Int → Prop} (hR : Reach N f.ch R) {T : List Int} (hT : ∀ k, k ∈ T ↔ k ∈ f.ch ∧ R (N.ed k).1) (nT : T.Nodup) : Tree N f T := by
  have tch : ∀ v, R v → v = N.root ∨ ∃ k ∈ f.ch, (N.ed k).1 = v ∨ (N.ed k).2.1 = v := fun v r =>
    hR.least (fun v => v = N.root ∨ ∃ k ∈ f.ch, (N.ed k).1 = v ∨ (N.ed k).2.1 = v) (.inl rfl) (fun k hk => ⟨fun _ => .inr ⟨k, hk, .inr rfl⟩, fun _ => .inr ⟨k, hk, .inl rfl⟩⟩) v r
  refine ⟨fun X x0 cl k hk => ?_, fun k hk => ((hT k).mp hk).1, nT, fun v hv => ?_⟩
  · obtain ⟨h1, h2⟩ := (hT k).mp hk
    have q := hR.least (fun v => X v ∧ R v) ⟨x0, hR.root⟩ fun j hj => by
      have r := hR.cl j hj
      by_cases z : R (N.ed j).1
      · have := cl j ((hT j).mpr ⟨hj, z⟩)
        have z2 := r.mp z
        simp_all
      · have z2 : ¬ R (N.ed j).2.1 := fun w => z (r.mpr w)
        simp_all
    exact ⟨(q _ h2).1, (q _ ((hR.cl k h1).mp h2)).1⟩
  · obtain ⟨⟨h0, h1⟩, hr, hl⟩ := hv
    have nr : ¬ R v := fun r => by
      rcases tch v r with e | ⟨k, hk, e | e⟩
      · exact hr e
      · exact (hl k ((hT k).mpr ⟨hk, by rw [e]; exact r⟩)).1 e
      · exact (hl k ((hT k).mpr ⟨hk, (hR.cl k hk).mpr (by rw [e]; exact r)⟩)).2 e
    obtain ⟨g, hg, vg⟩ := I.P.cov v h0 h1
    have rg : N.root ∉ g := fun q => nr (I.conn R hR.cl g hg _ q v vg hR.root)
    have gs : g ∈ f.sp := Classical.byContradiction fun q => by
      have : g ∈ act N.root f := mem_act.mpr ⟨hg, rg, q⟩
      rw [ha] at this
      cases this
    have out : ∀ w, R w → w ∉ g := fun w r => (hR.least (fun w => R w ∧ w ∉ g) ⟨hR.root, rg⟩ (fun k hk => by
      have r := hR.cl k hk
      obtain ⟨c, hc, a, b⟩ := I.cin k hk
      have : (N.ed k).1 ∈ g ↔ (N.ed k).2.1 ∈ g := by
        constructor
        · intro q; have e := I.P.dis c hc g hg _ a q; subst e; exact b
        · intro q; have e := I.P.dis c hc g hg _ b q; subst e; exact a
      simp_all) w r).2
    refine ⟨g, gs, vg, fun w hw => ⟨I.P.rng g hg w hw, fun e => rg (e ▸ hw), fun k hk => ?_⟩⟩
    obtain ⟨h1, h2⟩ := (hT k).mp hk
    refine ⟨fun e => out _ h2 (e ▸ hw), fun e => out _ ((hR.cl k h1).mp h2) (e ▸ hw)⟩
/-- a set on one edge is cut off -/
theorem Tree.cut {N : Net} {f : St} {T T' S : List Int} (t : Tree N f T) (hS : S ∈ f.sp) (rS : N.root ∉ S) (rng : ∀ v ∈ S, 0 ≤ v ∧ v < N.n) (one : dT N T S = 1)
    (hT' : ∀ k, k ∈ T' ↔ k ∈ T ∧ (N.ed k).1 ∉ S ∧ (N.ed k).2.1 ∉ S) (nT' : T'.Nodup) : Tree N f T' := by
  -- the edge that leaves
  obtain ⟨e, he, pe⟩ := sum_pos_ex (f := fun k => N.ct k S) (l := T) (by unfold dT at one; omega)
  have ue : ∀ k ∈ T, 0 < N.ct k S → k = e := fun k hk pk => by
    refine Classical.byContradiction fun q => ?_
    have s := sum_erase (fun k => N.ct k S) he
    have m : k ∈ T.erase e := (List.mem_erase_of_ne q).mpr hk
    have q2 := sum_map_ge_one (f := fun k => N.ct k S) (l := T.erase e) (fun _ _ => cut_nn) m
    unfold dT at one
    have pe : 0 < N.ct e S := pe
    have s : (T.map fun k => N.ct k S).sum = N.ct e S + ((T.erase e).map fun k => N.ct k S).sum := s
    have q2 : N.ct k S ≤ ((T.erase e).map fun k => N.ct k S).sum := q2
    omega
  have inS : ∀ k ∈ T, k ≠ e → ((N.ed k).1 ∈ S ↔ (N.ed k).2.1 ∈ S) := fun k hk ne => by
    have z : ¬ 0 < N.ct k S := fun q => ne (ue k hk q)
    unfold Net.ct Gw.cut at z
    by_cases x : (N.ed k).1 ∈ S <;> by_cases y : (N.ed k).2.1 ∈ S <;> simp [x, y] at z ⊢
  have outer : ∃ a b, a ∉ S ∧ b ∈ S ∧ (((N.ed e).1 = a ∧ (N.ed e).2.1 = b) ∨ ((N.ed e).1 = b ∧ (N.ed e).2.1 = a)) := by
    rcases cut_pos pe with ⟨m, n⟩ | ⟨m, n⟩
    · exact ⟨_, _, n, m, .inr ⟨rfl, rfl⟩⟩
    · exact ⟨_, _, n, m, .inl ⟨rfl, rfl⟩⟩
  obtain ⟨a, b, aS, bS, ab⟩ := outer
  have ends : ∀ (X : Int → Prop), (X a ↔ X b) → (X (N.ed e).1 ↔ X (N.ed e).2.1) := fun X h => by
    rcases ab with ⟨x, y⟩ | ⟨x, y⟩
    · rw [x, y]; exact h
    · rw [x, y]; exact h.symm
  have cases' : ∀ k ∈ T, k = e ∨ ((N.ed k).1 ∈ S ∧ (N.ed k).2.1 ∈ S) ∨ k ∈ T' := fun k hk => by
    by_cases q : k = e
    · exact .inl q
    · have i := inS k hk q
      by_cases x : (N.ed k).1 ∈ S
      · exact .inr (.inl ⟨x, i.mp x⟩)
      · exact .inr (.inr ((hT' k).mpr ⟨hk, x, fun y => x (i.mpr y)⟩))
  refine ⟨fun X x0 cl k hk => ?_, fun k hk => t.hT k ((hT' k).mp hk).1, nT', fun v hv => ?_⟩
  · obtain ⟨k1, k2, k3⟩ := (hT' k).mp hk
    by_cases xa : X a
    · have q := t.cT (fun v => (X v ∧ v ∉ S) ∨ v ∈ S) (.inl ⟨x0, rS⟩) (fun j hj => by
        rcases cases' j hj with rfl | ⟨x, y⟩ | z
        · exact ends (fun v => (X v ∧ v ∉ S) ∨ v ∈ S) ⟨fun _ => .inr bS, fun _ => .inl ⟨xa, aS⟩⟩
        · exact ⟨fun _ => .inr y, fun _ => .inr x⟩
        · have := cl j z
          obtain ⟨_, z2, z3⟩ := (hT' j).mp z
          simp_all) k k1
      exact ⟨q.1.elim (fun h => h.1) (fun h => absurd h k2), q.2.elim (fun h => h.1) (fun h => absurd h k3)⟩
    · have q := t.cT (fun v => X v ∧ v ∉ S) ⟨x0, rS⟩ (fun j hj => by
        rcases cases' j hj with rfl | ⟨x, y⟩ | z
        · exact ends (fun v => X v ∧ v ∉ S) ⟨fun h => absurd h.1 xa, fun h => absurd bS h.2⟩
        · exact ⟨fun h => absurd x h.2, fun h => absurd y h.2⟩
        · have := cl j z
          obtain ⟨_, z2, z3⟩ := (hT' j).mp z
          simp_all) k k1
      exact ⟨q.1.1, q.2.1⟩
  · have all : ∀ w ∈ S, Lost N T' w := fun w hw => ⟨rng w hw, fun q => rS (q ▸ hw), fun k hk => by
      obtain ⟨_, k2, k3⟩ := (hT' k).mp hk
      exact ⟨fun q => k2 (q ▸ hw), fun q => k3 (q ▸ hw)⟩⟩
    by_cases vS : v ∈ S
    · exact ⟨S, hS, vS, all⟩
    · by_cases l : Lost N T v
      · obtain ⟨S', m, x, y⟩ := t.cov v l
        exact ⟨S', m, x, fun w hw => ⟨(y w hw).1, (y w hw).2.1, fun k hk => (y w hw).2.2 k ((hT' k).mp hk).1⟩⟩
      · exfalso
        -- v is the outer end, and has no other edge
        have nov : ∀ k ∈ T, ((N.ed k).1 = v ∨ (N.ed k).2.1 = v) → k = e := fun k hk h => by
          rcases cases' k hk with q | ⟨x, y⟩ | z
          · exact q
          · rcases h with h | h
            · exact absurd (h ▸ x) vS
            · exact absurd (h ▸ y) vS
          · rcases h with h | h
            · exact absurd h (hv.2.2 k z).1
            · exact absurd h (hv.2.2 k z).2
        have ex : ∃ k ∈ T, (N.ed k).1 = v ∨ (N.ed k).2.1 = v := Classical.byContradiction fun q => l ⟨hv.1, hv.2.1, fun k hk => ⟨fun z => q ⟨k, hk, .inl z⟩, fun z => q ⟨k, hk, .inr z⟩⟩⟩
        obtain ⟨k, hk, hkv⟩ := ex
        have va : v = a := by
          have q := nov k hk hkv
          subst q
          rcases ab with ⟨x, y⟩ | ⟨x, y⟩ <;> rcases hkv with h | h
          · exact h.symm.trans x
          · exact absurd (h.symm.trans y ▸ bS) vS
          · exact absurd (h.symm.trans x ▸ bS) vS
          · exact h.symm.trans y
        have q := t.cT (fun w => w ∉ S ∧ w ≠ a) ⟨rS, fun z => hv.2.1 (va.trans z.symm)⟩ (fun j hj => by
          rcases cases' j hj with rfl | ⟨x, y⟩ | z
          · exact ends (fun w => w ∉ S ∧ w ≠ a) ⟨fun h => absurd rfl h.2, fun h => absurd bS h.1⟩
          · exact ⟨fun h => absurd x h.1, fun h => absurd y h.1⟩
          · obtain ⟨_, z2, z3⟩ := (hT' j).mp z
            have z4 := hv.2.2 j z
            rw [va] at z4
            exact ⟨fun _ => ⟨z3, z4.2⟩, fun _ => ⟨z2, z4.1⟩⟩) e he
        rcases ab with ⟨x, y⟩ | ⟨x, y⟩
        · exact q.1.2 x
        · exact q.2.2 y
end Gw

namespace Gw
abbrev Fr2 := Int × Int
def fadd (a b : Fr2) : Fr2 := (a.1 * b.2 + b.1 * a.2, a.2 * b.2)
/-- the sum as the law takes it -/
def fsum (l : List Fr2) : Fr2 := l.foldl fadd (0, 1)
theorem fsum_snoc (l : List Fr2) (x : Fr2) : fsum (l ++ [x]) = fadd (fsum l) x := by simp [fsum]
structure FrOk (f : Fr2) : Prop where
  n0 : 0 < f.1
  n1 : f.1 < 2 ^ 300
  d0 : 0 < f.2
  d1 : f.2 ≤ 2 ^ 200
  g : Int.gcd f.1 f.2 = 1
theorem pow_pos' (k : Nat) : (0 : Int) < 2 ^ k := Int.pow_pos (by decide)
theorem pow_mono {a b : Nat} (h : a ≤ b) : (2 : Int) ^ a ≤ 2 ^ b := by
  obtain ⟨c, rfl⟩ := Nat.le.dest h
  rw [Int.pow_add]
  have h1 := pow_pos' a
  have h2 := pow_pos' c
  have := Int.mul_le_mul_of_nonneg_left (show (1 : Int) ≤ 2 ^ c by omega) (Int.le_of_lt h1)
  omega
/-- how great a sum may be -/
theorem fsum_bd : ∀ (l : List Fr2), (∀ x ∈ l, FrOk x) → 0 ≤ (fsum l).1 ∧ (fsum l).1 < 2 ^ (502 * l.length + 1) ∧ 0 < (fsum l).2 ∧ (fsum l).2 ≤ 2 ^ (200 * l.length) := by
  suffices H : ∀ (r l : List Fr2), (∀ x ∈ r, FrOk x) → (0 ≤ (fsum l).1 ∧ (fsum l).1 < 2 ^ (502 * l.length + 1) ∧ 0 < (fsum l).2 ∧ (fsum l).2 ≤ 2 ^ (200 * l.length)) →
      (0 ≤ (fsum (l ++ r)).1 ∧ (fsum (l ++ r)).1 < 2 ^ (502 * (l ++ r).length + 1) ∧ 0 < (fsum (l ++ r)).2 ∧ (fsum (l ++ r)).2 ≤ 2 ^ (200 * (l ++ r).length)) by
    intro l hl
    have := H l [] hl ⟨by simp [fsum], by simp [fsum], by simp [fsum], by simp [fsum]⟩
    simpa using this
  intro r
  induction r with
  | nil => intro l _ h; simpa using h
  | cons x r ih =>
    intro l hl h
    have e : l ++ x :: r = (l ++ [x]) ++ r := by simp
    rw [e]
    refine ih (l ++ [x]) (fun y hy => hl y (List.mem_cons_of_mem _ hy)) ?_
    have ox := hl x List.mem_cons_self
    obtain ⟨a1, a2, a3, a4⟩ := h
    have xn := ox.n0; have xn1 := ox.n1; have xd := ox.d0; have xd1 := ox.d1
    rw [fsum_snoc, List.length_append, List.length_singleton]
    unfold fadd
    generalize (fsum l).1 = N at *
    generalize (fsum l).2 = D at *
    generalize l.length = k at *
    refine ⟨?_, ?_, Int.mul_pos a3 xd, ?_⟩
    · have := Int.mul_nonneg a1 (Int.le_of_lt xd)
      have := Int.mul_nonneg (Int.le_of_lt xn) (Int.le_of_lt a3)
      show 0 ≤ N * x.2 + x.1 * D
      omega
    · show N * x.2 + x.1 * D < _
      have p1 : N * x.2 ≤ 2 ^ (502 * k + 1) * 2 ^ 200 := Int.mul_le_mul (Int.le_of_lt a2) xd1 (Int.le_of_lt xd) (Int.le_of_lt (pow_pos' _))
      have p2 : x.1 * D ≤ 2 ^ 300 * 2 ^ (200 * k) := Int.mul_le_mul (Int.le_of_lt xn1) a4 (Int.le_of_lt a3) (Int.le_of_lt (pow_pos' _))
      rw [← Int.pow_add] at p1 p2
      have q1 : (2 : Int) ^ (502 * k + 1 + 200) ≤ 2 ^ (502 * k + 500) := pow_mono (by omega)
      have q2 : (2 : Int) ^ (300 + 200 * k) ≤ 2 ^ (502 * k + 500) := pow_mono (by omega)
      have e2 : (2 : Int) ^ (502 * (k + 1) + 1) = 2 ^ (502 * k + 500) * 8 := by
        rw [show 502 * (k + 1) + 1 = (502 * k + 500) + 3 by omega, Int.pow_add]
        rfl
      have := pow_pos' (502 * k + 500)
      rw [e2]
      generalize (2 : Int) ^ (502 * k + 500) = z at *
      omega
    · have p : D * x.2 ≤ 2 ^ (200 * k) * 2 ^ 200 := Int.mul_le_mul a4 xd1 (Int.le_of_lt xd) (Int.le_of_lt (pow_pos' _))
      rw [← Int.pow_add] at p
      rw [show 200 * (k + 1) = 200 * k + 200 by omega]
      exact p
/-- two fractions are of one value -/
structure Alike (f g : Fr2) : Prop where
  d0 : 0 < f.2
  e : f.1 * g.2 = g.1 * f.2
theorem alike_le {f g : Fr2} (h : Alike f g) (hg : 0 < g.2) (p : Int) : f.1 ≤ p * f.2 ↔ g.1 ≤ p * g.2 := by
  have e := h.e
  have hf := h.d0
  constructor
  · intro q
    have := Int.mul_le_mul_of_nonneg_right q (Int.le_of_lt hg)
    rw [e, Int.mul_right_comm] at this
    exact Int.le_of_mul_le_mul_right this hf
  · intro q
    have := Int.mul_le_mul_of_nonneg_right q (Int.le_of_lt hf)
    rw [← e, Int.mul_right_comm] at this
    exact Int.le_of_mul_le_mul_right this hg
theorem alike_le2 {f g : Fr2} (h : Alike f g) (hg : 0 < g.2) (c m : Int) : c * f.2 ≤ m * f.1 ↔ c * g.2 ≤ m * g.1 := by
  have e := h.e
  have hf := h.d0
  have k1 : c * f.2 * g.2 = c * g.2 * f.2 := Int.mul_right_comm ..
  have k2 : m * f.1 * g.2 = m * g.1 * f.2 := by rw [Int.mul_assoc, e, Int.mul_assoc]
  constructor
  · intro q
    have := Int.mul_le_mul_of_nonneg_right q (Int.le_of_lt hg)
    rw [k1, k2] at this
    exact Int.le_of_mul_le_mul_right this hf
  · intro q
    have := Int.mul_le_mul_of_nonneg_right q (Int.le_of_lt hf)
    rw [← k1, ← k2] at this
    exact Int.le_of_mul_le_mul_right this hg
/-- in lowest terms -/
def lowest (n d : Int) : Fr2 := (n / (Int.gcd n d : Int), d / (Int.gcd n d : Int))
theorem gcd_pos {n d : Int} (hd : 0 < d) : (0 : Int) < (Int.gcd n d : Int) := by
  have : Int.gcd n d ≠ 0 := fun h => by
    have := (Int.gcd_eq_zero_iff.mp h).2
    omega
  omega
theorem lowest_mul {n d : Int} : (lowest n d).1 * (Int.gcd n d : Int) = n ∧ (lowest n d).2 * (Int.gcd n d : Int) = d :=
  ⟨Int.ediv_mul_cancel (Int.gcd_dvd_left ..), Int.ediv_mul_cancel (Int.gcd_dvd_right ..)⟩
theorem lowest_alike {n d : Int} (hd : 0 < d) : Alike (lowest n d) (n, d) := by
  have g0 := gcd_pos (n := n) hd
  obtain ⟨e1, e2⟩ := lowest_mul (n := n) (d := d)
  refine ⟨?_, ?_⟩
  · refine Classical.byContradiction fun q => ?_
    have := Int.mul_le_mul_of_nonneg_right (show (lowest n d).2 ≤ 0 by omega) (Int.le_of_lt g0)
    omega
  · show (lowest n d).1 * d = n * (lowest n d).2
    generalize hL : lowest n d = L at *
    generalize (Int.gcd n d : Int) = g at *
    rw [← e1, ← e2]
    simp only [Int.mul_assoc, Int.mul_comm, Int.mul_left_comm]
theorem lowest_le {n d : Int} (hn : 0 ≤ n) (hd : 0 < d) : 0 ≤ (lowest n d).1 ∧ (lowest n d).1 ≤ n ∧ (lowest n d).2 ≤ d := by
  have g0 := gcd_pos (n := n) hd
  refine ⟨Int.ediv_nonneg hn (by omega), Int.ediv_le_self _ hn, Int.ediv_le_self _ (by omega)⟩
theorem alike_trans {f g k : Fr2} (h1 : Alike f g) (hg : 0 < g.2) (h2 : Alike g k) : Alike f k := by
  refine ⟨h1.d0, ?_⟩
  have e1 := h1.e
  have e2 := h2.e
  refine Int.eq_of_mul_eq_mul_right (show g.2 ≠ 0 by omega) ?_
  calc f.1 * k.2 * g.2 = (f.1 * g.2) * k.2 := Int.mul_right_comm ..
    _ = g.1 * f.2 * k.2 := by rw [e1]
    _ = (g.1 * k.2) * f.2 := Int.mul_right_comm ..
    _ = k.1 * g.2 * f.2 := by rw [e2]
    _ = k.1 * f.2 * g.2 := Int.mul_right_comm ..
theorem alike_add {f g : Fr2} (h : Alike f g) {x : Fr2} (hx : 0 < x.2) : Alike (fadd f x) (fadd g x) := by
  refine ⟨Int.mul_pos h.d0 hx, ?_⟩
  have e := h.e
  unfold fadd
  show (f.1 * x.2 + x.1 * f.2) * (g.2 * x.2) = (g.1 * x.2 + x.1 * g.2) * (f.2 * x.2)
  have : f.1 * g.2 * (x.2 * x.2) = g.1 * f.2 * (x.2 * x.2) := by rw [e]
  grind
/-! Euclid's steps, counted -/
theorem euclid_half {x y : Int} (hy : 0 < y) (hxy : y < x) : 2 * (y * (x % y)) ≤ x * y := by
  have h1 := Int.emod_lt_of_pos x hy
  have h2 := Int.emod_nonneg x (show y ≠ 0 by omega)
  have h3 : 1 ≤ x / y := by
    have := (Int.le_ediv_iff_mul_le hy (a := 1) (b := x)).mpr (by omega)
    exact this
  have h4 := Int.mul_ediv_add_emod x y
  have h5 : y ≤ y * (x / y) := by
    have := Int.mul_le_mul_of_nonneg_left h3 (Int.le_of_lt hy)
    omega
  have h6 : 2 * (x % y) ≤ x := by omega
  have := Int.mul_le_mul_of_nonneg_left h6 (Int.le_of_lt hy)
  have e1 : y * (2 * (x % y)) = 2 * (y * (x % y)) := Int.mul_left_comm ..
  have e2 : y * x = x * y := Int.mul_comm ..
  omega
end Gw

namespace Gw
/-- all sets that ever were groups: few -/
def Seen (N : Net) (s : St) : Prop := ∃ all : List (List Int), all.length ≤ N.n + s.ch.length ∧ (∀ g ∈ s.gs, g ∈ all) ∧ ∀ e ∈ s.hs, e.1 ∈ all
theorem seen0 (N : Net) : Seen N (st0 N.n) := ⟨(st0 N.n).gs, by simp [st0], fun _ h => h, fun e he => absurd he List.not_mem_nil⟩
theorem Step.seen {N : Net} {s s' : St} (st : Step N s s') (h : Seen N s) : Seen N s' := by
  obtain ⟨all, h1, h2, h3⟩ := h
  have hg : ∀ t, ∀ e ∈ grown s.hs (act N.root s) t, e.1 ∈ all := fun t e he => by
    rcases mem_grown he with q | ⟨_, _, q⟩
    · exact h3 e q
    · exact h2 _ (mem_act.mp q).1
  cases st with
  | stop t g m hg' ht => exact ⟨all, h1, h2, hg t⟩
  | join t k one two new m hk o1 o2 hd hu hv ha ht hp hs =>
    refine ⟨all ++ [new], ?_, fun g hg' => ?_, fun e he => List.mem_append_left _ (hg t e he)⟩
    · show (all ++ [new]).length ≤ N.n + (s.ch ++ [k]).length
      rw [List.length_append, List.length_append]; simp; omega
    · rcases List.mem_append.mp hg' with q | q
      · exact List.mem_append_left _ (h2 g (List.mem_of_mem_erase (List.mem_of_mem_erase q)))
      · exact List.mem_append_right _ q
theorem Star.seen {N : Net} {a b : St} (h : Star N a b) : Seen N a → Seen N b := by
  induction h with
  | refl _ => exact id
  | head x _ ih => exact fun q => ih (x.seen q)

/-! the heights as fractions -/
/-- one place for each set: its heights together -/
structure Sums (hs kvs : Hts) : Prop where
  nd : (kvs.map (·.1)).Nodup
  sub : ∀ e ∈ kvs, ∃ e' ∈ hs, e'.1 = e.1
  pos : ∀ e ∈ kvs, 0 < e.2
  dvd : ∀ c : Int, (∀ e ∈ hs, c ∣ e.2) → ∀ e ∈ kvs, c ∣ e.2
  ws : ∀ f : List Int → Int, ws f kvs = ws f hs
def frac (e : List Int × Int) : List Int × Fr2 := (e.1, lowest e.2 UN)
theorem fsum_exact (l : List Fr2) (ys : List Int) (h : l.length = ys.length) (hl : ∀ i (h1 : i < l.length) (h2 : i < ys.length), 0 < (l[i]).2 ∧ (l[i]).1 * UN = ys[i] * (l[i]).2) : 0 < (fsum l).2 ∧ (fsum l).1 * UN = ys.sum * (fsum l).2 := by
  suffices H : ∀ (r : List Fr2) (zs : List Int) (l : List Fr2) (y : Int), r.length = zs.length → (∀ i (h1 : i < r.length) (h2 : i < zs.length), 0 < (r[i]).2 ∧ (r[i]).1 * UN = zs[i] * (r[i]).2) → (0 < (fsum l).2 ∧ (fsum l).1 * UN = y * (fsum l).2) →
      (0 < (fsum (l ++ r)).2 ∧ (fsum (l ++ r)).1 * UN = (y + zs.sum) * (fsum (l ++ r)).2) by
    have := H l ys [] 0 h hl ⟨by decide, by simp [fsum]⟩
    simpa using this
  intro r
  induction r with
  | nil => intro zs l y e _ h; cases zs with
    | nil => simpa using h
    | cons _ _ => simp at e
  | cons x r ih =>
    intro zs l y e hz h
    cases zs with
    | nil => simp at e
    | cons z zs =>
      have e1 : l ++ x :: r = (l ++ [x]) ++ r := by simp
      have h0 := hz 0 (by simp) (by simp)
      have h0' : 0 < x.2 ∧ x.1 * UN = z * x.2 := h0
      have := ih zs (l ++ [x]) (y + z) (by simpa using e) (fun i h1 h2 => by have := hz (i + 1) (by simpa using h1) (by simpa using h2); simpa using this) ?_
      · rw [e1, List.sum_cons, ← Int.add_assoc]; exact this
      · rw [fsum_snoc]
        unfold fadd
        refine ⟨Int.mul_pos h.1 h0'.1, ?_⟩
        have a := h.2
        have b := h0'.2
        show ((fsum l).1 * x.2 + x.1 * (fsum l).2) * UN = (y + z) * ((fsum l).2 * x.2)
        have q1 : (fsum l).1 * UN * x.2 = y * (fsum l).2 * x.2 := by rw [a]
        have q2 : x.1 * UN * (fsum l).2 = z * x.2 * (fsum l).2 := by rw [b]
        grind
theorem lowest_exact (y : Int) : 0 < (lowest y UN).2 ∧ (lowest y UN).1 * UN = y * (lowest y UN).2 :=
  ⟨(lowest_alike UN_pos).d0, (lowest_alike (n := y) UN_pos).e⟩
/-- the sum of the fractions of a part -/
theorem part_exact (kvs : Hts) (t : List Int → Bool) : 0 < (fsum (((kvs.map frac).filter fun m => t m.1).map (·.2))).2 ∧
    (fsum (((kvs.map frac).filter fun m => t m.1).map (·.2))).1 * UN = ws (fun g => if t g then 1 else 0) kvs * (fsum (((kvs.map frac).filter fun m => t m.1).map (·.2))).2 := by
  have e1 : ((kvs.map frac).filter fun m => t m.1).map (·.2) = (kvs.filter fun e => t e.1).map fun e => lowest e.2 UN := by
    induction kvs with
    | nil => rfl
    | cons e r ih =>
      by_cases h : t e.1 = true
      · rw [List.map_cons, List.filter_cons_of_pos (p := fun m : List Int × Fr2 => t m.1) h, List.filter_cons_of_pos (p := fun e : List Int × Int => t e.1) h, List.map_cons, List.map_cons, ih]; rfl
      · rw [List.map_cons, List.filter_cons_of_neg (p := fun m : List Int × Fr2 => t m.1) h, List.filter_cons_of_neg (p := fun e : List Int × Int => t e.1) h, ih]
  have e2 : ws (fun g => if t g then 1 else 0) kvs = ((kvs.filter fun e => t e.1).map (·.2)).sum := by
    rw [sum_filter]
    refine sum_map_congr fun e _ => ?_
    by_cases h : t e.1 = true
    · show (if t e.1 = true then (1 : Int) else 0) * e.2 = _
      rw [if_pos h, if_pos h, Int.one_mul]
    · show (if t e.1 = true then (1 : Int) else 0) * e.2 = _
      rw [if_neg h, if_neg h, Int.zero_mul]
  rw [e1, e2]
  refine fsum_exact _ _ (by simp) fun i h1 h2 => ?_
  simp only [List.getElem_map]
  exact lowest_exact _
theorem le_of_exact {a b s p : Int} (hb : 0 < b) (e : a * UN = s * b) (h : s ≤ p * UN) : a ≤ p * b := by
  have q := Int.mul_le_mul_of_nonneg_right h (Int.le_of_lt hb)
  rw [← e] at q
  have e2 : p * UN * b = p * b * UN := Int.mul_right_comm ..
  rw [e2] at q
  exact Int.le_of_mul_le_mul_right q UN_pos
theorem lowest_gcd {n d : Int} (hd : 0 < d) : Int.gcd (lowest n d).1 (lowest n d).2 = 1 := by
  unfold lowest
  exact Int.gcd_ediv_gcd_ediv_gcd (by have := gcd_pos (n := n) hd; omega)
theorem lowest_small {y : Int} {k : Nat} (hy : 0 < y) (hk : k ≤ 200) (h : (2 : Int) ^ (200 - k) ∣ y) : (lowest y UN).2 ≤ 2 ^ k := by
  have g0 := gcd_pos (n := y) UN_pos
  have d : (2 : Int) ^ (200 - k) ∣ (Int.gcd y UN : Int) := Int.dvd_coe_gcd h (pow_dvd (by omega))
  have le : (2 : Int) ^ (200 - k) ≤ (Int.gcd y UN : Int) := Int.le_of_dvd g0 d
  have e := (lowest_mul (n := y) (d := UN)).2
  have l0 := (lowest_exact y).1
  have m := Int.mul_le_mul_of_nonneg_left le (Int.le_of_lt l0)
  rw [e] at m
  have u : UN = 2 ^ k * 2 ^ (200 - k) := by rw [← Int.pow_add]; unfold UN; congr 1; omega
  exact Int.le_of_mul_le_mul_right (Int.le_trans m (Int.le_of_eq u)) (pow_pos' _)
theorem pair_any {α : Type} {R : α → α → Prop} {l : List α} (h : l.Pairwise R) {a b : α} (ha : a ∈ l) (hb : b ∈ l) (ne : a ≠ b) : R a b ∨ R b a := by
  obtain ⟨i, hi, rfl⟩ := List.mem_iff_getElem.mp ha
  obtain ⟨j, hj, rfl⟩ := List.mem_iff_getElem.mp hb
  have q := List.pairwise_iff_getElem.mp h
  rcases Nat.lt_trichotomy i j with c | c | c
  · exact .inl (q i j hi hj c)
  · subst c; exact absurd rfl ne
  · exact .inr (q j i hj hi c)
end Gw

namespace Gw
/-- few heights -/
def Few (N : Net) (s : St) : Prop := (s.hs.length : Int) + N.n * mu s ≤ 2 * N.n * N.n ∧ (s.sp.length : Int) + mu s ≤ 2 * N.n
structure Fit (N : Net) (s : St) : Prop extends Good N s where
  few : Few N s
  seen : Seen N s
theorem part_len {N : Net} {s : St} (I : Inv N s) : s.gs.length ≤ N.n := by have := I.len; omega
theorem act_len {N : Net} {s : St} (I : Inv N s) : (act N.root s).length ≤ N.n := Nat.le_trans (List.length_filter_le ..) (part_len I)
theorem grown_len {hs : Hts} {A : List (List Int)} {t : Int} : (grown hs A t).length ≤ hs.length + A.length := by
  unfold grown
  split
  · rw [List.length_append, List.length_map]; exact Nat.le_refl _
  · omega
theorem Step.hs {N : Net} {s s' : St} (st : Step N s s') : s'.hs.length ≤ s.hs.length + (act N.root s).length := by
  cases st with
  | stop t g m hg ht => exact grown_len
  | join t k one two new m hk o1 o2 hd hu hv ha ht hp hs => exact grown_len
theorem Step.sp1 {N : Net} {s s' : St} (st : Step N s s') : s'.sp.length ≤ s.sp.length + 1 := by
  cases st with
  | stop t g m hg ht => show (s.sp ++ [g]).length ≤ _; rw [List.length_append]; exact Nat.le_refl _
  | join t k one two new m hk o1 o2 hd hu hv ha ht hp hs => show s.sp.length ≤ _; omega
theorem Step.fit {N : Net} (o : N.Ok) {s s' : St} (st : Step N s s') (h : Fit N s) : Fit N s' ∧ mu s' < mu s := by
  obtain ⟨g, m⟩ := st.good o h.toGood
  refine ⟨⟨g, ?_, st.seen h.seen⟩, m⟩
  have a := h.few
  have b := st.hs
  have c := act_len h.I
  unfold Few at *
  have d := Int.mul_le_mul_of_nonneg_left (show mu s' ≤ mu s - 1 by omega) (show (0 : Int) ≤ N.n by omega)
  rw [Int.mul_sub] at d
  have e := st.sp1
  omega
theorem st0_fit {N : Net} (o : N.Ok) : Fit N (st0 N.n) := by
  refine ⟨st0_good o, ?_, seen0 N⟩
  have a := mu_le (st0_good o).I
  have d := Int.mul_le_mul_of_nonneg_left a (show (0 : Int) ≤ N.n by omega)
  have e : (N.n : Int) * (2 * N.n) = 2 * N.n * N.n := by grind
  refine ⟨?_, ?_⟩
  · show ((0 : Nat) : Int) + _ ≤ _
    omega
  · show ((0 : Nat) : Int) + _ ≤ _
    omega
theorem Fit.sp_len {N : Net} (o : N.Ok) {s : St} (h : Fit N s) : s.sp.length ≤ 80 := by
  have a := h.few.2
  have b := mu_nn s
  have n9 := o.n9
  omega
theorem Fit.len {N : Net} (o : N.Ok) {s : St} (h : Fit N s) : s.hs.length ≤ 3200 := by
  have a := h.few
  have b := mu_nn s
  have n9 := o.n9
  unfold Few at a
  have c := Int.mul_nonneg (show (0 : Int) ≤ N.n by omega) b
  have d := Int.mul_le_mul (show (N.n : Int) ≤ 40 by omega) (show (N.n : Int) ≤ 40 by omega) (by omega) (by decide)
  have e : (2 : Int) * N.n * N.n = 2 * (N.n * N.n) := Int.mul_assoc ..
  omega
theorem Tree.perm {N : Net} {f : St} {T C : List Int} (h : Tree N f T) (p : C.Perm T) : Tree N f C := by
  have m : ∀ k, k ∈ C ↔ k ∈ T := fun k => p.mem_iff
  have l : ∀ v, Lost N C v ↔ Lost N T v := fun v => by
    unfold Lost
    exact and_congr Iff.rfl (and_congr Iff.rfl ⟨fun q k hk => q k ((m k).mpr hk), fun q k hk => q k ((m k).mp hk)⟩)
  refine ⟨fun X x0 cl k hk => h.cT X x0 (fun j hj => cl j ((m j).mpr hj)) k ((m k).mp hk), fun k hk => h.hT k ((m k).mp hk), p.nodup_iff.mpr h.nT, fun v hv => ?_⟩
  obtain ⟨S, hS, a, b⟩ := h.cov v ((l v).mp hv)
  exact ⟨S, hS, a, fun w hw => (l w).mpr (b w hw)⟩
theorem dT_perm {N : Net} {T C g : List Int} (p : C.Perm T) : dT N C g = dT N T g := sum_perm p
end Gw

namespace Gw
open Classical in
/-- a height more at its set -/
noncomputable def putS (kv : Hts) (g : List Int) (t : Int) : Hts := if g ∈ kv.map (·.1) then kv.map (fun e => if e.1 = g then (e.1, e.2 + t) else e) else kv ++ [(g, t)]
theorem putS_in {kv : Hts} {g : List Int} {t : Int} (h : g ∈ kv.map (·.1)) : putS kv g t = kv.map (fun e => if e.1 = g then (e.1, e.2 + t) else e) := if_pos h
theorem putS_out {kv : Hts} {g : List Int} {t : Int} (h : g ∉ kv.map (·.1)) : putS kv g t = kv ++ [(g, t)] := if_neg h
theorem keys_map (kv : Hts) (g : List Int) (t : Int) : (kv.map (fun e => if e.1 = g then (e.1, e.2 + t) else e)).map (·.1) = kv.map (·.1) := by
  rw [List.map_map]
  refine List.map_congr_left fun e _ => ?_
  show (if e.1 = g then (e.1, e.2 + t) else e).1 = e.1
  split <;> rfl
theorem ws_map_out {f : List Int → Int} {g : List Int} {t : Int} : ∀ {kv : Hts}, g ∉ kv.map (·.1) → ws f (kv.map (fun e => if e.1 = g then (e.1, e.2 + t) else e)) = ws f kv
  | [], _ => rfl
  | e :: r, h => by
    have h1 : ¬ e.1 = g := fun z => h (by rw [List.map_cons, z]; exact List.mem_cons_self)
    have h2 : g ∉ r.map (·.1) := fun z => h (List.mem_cons_of_mem _ z)
    rw [List.map_cons, if_neg h1, ws_cons, ws_cons, ws_map_out h2]
theorem ws_map_in {f : List Int → Int} {g : List Int} {t : Int} : ∀ {kv : Hts}, (kv.map (·.1)).Nodup → g ∈ kv.map (·.1) → ws f (kv.map (fun e => if e.1 = g then (e.1, e.2 + t) else e)) = ws f kv + f g * t
  | [], _, h => absurd h List.not_mem_nil
  | e :: r, n, h => by
    rw [List.map_cons] at n h
    obtain ⟨n1, n2⟩ := List.nodup_cons.mp n
    by_cases c : e.1 = g
    · subst c
      rw [List.map_cons, if_pos rfl, ws_cons, ws_cons, ws_map_out n1]
      show f e.1 * (e.2 + t) + _ = _
      rw [Int.mul_add]; omega
    · have h2 : g ∈ r.map (·.1) := (List.mem_cons.mp h).resolve_left fun z => c z.symm
      rw [List.map_cons, if_neg c, ws_cons, ws_cons, ws_map_in n2 h2]; omega
theorem ws_putS {f : List Int → Int} {kv : Hts} {g : List Int} {t : Int} (n : (kv.map (·.1)).Nodup) : ws f (putS kv g t) = ws f kv + f g * t := by
  by_cases h : g ∈ kv.map (·.1)
  · rw [putS_in h, ws_map_in n h]
  · rw [putS_out h, ws_append, ws_cons, ws_nil, Int.add_zero]
theorem mem_putS {kv : Hts} {g : List Int} {t : Int} {e : List Int × Int} (h : e ∈ putS kv g t) : e ∈ kv ∨ (e.1 = g ∧ (e.2 = t ∨ ∃ e0 ∈ kv, e0.1 = g ∧ e.2 = e0.2 + t)) := by
  by_cases c : g ∈ kv.map (·.1)
  · rw [putS_in c] at h
    obtain ⟨e0, h0, rfl⟩ := List.mem_map.mp h
    by_cases q : e0.1 = g
    · rw [if_pos q]; exact .inr ⟨q, .inr ⟨e0, h0, q, rfl⟩⟩
    · rw [if_neg q]; exact .inl h0
  · rw [putS_out c] at h
    rcases List.mem_append.mp h with q | q
    · exact .inl q
    · rw [List.mem_singleton] at q
      subst q
      exact .inr ⟨rfl, .inl rfl⟩
theorem Sums.nil : Sums [] [] := ⟨List.nodup_nil, fun _ h => (List.not_mem_nil h).elim, fun _ h => (List.not_mem_nil h).elim, fun _ _ _ h => (List.not_mem_nil h).elim, fun _ => rfl⟩
theorem Sums.put {hs kv : Hts} {g : List Int} {t : Int} (S : Sums hs kv) (ht : 0 < t) : Sums (hs ++ [(g, t)]) (putS kv g t) := by
  refine ⟨?_, fun e he => ?_, fun e he => ?_, fun c hc e he => ?_, fun f => ?_⟩
  · by_cases c : g ∈ kv.map (·.1)
    · rw [putS_in c, keys_map]; exact S.nd
    · rw [putS_out c, List.map_append]
      refine List.nodup_append.mpr ⟨S.nd, List.nodup_cons.mpr ⟨List.not_mem_nil, List.nodup_nil⟩, fun a ha b hb e => ?_⟩
      rw [List.map_cons, List.map_nil, List.mem_singleton] at hb
      rw [e, hb] at ha
      exact c ha
  · rcases mem_putS he with q | ⟨q, _⟩
    · obtain ⟨e', h1, h2⟩ := S.sub e q
      exact ⟨e', List.mem_append_left _ h1, h2⟩
    · exact ⟨(g, t), List.mem_append_right _ (List.mem_singleton.mpr rfl), q.symm⟩
  · rcases mem_putS he with q | ⟨_, q | ⟨e0, h0, _, q⟩⟩
    · exact S.pos e q
    · omega
    · have := S.pos e0 h0; omega
  · have ct := hc (g, t) (List.mem_append_right _ (List.mem_singleton.mpr rfl))
    have cs := S.dvd c fun x hx => hc x (List.mem_append_left _ hx)
    rcases mem_putS he with q | ⟨_, q | ⟨e0, h0, _, q⟩⟩
    · exact cs e q
    · rw [q]; exact ct
    · rw [q]; exact Int.dvd_add (cs e0 h0) ct
  · rw [ws_putS S.nd, S.ws, ws_append, ws_cons, ws_nil, Int.add_zero]
end Gw

/-! own rules for the walk: items of lists stored by an operator, list.remove of data, sorted of labels, repr of data -/
namespace K5
open PySem PySem.Spec PyProof.Rows L2
section
variable {X : Cx}
/-- an item of a list, by values -/
def rGetL (K : PySem.W.Frag) : V → V → Hp → VK → Prop := fun o i H Q => ∃ (p : Addr) (xs : List V) (j : Nat) (v : V), o = .ref p ∧ i = .int (j : Int) ∧ SqL K H p xs ∧ xs[j]? = some v ∧ Q v H
theorem get_list : PGet X (rGetL X.K) := by
  intro pins s σ H o i ov iv Q I ro ri h
  obtain ⟨p, xs, j, v, rfl, rfl, hs, he, q⟩ := h
  cases ro
  obtain ⟨t, rfl⟩ := ri
  obtain ⟨its, r, pl, hz⟩ := I.list hs
  obtain ⟨w, ew, rw'⟩ := r.get he
  have hl := r.length
  have hj : j < xs.length := (List.getElem?_eq_some_iff.mp he).1
  have hn := line63
  exact wpAny_getItem_list pl.isList (by omega) (by omega) (by simpa using ew) ⟨v, H, I, rw', q⟩
/-- l.remove(y), data at any depth: the first that is == y goes -/
def rRemD (K : PySem.W.Frag) : V → List V → Hp → VK → Prop := fun x xs H Q => ∃ (l : Addr) (y : V) (vs : List V) (ds : List PyData) (d : PyData) (j : Nat), x = .ref l ∧ xs = [y] ∧ H l = some (.lst vs) ∧ DpAll K H vs ds ∧ Dp K H y d ∧
  PyData.plainAll ds = true ∧ d.plain = true ∧ d.depth ≤ 40 ∧ SeqAt.dataPlace ds d = some j ∧ Q .non (upd H l (.lst (vs.eraseIdx j)))
theorem mt_removeD (hu : X.A.units + 64 < cLine) : MtR X "list.remove" (rRemD X.K) := by
  intro pins s σ H x xs v us Q I rx rxs h
  obtain ⟨l, y, vs, ds, d, j, rfl, rfl, hH, hds, hd, p1, p2, hdep, hp, q⟩ := h
  cases rx
  obtain ⟨u, rfl, ru⟩ := rxs.one
  obtain ⟨z, its, n, r, hl, e⟩ := I.lstM hH
  obtain ⟨as, ha⟩ := Dp.readsAll I ds _ its hds r
  obtain ⟨bs, hb⟩ := Dp.reads I d _ u hd ru
  have hL : s.heap.IsList l its.toArray := (show PlainL s.heap l its.toArray from ⟨_, n, e, rfl, rfl, rfl⟩).isList
  refine SeqAt.remove_list_data (vs := its.toArray) (xs := ds) hL (by simpa using ha) hb p1 p2 (by omega) hp (by rw [List.size_toArray]; omega) ?_
  refine ⟨.non, _, I.lset (its' := its.eraseIdx j) (t' := s.toks) hH e ?_ (r.eraseIdx j) ?_, rfl, q⟩
  · show its.toArray.eraseIdxIfInBounds j = (its.eraseIdx j).toArray
    rw [List.eraseIdxIfInBounds_toArray]
  · have z2 := len_erase vs j
    omega
/-- a label: a price, a number, a list of numbers -/
def encLab (b : Int × Int × List Int) : PyData := .tuple [.int b.1, .int b.2.1, .list (b.2.2.map .int)]
theorem alike_ints : ∀ (a b : List Int), PySem.W.alikeAll (a.map .int) (b.map .int) = true
  | [], _ => by simp [PySem.W.alikeAll]
  | _ :: _, [] => by simp [PySem.W.alikeAll]
  | x :: a, y :: b => by simp [PySem.W.alikeAll, PySem.W.alike, alike_ints a b]
theorem alike_lab (a b : Int × Int × List Int) : PySem.W.alike (encLab a) (encLab b) = true := by
  simp [encLab, PySem.W.alikeAll, PySem.W.alike, alike_ints]
theorem depth_ints : ∀ l : List Int, PyData.depthAll (l.map .int) ≤ 1
  | [] => by simp [PyData.depthAll]
  | x :: l => by
    have := depth_ints l
    simp [PyData.depthAll, PyData.depth]; omega
theorem depth_lab (b : Int × Int × List Int) : (encLab b).depth ≤ 5 := by
  have := depth_ints b.2.2
  simp only [encLab, PyData.depth, PyData.depthAll]
  omega
/-- sorted(labels): some arrangement of them -/
def rSortedLab (K : PySem.W.Frag) : List V → Hp → VK → Prop := fun vs H Q => ∃ (a : Addr) (xs : List V) (bs : List (Int × Int × List Int)), vs = [.ref a] ∧ SqL K H a xs ∧ Paired (fun x b => Dp K H x (encLab b)) xs bs ∧
  ∀ (ys : List V) (p : Addr), ys.Perm xs → H p = none → Q (.ref p) (upd H p (.lst ys))
theorem cr_sortedLab (hu : X.A.units + 64 < cLine) : CallR X (.builtin "sorted") (rSortedLab X.K) := by
  intro pins s σ H vs us Q I r h
  obtain ⟨a, xs, bs, rfl, hs, hp, q⟩ := h
  obtain ⟨its, rv, hl, hz⟩ := I.list hs
  rw [Vals.ref1 r]
  have e2 : ∀ {xs : List V} {its : List Value} {bs : List (Int × Int × List Int)}, Vals xs its → Paired (fun x b => Dp X.K H x (encLab b)) xs bs →
      PySem.W.EachIs (fun v (b : V × (Int × Int × List Int)) => RelV b.1 v) its (xs.zip bs) ∧ PySem.W.EachIs (fun v (b : V × (Int × Int × List Int)) => ∃ as, Reads s.heap v (encLab b.2) as) its (xs.zip bs) ∧ (xs.zip bs).map (·.1) = xs := by
    intro xs its bs rv hp
    induction hp generalizing its with
    | nil => cases rv; exact ⟨.nil, .nil, rfl⟩
    | cons h1 _ ih =>
      cases rv with
      | cons r1 r2 =>
        obtain ⟨i1, i2, i3⟩ := ih r2
        exact ⟨.cons r1 i1, .cons (Dp.reads I _ _ _ h1 r1) i2, congrArg (_ :: ·) i3⟩
  obtain ⟨e3, e4, e5⟩ := e2 rv hp
  have lz : (xs.zip bs).length = xs.length := by rw [← e5, List.length_map, e5]
  refine PySem.W.sorted_data (enc := fun b => encLab b.2) hl.isList e3 e4 (PySem.W.AllAlike.of fun b b' => alike_lab _ _) (PySem.W.Sortable.tuples fun b => ⟨_, _, rfl⟩) (by omega) (fun b _ => ?_) fun out ho eo => ?_
  · have := depth_lab b.2
    omega
  · obtain ⟨ep, he'⟩ := PyProof.Rows.sortedAll_at s.heap its out.toArray
    have vo : ∀ {out : List Value} {l : List (V × (Int × Int × List Int))}, PySem.W.EachIs (fun v (b : V × (Int × Int × List Int)) => RelV b.1 v) out l → Vals (l.map (·.1)) out := by
      intro out l h
      induction h with
      | nil => exact .nil
      | cons h1 _ ih => exact .cons h1 ih
    have perm : (((xs.zip bs).mergeSort (PySem.W.dataLe false fun b => encLab b.2)).map (·.1)).Perm xs := by
      have := (List.mergeSort_perm (xs.zip bs) (PySem.W.dataLe false fun b => encLab b.2)).map (·.1)
      rwa [e5] at this
    have hlen : (((xs.zip bs).mergeSort (PySem.W.dataLe false fun b => encLab b.2)).map (·.1)).length ≤ sizeLine := by rw [perm.length_eq]; exact hz
    exact ⟨.ref _, upd H (s.heap.objs.size + 1) (.lst _), I.laid (t' := s.toks) (fun _ _ => PyProof.Rows.sortedAll_old) (Nat.le_succ _) ⟨hlen, out, ep, vo eo, he'⟩, rfl, q _ _ perm (I.hok.fresh (Nat.le_succ _))⟩
/-- repr(d), d a list or a tuple of data -/
def rRepr (K : PySem.W.Frag) : List V → Hp → VK → Prop := fun vs H Q => ∃ (a : Addr) (d : PyData), vs = [.ref a] ∧ Dp K H (.ref a) d ∧ d.showable = true ∧ d.hasDict = false ∧ d.depth ≤ 40 ∧ d.shown.length ≤ sizeLine ∧ Q (.str d.shown) H
theorem cr_repr (hg : X.A.guards = some []) (hu : X.A.units + 64 < cLine) : CallR X (.builtin "repr") (rRepr X.K) := by
  intro pins s σ H vs us Q I r h
  obtain ⟨a, d, rfl, hd, h1, h2, h3, h4, q⟩ := h
  rw [Vals.ref1 r]
  obtain ⟨as, hr⟩ := Dp.reads I d _ (.ref a) hd rfl
  exact repr_of_reads' hr h1 (PyData.noDict_hsm h2) hg (by omega) (fun _ _ e => e) (fun h' u tk hk => ⟨.str d.shown, H, I.kept hk, ⟨u, rfl⟩, q⟩) h4
end
end K5

namespace K5
open PySem PySem.Spec PyProof.Rows L2
/-! ### fields -/
theorem lk_hit {a : Str} {v : V} {r : List (Str × V)} : List.lookup a ((a, v) :: r) = some v := by simp [List.lookup]
theorem lk_miss {a b : Str} {v : V} {r : List (Str × V)} (h : ¬ a = b) : List.lookup a ((b, v) :: r) = List.lookup a r := by
  rw [List.lookup_cons, beq_false_of_ne h]
/-- the fields of a network -/
def nf (n : Int) (le : Addr) : List (Str × V) := [("_size", V.int n), ("_edges", V.ref le)]
theorem nf_size (n : Int) (le : Addr) : (nf n le).lookup ("_size" : Str) = some (V.int n) := lk_hit
theorem nf_edges (n : Int) (le : Addr) : (nf n le).lookup ("_edges" : Str) = some (V.ref le) := (lk_miss (by decide +kernel)).trans lk_hit
theorem nf_no (n : Int) (le : Addr) {m : Str} (h1 : ¬ m = "_size") (h2 : ¬ m = "_edges") : (nf n le).lookup m = none := (lk_miss h1).trans (lk_miss h2)
/-! ### heaps -/
section
variable {K : PySem.W.Frag} {H H0 H1 H' : Hp} {a p : Addr} {o u : HO} {xs : List V}
theorem Rd.mono (s : Same H H') (h : Rd H a u) : Rd H' a u := h.imp (s _ _) fun ⟨o, q⟩ => ⟨o, s _ _ q⟩
theorem SqT.mono (s : Same H H') (h : SqT K H a xs) : SqT K H' a xs := h.imp (Rd.mono s) id
theorem SqL.mono (s : Same H H') (h : SqL K H a xs) : SqL K H' a xs := s.seq h
theorem Same.new (h : H p = none) : Same H (upd H p o) := fun b u e => by rw [upd_ne (ne_of_none e h)]; exact e
/-- what is stored at a place that H0 does not track keeps H0 -/
theorem Same.put (s : Same H0 H) (h : H0 p = none) : Same H0 (upd H p o) := fun b u e => by rw [upd_ne (ne_of_none e h)]; exact s b u e
/-- the heap without the places of L -/
def off (L : List Addr) (H : Hp) : Hp := fun b => if b ∈ L then none else H b
theorem off_in {L : List Addr} (h : a ∈ L) : off L H a = none := if_pos h
theorem off_out {L : List Addr} (h : a ∉ L) : off L H a = H a := if_neg h
theorem off_sub (L : List Addr) : Same (off L H) H := fun b u e => by
  by_cases h : b ∈ L
  · rw [off_in h] at e; cases e
  · rw [off_out h] at e; exact e
theorem off_mono {L : List Addr} (s : Same H H') : Same (off L H) (off L H') := fun b u e => by
  by_cases h : b ∈ L
  · rw [off_in h] at e; cases e
  · rw [off_out h] at e ⊢; exact s _ _ e
theorem off_put {L : List Addr} (h : p ∈ L) : off L (upd H p o) = off L H := by
  funext b
  by_cases hb : b ∈ L
  · rw [off_in hb, off_in hb]
  · have ne : b ≠ p := fun e => hb (by rw [e]; exact h)
    rw [off_out hb, off_out hb, upd_ne ne]
/-- all that H0 tracks lies in the rest -/
theorem Same.off {L : List Addr} (s : Same H0 H) (h : ∀ b ∈ L, H0 b = none) : Same H0 (off L H) := fun b u e => by
  rw [off_out fun m => by rw [h b m] at e; cases e]; exact s b u e
end
/-! ### what values stand for -/
abbrev Ed := Int × Int × Int
abbrev Fr2 := Int × Int
abbrev Mo := List Int × (Int × Int)
section
variable (K : PySem.W.Frag) (H : Hp)
def IsIs (v : V) (l : List Int) : Prop := ∃ a, v = .ref a ∧ SqL K H a (l.map V.int)
def IsFr (v : V) (f : Int × Int) : Prop := ∃ a, v = .ref a ∧ SqT K H a [.int f.1, .int f.2]
def IsEd (v : V) (e : Ed) : Prop := ∃ a, v = .ref a ∧ SqT K H a [.int e.1, .int e.2.1, .int e.2.2]
def IsMo (v : V) (m : Mo) : Prop := ∃ a g h, v = .ref a ∧ SqT K H a [g, h] ∧ IsIs K H g m.1 ∧ IsFr K H h m.2
def IsHt (v : V) (e : List Int × Int) : Prop := ∃ a g, v = .ref a ∧ SqT K H a [g, .int e.2] ∧ IsIs K H g e.1
def IsL {β : Type} (R : V → β → Prop) (v : V) (l : List β) : Prop := ∃ a xs, v = .ref a ∧ SqL K H a xs ∧ Paired R xs l
/-- a network at p -/
def NetAt (C : Addr) (n : Nat) (es : List Ed) (v : V) : Prop := ∃ p dx le xs, v = .ref p ∧ H p = some (.ins C dx (nf n le)) ∧ H le = some (.lst xs) ∧ Paired (IsEd K H) xs es
end
section
variable {K : PySem.W.Frag} {H H' : Hp}
theorem IsIs.mono (s : Same H H') {v l} (h : IsIs K H v l) : IsIs K H' v l := let ⟨a, e, q⟩ := h; ⟨a, e, SqL.mono s q⟩
theorem IsFr.mono (s : Same H H') {v l} (h : IsFr K H v l) : IsFr K H' v l := let ⟨a, e, q⟩ := h; ⟨a, e, SqT.mono s q⟩
theorem IsEd.mono (s : Same H H') {v l} (h : IsEd K H v l) : IsEd K H' v l := let ⟨a, e, q⟩ := h; ⟨a, e, SqT.mono s q⟩
theorem IsMo.mono (s : Same H H') {v l} (h : IsMo K H v l) : IsMo K H' v l := let ⟨a, g, x, e, q, r, t⟩ := h; ⟨a, g, x, e, SqT.mono s q, r.mono s, t.mono s⟩
theorem IsHt.mono (s : Same H H') {v l} (h : IsHt K H v l) : IsHt K H' v l := let ⟨a, g, e, q, r⟩ := h; ⟨a, g, e, SqT.mono s q, r.mono s⟩
theorem IsL.mono {β : Type} {R R' : V → β → Prop} (s : Same H H') (hR : ∀ v b, R v b → R' v b) {v l} (h : IsL K H R v l) : IsL K H' R' v l :=
  let ⟨a, xs, e, q, r⟩ := h; ⟨a, xs, e, SqL.mono s q, r.mono hR⟩
theorem NetAt.mono {C : Addr} {n : Nat} {es : List Ed} {v : V} (s : Same H H') (h : NetAt K H C n es v) : NetAt K H' C n es v :=
  let ⟨p, dx, le, xs, e, q, r, t⟩ := h; ⟨p, dx, le, xs, e, s _ _ q, s _ _ r, t.mono fun _ _ => IsEd.mono s⟩
end
/-! ### pairs of lists -/
section
variable {α β : Type} {F : α → β → Prop}
theorem Paired.at : ∀ {l₁ : List α} {l₂ : List β} {i : Nat} {x : α}, Paired F l₁ l₂ → l₁[i]? = some x → ∃ y, l₂[i]? = some y ∧ F x y
  | _, _, _, _, .nil, e => by simp at e
  | _, _, 0, _, .cons r _, e => by simp at e; subst e; exact ⟨_, rfl, r⟩
  | _, _, i + 1, x, .cons _ t, e => by
    obtain ⟨y, h1, h2⟩ := Paired.at (i := i) (x := x) t (by simpa using e)
    exact ⟨y, by simpa using h1, h2⟩
theorem Paired.at2 : ∀ {l₁ : List α} {l₂ : List β} {i : Nat} {y : β}, Paired F l₁ l₂ → l₂[i]? = some y → ∃ x, l₁[i]? = some x ∧ F x y
  | _, _, _, _, .nil, e => by simp at e
  | _, _, 0, _, .cons r _, e => by simp at e; subst e; exact ⟨_, rfl, r⟩
  | _, _, i + 1, y, .cons _ t, e => by
    obtain ⟨x, h1, h2⟩ := Paired.at2 (i := i) (y := y) t (by simpa using e)
    exact ⟨x, by simpa using h1, h2⟩
theorem Paired.app : ∀ {a c : List α} {b d : List β}, Paired F a b → Paired F c d → Paired F (a ++ c) (b ++ d)
  | _, _, _, _, .nil, s => s
  | _, _, _, _, .cons r t, s => .cons r (Paired.app t s)
theorem Paired.filt {f : α → Bool} {g : β → Bool} (h : ∀ a b, F a b → f a = g b) : ∀ {a : List α} {b : List β}, Paired F a b → Paired F (a.filter f) (b.filter g)
  | _, _, .nil => .nil
  | x :: _, y :: _, .cons r t => by
    by_cases e : f x = true
    · rw [List.filter_cons_of_pos e, List.filter_cons_of_pos (by rw [← h _ _ r]; exact e)]; exact .cons r (Paired.filt h t)
    · rw [List.filter_cons_of_neg e, List.filter_cons_of_neg (by rw [← h _ _ r]; exact e)]; exact Paired.filt h t
theorem Paired.er : ∀ {a : List α} {b : List β} (i : Nat), Paired F a b → Paired F (a.eraseIdx i) (b.eraseIdx i)
  | _, _, _, .nil => .nil
  | _, _, 0, .cons _ t => t
  | _, _, i + 1, .cons r t => .cons r (Paired.er i t)
theorem Paired.tak : ∀ {a : List α} {b : List β} (i : Nat), Paired F a b → Paired F (a.take i) (b.take i)
  | _, _, 0, _ => .nil
  | _, _, _ + 1, .nil => .nil
  | _, _, i + 1, .cons r t => .cons r (Paired.tak i t)
theorem Paired.dro : ∀ {a : List α} {b : List β} (i : Nat), Paired F a b → Paired F (a.drop i) (b.drop i)
  | _, _, 0, h => h
  | _, _, _ + 1, .nil => .nil
  | _, _, i + 1, .cons _ t => Paired.dro i t
theorem Paired.seti {x : α} {y : β} (r : F x y) : ∀ {a : List α} {b : List β} (i : Nat), Paired F a b → Paired F (a.set i x) (b.set i y)
  | _, _, _, .nil => .nil
  | _, _, 0, .cons _ t => .cons r t
  | _, _, i + 1, .cons q t => .cons q (Paired.seti r i t)
theorem Paired.mp {γ : Type} {G : α → γ → Prop} {f : β → γ} (h : ∀ a b, F a b → G a (f b)) : ∀ {a : List α} {b : List β}, Paired F a b → Paired G a (b.map f)
  | _, _, .nil => .nil
  | _, _, .cons r t => .cons (h _ _ r) (Paired.mp h t)
theorem Paired.mp1 {γ : Type} {G : γ → β → Prop} {f : α → γ} (h : ∀ a b, F a b → G (f a) b) : ∀ {a : List α} {b : List β}, Paired F a b → Paired G (a.map f) b
  | _, _, .nil => .nil
  | _, _, .cons r t => .cons (h _ _ r) (Paired.mp1 h t)
end
/-! ### data for == -/
def encIs (l : List Int) : PyData := .list (l.map .int)
def encFr (f : Int × Int) : PyData := .tuple [.int f.1, .int f.2]
def encEd (e : Ed) : PyData := .tuple [.int e.1, .int e.2.1, .int e.2.2]
def encMo (m : Mo) : PyData := .tuple [encIs m.1, encFr m.2]
section
variable {K : PySem.W.Frag} {H H' : Hp}
theorem dp_ints : ∀ l : List Int, DpAll K H (l.map V.int) (l.map PyData.int)
  | [] => .nil
  | x :: l => .cons (.int x) (dp_ints l)
theorem IsIs.dp {v l} (h : IsIs K H v l) : Dp K H v (encIs l) := by
  obtain ⟨a, rfl, q⟩ := h
  exact .lst q (dp_ints l)
theorem IsFr.dp {v f} (h : IsFr K H v f) : Dp K H v (encFr f) := by
  obtain ⟨a, rfl, q⟩ := h
  exact .tup q (.cons (.int _) (.cons (.int _) .nil))
theorem IsEd.dp {v f} (h : IsEd K H v f) : Dp K H v (encEd f) := by
  obtain ⟨a, rfl, q⟩ := h
  exact .tup q (.cons (.int _) (.cons (.int _) (.cons (.int _) .nil)))
theorem IsMo.dp {v m} (h : IsMo K H v m) : Dp K H v (encMo m) := by
  obtain ⟨a, g, x, rfl, q, r, t⟩ := h
  exact .tup q (.cons r.dp (.cons t.dp .nil))
theorem dp_all {β : Type} {R : V → β → Prop} {enc : β → PyData} (h : ∀ v b, R v b → Dp K H v (enc b)) : ∀ {xs : List V} {l : List β}, Paired R xs l → DpAll K H xs (l.map enc)
  | _, _, .nil => .nil
  | _, _, .cons r t => .cons (h _ _ r) (dp_all h t)
theorem IsL.dp {β : Type} {R : V → β → Prop} {enc : β → PyData} (h : ∀ v b, R v b → Dp K H v (enc b)) {v l} (q : IsL K H R v l) : Dp K H v (.list (l.map enc)) := by
  obtain ⟨a, xs, rfl, q, r⟩ := q
  exact .lst q (dp_all h r)
end
theorem eqv_ints : ∀ a b : List Int, PyData.eqvAll (a.map .int) (b.map .int) = decide (a = b)
  | [], [] => by simp [PyData.eqvAll]
  | [], _ :: _ => by simp [PyData.eqvAll]
  | _ :: _, [] => by simp [PyData.eqvAll]
  | x :: a, y :: b => by
    simp only [List.map_cons, PyData.eqvAll, PyData.eqv, eqv_ints a b]
    by_cases h : x = y <;> by_cases h2 : a = b <;> simp [h, h2]
theorem eqv_is (a b : List Int) : PyData.eqv (encIs a) (encIs b) = decide (a = b) := by simp only [encIs, PyData.eqv, eqv_ints]
theorem eqv_fr (a b : Int × Int) : PyData.eqv (encFr a) (encFr b) = decide (a = b) := by
  obtain ⟨a1, a2⟩ := a; obtain ⟨b1, b2⟩ := b
  simp only [encFr, PyData.eqv, PyData.eqvAll]
  by_cases h : a1 = b1 <;> by_cases h2 : a2 = b2 <;> simp [h, h2]
theorem eqv_ed (a b : Ed) : PyData.eqv (encEd a) (encEd b) = decide (a = b) := by
  obtain ⟨a1, a2, a3⟩ := a; obtain ⟨b1, b2, b3⟩ := b
  simp only [encEd, PyData.eqv, PyData.eqvAll]
  by_cases h : a1 = b1 <;> by_cases h2 : a2 = b2 <;> by_cases h3 : a3 = b3 <;> simp [h, h2, h3]
theorem eqv_all {β : Type} {enc : β → PyData} [DecidableEq β] (h : ∀ a b, PyData.eqv (enc a) (enc b) = decide (a = b)) : ∀ a b : List β, PyData.eqvAll (a.map enc) (b.map enc) = decide (a = b)
  | [], [] => by simp [PyData.eqvAll]
  | [], _ :: _ => by simp [PyData.eqvAll]
  | _ :: _, [] => by simp [PyData.eqvAll]
  | x :: a, y :: b => by
    simp only [List.map_cons, PyData.eqvAll, h, eqv_all h a b]
    by_cases h : x = y <;> by_cases h2 : a = b <;> simp [h, h2]
theorem eqv_list {β : Type} {enc : β → PyData} [DecidableEq β] (h : ∀ a b, PyData.eqv (enc a) (enc b) = decide (a = b)) (a b : List β) : PyData.eqv (.list (a.map enc)) (.list (b.map enc)) = decide (a = b) := by
  simp only [PyData.eqv, eqv_all h]
theorem lay_ints : ∀ l : List Int, PyData.canLayAll0 (l.map .int) = true
  | [] => by simp [PyData.canLayAll0]
  | x :: l => by simp [PyData.canLayAll0, PyData.canLay0, lay_ints l]
theorem lay_all {β : Type} {enc : β → PyData} (h : ∀ b, (enc b).canLay0 = true) : ∀ l : List β, PyData.canLayAll0 (l.map enc) = true
  | [] => by simp [PyData.canLayAll0]
  | x :: l => by simp [PyData.canLayAll0, h, lay_all h l]
theorem dep_all {β : Type} {enc : β → PyData} {k : Nat} (h : ∀ b, (enc b).depth ≤ k) : ∀ l : List β, PyData.depthAll (l.map enc) ≤ k
  | [] => by simp [PyData.depthAll]
  | x :: l => by
    have := dep_all h l
    have := h x
    simp only [List.map_cons, PyData.depthAll]; omega
theorem lay_is (l : List Int) : (encIs l).canLay0 = true := by simp [encIs, PyData.canLay0, lay_ints]
theorem lay_fr (f : Int × Int) : (encFr f).canLay0 = true := by simp [encFr, PyData.canLay0, PyData.canLayAll0]
theorem lay_ed (f : Ed) : (encEd f).canLay0 = true := by simp [encEd, PyData.canLay0, PyData.canLayAll0]
theorem lay_mo (f : Mo) : (encMo f).canLay0 = true := by simp [encMo, PyData.canLay0, PyData.canLayAll0, lay_is, lay_fr]
theorem dep_is (l : List Int) : (encIs l).depth ≤ 4 := by
  have := depth_ints l
  simp only [encIs, PyData.depth]; omega
theorem dep_fr (f : Int × Int) : (encFr f).depth ≤ 4 := by simp [encFr, PyData.depth, PyData.depthAll]
theorem dep_ed (f : Ed) : (encEd f).depth ≤ 4 := by simp [encEd, PyData.depth, PyData.depthAll]
theorem dep_mo (f : Mo) : (encMo f).depth ≤ 8 := by
  have := dep_is f.1
  have := dep_fr f.2
  simp only [encMo, PyData.depth, PyData.depthAll]; omega
theorem shaped_of {d : PyData} (h : d.canLay0 = true) (k : d.depth ≤ 40) : SeqAt.shaped d = true := by
  show (d.canLay0 && decide (d.depth ≤ 64)) = true
  rw [Bool.and_eq_true]
  exact ⟨h, decide_eq_true (by omega)⟩
theorem sh_is (l : List Int) : SeqAt.shaped (encIs l) = true := shaped_of (lay_is l) (by have := dep_is l; omega)
theorem sh_fr (l : Int × Int) : SeqAt.shaped (encFr l) = true := shaped_of (lay_fr l) (by have := dep_fr l; omega)
theorem sh_list {β : Type} {enc : β → PyData} {k : Nat} (h : ∀ b, (enc b).canLay0 = true) (hd : ∀ b, (enc b).depth ≤ k) (hk : k ≤ 30) (l : List β) : SeqAt.shaped (.list (l.map enc)) = true :=
  shaped_of (by simp [PyData.canLay0, lay_all h l]) (by have := dep_all hd l; simp only [PyData.depth]; omega)
/-- x in a list of ints -/
theorem inV_ints (x : Int) (l : List Int) : inV (.int x) (l.map V.int) = decide (x ∈ l) := by
  unfold inV
  induction l with
  | nil => simp
  | cons y l ih =>
    rw [List.map_cons, List.any_cons, ih]
    show ((y == x) || decide (x ∈ l)) = decide (x ∈ y :: l)
    by_cases h : x = y
    · subst h; simp
    · have h2 : ¬ y = x := fun e => h e.symm
      simp [h, h2]
theorem flat_ints (l : List Int) : (l.map V.int).all flatV = true := by
  induction l with
  | nil => rfl
  | cons y l ih => rw [List.map_cons, List.all_cons, ih]; rfl
theorem any_is {gs : List (List Int)} {g : List Int} : ((gs.map encIs).any fun z => PyData.eqv z (encIs g)) = decide (g ∈ gs) := by
  induction gs with
  | nil => simp
  | cons x gs ih =>
    rw [List.map_cons, List.any_cons, ih, eqv_is]
    by_cases h : g = x
    · subst h; simp
    · have h2 : ¬ x = g := fun e => h e.symm
      simp [h, h2]
theorem atI_at {α : Type} {xs : List α} {i : Int} {v : α} (h0 : 0 ≤ i) (h : xs[i.toNat]? = some v) : atI xs i = some v := by
  have e : i = (i.toNat : Int) := by omega
  rw [e]
  exact atI_nat h
theorem atI_lt {xs : List Int} {i : Int} (h0 : 0 ≤ i) (h : i < xs.length) : atI (xs.map V.int) i = some (.int (xs.getD i.toNat 0)) := by
  refine atI_at h0 ?_
  have : i.toNat < xs.length := by omega
  simp [List.getD, this]
end K5

namespace K5
open PySem PySem.Spec PyProof.Rows L2
/-! ### comprehensions that only read -/
/-- over a list: l stands beside its values; the item of y is out y -/
theorem lc_read {β : Type} {K : PySem.W.Frag} {a : Addr} {g : TG} {tt : TT} {te : TE} {vs : List Nat} {σ : L2.St} {H1 : Hp} {D : Addr} {Qd : Hp → Prop} (l : List β) (val out : β → V) (test : β → Bool)
    (hD : H1 D = none) (hs : SqL K H1 a (l.map val)) (hz : l.length ≤ sizeLine)
    (turn : ∀ y ∈ l, ∀ H, Same H1 H → ∀ (Qt : V → Hp → Prop) (Qf : Hp → Prop), (test y = true → ∀ H4, Same H H4 → Qt (out y) H4) → (test y = false → ∀ H3, Same H H3 → Qf H3) →
      g (val y) (wipe σ vs) H fun σ2 H2 => wipe σ2 vs = wipe σ vs ∧ tt σ2 H2 fun b H3 => if b = true then te σ2 H3 Qt else Qf H3)
    (done : ∀ H, Same H1 H → H D = some (.lst ((l.filter test).map out)) → Qd H) :
    ∃ W : Nat → Nat → Hp → Prop, (∃ m, W 0 m (upd H1 D (.lst []))) ∧ ∀ i m H, W i m H →
      ((Itl K a).stop i H ∧ Qd H) ∨ ((Itl K a).go i H ∧ ∃ Nx : Hp → Prop, (∀ H', Nx H' → ∃ m', m' < m ∧ W (i + 1) m' H') ∧ ∀ x H', (Itl K a).yld i H x H' → g x (wipe σ vs) H' fun σ2 H2 => wipe σ2 vs = wipe σ vs ∧ tt σ2 H2 fun b H3 =>
        if b = true then te σ2 H3 fun y H4 => ∃ acc, H4 D = some (.lst acc) ∧ acc.length < sizeLine ∧ Nx (upd H4 D (.lst (acc ++ [y]))) else Nx H3) := by
  refine lc_list (xs := l.map val) (fun i H => Same H1 H ∧ H D = some (.lst (((l.take i).filter test).map out))) ⟨Same.new hD, upd_same⟩ (fun i H _ h => SqL.mono h.1 hs) (fun i x H hx h => ?_) (fun H h => ?_)
  · rw [List.getElem?_map] at hx
    obtain ⟨y, hy, rfl⟩ := Option.map_eq_some_iff.mp hx
    obtain ⟨hi, hy2⟩ := List.getElem?_eq_some_iff.mp hy
    have htk : l.take (i + 1) = l.take i ++ [y] := by rw [List.take_add_one, hy]; rfl
    refine turn y (List.mem_of_getElem? hy) H h.1 _ _ (fun ht H4 s4 => ⟨_, s4 _ _ h.2, ?_, Same.put (h.1.trans s4) hD, ?_⟩) (fun ht H3 s3 => ⟨h.1.trans s3, ?_⟩)
    · rw [List.length_map]
      have h2 := List.length_filter_le test (l.take i)
      rw [List.length_take] at h2
      omega
    · rw [upd_same, htk, List.filter_append, List.filter_cons_of_pos ht, List.filter_nil, List.map_append]; rfl
    · rw [htk, List.filter_append, List.filter_cons_of_neg (by rw [ht]; exact Bool.false_ne_true), List.filter_nil, List.append_nil]; exact s3 _ _ h.2
  · have e : (l.map val).length = l.length := List.length_map ..
    have h2 := h.2
    rw [e, List.take_length] at h2
    exact done H h.1 h2
/-- over range(n) -/
theorem lc_readR {g : TG} {tt : TT} {te : TE} {vs : List Nat} {σ : L2.St} {H1 : Hp} {D : Addr} {Qd : Hp → Prop} (n : Nat) (out : Int → V) (test : Int → Bool)
    (hD : H1 D = none) (hz : n ≤ sizeLine)
    (turn : ∀ i : Nat, i < n → ∀ H, Same H1 H → ∀ (Qt : V → Hp → Prop) (Qf : Hp → Prop), (test i = true → ∀ H4, Same H H4 → Qt (out i) H4) → (test i = false → ∀ H3, Same H H3 → Qf H3) →
      g (.int i) (wipe σ vs) H fun σ2 H2 => wipe σ2 vs = wipe σ vs ∧ tt σ2 H2 fun b H3 => if b = true then te σ2 H3 Qt else Qf H3)
    (done : ∀ H, Same H1 H → H D = some (.lst ((((List.range n).map fun i : Nat => (i : Int)).filter test).map out)) → Qd H) :
    ∃ W : Nat → Nat → Hp → Prop, (∃ m, W 0 m (upd H1 D (.lst []))) ∧ ∀ i m H, W i m H →
      ((Itr 0 n).stop i H ∧ Qd H) ∨ ((Itr 0 n).go i H ∧ ∃ Nx : Hp → Prop, (∀ H', Nx H' → ∃ m', m' < m ∧ W (i + 1) m' H') ∧ ∀ x H', (Itr 0 n).yld i H x H' → g x (wipe σ vs) H' fun σ2 H2 => wipe σ2 vs = wipe σ vs ∧ tt σ2 H2 fun b H3 =>
        if b = true then te σ2 H3 fun y H4 => ∃ acc, H4 D = some (.lst acc) ∧ acc.length < sizeLine ∧ Nx (upd H4 D (.lst (acc ++ [y]))) else Nx H3) := by
  refine lc_range (lo := 0) (n := n) (fun i H => Same H1 H ∧ H D = some (.lst ((((List.range i).map fun i : Nat => (i : Int)).filter test).map out))) ⟨Same.new hD, upd_same⟩ (fun i H hi h => ?_) (fun H h => done H h.1 h.2)
  have e0 : (0 : Int) + (i : Int) = (i : Int) := Int.zero_add _
  rw [e0]
  have htk : (List.range (i + 1)).map (fun i : Nat => (i : Int)) = (List.range i).map (fun i : Nat => (i : Int)) ++ [(i : Int)] := by rw [List.range_succ, List.map_append]; rfl
  refine turn i hi H h.1 _ _ (fun ht H4 s4 => ⟨_, s4 _ _ h.2, ?_, Same.put (h.1.trans s4) hD, ?_⟩) (fun ht H3 s3 => ⟨h.1.trans s3, ?_⟩)
  · rw [List.length_map]
    have h2 := List.length_filter_le test ((List.range i).map fun i : Nat => (i : Int))
    rw [List.length_map, List.length_range] at h2
    omega
  · rw [upd_same, htk, List.filter_append, List.filter_cons_of_pos ht, List.filter_nil, List.map_append]; rfl
  · rw [htk, List.filter_append, List.filter_cons_of_neg (by rw [ht]; exact Bool.false_ne_true), List.filter_nil, List.append_nil]; exact s3 _ _ h.2
theorem szl : sizeLine = 16777216 := sizeLine_eq
/-! ### the text by places -/
def top (i : Nat) : Stmt := PySem.Challenge.pw_trunkweb_k52_whole_quick_choices.main.body.getD i (.Pass ⟨0, 0, 0, 0⟩)
/-- the great number of the text -/
abbrev UN : Int := Gw.UN
/-- the names that the defs read -/
structure Txt (K : PySem.W.Frag) (mg : Str → Option Value) (CN CG : Addr) : Prop where
  len : mg "len" = none
  range : mg "range" = none
  list : mg "list" = none
  tuple : mg "tuple" = none
  int : mg "int" = none
  bool : mg "bool" = none
  abs : mg "abs" = none
  sum : mg "sum" = none
  min : mg "min" = none
  max : mg "max" = none
  all : mg "all" = none
  any : mg "any" = none
  sorted : mg "sorted" = none
  repr : mg "repr" = none
  isinstance : mg "isinstance" = none
  UNIT : ∃ u, mg "UNIT" = some u ∧ RelV (.int UN) u
  MOST_PRICE : ∃ u, mg "MOST_PRICE" = some u ∧ RelV (.int 1048576) u
  MOST_VERTICES : ∃ u, mg "MOST_VERTICES" = some u ∧ RelV (.int 40) u
  MOST_EDGES : ∃ u, mg "MOST_EDGES" = some u ∧ RelV (.int 200) u
  clN : Cls K CN
  nSize : NoAttr K CN "_size"
  nEdges : NoAttr K CN "_edges"
  clG : Cls K CG
  gEdges : NoAttr K CG "edges"
  gGroups : NoAttr K CG "groups"
  gDepths : NoAttr K CG "depths"
  gHeights : NoAttr K CG "heights"
  gChosen : NoAttr K CG "chosen"
theorem hu65 {A : Around} {k : Nat} (hr : Room k A) : A.units + 65 < cLine := by
  have := hr.un
  omega
/-- a def of the module stands at f -/
abbrev DefAt (K : PySem.W.Frag) (mg : Str → Option Value) (x : Str) (st : Stmt) (ps : List Str) : Prop := ∃ f fd, C8.Def K mg x st f fd ∧ Binds K fd ps []
/-- a method of the class at C stands at f -/
abbrev MetAt (K : PySem.W.Frag) (C : Addr) (m qual : Str) (st : Stmt) (ps : List Str) : Prop := ∃ f fd, C8.Fun K m qual st f fd ∧ Binds K fd ps [] ∧ Meth K C m f
section
variable {P : Program} {w : World} {K : PySem.W.Frag} {mg : Str → Option Value} {base : Heap}
/-- a def's promise by its body -/
theorem cal {x : Str} {st : Stmt} {N ps : List Str} {k : Nat} {sp : Sp} (D : DefAt K mg x st ps) (S : FnScope N ps (C8.fnScope st)) (len : ∀ vs H Q E, sp vs H Q E → vs.length = ps.length)
    (hbody : ∀ (f : Addr) (cdv : Value) (A : Around) (outer : List Env) (s : Shared) (H : Hp) (vs : List V) (Q : VK) (E : XK), Room k (A.deeper (envOfC x (C8.fnScope st) s.heap.objs.size f cdv)) → sp vs H Q E →
      ∃ t, PSs (cxOf CX0 P w K mg base N x (C8.fnScope st) f cdv A outer s H E).nox (C8.fnBody st) t ∧ t { nx := fun _ H' => Q .non H', rt := Q } (start N vs) H) : C8.Cal P w K mg base (k + 1) x sp [] := by
  obtain ⟨f, fd, F, b⟩ := D
  exact C8.cal0 F b .nil S len (hbody f)
theorem met {m qual : Str} {C : Addr} {st : Stmt} {N ps : List Str} {k : Nat} {sp : Sp} (D : MetAt K C m qual st ps) (c : Cls K C) (S : FnScope N ps (C8.fnScope st)) (len : ∀ vs H Q E, sp vs H Q E → vs.length = ps.length)
    (hbody : ∀ (f : Addr) (cdv : Value) (A : Around) (outer : List Env) (s : Shared) (H : Hp) (vs : List V) (Q : VK) (E : XK), Room k (A.deeper (envOfC qual (C8.fnScope st) s.heap.objs.size f cdv)) → sp vs H Q E →
      ∃ t, PSs (cxOf CX0 P w K mg base N qual (C8.fnScope st) f cdv A outer s H E).nox (C8.fnBody st) t ∧ t { nx := fun _ H' => Q .non H', rt := Q } (start N vs) H) : C8.Met P w K mg base (k + 1) C m sp [] := by
  obtain ⟨f, fd, F, b, me⟩ := D
  exact C8.met0 c me F b S len (hbody f)
end
end K5
namespace K5
open PySem PySem.Spec PyProof.Rows L2
/-! ### tests whose answer is known -/
section
variable {c A B : Prop} [Decidable c]
theorem ifd (h : c) (a : A) : if decide c = true then A else B := by rw [decide_eq_true h]; exact iteT a
theorem ifnd (h : ¬ c) (b : B) : if decide c = true then A else B := by rw [decide_eq_false h]; exact iteF b
theorem ifnt (h : c) (b : B) : if (!decide c) = true then A else B := by rw [decide_eq_true h]; exact iteF b
theorem ifnf (h : ¬ c) (a : A) : if (!decide c) = true then A else B := by rw [decide_eq_false h]; exact iteT a
end
/-- an edge is good -/
def EdOk (n : Nat) (e : Ed) : Prop := (0 ≤ e.1 ∧ e.1 < n) ∧ (0 ≤ e.2.1 ∧ e.2.1 < n) ∧ e.1 ≠ e.2.1 ∧ 0 ≤ e.2.2 ∧ e.2.2 ≤ 1048576
end K5
namespace K5
open PySem PySem.Spec PyProof.Rows L2
/-! ### the rules with the written part named (a comprehension's block has the same one) -/
section
variable {X : Cx} (K : PySem.W.Frag)
theorem ixl (h : X.K = K := by rfl) : IxR X (rIxL K) := by subst h; exact ix_list
theorem ixt (h : X.K = K := by rfl) : IxR X (rIxT K) := by subst h; exact ix_tup
theorem inS (h : X.K = K := by rfl) : OpR X (compareOp .In) (rIn K false) := by subst h; exact op_in_seq
theorem ninS (h : X.K = K := by rfl) : OpR X (compareOp .NotIn) (rIn K true) := by subst h; exact op_notIn_seq
theorem inD (hu : X.A.units + 65 < cLine) (h : X.K = K := by rfl) : OpR X (compareOp .In) (rInD K) := by subst h; exact op_inD hu
theorem ninD (hu : X.A.units + 65 < cLine) (h : X.K = K := by rfl) : OpR X (compareOp .NotIn) (rNotInD K) := by subst h; exact op_notInD hu
theorem eqD (hu : X.A.units + 64 < cLine) (h : X.K = K := by rfl) : OpR X (compareOp .Eq) (rEqD K) := by subst h; exact op_eqD hu
theorem neD (hu : X.A.units + 64 < cLine) (h : X.K = K := by rfl) : OpR X (compareOp .NotEq) (rNeD K) := by subst h; exact op_neD hu
def rLenS (K : PySem.W.Frag) : List V → Hp → VK → Prop := fun xs H Q => ∃ p ys, xs = [.ref p] ∧ (SqL K H p ys ∨ SqT K H p ys) ∧ Q (.int ys.length) H
theorem lenS (h : X.K = K := by rfl) : CallR X (.builtin "len") (rLenS K) := by subst h; exact call_len_seq
def rListOf (K : PySem.W.Frag) : List V → Hp → VK → Prop := fun xs H Q => ∃ p ys, xs = [.ref p] ∧ (SqL K H p ys ∨ SqT K H p ys) ∧ ∀ l, H l = none → Q (.ref l) (upd H l (.lst ys))
theorem listOf (h : X.K = K := by rfl) : CallR X (.type "list") (rListOf K) := by subst h; exact call_list_of
def rTupOf (K : PySem.W.Frag) : List V → Hp → VK → Prop := fun xs H Q => ∃ p ys, xs = [.ref p] ∧ ((SqL K H p ys ∧ ∀ l, H l = none → Q (.ref l) (upd H l (.tup ys))) ∨ (SqT K H p ys ∧ Q (.ref p) H))
theorem tupOf (h : X.K = K := by rfl) : CallR X (.type "tuple") (rTupOf K) := by subst h; exact call_tuple_of
theorem crSum (hc : X.calm = true) (h : X.K = K := by rfl) : CallR X (.builtin "sum") (rSum K) := by subst h; exact cr_sum hc
theorem crMin (hc : X.calm = true) (h : X.K = K := by rfl) : CallR X (.builtin "min") (rMin K) := by subst h; exact cr_min hc
theorem crAll (hc : X.calm = true) (h : X.K = K := by rfl) : CallR X (.builtin "all") (rAll K) := by subst h; exact cr_all hc
theorem crAny (hc : X.calm = true) (h : X.K = K := by rfl) : CallR X (.builtin "any") (rAny K) := by subst h; exact cr_any hc
theorem crSorted (h : X.K = K := by rfl) : CallR X (.builtin "sorted") (rSortedI K) := by subst h; exact cr_sortedI
theorem crSortedLab (hu : X.A.units + 64 < cLine) (h : X.K = K := by rfl) : CallR X (.builtin "sorted") (rSortedLab K) := by subst h; exact cr_sortedLab hu
theorem crRepr (hg : X.A.guards = some []) (hu : X.A.units + 64 < cLine) (h : X.K = K := by rfl) : CallR X (.builtin "repr") (rRepr K) := by subst h; exact cr_repr hg hu
theorem crIsi (h : X.K = K := by rfl) : CallR X (.builtin "isinstance") (rIsi K) := by subst h; exact call_isi
theorem mtIndex (h : X.K = K := by rfl) : MtR X "list.index" (rIndex K) := by subst h; exact mt_index
theorem mtRemD (hu : X.A.units + 64 < cLine) (h : X.K = K := by rfl) : MtR X "list.remove" (rRemD K) := by subst h; exact mt_removeD hu
theorem slL (h : X.K = K := by rfl) : SlR X (rSlL K) := by subst h; exact sl_list
theorem getL (h : X.K = K := by rfl) : PGet X (rGetL K) := by subst h; exact get_list
theorem pi_l {tg l : Expr} {tl : TE} (hl : PE X l tl) (h : X.K = K := by rfl) : PI X tg l (iList K tl) := by subst h; exact pi_list hl
theorem pg_t {es : List Expr} {k : Nat} {t : TGs} (n : Nat) {pos : Pos} (hc : X.calm = true) (hp : PGs X es t) (h : X.K = K := by rfl)
    (hn : (assignEach es X.env).length = n := by rfl) (hst : (assignEach es X.env).findIdx? (·.1) = none := by rfl) : PG X (.Tuple es k pos) (gTup K n t) := by subst h; exact pg_tup hc hp hn hst
theorem pe_f {e : Expr} {f : Str} {pos : Pos} {ta : TE} (he : PE X e ta) (h : X.K = K := by rfl) (hb : attributeBase e f X.env (eval e X.env) = eval e X.env := by rfl) : PE X (.Attribute e f pos) (tFld K ta f) := by subst h; exact pe_fld he hb
end
end K5
namespace K5
open PySem PySem.Spec PyProof.Rows L2
/-- over a list, no test -/
theorem lc_map {β : Type} {K : PySem.W.Frag} {a : Addr} {g : TG} {te : TE} {vs : List Nat} {σ : L2.St} {H1 : Hp} {D : Addr} {Qd : Hp → Prop} (l : List β) (val out : β → V)
    (hD : H1 D = none) (hs : SqL K H1 a (l.map val)) (hz : l.length ≤ sizeLine)
    (turn : ∀ y ∈ l, ∀ H, Same H1 H → ∀ (Qt : V → Hp → Prop), (∀ H4, Same H H4 → Qt (out y) H4) → g (val y) (wipe σ vs) H fun σ2 H2 => wipe σ2 vs = wipe σ vs ∧ te σ2 H2 Qt)
    (done : ∀ H, Same H1 H → H D = some (.lst (l.map out)) → Qd H) :
    ∃ W : Nat → Nat → Hp → Prop, (∃ m, W 0 m (upd H1 D (.lst []))) ∧ ∀ i m H, W i m H →
      ((Itl K a).stop i H ∧ Qd H) ∨ ((Itl K a).go i H ∧ ∃ Nx : Hp → Prop, (∀ H', Nx H' → ∃ m', m' < m ∧ W (i + 1) m' H') ∧ ∀ x H', (Itl K a).yld i H x H' → g x (wipe σ vs) H' fun σ2 H2 => wipe σ2 vs = wipe σ vs ∧ tYes σ2 H2 fun b H3 =>
        if b = true then te σ2 H3 fun y H4 => ∃ acc, H4 D = some (.lst acc) ∧ acc.length < sizeLine ∧ Nx (upd H4 D (.lst (acc ++ [y]))) else Nx H3) := by
  refine lc_list (xs := l.map val) (fun i H => Same H1 H ∧ H D = some (.lst ((l.take i).map out))) ⟨Same.new hD, upd_same⟩ (fun i H _ h => SqL.mono h.1 hs) (fun i x H hx h => ?_) (fun H h => ?_)
  · rw [List.getElem?_map] at hx
    obtain ⟨y, hy, rfl⟩ := Option.map_eq_some_iff.mp hx
    obtain ⟨hi, hy2⟩ := List.getElem?_eq_some_iff.mp hy
    have htk : l.take (i + 1) = l.take i ++ [y] := by rw [List.take_add_one, hy]; rfl
    have e : (fun (σ2 : L2.St) (H2 : Hp) => wipe σ2 vs = wipe σ vs ∧ tYes σ2 H2 fun b H3 =>
        if b = true then te σ2 H3 fun y H4 => ∃ acc, H4 D = some (.lst acc) ∧ acc.length < sizeLine ∧ (Same H1 (upd H4 D (.lst (acc ++ [y]))) ∧ (upd H4 D (.lst (acc ++ [y]))) D = some (.lst ((l.take (i + 1)).map out))) else (Same H1 H3 ∧ H3 D = some (.lst ((l.take (i + 1)).map out)))) =
        (fun (σ2 : L2.St) (H2 : Hp) => wipe σ2 vs = wipe σ vs ∧ te σ2 H2 fun y H4 => ∃ acc, H4 D = some (.lst acc) ∧ acc.length < sizeLine ∧ (Same H1 (upd H4 D (.lst (acc ++ [y]))) ∧ (upd H4 D (.lst (acc ++ [y]))) D = some (.lst ((l.take (i + 1)).map out)))) := by
      funext σ2 H2
      unfold tYes
      dsimp only
      rw [if_pos rfl]
    rw [e]
    refine turn y (List.mem_of_getElem? hy) H h.1 _ (fun H4 s4 => ⟨_, s4 _ _ h.2, ?_, Same.put (h.1.trans s4) hD, ?_⟩)
    · rw [List.length_map, List.length_take]; omega
    · rw [upd_same, htk, List.map_append]; rfl
  · have e : (l.map val).length = l.length := List.length_map ..
    have h2 := h.2
    rw [e, List.take_length] at h2
    exact done H h.1 h2
/-- over range(n), no test -/
theorem lc_mapR {g : TG} {te : TE} {vs : List Nat} {σ : L2.St} {H1 : Hp} {D : Addr} {Qd : Hp → Prop} (n : Nat) (out : Int → V)
    (hD : H1 D = none) (hz : n ≤ sizeLine)
    (turn : ∀ i : Nat, i < n → ∀ H, Same H1 H → ∀ (Qt : V → Hp → Prop), (∀ H4, Same H H4 → Qt (out i) H4) → g (.int i) (wipe σ vs) H fun σ2 H2 => wipe σ2 vs = wipe σ vs ∧ te σ2 H2 Qt)
    (done : ∀ H, Same H1 H → H D = some (.lst (((List.range n).map fun i : Nat => (i : Int)).map out)) → Qd H) :
    ∃ W : Nat → Nat → Hp → Prop, (∃ m, W 0 m (upd H1 D (.lst []))) ∧ ∀ i m H, W i m H →
      ((Itr 0 n).stop i H ∧ Qd H) ∨ ((Itr 0 n).go i H ∧ ∃ Nx : Hp → Prop, (∀ H', Nx H' → ∃ m', m' < m ∧ W (i + 1) m' H') ∧ ∀ x H', (Itr 0 n).yld i H x H' → g x (wipe σ vs) H' fun σ2 H2 => wipe σ2 vs = wipe σ vs ∧ tYes σ2 H2 fun b H3 =>
        if b = true then te σ2 H3 fun y H4 => ∃ acc, H4 D = some (.lst acc) ∧ acc.length < sizeLine ∧ Nx (upd H4 D (.lst (acc ++ [y]))) else Nx H3) := by
  refine lc_range (lo := 0) (n := n) (fun i H => Same H1 H ∧ H D = some (.lst (((List.range i).map fun i : Nat => (i : Int)).map out))) ⟨Same.new hD, upd_same⟩ (fun i H hi h => ?_) (fun H h => done H h.1 h.2)
  have e0 : (0 : Int) + (i : Int) = (i : Int) := Int.zero_add _
  rw [e0]
  have htk : (List.range (i + 1)).map (fun i : Nat => (i : Int)) = (List.range i).map (fun i : Nat => (i : Int)) ++ [(i : Int)] := by rw [List.range_succ, List.map_append]; rfl
  have e : (fun (σ2 : L2.St) (H2 : Hp) => wipe σ2 vs = wipe σ vs ∧ tYes σ2 H2 fun b H3 =>
      if b = true then te σ2 H3 fun y H4 => ∃ acc, H4 D = some (.lst acc) ∧ acc.length < sizeLine ∧ (Same H1 (upd H4 D (.lst (acc ++ [y]))) ∧ (upd H4 D (.lst (acc ++ [y]))) D = some (.lst (((List.range (i + 1)).map fun i : Nat => (i : Int)).map out))) else (Same H1 H3 ∧ H3 D = some (.lst (((List.range (i + 1)).map fun i : Nat => (i : Int)).map out)))) =
      (fun (σ2 : L2.St) (H2 : Hp) => wipe σ2 vs = wipe σ vs ∧ te σ2 H2 fun y H4 => ∃ acc, H4 D = some (.lst acc) ∧ acc.length < sizeLine ∧ (Same H1 (upd H4 D (.lst (acc ++ [y]))) ∧ (upd H4 D (.lst (acc ++ [y]))) D = some (.lst (((List.range (i + 1)).map fun i : Nat => (i : Int)).map out)))) := by
    funext σ2 H2
    unfold tYes
    dsimp only
    rw [if_pos rfl]
  rw [e]
  refine turn i hi H h.1 _ (fun H4 s4 => ⟨_, s4 _ _ h.2, ?_, Same.put (h.1.trans s4) hD, ?_⟩)
  · rw [List.length_map, List.length_map, List.length_range]; omega
  · rw [upd_same, htk, List.map_append]; rfl
end K5

namespace K5
open PySem PySem.Spec PyProof.Rows L2
/-- an edge by its number -/
theorem ed_get {N : Gw.Net} {k : Int} (h : N.isE k) : N.es[k.toNat]? = some (N.ed k) := by
  have : k.toNat < N.es.length := by have := h.1; have := h.2; omega
  unfold Gw.Net.ed
  rw [Gw.getD_lt this, List.getElem?_eq_getElem this]
theorem ed_ok {N : Gw.Net} (o : N.Ok) {k : Int} (h : N.isE k) : EdOk N.n (N.ed k) := o.ends _ (N.ed_mem h)
/-- the values of the list at k -/
theorem es_at {K : PySem.W.Frag} {H : Hp} {N : Gw.Net} {xs : List V} (hp : Paired (IsEd K H) xs N.es) {k : Int} (h : N.isE k) : ∃ t, atI xs k = some (.ref t) ∧ SqT K H t [.int (N.ed k).1, .int (N.ed k).2.1, .int (N.ed k).2.2] := by
  obtain ⟨x, hx, a, rfl, ht⟩ := Paired.at2 hp (ed_get h)
  exact ⟨a, atI_at h.1 hx, ht⟩
theorem nodup_len {F : List Int} {n : Nat} (hn : F.Nodup) (hr : ∀ v ∈ F, 0 ≤ v ∧ v < n) : F.length ≤ n := by
  have := Gw.len_le (a := F) (b := (List.range n).map fun i : Nat => (i : Int)) hn fun v hv => List.mem_map.mpr ⟨v.toNat, List.mem_range.mpr (by have := hr v hv; omega), by have := hr v hv; show ((v.toNat : Nat) : Int) = v; omega⟩
  simpa using this
theorem nodup_snoc {F : List Int} {v : Int} (hn : F.Nodup) (hv : v ∉ F) : (F ++ [v]).Nodup := by
  refine List.nodup_append.mpr ⟨hn, List.nodup_cons.mpr ⟨List.not_mem_nil, List.nodup_nil⟩, fun a ha b hb e => ?_⟩
  rw [List.mem_singleton] at hb
  subst hb; subst e; exact hv ha
end K5
namespace K5
open PySem PySem.Spec PyProof.Rows L2
/-- for i in range(n), the ints as they are -/
theorem for_rng {n : Nat} {g : TG} {tb : TS} {D : Ends} {σ : L2.St} {H : Hp} (Pv : Nat → L2.St → Hp → Prop) (h0 : Pv 0 σ H)
    (hs : ∀ i σ H, i < n → Pv i σ H → g (.int (i : Int)) σ H fun σ2 H2 => tb { D with nx := Pv (i + 1), ct := Pv (i + 1), bk := D.nx } σ2 H2) (hd : ∀ σ H, Pv n σ H → D.nx σ H) :
    ∃ W : Nat → Nat → L2.St → Hp → Prop, (∃ m, W 0 m σ H) ∧ ∀ i m σ H, W i m σ H →
      ((Itr 0 ((n : Nat) : Int).toNat).stop i H ∧ D.nx σ H) ∨ ((Itr 0 ((n : Nat) : Int).toNat).go i H ∧ ∃ N : L2.St → Hp → Prop, (∀ σ' H', N σ' H' → ∃ m', m' < m ∧ W (i + 1) m' σ' H') ∧ ∀ x H', (Itr 0 ((n : Nat) : Int).toNat).yld i H x H' → g x σ H' fun σ2 H2 => tb { D with nx := N, ct := N, bk := D.nx } σ2 H2) :=
  for_range (lo := 0) (n := n) Pv h0 (fun i σ H hi h => by rw [Int.zero_add]; exact hs i σ H hi h) hd
/-- the truth of a statement -/
noncomputable def dec (p : Prop) : Bool := @decide p (Classical.propDecidable p)
theorem dec_t {p : Prop} (h : p) : dec p = true := by unfold dec; exact @decide_eq_true p (Classical.propDecidable p) h
theorem dec_f {p : Prop} (h : ¬ p) : dec p = false := by unfold dec; exact @decide_eq_false p (Classical.propDecidable p) h
theorem dec_iff {p q : Prop} (h : p ↔ q) : dec p = dec q := by
  by_cases x : p
  · rw [dec_t x, dec_t (h.mp x)]
  · rw [dec_f x, dec_f fun y => x (h.mpr y)]
theorem dec_decide {p : Prop} [Decidable p] : decide p = dec p := by
  by_cases x : p
  · rw [dec_t x, decide_eq_true x]
  · rw [dec_f x, decide_eq_false x]
/-- an ascending list of numbers below m, as the loops test it -/
def AscP (m : Nat) (l : List Int) : Prop := ∀ k : Nat, k < l.length → (0 ≤ l.getD k 0 ∧ l.getD k 0 < m) ∧ (0 < k → l.getD (k - 1) 0 < l.getD k 0)
theorem AscP.mem {m : Nat} {l : List Int} (h : AscP m l) : ∀ k ∈ l, 0 ≤ k ∧ k < m := fun k hk => by
  obtain ⟨i, hi, e⟩ := List.mem_iff_getElem.mp hk
  have := (h i hi).1
  rw [Gw.getD_lt hi, e] at this
  exact this
theorem AscP.pair {m : Nat} {l : List Int} (h : AscP m l) : l.Pairwise (· < ·) := by
  rw [List.pairwise_iff_getElem]
  intro i j hi hj hij
  induction j with
  | zero => omega
  | succ j ih =>
    have q := (h (j + 1) hj).2 (Nat.succ_pos _)
    rw [Gw.getD_lt hj, Nat.add_sub_cancel, Gw.getD_lt (show j < l.length by omega)] at q
    by_cases e : i = j
    · subst e; exact q
    · exact Int.lt_trans (ih (by omega) (by omega)) q
theorem AscP.of {m : Nat} {l : List Int} (hp : l.Pairwise (· < ·)) (hm : ∀ k ∈ l, 0 ≤ k ∧ k < m) : AscP m l := fun k hk => by
  rw [Gw.getD_lt hk]
  refine ⟨hm _ (List.getElem_mem hk), fun h0 => ?_⟩
  have hk1 : k - 1 < l.length := by omega
  rw [Gw.getD_lt hk1]
  exact List.pairwise_iff_getElem.mp hp _ _ hk1 hk (by omega)
end K5
namespace K5
open PySem PySem.Spec PyProof.Rows L2
/-- a moat as it stands: its tuple, its two values, what it is -/
structure MoR where
  a : Addr
  g : V
  h : V
  m : Mo
def MoR.At (K : PySem.W.Frag) (H : Hp) (r : MoR) : Prop := SqT K H r.a [r.g, r.h] ∧ IsIs K H r.g r.m.1 ∧ IsFr K H r.h r.m.2
theorem MoR.At.mono {K : PySem.W.Frag} {H H' : Hp} {r : MoR} (s : Same H H') (h : r.At K H) : r.At K H' := ⟨SqT.mono s h.1, h.2.1.mono s, h.2.2.mono s⟩
theorem mos_rec {K : PySem.W.Frag} {H : Hp} : ∀ {xs : List V} {M : List Mo}, Paired (IsMo K H) xs M → ∃ L : List MoR, xs = L.map (fun r => V.ref r.a) ∧ M = L.map (·.m) ∧ ∀ r ∈ L, r.At K H
  | _, _, .nil => ⟨[], rfl, rfl, fun _ h => by cases h⟩
  | _, _, .cons r t => by
    obtain ⟨L, e1, e2, h⟩ := mos_rec t
    obtain ⟨a, g, x, e, q1, q2, q3⟩ := r
    refine ⟨⟨a, g, x, _⟩ :: L, by rw [List.map_cons, ← e1, e], by rw [List.map_cons, ← e2], fun r hr => ?_⟩
    rcases List.mem_cons.mp hr with z | z
    · subst z; exact ⟨q1, q2, q3⟩
    · exact h r z
theorem mos_frs {K : PySem.W.Frag} {H : Hp} {L : List MoR} (h : ∀ r ∈ L, r.At K H) (t : Mo → Bool) : Paired (IsFr K H) ((L.filter fun r => t r.m).map (·.h)) (((L.map (·.m)).filter t).map (·.2)) := by
  induction L with
  | nil => exact .nil
  | cons r L ih =>
    have i2 := ih fun x hx => h x (List.mem_cons_of_mem _ hx)
    by_cases e : t r.m = true
    · rw [List.map_cons, List.filter_cons_of_pos e, List.filter_cons_of_pos (p := fun r : MoR => t r.m) e]; exact .cons (h r List.mem_cons_self).2.2 i2
    · rw [List.map_cons, List.filter_cons_of_neg e, List.filter_cons_of_neg (p := fun r : MoR => t r.m) e]; exact i2
theorem mos_frs_all {K : PySem.W.Frag} {H : Hp} {L : List MoR} (h : ∀ r ∈ L, r.At K H) : Paired (IsFr K H) (L.map (·.h)) ((L.map (·.m)).map (·.2)) := by
  have := mos_frs h fun _ => true
  rwa [List.filter_eq_self.mpr fun _ _ => rfl, List.filter_eq_self.mpr fun _ _ => rfl] at this
theorem mos_gs {K : PySem.W.Frag} {H : Hp} {L : List MoR} (h : ∀ r ∈ L, r.At K H) : Paired (IsIs K H) (L.map (·.g)) ((L.map (·.m)).map (·.1)) := by
  induction L with
  | nil => exact .nil
  | cons r L ih => exact .cons (h r List.mem_cons_self).2.1 (ih fun x hx => h x (List.mem_cons_of_mem _ hx))
end K5

namespace K5
open PySem PySem.Spec PyProof.Rows L2
section
variable {P : Program} {w : World} {K : PySem.W.Frag} {mg : Str → Option Value} {base : Heap} {CN CG : Addr}
abbrev s_common_divisor : Stmt := top 10
theorem sc_common_divisor : FnScope ["a", "b"] ["a", "b"] (C8.fnScope s_common_divisor) := C8.fnScope_by (by decide +kernel)

/-- the greatest common divisor -/
def spGcd : Sp := fun vs H Q _ => ∃ a b : Int, vs = [.int a, .int b] ∧ 0 ≤ a ∧ 0 ≤ b ∧ Q (.int (Int.gcd a b)) H
theorem gcd_step {a b : Int} (ha : 0 ≤ a) (hb : 0 < b) : Int.gcd b (a % b) = Int.gcd a b := by
  rw [Int.gcd_comm a b]
  have e : a % b = a - b * (a / b) := Int.emod_def a b
  rw [e]
  have : a - b * (a / b) = a + b * (-(a / b)) := by rw [Int.mul_neg]; omega
  rw [this]
  exact Int.gcd_add_mul_left_right ..
theorem ok_gcd (F : DefAt K mg "common_divisor" s_common_divisor ["a", "b"]) (T : Txt K mg CN CG) : C8.Cal P w K mg base 1 "common_divisor" spGcd [] := by
  refine cal F sc_common_divisor (fun vs H Q E h => ?_) (fun f cdv A outer s H vs Q E hr h => ?_)
  · obtain ⟨a, b, rfl, _⟩ := h; rfl
  · obtain ⟨a, b, rfl, ha, hb, q⟩ := h
    have nd := sc_common_divisor.nd
    refine ⟨_, (pss_cons (ps_while PassesOwn.never (pt_cmpR op_gt (pv 1) pe_int (nomark _)) (pss_one (ps_par (i := 0) (j := 1) (by rfl) nd rfl rfl (by decide) rfl rfl (pa_cons (pv 1) (pa_cons (pe_op op_mod (pv 0) (pv 1)) pa_nil)) (by rfl))))
      (pss_one (ps_ret (pv 0)))), ?_⟩
    refine ⟨fun m σ H' => H = H' ∧ ∃ x y : Int, σ = [some (.int x), some (.int y)] ∧ 0 ≤ x ∧ 0 ≤ y ∧ m = y.toNat ∧ Int.gcd x y = Int.gcd a b, ⟨_, rfl, a, b, rfl, ha, hb, rfl, rfl⟩, ?_⟩
    rintro m σ _ ⟨rfl, x, y, rfl, hx, hy, rfl, e⟩
    refine ⟨_, rfl, _, _, rfl, rfl, _, rfl, ?_⟩
    by_cases h : 0 < y
    · rw [decide_eq_true h]
      refine iteT ⟨_, fun σ' H' z => z, ?_⟩
      refine ⟨_, rfl, _, rfl, _, rfl, _, _, rfl, rfl, h, _, _, rfl, ?_⟩
      have := Int.emod_lt_of_pos x h
      have := Int.emod_nonneg x (show y ≠ 0 by omega)
      exact ⟨_, by omega, rfl, _, _, rfl, by omega, by omega, rfl, by rw [gcd_step hx h]; exact e⟩
    · rw [decide_eq_false h]
      refine iteF ⟨_, rfl, ?_⟩
      have e0 : y = 0 := by omega
      subst e0
      have : (Int.gcd a b : Int) = x := by rw [← e, Int.gcd_zero_right]; omega
      show Q (.int x) H
      rw [← this]; exact q

/-! ### small helps -/
theorem pow_nat {i : Int} {k : Nat} (h0 : 0 ≤ i) (h : i < 2 ^ k) : i.natAbs < 2 ^ k := by
  have : ((i.natAbs : Nat) : Int) < ((2 ^ k : Nat) : Int) := by rw [Int.natCast_pow]; show ((i.natAbs : Nat) : Int) < 2 ^ k; omega
  omega
theorem pow_nat2 {i : Int} {k : Nat} (h0 : 0 ≤ i) (h : i ≤ 2 ^ k) : i.natAbs < 2 ^ (k + 1) := by
  refine pow_nat h0 ?_
  have := Gw.pow_pos' k
  rw [Int.pow_succ]; omega
abbrev s_lowest : Stmt := top 11
theorem sc_lowest : FnScope ["numerator", "denominator", "divisor"] ["numerator", "denominator"] (C8.fnScope s_lowest) := C8.fnScope_by (by decide +kernel)

/-- in lowest terms -/
def spLowest : Sp := fun vs H Q _ => ∃ n d : Int, vs = [.int n, .int d] ∧ 0 ≤ n ∧ 0 < d ∧ d < 2 ^ 8600 ∧
  ∀ p, H p = none → Q (.ref p) (upd H p (.tup [.int (Gw.lowest n d).1, .int (Gw.lowest n d).2]))
theorem ok_lowest (F : DefAt K mg "lowest" s_lowest ["numerator", "denominator"]) (T : Txt K mg CN CG) (c_common_divisor : C8.Cal P w K mg base 1 "common_divisor" spGcd []) : C8.Cal P w K mg base 2 "lowest" spLowest [] := by
  refine cal F sc_lowest (fun vs H Q E h => ?_) (fun f cdv A outer s H vs Q E hr h => ?_)
  · obtain ⟨a, b, rfl, _⟩ := h; rfl
  · obtain ⟨n, d, rfl, hn, hd, hz, q⟩ := h
    have nd := sc_lowest.nd
    refine ⟨_, (pss_cons (ps_set (i := 2) nd rfl (Or.inl rfl) (C8.pe_c c_common_divisor hr (by decide) (by rfl) (pa_cons (pv 0) (pa_cons (pv 1) pa_nil))))
      (pss_one (ps_ret (pe_tup (pa_cons (pe_op op_fdivW (pv 0) (pv 2)) (pa_cons (pe_op op_fdivW (pv 1) (pv 2)) pa_nil)))))), ?_⟩
    have g0 : (0 : Int) < (Int.gcd n d : Int) := Gw.gcd_pos hd
    have gle : (Int.gcd n d : Int) ≤ d := Int.le_of_dvd hd (Int.gcd_dvd_right ..)
    have gb : CDivW n (Int.gcd n d : Int) := wide_div g0 (b := 8600) (pow_nat (by omega) (by omega)) (by decide) (by decide)
    refine ⟨_, rfl, _, rfl, n, d, rfl, hn, by omega, ?_⟩
    refine ⟨_, rfl, _, rfl, _, _, rfl, rfl, gb, _, rfl, _, rfl, _, _, rfl, rfl, gb, by show 2 ≤ sizeLine; rw [szl]; decide, fun p hp => ?_⟩
    exact q p hp
abbrev s_is_fraction : Stmt := top 12
theorem sc_is_fraction : FnScope ["value", "numerator", "denominator"] ["value"] (C8.fnScope s_is_fraction) := C8.fnScope_by (by decide +kernel)

/-- a fraction in lowest terms is one -/
def spIsFrac (K : PySem.W.Frag) : Sp := fun vs H Q _ => ∃ (v : V) (f : Int × Int), vs = [v] ∧ IsFr K H v f ∧ Gw.FrOk f ∧ Q (.bl true) H
theorem ok_isFrac (F : DefAt K mg "is_fraction" s_is_fraction ["value"]) (T : Txt K mg CN CG) (c_common_divisor : C8.Cal P w K mg base 1 "common_divisor" spGcd []) : C8.Cal P w K mg base 2 "is_fraction" (spIsFrac K) [] := by
  refine cal F sc_is_fraction (fun vs H Q E h => ?_) (fun f cdv A outer s H vs Q E hr h => ?_)
  · obtain ⟨a, b, rfl, _⟩ := h; rfl
  · obtain ⟨v, f, rfl, ⟨a, rfl, ht⟩, ok, q⟩ := h
    have nd := sc_is_fraction.nd
    refine ⟨_, (pss_cons (ps_asg (pv 0) (pg_t K 2 rfl (pgs_cons (pg_name (i := 1) nd rfl (Or.inl rfl)) (pgs_cons (pg_name (i := 2) nd rfl (Or.inl rfl)) pgs_nil))))
      (pss_one (ps_ret (pe_and (pe_cmpR op_gt (pv 1) pe_int (nomark _)) (pe_and (pe_cmpR op_gt (pv 2) pe_int (nomark _)) (pe_one (pe_cmpR op_eq (C8.pe_c c_common_divisor hr (by decide) (by rfl) (pa_cons (pv 1) (pa_cons (pv 2) pa_nil))) pe_int (nomark _)))))))), ?_⟩
    refine ⟨_, rfl, a, _, rfl, ht, rfl, _, _, rfl, _, _, rfl, rfl, ?_⟩
    refine ⟨_, rfl, _, _, rfl, rfl, _, rfl, ?_⟩
    rw [decide_eq_true ok.n0]
    refine iteT ⟨_, rfl, _, _, rfl, rfl, _, rfl, ?_⟩
    rw [decide_eq_true ok.d0]
    refine iteT ⟨_, rfl, _, rfl, _, _, rfl, Int.le_of_lt ok.n0, Int.le_of_lt ok.d0, rfl, ?_⟩
    have e : V.int (Int.gcd f.1 f.2 : Int) = V.int 1 := by rw [ok.g]; rfl
    rw [decide_eq_true e]
    exact q
abbrev s_sum_of : Stmt := top 13
theorem sc_sum_of : FnScope ["fractions", "total", "numerator", "denominator"] ["fractions"] (C8.fnScope s_sum_of) := C8.fnScope_by (by decide +kernel)

/-- the heights of a list: fractions, not too many -/
structure FrsOk (l : List (Int × Int)) : Prop where
  len : l.length ≤ 40
  ok : ∀ x ∈ l, Gw.FrOk x
def spSumOf (K : PySem.W.Frag) : Sp := fun vs H Q _ => ∃ (v : V) (l : List (Int × Int)), vs = [v] ∧ IsL K H (IsFr K H) v l ∧ FrsOk l ∧
  ∀ H' p f, Same H H' → H' p = some (.tup [.int f.1, .int f.2]) → Gw.Alike f (Gw.fsum l) → 0 ≤ f.1 → f.1 < 2 ^ 25000 → f.2 < 2 ^ 8600 → Q (.ref p) H'
theorem frok_bd {f : Int × Int} (h : Gw.FrOk f) : f.1.natAbs < 2 ^ 300 ∧ f.2.natAbs < 2 ^ 201 := ⟨pow_nat (Int.le_of_lt h.n0) h.n1, pow_nat2 (Int.le_of_lt h.d0) h.d1⟩
theorem fsum_small {l : List (Int × Int)} (h : ∀ x ∈ l, Gw.FrOk x) (hl : l.length ≤ 41) : 0 ≤ (Gw.fsum l).1 ∧ (Gw.fsum l).1 < 2 ^ 25000 ∧ 0 < (Gw.fsum l).2 ∧ (Gw.fsum l).2 < 2 ^ 8300 := by
  obtain ⟨a, b, c, d⟩ := Gw.fsum_bd l h
  have b2 : (2 : Int) ^ (502 * l.length + 1) ≤ 2 ^ 25000 := Gw.pow_mono (by omega)
  have d2 : (2 : Int) ^ (200 * l.length) < 2 ^ 8300 := by
    have x1 : (2 : Int) ^ (200 * l.length) ≤ 2 ^ 8299 := Gw.pow_mono (by omega)
    have x2 : (2 : Int) ^ 8300 = 2 ^ 8299 * 2 := Int.pow_succ _ _
    have x3 := Gw.pow_pos' 8299
    rw [x2]
    generalize (2 : Int) ^ 8299 = z at *
    omega
  exact ⟨a, Int.lt_of_lt_of_le b b2, c, Int.lt_of_le_of_lt d d2⟩
theorem ok_sumOf (F : DefAt K mg "sum_of" s_sum_of ["fractions"]) (T : Txt K mg CN CG) (c_lowest : C8.Cal P w K mg base 2 "lowest" spLowest []) : C8.Cal P w K mg base 3 "sum_of" (spSumOf K) [] := by
  refine cal F sc_sum_of (fun vs H Q E h => ?_) (fun f cdv A outer s H vs Q E hr h => ?_)
  · obtain ⟨a, b, rfl, _⟩ := h; rfl
  · obtain ⟨v, l, rfl, ⟨a, xs, rfl, hs, hp⟩, ok, q⟩ := h
    have nd := sc_sum_of.nd
    refine ⟨_, (pss_cons (ps_set (i := 1) nd rfl (Or.inl rfl) (pe_tup (pa_cons pe_int (pa_cons pe_int pa_nil))))
      (pss_cons (ps_for PassesOwn.never rfl (pi_l K (pv 0)) (pg_t K 2 rfl (pgs_cons (pg_name (i := 2) nd rfl (Or.inl rfl)) (pgs_cons (pg_name (i := 3) nd rfl (Or.inl rfl)) pgs_nil))) (pss_one (ps_set (i := 1) nd rfl (Or.inl rfl) (C8.pe_c c_lowest hr (by decide) (by rfl) (pa_cons (pe_op op_add (pe_op op_mulX (pe_ix (ixt K) (pv 1) pe_int (fun _ _ => rfl)) (pv 3)) (pe_op op_mulX (pv 2) (pe_ix (ixt K) (pv 1) pe_int (fun _ _ => rfl)))) (pa_cons (pe_op op_mulX (pe_ix (ixt K) (pv 1) pe_int (fun _ _ => rfl)) (pv 3)) pa_nil))))))
      (pss_one (ps_ret (pv 1))))), ?_⟩
    refine ⟨by show 2 ≤ sizeLine; rw [szl]; decide, fun t0 ht0 => ?_⟩
    have s0 : Same H (upd H t0 (.tup [.int 0, .int 1])) := Same.new ht0
    refine ⟨_, rfl, a, rfl, ⟨_, SqL.mono s0 hs⟩, for_list (K := K) (a := a) (xs := xs) (fun i σ H' => Same H H' ∧ ∃ (p : Addr) (f : Int × Int) (o1 o2 : Option V), σ = [some (.ref a), some (.ref p), o1, o2] ∧ H' p = some (.tup [.int f.1, .int f.2]) ∧ Gw.Alike f (Gw.fsum (l.take i)) ∧ 0 ≤ f.1 ∧ f.1 ≤ (Gw.fsum (l.take i)).1 ∧ f.2 ≤ (Gw.fsum (l.take i)).2) ?_ (fun i σ H' _ h => SqL.mono h.1 hs) ?_ ?_⟩
    · exact ⟨s0, t0, (0, 1), none, none, rfl, upd_same, ⟨by decide, rfl⟩, by decide, Int.le_refl _, Int.le_refl _⟩
    · rintro i x σ H' hx ⟨s1, p, f, o1, o2, rfl, hp', al, f0, f1, f2⟩
      obtain ⟨y, hy, b, rfl, ht⟩ := Paired.at hp hx
      have oy := ok.ok y (List.mem_of_getElem? hy)
      have htk : l.take (i + 1) = l.take i ++ [y] := by rw [List.take_add_one, hy]; rfl
      have len_i : (l.take i).length ≤ 41 := by rw [List.length_take]; have := ok.len; omega
      have oks : ∀ x ∈ l.take i, Gw.FrOk x := fun x hx => ok.ok x (List.mem_of_mem_take hx)
      obtain ⟨b1, b2, b3, b4⟩ := fsum_small oks len_i
      obtain ⟨y1, y2⟩ := frok_bd oy
      have n1 : f.1.natAbs < 2 ^ 25000 := pow_nat f0 (Int.lt_of_le_of_lt f1 b2)
      have n2 : f.2.natAbs < 2 ^ 8300 := pow_nat (Int.le_of_lt al.d0) (Int.lt_of_le_of_lt f2 b4)
      have hd : 0 < f.2 * y.2 := Int.mul_pos al.d0 oy.d0
      have hn : 0 ≤ f.1 * y.2 + y.1 * f.2 := by
        have := Int.mul_nonneg f0 (Int.le_of_lt oy.d0)
        have := Int.mul_nonneg (Int.le_of_lt oy.n0) (Int.le_of_lt al.d0)
        omega
      have hz : f.2 * y.2 < 2 ^ 8600 := by
        have m := wide_lt n2 y2
        have m2 : (f.2 * y.2).natAbs < 2 ^ 8600 := Nat.lt_of_lt_of_le m (Nat.pow_le_pow_right (by decide) (by decide))
        have e : ((f.2 * y.2).natAbs : Int) = f.2 * y.2 := Int.natAbs_of_nonneg (Int.le_of_lt hd)
        have m3 : (((f.2 * y.2).natAbs : Nat) : Int) < ((2 ^ 8600 : Nat) : Int) := Int.ofNat_lt.mpr m2
        rw [e, Int.natCast_pow] at m3
        exact m3
      refine ⟨b, _, rfl, SqT.mono s1 ht, rfl, _, _, rfl, _, _, rfl, rfl, ?_⟩
      have tp : SqT K H' p [.int f.1, .int f.2] := SqT.of hp'
      -- total[0] * denominator + numerator * total[1]
      refine ⟨_, rfl, p, _, 0, _, rfl, rfl, tp, atI_nat (j := 0) rfl, _, rfl, _, _, rfl, rfl, mulx_ok n1 y2 (by decide), ?_⟩
      refine ⟨_, rfl, _, rfl, p, _, 1, _, rfl, rfl, tp, atI_nat (j := 1) rfl, _, _, rfl, rfl, mulx_ok y1 n2 (by decide), _, _, rfl, rfl, ?_⟩
      refine ⟨_, rfl, p, _, 1, _, rfl, rfl, tp, atI_nat (j := 1) rfl, _, rfl, _, _, rfl, rfl, mulx_ok n2 y2 (by decide), ?_⟩
      refine ⟨_, _, rfl, hn, hd, hz, fun t ht' => ?_⟩
      have la := Gw.lowest_alike (n := f.1 * y.2 + y.1 * f.2) hd
      have ll := Gw.lowest_le (d := f.2 * y.2) hn hd
      have fa : Gw.Alike (Gw.fadd f y) (Gw.fadd (Gw.fsum (l.take i)) y) := Gw.alike_add al oy.d0
      refine ⟨Same.put s1 (s1.free ht'), t, Gw.lowest (f.1 * y.2 + y.1 * f.2) (f.2 * y.2), _, _, rfl, upd_same, ?_, ll.1, ?_, ?_⟩
      · rw [htk, Gw.fsum_snoc]; exact Gw.alike_trans la hd fa
      · rw [htk, Gw.fsum_snoc]
        refine Int.le_trans ll.2.1 (Int.add_le_add (Int.mul_le_mul_of_nonneg_right f1 (Int.le_of_lt oy.d0)) (Int.mul_le_mul_of_nonneg_left f2 (Int.le_of_lt oy.n0)))
      · rw [htk, Gw.fsum_snoc]
        exact Int.le_trans ll.2.2 (Int.mul_le_mul_of_nonneg_right f2 (Int.le_of_lt oy.d0))
    · rintro σ H' ⟨s1, p, f, o1, o2, rfl, hp', al, f0, f1, f2⟩
      have e : l.take xs.length = l := by rw [hp.length, List.take_length]
      rw [e] at al f1 f2
      obtain ⟨b1, b2, b3, b4⟩ := fsum_small ok.ok (by have := ok.len; omega)
      refine ⟨_, rfl, q H' p f s1 hp' al f0 (Int.lt_of_le_of_lt f1 b2) ?_⟩
      have x1 : (2 : Int) ^ 8300 ≤ 2 ^ 8600 := Gw.pow_mono (by decide)
      exact Int.lt_of_lt_of_le (Int.lt_of_le_of_lt f2 b4) x1
abbrev s_at_most : Stmt := top 14
theorem sc_at_most : FnScope ["fraction", "number"] ["fraction", "number"] (C8.fnScope s_at_most) := C8.fnScope_by (by decide +kernel)

def spAtMost (K : PySem.W.Frag) : Sp := fun vs H Q _ => ∃ (v : V) (f : Int × Int) (n : Int), vs = [v, .int n] ∧ IsFr K H v f ∧ n.natAbs < 2 ^ 60 ∧ f.2.natAbs < 2 ^ 9000 ∧ Q (.bl (decide (f.1 ≤ n * f.2))) H
theorem ok_atMost (F : DefAt K mg "at_most" s_at_most ["fraction", "number"]) (T : Txt K mg CN CG) : C8.Cal P w K mg base 1 "at_most" (spAtMost K) [] := by
  refine cal F sc_at_most (fun vs H Q E h => ?_) (fun f cdv A outer s H vs Q E hr h => ?_)
  · obtain ⟨a, b, c, rfl, _⟩ := h; rfl
  · obtain ⟨v, f, n, rfl, ⟨a, rfl, ht⟩, h1, h2, q⟩ := h
    have nd := sc_at_most.nd
    refine ⟨_, (pss_one (ps_ret (pe_cmpR op_le (pe_ix (ixt K) (pv 0) pe_int (fun _ _ => rfl)) (pe_op op_mulX (pv 1) (pe_ix (ixt K) (pv 0) pe_int (fun _ _ => rfl))) (nomark _)))), ?_⟩
    refine ⟨_, rfl, a, _, 0, _, rfl, rfl, ht, atI_nat (j := 0) rfl, _, rfl, _, rfl, a, _, 1, _, rfl, rfl, ht, atI_nat (j := 1) rfl, _, _, rfl, rfl, mulx_ok h1 h2 (by decide), _, _, rfl, rfl, q⟩
end
end K5

namespace K5
open PySem PySem.Spec PyProof.Rows L2
section
variable {P : Program} {w : World} {K : PySem.W.Frag} {mg : Str → Option Value} {base : Heap} {CN CG : Addr}
abbrev s_check_edge : Stmt := top 19
theorem sc_check_edge : FnScope ["size", "edge", "number", "u", "v", "price"] ["size", "edge", "number"] (C8.fnScope s_check_edge) := C8.fnScope_by (by decide +kernel)

def spCheckEdge (K : PySem.W.Frag) : Sp := fun vs H Q _ => ∃ (n : Nat) (v : V) (e : Ed) (k : Int), vs = [.int n, v, .int k] ∧ IsEd K H v e ∧ EdOk n e ∧ Q .non H
theorem ok_checkEdge (F : DefAt K mg "check_edge" s_check_edge ["size", "edge", "number"]) (T : Txt K mg CN CG) : C8.Cal P w K mg base 1 "check_edge" (spCheckEdge K) [] := by
  refine cal F sc_check_edge (fun vs H Q E h => ?_) (fun f cdv A outer s H vs Q E hr h => ?_)
  · obtain ⟨_, _, _, _, rfl, _⟩ := h; rfl
  · obtain ⟨n, v, e, k, rfl, ⟨a, rfl, ht⟩, ok, q⟩ := h
    have nd := sc_check_edge.nd
    refine ⟨_, (pss_cons (ps_asg (pv 1) (pg_t K 3 rfl (pgs_cons (pg_name (i := 3) nd rfl (Or.inl rfl)) (pgs_cons (pg_name (i := 4) nd rfl (Or.inl rfl)) (pgs_cons (pg_name (i := 5) nd rfl (Or.inl rfl)) pgs_nil)))))
      (pss_cons (ps_if (PW.pt (pw_or (pt_not (pt_chain op_le op_lt pe_int (pv 3) (pv 0))) (pw_or (pt_not (pt_chain op_le op_lt pe_int (pv 4) (pv 0))) (pw_or1 (pt_cmpR op_eq (pv 3) (pv 4) (nomark _)))))) (pss_one ps_never) pss_nil)
      (pss_one (ps_if (pt_not (pt_chain op_le op_le pe_int (pv 5) (C8.pe_gc (by rfl) T.MOST_PRICE))) (pss_one ps_never) pss_nil)))), ?_⟩
    obtain ⟨⟨u0, u1⟩, ⟨v0, v1⟩, ne, p0, p1⟩ := ok
    refine ⟨_, rfl, a, _, rfl, ht, rfl, _, _, rfl, _, _, rfl, _, _, rfl, rfl, ?_⟩
    refine ⟨_, rfl, _, _, rfl, rfl, _, rfl, ifd u0 ⟨_, rfl, _, _, rfl, rfl, _, rfl, ifnt u1 ?_⟩⟩
    refine ⟨_, rfl, _, _, rfl, rfl, _, rfl, ifd v0 ⟨_, rfl, _, _, rfl, rfl, _, rfl, ifnt v1 ?_⟩⟩
    refine ⟨_, rfl, _, rfl, rfl, _, rfl, ifnd (fun z => ne (V.int.inj z)) ?_⟩
    exact ⟨_, rfl, _, _, rfl, rfl, _, rfl, ifd p0 ⟨_, _, rfl, rfl, _, rfl, ifnt p1 q⟩⟩
abbrev s_Network_size : Stmt := L2.inClass (top 20) 1
theorem sc_Network_size : FnScope ["self"] ["self"] (C8.fnScope s_Network_size) := C8.fnScope_by (by decide +kernel)

def spSize (K : PySem.W.Frag) (CN : Addr) : Sp := fun vs H Q _ => ∃ (v : V) (n : Nat) (es : List Ed), vs = [v] ∧ NetAt K H CN n es v ∧ Q (.int n) H
theorem ok_size (F : MetAt K CN "size" "Network.size" s_Network_size ["self"]) (T : Txt K mg CN CG) : C8.Met P w K mg base 1 CN "size" (spSize K CN) [] := by
  refine met F T.clN sc_Network_size (fun vs H Q E h => ?_) (fun f cdv A outer s H vs Q E hr h => ?_)
  · obtain ⟨_, _, _, rfl, _⟩ := h; rfl
  · obtain ⟨v, n, es, rfl, ⟨p, dx, le, xs, rfl, h1, h2, h3⟩, q⟩ := h
    have nd := sc_Network_size.nd
    refine ⟨_, (pss_one (ps_ret (pe_f K (pv 0)))), ?_⟩
    exact ⟨_, rfl, p, CN, dx, _, _, rfl, h1, T.clN, T.nSize, nf_size _ _, q⟩
abbrev s_Network_edges : Stmt := L2.inClass (top 20) 2
theorem sc_Network_edges : FnScope ["self"] ["self"] (C8.fnScope s_Network_edges) := C8.fnScope_by (by decide +kernel)

def spEdges (K : PySem.W.Frag) (CN : Addr) : Sp := fun vs H Q _ => ∃ (v : V) (n : Nat) (es : List Ed), vs = [v] ∧ NetAt K H CN n es v ∧ ∀ p xs, H p = none → Paired (IsEd K H) xs es → Q (.ref p) (upd H p (.lst xs))
theorem ok_edges (F : MetAt K CN "edges" "Network.edges" s_Network_edges ["self"]) (T : Txt K mg CN CG) : C8.Met P w K mg base 1 CN "edges" (spEdges K CN) [] := by
  refine met F T.clN sc_Network_edges (fun vs H Q E h => ?_) (fun f cdv A outer s H vs Q E hr h => ?_)
  · obtain ⟨_, _, _, rfl, _⟩ := h; rfl
  · obtain ⟨v, n, es, rfl, ⟨p, dx, le, xs, rfl, h1, h2, h3⟩, q⟩ := h
    have nd := sc_Network_edges.nd
    refine ⟨_, (pss_one (ps_ret (pe_callTy (listOf K) (by rfl) T.list (by decide +kernel) (pa_cons (pe_f K (pv 0)) pa_nil)))), ?_⟩
    exact ⟨_, rfl, p, CN, dx, _, _, rfl, h1, T.clN, T.nEdges, nf_edges _ _, le, xs, rfl, .inl (SqL.of h2), fun l hl => q l xs hl h3⟩
abbrev s_Network_check_vertex : Stmt := L2.inClass (top 20) 3
theorem sc_Network_check_vertex : FnScope ["self", "vertex"] ["self", "vertex"] (C8.fnScope s_Network_check_vertex) := C8.fnScope_by (by decide +kernel)

def spCheckVertex (K : PySem.W.Frag) (CN : Addr) : Sp := fun vs H Q _ => ∃ (v : V) (n : Nat) (es : List Ed) (i : Int), vs = [v, .int i] ∧ NetAt K H CN n es v ∧ (0 ≤ i ∧ i < n) ∧ Q .non H
theorem ok_checkVertex (F : MetAt K CN "check_vertex" "Network.check_vertex" s_Network_check_vertex ["self", "vertex"]) (T : Txt K mg CN CG) : C8.Met P w K mg base 1 CN "check_vertex" (spCheckVertex K CN) [] := by
  refine met F T.clN sc_Network_check_vertex (fun vs H Q E h => ?_) (fun f cdv A outer s H vs Q E hr h => ?_)
  · obtain ⟨_, _, _, _, rfl, _⟩ := h; rfl
  · obtain ⟨v, n, es, i, rfl, ⟨p, dx, le, xs, rfl, h1, h2, h3⟩, ⟨i0, i1⟩, q⟩ := h
    have nd := sc_Network_check_vertex.nd
    refine ⟨_, (pss_one (ps_if (pt_not (pt_chain op_le op_lt pe_int (pv 1) (pe_f K (pv 0)))) (pss_one ps_never) pss_nil)), ?_⟩
    exact ⟨_, rfl, _, _, rfl, rfl, _, rfl, ifd i0 ⟨_, rfl, p, CN, dx, _, _, rfl, h1, T.clN, T.nSize, nf_size _ _, _, _, rfl, rfl, _, rfl, ifnt i1 q⟩⟩
abbrev s_Network___init__ : Stmt := L2.inClass (top 20) 0
theorem sc_Network___init__ : FnScope ["self", "size", "edges", "number"] ["self", "size", "edges"] (C8.fnScope s_Network___init__) := C8.fnScope_by (by decide +kernel)

def spNetInit (K : PySem.W.Frag) (CN : Addr) : Sp := fun vs H Q _ => ∃ (x dx : Addr) (n : Nat) (v : V) (es : List Ed), vs = [.ref x, .int n, v] ∧ H x = some (.ins CN dx []) ∧ IsL K H (IsEd K H) v es ∧ (1 ≤ n ∧ n ≤ 40) ∧ es.length ≤ 200 ∧ (∀ e ∈ es, EdOk n e) ∧
  ∀ H', (∀ b o, H b = some o → b ≠ x → H' b = some o) → (∃ le xs, H le = none ∧ H' x = some (.ins CN dx (nf n le)) ∧ H' le = some (.lst xs) ∧ Paired (IsEd K H) xs es) → Q .non H'
theorem ok_netInit (C : ∃ fI, Mk K CN fI ∧ mg "Network" = some (.ref CN) ∧ ∃ fd, C8.Fun K "__init__" "Network.__init__" s_Network___init__ fI fd ∧ Binds K fd ["self", "size", "edges"] []) (T : Txt K mg CN CG) (c_check_edge : C8.Cal P w K mg base 1 "check_edge" (spCheckEdge K) []) : C8.Mak P w K mg base 2 "Network" CN (spNetInit K CN) [] := by
  obtain ⟨fI, M, hm, fd, F, b⟩ := C
  refine C8.mak0 M hm F b .nil sc_Network___init__ (fun vs H Q E h => ?_) (fun cdv A outer s H vs Q E hr h => ?_)
  · obtain ⟨_, _, _, _, _, rfl, _⟩ := h; rfl
  · obtain ⟨x, dx, n, v, es, rfl, hx, ⟨a, xs, rfl, hs, hp⟩, ⟨n1, n2⟩, hl, ok, q⟩ := h
    have nd := sc_Network___init__.nd
    refine ⟨_, (pss_cons (ps_if (pt_not (pt_chain op_le op_le pe_int (pv 1) (C8.pe_gc (by rfl) T.MOST_VERTICES))) (pss_one ps_never) pss_nil)
      (pss_cons (ps_if (pt_cmpR op_gt (pe_callB (lenS K) (by rfl) T.len (by decide +kernel) (pa_cons (pv 2) pa_nil)) (C8.pe_gc (by rfl) T.MOST_EDGES) (nomark _)) (pss_one ps_never) pss_nil)
      (pss_cons (ps_for PassesOwn.never rfl (pi_range1 (by rfl) T.range (pa_cons (pe_callB (lenS K) (by rfl) T.len (by decide +kernel) (pa_cons (pv 2) pa_nil)) pa_nil)) (pg_name (i := 3) nd rfl (Or.inl rfl)) (pss_one (ps_expr (C8.pe_c c_check_edge hr (by decide) (by rfl) (pa_cons (pv 1) (pa_cons (pe_ix (ixl K) (pv 2) (pv 3) (fun _ _ => rfl)) (pa_cons (pv 3) pa_nil)))))))
      (pss_cons (ps_fld (pv 0) (pv 1) rfl)
      (pss_one (ps_fld (pv 0) (pe_callTy (listOf K) (by rfl) T.list (by decide +kernel) (pa_cons (pv 2) pa_nil)) rfl)))))), ?_⟩
    have lx : xs.length = es.length := hp.length
    refine ⟨_, rfl, _, _, rfl, rfl, _, rfl, ifd (by omega) ⟨_, _, rfl, rfl, _, rfl, ifnt (by omega) ?_⟩⟩
    refine ⟨_, rfl, a, xs, rfl, .inl hs, _, _, rfl, rfl, _, rfl, ifnd (by omega) ?_⟩
    refine ⟨_, rfl, a, xs, rfl, .inl hs, _, rfl, by omega, by omega, ?_⟩
    refine for_range (lo := 0) (n := (xs.length : Int).toNat) (fun i σ H' => H = H' ∧ ∃ o, σ = [some (.ref x), some (.int n), some (.ref a), o]) ⟨rfl, _, rfl⟩ ?_ ?_
    · rintro i σ H' hi ⟨rfl, o, rfl⟩
      have hi2 : i < xs.length := by omega
      obtain ⟨e, he, hv⟩ := Paired.at hp (List.getElem?_eq_getElem hi2)
      refine ⟨_, rfl, _, rfl, _, rfl, a, xs, _, _, rfl, rfl, hs, atI_at (by omega) (by rw [show ((0 : Int) + (i : Int)).toNat = i by omega]; exact List.getElem?_eq_getElem hi2), _, rfl, ?_⟩
      exact ⟨n, _, e, _, rfl, hv, ok e (List.mem_of_getElem? he), rfl, _, rfl⟩
    · rintro σ H' ⟨rfl, o, rfl⟩
      refine ⟨_, rfl, _, rfl, x, CN, dx, [], rfl, hx, T.clN, T.nSize, by show 0 < 1000; decide, ?_⟩
      have hs' : SqL K (upd H x (.ins CN dx (putF "_size" (V.int n) []))) a xs := by
        rcases hs with (h | ⟨o, h⟩) | h
        · exact .inl (.inl (by rw [upd_ne (ne_of h hx (by intro z; cases z))]; exact h))
        · exact .inl (.inr ⟨o, by rw [upd_ne (ne_of h hx (by intro z; cases z))]; exact h⟩)
        · exact .inr h
      refine ⟨_, rfl, a, xs, rfl, .inl hs', fun l hl => ?_⟩
      have nlx : x ≠ l := ne_of_none (upd_same (H := H) (a := x)) hl
      have hl0 : H l = none := by rw [upd_ne nlx.symm] at hl; exact hl
      refine ⟨_, rfl, x, CN, dx, _, rfl, (upd_ne nlx).trans upd_same, T.clN, T.nEdges, by show 1 < 1000; decide, ?_⟩
      have ep : putF ("_edges" : Str) (V.ref l) (putF ("_size" : Str) (V.int n) []) = nf n l := by
        show (if ("_size" : Str) = "_edges" then _ else (("_size" : Str), V.int n) :: putF ("_edges" : Str) (V.ref l) []) = nf n l
        rw [if_neg (by decide +kernel)]; rfl
      refine q _ (fun b o e hb => ?_) ⟨l, xs, hl0, by rw [upd_same, ep], by rw [upd_ne nlx.symm, upd_same], hp⟩
      rw [upd_ne hb, upd_ne (ne_of_none e hl0), upd_ne hb]; exact e
end
end K5

namespace K5
open PySem PySem.Spec PyProof.Rows L2
section
variable {P : Program} {w : World} {K : PySem.W.Frag} {mg : Str → Option Value} {base : Heap} {CN CG : Addr}
abbrev s_is_ascending : Stmt := top 30
theorem sc_is_ascending : FnScope ["network", "numbers", "k"] ["network", "numbers"] (C8.fnScope s_is_ascending) := C8.fnScope_by (by decide +kernel)

def spAsc (K : PySem.W.Frag) (CN : Addr) : Sp := fun vs H Q _ => ∃ (v u : V) (n : Nat) (es : List Ed) (l : List Int), vs = [v, u] ∧ NetAt K H CN n es v ∧ IsIs K H u l ∧ l.length ≤ 1000 ∧ ∀ H', Same H H' → Q (.bl (dec (AscP es.length l))) H'
theorem ok_asc (F : DefAt K mg "is_ascending" s_is_ascending ["network", "numbers"]) (T : Txt K mg CN CG) (m_edges : C8.Met P w K mg base 1 CN "edges" (spEdges K CN) []) : C8.Cal P w K mg base 2 "is_ascending" (spAsc K CN) [] := by
  refine cal F sc_is_ascending (fun vs H Q E h => ?_) (fun f cdv A outer s H vs Q E hr h => ?_)
  · obtain ⟨_, _, _, _, _, rfl, _⟩ := h; rfl
  · obtain ⟨v, u, n, es, l, rfl, hN, ⟨a, rfl, hs⟩, hz, q⟩ := h
    have nd := sc_is_ascending.nd
    refine ⟨_, (pss_cons (ps_for PassesOwn.never rfl (pi_range1 (by rfl) T.range (pa_cons (pe_callB (lenS K) (by rfl) T.len (by decide +kernel) (pa_cons (pv 1) pa_nil)) pa_nil)) (pg_name (i := 2) nd rfl (Or.inl rfl)) (pss_one (ps_if (PW.pt (pw_or (pt_not (pt_chain op_le op_lt pe_int (pe_ix (ixl K) (pv 1) (pv 2) (fun _ _ => rfl)) (pe_callB (lenS K) (by rfl) T.len (by decide +kernel) (pa_cons (C8.pe_mt0 m_edges hr (by decide) (pv 0)) pa_nil)))) (pw_or1 (PW.pt (pw_and (pt_cmpR op_gt (pv 2) pe_int (nomark _)) (pw_and1 (pt_cmpR op_le (pe_ix (ixl K) (pv 1) (pv 2) (fun _ _ => rfl)) (pe_ix (ixl K) (pv 1) (pe_op op_sub (pv 2) pe_int) (fun _ _ => rfl)) (nomark _)))))))) (pss_one (ps_ret pe_bl)) pss_nil)))
      (pss_one (ps_ret pe_bl))), ?_⟩
    have ll : (l.map V.int).length = l.length := List.length_map ..
    refine ⟨_, rfl, a, _, rfl, .inl hs, _, rfl, by rw [ll]; omega, by rw [ll]; omega, ?_⟩
    rw [ll]
    refine for_rng (fun i σ H' => Same H H' ∧ (∃ o, σ = [some v, some (.ref a), o]) ∧ ∀ k : Nat, k < i → (0 ≤ l.getD k 0 ∧ l.getD k 0 < es.length) ∧ (0 < k → l.getD (k - 1) 0 < l.getD k 0)) ⟨Same.refl _, ⟨_, rfl⟩, fun k hk => by omega⟩ ?_ ?_
    · rintro i σ H' hi ⟨s1, ⟨o, rfl⟩, ih⟩
      have hs1 := SqL.mono s1 hs
      have e1 : atI (l.map V.int) (i : Int) = some (V.int (l.getD i 0)) := atI_lt (by omega) (by omega)
      refine ⟨_, rfl, _, rfl, a, _, _, _, rfl, rfl, hs1, e1, _, _, rfl, rfl, _, rfl, ?_⟩
      have bad : ¬ ((0 ≤ l.getD i 0 ∧ l.getD i 0 < es.length) ∧ (0 < i → l.getD (i - 1) 0 < l.getD i 0)) → dec (AscP es.length l) = false := fun z => dec_f fun asc => z (asc i hi)
      by_cases h0 : 0 ≤ l.getD i 0
      · refine ifd h0 ?_
        obtain ⟨p, dx, le, xs, rfl, n1, n2, n3⟩ := id (hN.mono s1)
        refine ⟨_, rfl, p, dx, _, rfl, n1, nf_no _ _ (by decide +kernel) (by decide +kernel), _, n, es, rfl, hN.mono s1, fun t xs' ht hp => ?_⟩
        have s2 : Same H (upd H' t (.lst xs')) := Same.put s1 (s1.free ht)
        have hs2 := SqL.mono s2 hs
        refine ⟨t, xs', rfl, .inl (SqL.of upd_same), _, _, rfl, rfl, _, rfl, ?_⟩
        rw [hp.length]
        by_cases h1 : l.getD i 0 < (es.length : Int)
        · refine ifnt h1 ⟨_, rfl, _, _, rfl, rfl, _, rfl, ?_⟩
          by_cases hi0 : (0 : Int) < (i : Int)
          · refine ifd hi0 ⟨_, rfl, _, rfl, a, _, _, _, rfl, rfl, hs2, e1, _, rfl, _, rfl, _, _, rfl, rfl, a, _, _, _, rfl, rfl, hs2, atI_lt (by omega) (by omega), _, _, rfl, rfl, _, rfl, ?_⟩
            have ei : ((i : Int) - 1).toNat = i - 1 := by omega
            rw [ei]
            by_cases h2 : l.getD i 0 ≤ l.getD (i - 1) 0
            · refine ifd h2 ?_
              have := q _ s2
              rw [bad fun z => by have := z.2 (by omega); omega] at this
              exact this
            · refine ifnd h2 ⟨s2, ⟨_, rfl⟩, fun k hk => ?_⟩
              by_cases e : k = i
              · subst e; exact ⟨⟨h0, h1⟩, fun _ => by omega⟩
              · exact ih k (by omega)
          · refine ifnd hi0 ⟨s2, ⟨_, rfl⟩, fun k hk => ?_⟩
            have : k = i := by omega
            subst this
            exact ⟨⟨h0, h1⟩, fun _ => by omega⟩
        · refine ifnf h1 ?_
          have := q _ s2
          rw [bad fun z => h1 z.1.2] at this
          exact this
      · refine ifnd h0 ⟨_, rfl, iteT ?_⟩
        have := q _ s1
        rw [bad fun z => h0 z.1.1] at this
        exact this
    · rintro σ H' ⟨s1, ⟨o, rfl⟩, ih⟩
      have := q _ s1
      rw [dec_t (show AscP es.length l from ih)] at this
      exact this

abbrev s_price_of : Stmt := top 33
theorem sc_price_of : FnScope ["network", "numbers", "edges", "number"] ["network", "numbers"] (C8.fnScope s_price_of) := C8.fnScope_by (by decide +kernel)

def prSum (N : Gw.Net) (C : List Int) : Int := (C.map fun k => (N.ed k).2.2).sum
def spPriceOf (K : PySem.W.Frag) (CN : Addr) : Sp := fun vs H Q _ => ∃ (v u : V) (N : Gw.Net) (l : List Int), vs = [v, u] ∧ NetAt K H CN N.n N.es v ∧ IsIs K H u l ∧ (∀ k ∈ l, N.isE k) ∧ l.length ≤ 1000 ∧ ∀ H', Same H H' → Q (.int (prSum N l)) H'
theorem ok_priceOf (F : DefAt K mg "price_of" s_price_of ["network", "numbers"]) (T : Txt K mg CN CG) (m_edges : C8.Met P w K mg base 1 CN "edges" (spEdges K CN) []) : C8.Cal P w K mg base 2 "price_of" (spPriceOf K CN) [] := by
  refine cal F sc_price_of (fun vs H Q E h => ?_) (fun f cdv A outer s H vs Q E hr h => ?_)
  · obtain ⟨_, _, _, _, rfl, _⟩ := h; rfl
  · obtain ⟨v, u, N, l, rfl, hN, ⟨a, rfl, hs⟩, hE, hz, q⟩ := h
    have nd := sc_price_of.nd
    refine ⟨_, (pss_cons (ps_set (i := 2) nd rfl (Or.inr rfl) (C8.pe_mt0 m_edges hr (by decide) (pv 0)))
      (pss_one (ps_ret (pe_callB (crSum K rfl) (by rfl) T.sum (by decide +kernel) (pa_cons (pe_lc (own := [("number", 3)]) rfl nd (pi_l K (pv 1)) (blkOk_by (by kernel_rfl)) (fun _ _ _ _ _ => (pg_name (i := 3) nd rfl (Or.inl rfl))) (fun _ _ _ _ _ => pts_nil) (fun _ _ _ _ _ => (pe_ix (ixt K) (pe_ix (ixl K) (pv 2) (pv 3) (fun _ _ => rfl)) pe_int (fun _ _ => rfl)))) pa_nil))))), ?_⟩
    obtain ⟨p, dx, le, xs, rfl, n1, n2, n3⟩ := id hN
    refine ⟨_, rfl, p, dx, _, rfl, n1, nf_no _ _ (by decide +kernel) (by decide +kernel), _, N.n, N.es, rfl, hN, fun t xs' ht hp => ?_⟩
    have s1 : Same H (upd H t (.lst xs')) := Same.new ht
    refine ⟨_, rfl, a, rfl, ⟨_, SqL.mono s1 hs⟩, fun D hD => ?_⟩
    refine lc_map l V.int (fun k => .int (N.ed k).2.2) hD (SqL.mono s1 hs) (by rw [szl]; omega) (fun y hy H2 s2 Qt ht => ?_) (fun H2 s2 hD2 => ?_)
    · have s12 := s1.trans s2
      obtain ⟨t2, e2, ht2⟩ := es_at (hp.mono fun _ _ => IsEd.mono s12) (hE y hy)
      exact ⟨rfl, _, rfl, _, rfl, t, _, _, _, rfl, rfl, SqL.of (s2 _ _ upd_same), e2, t2, _, 2, _, rfl, rfl, ht2, atI_nat (j := 2) rfl, ht _ (Same.refl _)⟩
    · have e3 : (l.map fun k => V.int (N.ed k).2.2) = (l.map fun k => (N.ed k).2.2).map V.int := by rw [List.map_map]; rfl
      rw [e3] at hD2
      exact ⟨D, _, rfl, SqL.of hD2, q _ (s1.trans s2)⟩
abbrev s_check_prizes : Stmt := top 22
theorem sc_check_prizes : FnScope ["network", "root", "prizes", "k"] ["network", "root", "prizes"] (C8.fnScope s_check_prizes) := C8.fnScope_by (by decide +kernel)

def PzOk (n : Nat) (pz : List Int) : Prop := pz.length = n ∧ ∀ p ∈ pz, 0 ≤ p ∧ p ≤ 1048576
def spCheckPrizes (K : PySem.W.Frag) (CN : Addr) : Sp := fun vs H Q _ => ∃ (v u : V) (n : Nat) (es : List Ed) (r : Int) (pz : List Int), vs = [v, .int r, u] ∧ NetAt K H CN n es v ∧ IsIs K H u pz ∧ (0 ≤ r ∧ r < n) ∧ PzOk n pz ∧ n ≤ 40 ∧ Q .non H
theorem ok_checkPrizes (F : DefAt K mg "check_prizes" s_check_prizes ["network", "root", "prizes"]) (T : Txt K mg CN CG) (m_size : C8.Met P w K mg base 1 CN "size" (spSize K CN) []) (m_check_vertex : C8.Met P w K mg base 1 CN "check_vertex" (spCheckVertex K CN) []) :
    C8.Cal P w K mg base 2 "check_prizes" (spCheckPrizes K CN) [] := by
  refine cal F sc_check_prizes (fun vs H Q E h => ?_) (fun f cdv A outer s H vs Q E hr h => ?_)
  · obtain ⟨_, _, _, _, _, _, rfl, _⟩ := h; rfl
  · obtain ⟨v, u, n, es, r, pz, rfl, hN, ⟨a, rfl, hs⟩, hr0, ⟨hp1, hp2⟩, hn, q⟩ := h
    have nd := sc_check_prizes.nd
    refine ⟨_, (pss_cons (ps_expr (C8.pe_mt m_check_vertex hr (by decide) (pv 0) (pa_cons (pv 1) pa_nil)))
      (pss_cons (ps_if (pt_cmpR op_ne (pe_callB (lenS K) (by rfl) T.len (by decide +kernel) (pa_cons (pv 2) pa_nil)) (C8.pe_mt0 m_size hr (by decide) (pv 0)) (nomark _)) (pss_one ps_never) pss_nil)
      (pss_one (ps_for PassesOwn.never rfl (pi_range1 (by rfl) T.range (pa_cons (pe_callB (lenS K) (by rfl) T.len (by decide +kernel) (pa_cons (pv 2) pa_nil)) pa_nil)) (pg_name (i := 3) nd rfl (Or.inl rfl)) (pss_one (ps_if (pt_not (pt_chain op_le op_le pe_int (pe_ix (ixl K) (pv 2) (pv 3) (fun _ _ => rfl)) (C8.pe_gc (by rfl) T.MOST_PRICE))) (pss_one ps_never) pss_nil)))))), ?_⟩
    obtain ⟨p, dx, le, xs, rfl, n1, n2, n3⟩ := id hN
    have ll : (pz.map V.int).length = pz.length := List.length_map ..
    refine ⟨_, rfl, p, dx, _, rfl, n1, nf_no _ _ (by decide +kernel) (by decide +kernel), _, rfl, _, n, es, r, rfl, hN, hr0, ?_⟩
    refine ⟨_, rfl, a, _, rfl, .inl hs, _, rfl, p, dx, _, rfl, n1, nf_no _ _ (by decide +kernel) (by decide +kernel), _, n, es, rfl, hN, rfl, _, rfl, ifnt (by rw [ll, hp1]) ?_⟩
    refine ⟨_, rfl, a, _, rfl, .inl hs, _, rfl, by rw [ll]; omega, by rw [ll]; omega, ?_⟩
    rw [ll]
    refine for_rng (fun i σ H' => H = H' ∧ ∃ o, σ = [some (.ref p), some (.int r), some (.ref a), o]) ⟨rfl, _, rfl⟩ ?_ ?_
    · rintro i σ H' hi ⟨rfl, o, rfl⟩
      have e1 : atI (pz.map V.int) (i : Int) = some (V.int (pz.getD i 0)) := atI_lt (by omega) (by omega)
      have b := hp2 _ (show pz.getD i 0 ∈ pz by rw [Gw.getD_lt hi]; exact List.getElem_mem hi)
      exact ⟨_, rfl, _, rfl, a, _, _, _, rfl, rfl, hs, e1, _, _, rfl, rfl, _, rfl, ifd b.1 ⟨_, _, rfl, rfl, _, rfl, ifnt b.2 ⟨rfl, _, rfl⟩⟩⟩
    · rintro σ H' ⟨rfl, o, rfl⟩
      exact q
abbrev s_check_choice_list : Stmt := top 38
theorem sc_check_choice_list : FnScope ["network", "choice", "k"] ["network", "choice"] (C8.fnScope s_check_choice_list) := C8.fnScope_by (by decide +kernel)

def spCheckChoice (K : PySem.W.Frag) (CN : Addr) : Sp := fun vs H Q _ => ∃ (v u : V) (n : Nat) (es : List Ed) (l : List Int), vs = [v, u] ∧ NetAt K H CN n es v ∧ IsIs K H u l ∧ AscP es.length l ∧ l.length ≤ 1000 ∧ ∀ H', Same H H' → Q .non H'
theorem ok_checkChoice (F : DefAt K mg "check_choice_list" s_check_choice_list ["network", "choice"]) (T : Txt K mg CN CG) (m_edges : C8.Met P w K mg base 1 CN "edges" (spEdges K CN) []) : C8.Cal P w K mg base 2 "check_choice_list" (spCheckChoice K CN) [] := by
  refine cal F sc_check_choice_list (fun vs H Q E h => ?_) (fun f cdv A outer s H vs Q E hr h => ?_)
  · obtain ⟨_, _, _, _, _, rfl, _⟩ := h; rfl
  · obtain ⟨v, u, n, es, l, rfl, hN, ⟨a, rfl, hs⟩, asc, hz, q⟩ := h
    have nd := sc_check_choice_list.nd
    refine ⟨_, (pss_one (ps_for PassesOwn.never rfl (pi_range1 (by rfl) T.range (pa_cons (pe_callB (lenS K) (by rfl) T.len (by decide +kernel) (pa_cons (pv 1) pa_nil)) pa_nil)) (pg_name (i := 2) nd rfl (Or.inl rfl)) (pss_one (ps_if (PW.pt (pw_or (pt_not (pt_chain op_le op_lt pe_int (pe_ix (ixl K) (pv 1) (pv 2) (fun _ _ => rfl)) (pe_callB (lenS K) (by rfl) T.len (by decide +kernel) (pa_cons (C8.pe_mt0 m_edges hr (by decide) (pv 0)) pa_nil)))) (pw_or1 (PW.pt (pw_and (pt_cmpR op_gt (pv 2) pe_int (nomark _)) (pw_and1 (pt_cmpR op_le (pe_ix (ixl K) (pv 1) (pv 2) (fun _ _ => rfl)) (pe_ix (ixl K) (pv 1) (pe_op op_sub (pv 2) pe_int) (fun _ _ => rfl)) (nomark _)))))))) (pss_one ps_never) pss_nil)))), ?_⟩
    have ll : (l.map V.int).length = l.length := List.length_map ..
    refine ⟨_, rfl, a, _, rfl, .inl hs, _, rfl, by rw [ll]; omega, by rw [ll]; omega, ?_⟩
    rw [ll]
    refine for_rng (fun i σ H' => Same H H' ∧ (∃ o, σ = [some v, some (.ref a), o])) ⟨Same.refl _, _, rfl⟩ ?_ ?_
    · rintro i σ H' hi ⟨s1, o, rfl⟩
      have hs1 := SqL.mono s1 hs
      have e1 : atI (l.map V.int) (i : Int) = some (V.int (l.getD i 0)) := atI_lt (by omega) (by omega)
      obtain ⟨⟨b0, b1⟩, b2⟩ := asc i hi
      obtain ⟨p, dx, le, xs, rfl, n1, n2, n3⟩ := id (hN.mono s1)
      refine ⟨_, rfl, _, rfl, a, _, _, _, rfl, rfl, hs1, e1, _, _, rfl, rfl, _, rfl, ifd b0 ?_⟩
      refine ⟨_, rfl, p, dx, _, rfl, n1, nf_no _ _ (by decide +kernel) (by decide +kernel), _, n, es, rfl, hN.mono s1, fun t xs' ht hp => ?_⟩
      have s2 : Same H (upd H' t (.lst xs')) := Same.put s1 (s1.free ht)
      have hs2 := SqL.mono s2 hs
      refine ⟨t, xs', rfl, .inl (SqL.of upd_same), _, _, rfl, rfl, _, rfl, ifnt (by rw [hp.length]; exact b1) ⟨_, rfl, _, _, rfl, rfl, _, rfl, ?_⟩⟩
      by_cases hi0 : (0 : Int) < (i : Int)
      · refine ifd hi0 ⟨_, rfl, _, rfl, a, _, _, _, rfl, rfl, hs2, e1, _, rfl, _, rfl, _, _, rfl, rfl, a, _, _, _, rfl, rfl, hs2, atI_lt (by omega) (by omega), _, _, rfl, rfl, _, rfl, ?_⟩
        have ei : ((i : Int) - 1).toNat = i - 1 := by omega
        rw [ei]
        exact ifnd (by have := b2 (by omega); omega) ⟨s2, _, rfl⟩
      · exact ifnd hi0 ⟨s2, _, rfl⟩
    · rintro σ H' ⟨s1, o, rfl⟩
      exact q _ s1
end
end K5

namespace K5
open PySem PySem.Spec PyProof.Rows L2
/-- the first i of F have their neighbours in F -/
def ClTo (N : Gw.Net) (C F : List Int) (i : Nat) : Prop := ∀ j, j < i → ∀ k ∈ C, ((N.ed k).1 = F.getD j 0 → (N.ed k).2.1 ∈ F) ∧ ((N.ed k).2.1 = F.getD j 0 → (N.ed k).1 ∈ F)
theorem getD_app {F G : List Int} {j : Nat} (h : j < F.length) : (F ++ G).getD j 0 = F.getD j 0 := by
  rw [Gw.getD_lt h, Gw.getD_lt (by rw [List.length_append]; omega), List.getElem_append_left h]
theorem ClTo.app {N : Gw.Net} {C F : List Int} {i : Nat} (h : ClTo N C F i) (hi : i ≤ F.length) (G : List Int) : ClTo N C (F ++ G) i := fun j hj k hk => by
  rw [getD_app (by omega)]
  exact ⟨fun e => List.mem_append_left _ ((h j hj k hk).1 e), fun e => List.mem_append_left _ ((h j hj k hk).2 e)⟩
/-- what stands of the list of found vertices -/
structure FoundOk (N : Gw.Net) (C F : List Int) : Prop where
  nd : F.Nodup
  rng : ∀ v ∈ F, 0 ≤ v ∧ v < N.n
  root : N.root ∈ F
  least : ∀ X : Int → Prop, X N.root → (∀ k ∈ C, (X (N.ed k).1 ↔ X (N.ed k).2.1)) → ∀ v ∈ F, X v
theorem FoundOk.add {N : Gw.Net} (o : N.Ok) {C F : List Int} (h : FoundOk N C F) {k : Int} (hk : k ∈ C) (hE : N.isE k) {a b : Int} (e : ((N.ed k).1 = a ∧ (N.ed k).2.1 = b) ∨ ((N.ed k).1 = b ∧ (N.ed k).2.1 = a)) (ha : a ∈ F) (hb : b ∉ F) : FoundOk N C (F ++ [b]) := by
  have ok := ed_ok o hE
  refine ⟨nodup_snoc h.nd hb, fun v hv => ?_, List.mem_append_left _ h.root, fun X x0 cl v hv => ?_⟩
  · rcases List.mem_append.mp hv with q | q
    · exact h.rng v q
    · rw [List.mem_singleton] at q
      subst q
      rcases e with ⟨_, e⟩ | ⟨e, _⟩
      · rw [← e]; exact ok.2.1
      · rw [← e]; exact ok.1
  · rcases List.mem_append.mp hv with q | q
    · exact h.least X x0 cl v q
    · rw [List.mem_singleton] at q
      subst q
      have xa := h.least X x0 cl a ha
      have c := cl k hk
      rcases e with ⟨e1, e2⟩ | ⟨e1, e2⟩
      · rw [e1, e2] at c; exact c.mp xa
      · rw [e1, e2] at c; exact c.mpr xa
theorem FoundOk.reach {N : Gw.Net} {C F : List Int} (h : FoundOk N C F) (cl : ClTo N C F F.length) : Gw.Reach N C (· ∈ F) := by
  refine ⟨h.root, fun k hk => ⟨fun m => ?_, fun m => ?_⟩, h.least⟩
  · obtain ⟨j, hj, e⟩ := List.mem_iff_getElem.mp m
    exact (cl j hj k hk).1 (by rw [Gw.getD_lt hj]; exact e.symm)
  · obtain ⟨j, hj, e⟩ := List.mem_iff_getElem.mp m
    exact (cl j hj k hk).2 (by rw [Gw.getD_lt hj]; exact e.symm)
section
variable {P : Program} {w : World} {K : PySem.W.Frag} {mg : Str → Option Value} {base : Heap} {CN CG : Addr}
abbrev s_reached : Stmt := top 31
theorem sc_reached : FnScope ["network", "numbers", "start", "arcs", "edges", "found", "index", "here", "number", "u", "v", "_"] ["network", "numbers", "start", "arcs"] (C8.fnScope s_reached) := C8.fnScope_by (by decide +kernel)

def spReached (K : PySem.W.Frag) (CN : Addr) : Sp := fun vs H Q _ => ∃ (v u : V) (N : Gw.Net) (C : List Int), vs = [v, u, .int N.root, .bl false] ∧ NetAt K H CN N.n N.es v ∧ N.Ok ∧ IsIs K H u C ∧ (∀ k ∈ C, N.isE k) ∧
  ∀ (H' : Hp) (p : Addr) (F : List Int), Same H H' → H p = none → H' p = some (.lst (F.map V.int)) → F.length ≤ 40 → Gw.Reach N C (· ∈ F) → Q (.ref p) H'
theorem ok_reached (F : DefAt K mg "reached" s_reached ["network", "numbers", "start", "arcs"]) (T : Txt K mg CN CG) (m_edges : C8.Met P w K mg base 1 CN "edges" (spEdges K CN) []) : C8.Cal P w K mg base 2 "reached" (spReached K CN) [] := by
  refine cal F sc_reached (fun vs H Q E h => ?_) (fun f cdv A outer s H vs Q E hr h => ?_)
  · obtain ⟨_, _, _, _, rfl, _⟩ := h; rfl
  · obtain ⟨v, u, N, C, rfl, hN, o, ⟨a, rfl, hs⟩, hE, q⟩ := h
    have nd := sc_reached.nd
    refine ⟨_, (pss_cons (ps_set (i := 4) nd rfl (Or.inl rfl) (C8.pe_mt0 m_edges hr (by decide) (pv 0)))
      (pss_cons (ps_set (i := 5) nd rfl (Or.inl rfl) (pe_lst (pa_cons (pv 2) pa_nil)))
      (pss_cons (ps_set (i := 6) nd rfl (Or.inl rfl) pe_int)
      (pss_cons (ps_while PassesOwn.never (pt_cmpR op_lt (pv 6) (pe_callB (lenS K) (by rfl) T.len (by decide +kernel) (pa_cons (pv 5) pa_nil)) (nomark _)) (pss_cons (ps_set (i := 7) nd rfl (Or.inl rfl) (pe_ix (ixl K) (pv 5) (pv 6) (fun _ _ => rfl)))
      (pss_cons (ps_aug (i := 6) nd rfl (Or.inl rfl) pe_int ip_add)
      (pss_one (ps_for PassesOwn.never rfl (pi_l K (pv 1)) (pg_name (i := 8) nd rfl (Or.inl rfl)) (pss_cons (ps_asg (pe_ix (ixl K) (pv 4) (pv 8) (fun _ _ => rfl)) (pg_t K 3 rfl (pgs_cons (pg_name (i := 9) nd rfl (Or.inl rfl)) (pgs_cons (pg_name (i := 10) nd rfl (Or.inl rfl)) (pgs_cons (pg_name (i := 11) nd rfl (Or.inl rfl)) pgs_nil)))))
      (C8.pss_cut (ps_if (PW.pt (pw_and (pt_cmpR op_eq (pv 9) (pv 7) (nomark _)) (pw_and1 (pt_cmpR (ninS K) (pv 10) (pv 5) (by rfl))))) (pss_one (ps_expr (pe_bm PySem.F.plainAttrs_list PySem.F.slot_list_append PySem.F.type_list_append mt_append (pv 5) (pa_cons (pv 10) pa_nil)))) pss_nil)
      (pss_one (ps_if (PW.pt (pw_and (pt_not (pt_val (pv 3))) (pw_and (pt_cmpR op_eq (pv 10) (pv 7) (nomark _)) (pw_and1 (pt_cmpR (ninS K) (pv 9) (pv 5) (by rfl)))))) (pss_one (ps_expr (pe_bm PySem.F.plainAttrs_list PySem.F.slot_list_append PySem.F.type_list_append mt_append (pv 5) (pa_cons (pv 9) pa_nil)))) pss_nil)))))))))
      (pss_one (ps_ret (pv 5))))))), ?_⟩
    obtain ⟨p, dx, le0, xs0, rfl, n1, n2, n3⟩ := id hN
    refine ⟨_, rfl, p, dx, _, rfl, n1, nf_no _ _ (by decide +kernel) (by decide +kernel), _, N.n, N.es, rfl, hN, fun le xs hle hp => ?_⟩
    have s1 : Same H (upd H le (.lst xs)) := Same.new hle
    refine ⟨_, rfl, by show 1 ≤ sizeLine; rw [szl]; decide, fun lf hlf => ?_⟩
    generalize hB : upd H le (.lst xs) = B at *
    have b1 : B le = some (.lst xs) := by rw [← hB]; exact upd_same
    have hsB := SqL.mono s1 hs
    have hpB : Paired (IsEd K B) xs N.es := hp.mono fun _ _ => IsEd.mono s1
    refine ⟨fun m σ H' => Same B H' ∧ ∃ (F : List Int) (idx : Nat) (o7 o8 o9 o10 o11 : Option V), σ = [some (.ref p), some (.ref a), some (.int N.root), some (.bl false), some (.ref le), some (.ref lf), some (.int idx), o7, o8, o9, o10, o11] ∧
      H' lf = some (.lst (F.map V.int)) ∧ idx ≤ F.length ∧ FoundOk N C F ∧ ClTo N C F idx ∧ m = N.n - idx, ⟨_, Same.new hlf, [N.root], 0, none, none, none, none, none, rfl, upd_same, Nat.zero_le _, ?_, fun j hj => by omega, rfl⟩, ?_⟩
    · refine ⟨List.nodup_cons.mpr ⟨List.not_mem_nil, List.nodup_nil⟩, fun v hv => ?_, List.mem_singleton.mpr rfl, fun X x0 _ v hv => ?_⟩
      · rw [List.mem_singleton] at hv; rw [hv]; exact o.root
      · rw [List.mem_singleton] at hv; rw [hv]; exact x0
    rintro m σ H' ⟨s2, F, idx, o7, o8, o9, o10, o11, rfl, hF, hi, fo, cl, rfl⟩
    have fl := nodup_len fo.nd fo.rng
    have n40 := o.n9
    refine ⟨_, rfl, _, rfl, lf, _, rfl, .inl (SqL.of hF), _, _, rfl, rfl, _, rfl, ?_⟩
    rw [List.length_map]
    by_cases hlt : idx < F.length
    · refine ifd (by omega) ⟨_, fun σ' H' z => z, ?_⟩
      refine ⟨_, rfl, _, rfl, lf, _, _, _, rfl, rfl, SqL.of hF, atI_lt (by omega) (by omega), ?_⟩
      rw [Int.toNat_natCast]
      refine ⟨_, rfl, _, _, rfl, rfl, _, rfl, a, rfl, ⟨_, SqL.mono s2 hsB⟩, ?_⟩
      refine for_list (K := K) (a := a) (xs := C.map V.int) (fun i σ H' => Same B H' ∧ ∃ (G : List Int) (o8 o9 o10 o11 : Option V), σ = [some (.ref p), some (.ref a), some (.int N.root), some (.bl false), some (.ref le), some (.ref lf), some (.int ((idx : Int) + 1)), some (.int (F.getD idx 0)), o8, o9, o10, o11] ∧
        H' lf = some (.lst (G.map V.int)) ∧ idx < G.length ∧ G.getD idx 0 = F.getD idx 0 ∧ FoundOk N C G ∧ ClTo N C G idx ∧ ∀ k ∈ C.take i, ((N.ed k).1 = F.getD idx 0 → (N.ed k).2.1 ∈ G) ∧ ((N.ed k).2.1 = F.getD idx 0 → (N.ed k).1 ∈ G)) ?_ (fun i σ H' _ h => SqL.mono h.1 hsB) ?_ ?_
      · exact ⟨s2, F, _, _, _, _, rfl, hF, hlt, rfl, fo, cl, fun k hk => by simp at hk⟩
      · rintro i x σ H' hx ⟨s3, G, o8, o9, o10, o11, rfl, hG, gi, ge, go, gc, gk⟩
        rw [List.getElem?_map] at hx
        obtain ⟨k, hk, rfl⟩ := Option.map_eq_some_iff.mp hx
        have kC : k ∈ C := List.mem_of_getElem? hk
        obtain ⟨t, e1, ht⟩ := es_at (hpB.mono fun _ _ => IsEd.mono s3) (hE k kC)
        have htk : C.take (i + 1) = C.take i ++ [k] := by rw [List.take_add_one, hk]; rfl
        have hereG : F.getD idx 0 ∈ G := by rw [← ge, Gw.getD_lt gi]; exact List.getElem_mem gi
        have gl : G.length ≤ 40 := Nat.le_trans (nodup_len go.nd go.rng) n40
        refine ⟨_, rfl, _, rfl, le, _, _, _, rfl, rfl, SqL.of (s3 _ _ b1), e1, t, _, rfl, ht, rfl, _, _, rfl, _, _, rfl, _, _, rfl, rfl, ?_⟩
        -- if u == here and v not in found
        refine ⟨fun σ' H' => Same B H' ∧ ∃ G1 : List Int, σ' = [some (.ref p), some (.ref a), some (.int N.root), some (.bl false), some (.ref le), some (.ref lf), some (.int ((idx : Int) + 1)), some (.int (F.getD idx 0)), some (.int k), some (.int (N.ed k).1), some (.int (N.ed k).2.1), some (.int (N.ed k).2.2)] ∧
          H' lf = some (.lst (G1.map V.int)) ∧ idx < G1.length ∧ G1.getD idx 0 = F.getD idx 0 ∧ FoundOk N C G1 ∧ ClTo N C G1 idx ∧ (∀ k ∈ C.take i, ((N.ed k).1 = F.getD idx 0 → (N.ed k).2.1 ∈ G1) ∧ ((N.ed k).2.1 = F.getD idx 0 → (N.ed k).1 ∈ G1)) ∧ ((N.ed k).1 = F.getD idx 0 → (N.ed k).2.1 ∈ G1) ∧ F.getD idx 0 ∈ G1 ∧ G1.length ≤ 41, ?_, ?_⟩
        · refine ⟨_, rfl, _, rfl, rfl, _, rfl, ?_⟩
          by_cases hu : V.int (N.ed k).1 = V.int (F.getD idx 0)
          · refine ifd hu ⟨_, rfl, _, rfl, lf, _, rfl, .inl (SqL.of hG), rfl, flat_ints _, _, rfl, ?_⟩
            rw [inV_ints]
            have hu' := V.int.inj hu
            by_cases hv : (N.ed k).2.1 ∈ G
            · refine ifnt hv ?_
              exact ⟨s3, G, rfl, hG, gi, ge, go, gc, gk, fun _ => hv, hereG, by omega⟩
            · refine ifnf hv ?_
              refine ⟨_, rfl, .inl ⟨rfl, _, SqL.of hG⟩, _, rfl, lf, _, _, rfl, rfl, hG, by rw [List.length_map, szl]; omega, ?_⟩
              refine ⟨Same.put s3 hlf, G ++ [(N.ed k).2.1], rfl, by rw [upd_same, List.map_append]; rfl, by rw [List.length_append]; omega, by rw [getD_app gi]; exact ge, go.add o kC (hE k kC) (.inl ⟨hu', rfl⟩) hereG hv, gc.app (by omega) _, fun k' hk' => ?_, fun _ => List.mem_append_right _ (List.mem_singleton.mpr rfl), List.mem_append_left _ hereG, by rw [List.length_append]; simp; omega⟩
              exact ⟨fun e => List.mem_append_left _ ((gk k' hk').1 e), fun e => List.mem_append_left _ ((gk k' hk').2 e)⟩
          · refine ifnd hu ?_
            exact ⟨s3, G, rfl, hG, gi, ge, go, gc, gk, fun e => absurd (congrArg V.int e) hu, hereG, by omega⟩
        · rintro σ' H2 ⟨s4, G1, rfl, hG1, gi1, ge1, go1, gc1, gk1, h1, here1, gl1⟩
          -- if not arcs and v == here and u not in found
          refine ⟨_, rfl, _, rfl, iteT ⟨_, rfl, _, rfl, rfl, _, rfl, ?_⟩⟩
          have fin : ∀ G2 H3, Same B H3 → H3 lf = some (.lst (G2.map V.int)) → idx < G2.length → G2.getD idx 0 = F.getD idx 0 → FoundOk N C G2 → ClTo N C G2 idx → (∀ v ∈ G1, v ∈ G2) → ((N.ed k).2.1 = F.getD idx 0 → (N.ed k).1 ∈ G2) →
              Same B H3 ∧ ∃ (G : List Int) (o8 o9 o10 o11 : Option V), [some (V.ref p), some (.ref a), some (.int N.root), some (.bl false), some (.ref le), some (.ref lf), some (.int ((idx : Int) + 1)), some (.int (F.getD idx 0)), some (.int k), some (.int (N.ed k).1), some (.int (N.ed k).2.1), some (.int (N.ed k).2.2)] = [some (.ref p), some (.ref a), some (.int N.root), some (.bl false), some (.ref le), some (.ref lf), some (.int ((idx : Int) + 1)), some (.int (F.getD idx 0)), o8, o9, o10, o11] ∧
                H3 lf = some (.lst (G.map V.int)) ∧ idx < G.length ∧ G.getD idx 0 = F.getD idx 0 ∧ FoundOk N C G ∧ ClTo N C G idx ∧ ∀ k ∈ C.take (i + 1), ((N.ed k).1 = F.getD idx 0 → (N.ed k).2.1 ∈ G) ∧ ((N.ed k).2.1 = F.getD idx 0 → (N.ed k).1 ∈ G) := fun G2 H3 a1 a2 a3 a4 a5 a6 a7 a8 => by
            refine ⟨a1, G2, _, _, _, _, rfl, a2, a3, a4, a5, a6, fun k' hk' => ?_⟩
            rw [htk] at hk'
            rcases List.mem_append.mp hk' with z | z
            · exact ⟨fun e => a7 _ ((gk1 k' z).1 e), fun e => a7 _ ((gk1 k' z).2 e)⟩
            · rw [List.mem_singleton] at z
              subst z
              exact ⟨fun e => a7 _ (h1 e), a8⟩
          by_cases hv : V.int (N.ed k).2.1 = V.int (F.getD idx 0)
          · refine ifd hv ⟨_, rfl, _, rfl, lf, _, rfl, .inl (SqL.of hG1), rfl, flat_ints _, _, rfl, ?_⟩
            rw [inV_ints]
            have hv' := V.int.inj hv
            by_cases hu : (N.ed k).1 ∈ G1
            · refine ifnt hu ?_
              exact fin G1 _ s4 hG1 gi1 ge1 go1 gc1 (fun _ h => h) fun _ => hu
            · refine ifnf hu ?_
              refine ⟨_, rfl, .inl ⟨rfl, _, SqL.of hG1⟩, _, rfl, lf, _, _, rfl, rfl, hG1, by rw [List.length_map, szl]; omega, ?_⟩
              exact fin (G1 ++ [(N.ed k).1]) _ (Same.put s4 hlf) (by rw [upd_same, List.map_append]; rfl) (by rw [List.length_append]; omega) (by rw [getD_app gi1]; exact ge1) (go1.add o kC (hE k kC) (.inr ⟨rfl, hv'⟩) here1 hu) (gc1.app (by omega) _) (fun _ h => List.mem_append_left _ h) fun _ => List.mem_append_right _ (List.mem_singleton.mpr rfl)
          · refine ifnd hv ?_
            exact fin G1 _ s4 hG1 gi1 ge1 go1 gc1 (fun _ h => h) fun e => absurd (congrArg V.int e) hv
      · rintro σ H' ⟨s3, G, o8, o9, o10, o11, rfl, hG, gi, ge, go, gc, gk⟩
        rw [List.length_map, List.take_length] at gk
        have gl : G.length ≤ N.n := nodup_len go.nd go.rng
        refine ⟨_, ?_, s3, G, idx + 1, _, _, _, _, _, rfl, hG, gi, go, fun j hj k hk => ?_, rfl⟩
        · omega
        · by_cases e : j = idx
          · subst e; rw [ge]; exact gk k hk
          · exact gc j (by omega) k hk
    · refine ifnd (by omega) ⟨_, rfl, ?_⟩
      have e : idx = F.length := by omega
      subst e
      exact q _ lf F (s1.trans s2) (s1.free hlf) hF (by omega) (fo.reach cl)
end
end K5

namespace K5
open PySem PySem.Spec PyProof.Rows L2
/-- what is reached -/
def Rs (N : Gw.Net) (C : List Int) (v : Int) : Prop := ∀ X : Int → Prop, X N.root → (∀ k ∈ C, (X (N.ed k).1 ↔ X (N.ed k).2.1)) → X v
theorem rs_reach (N : Gw.Net) (C : List Int) : Gw.Reach N C (Rs N C) :=
  ⟨fun X x0 _ => x0, fun k hk => ⟨fun h X x0 cl => (cl k hk).mp (h X x0 cl), fun h X x0 cl => (cl k hk).mpr (h X x0 cl)⟩, fun X x0 cl v h => h X x0 cl⟩
theorem reach_iff {N : Gw.Net} {C : List Int} {R : Int → Prop} (h : Gw.Reach N C R) (v : Int) : R v ↔ Rs N C v :=
  ⟨fun r X x0 cl => h.least X x0 cl v r, fun r => r R h.root h.cl⟩
/-- the cost of a choice -/
noncomputable def costC (N : Gw.Net) (C : List Int) : Int := Gw.costI N C (Rs N C)
theorem pix_list {N : Gw.Net} (F : List Int) : ((((List.range N.n).map fun i : Nat => (i : Int)).filter fun v => !decide (v ∈ F)).map fun v => N.pz.getD v.toNat 0).sum = Gw.piX N (fun v => ¬ v ∈ F) := by
  rw [Gw.sum_filter, List.map_map]
  unfold Gw.piX
  refine Gw.sum_map_congr fun i _ => ?_
  show (if (!decide ((i : Int) ∈ F)) = true then N.pz.getD ((i : Int)).toNat 0 else 0) = _
  by_cases h : (i : Int) ∈ F
  · rw [if_neg (by simp [h]), if_neg (by simpa using h)]
  · rw [if_pos (by simp [h]), if_pos h]; rfl
theorem cost_of {N : Gw.Net} {C F : List Int} (h : Gw.Reach N C (· ∈ F)) : prSum N C + ((((List.range N.n).map fun i : Nat => (i : Int)).filter fun v => !decide (v ∈ F)).map fun v => N.pz.getD v.toNat 0).sum = costC N C := by
  rw [pix_list]
  unfold costC Gw.costI prSum
  congr 1
  exact Gw.piX_congr fun v _ _ => not_congr (reach_iff h v)
theorem isE_of {N : Gw.Net} {C : List Int} (h : AscP N.es.length C) : ∀ k ∈ C, N.isE k := fun k hk => h.mem k hk
theorem asc_len {m : Nat} {l : List Int} (h : AscP m l) : l.length ≤ m := nodup_len (Gw.asc_nodup h.pair) h.mem
section
variable {P : Program} {w : World} {K : PySem.W.Frag} {mg : Str → Option Value} {base : Heap} {CN CG : Addr}
abbrev s_cost : Stmt := top 39
theorem sc_cost : FnScope ["network", "root", "prizes", "choice", "found", "lost", "vertex"] ["network", "root", "prizes", "choice"] (C8.fnScope s_cost) := C8.fnScope_by (by decide +kernel)

def spCost (K : PySem.W.Frag) (CN : Addr) : Sp := fun vs H Q _ => ∃ (v u c : V) (N : Gw.Net) (C : List Int), vs = [v, .int N.root, u, c] ∧ NetAt K H CN N.n N.es v ∧ N.Ok ∧ IsIs K H u N.pz ∧ IsIs K H c C ∧ AscP N.es.length C ∧ N.es.length ≤ 200 ∧ ∀ H', Same H H' → Q (.int (costC N C)) H'
theorem ok_cost (F : DefAt K mg "cost" s_cost ["network", "root", "prizes", "choice"]) (T : Txt K mg CN CG) (c_check_prizes : C8.Cal P w K mg base 2 "check_prizes" (spCheckPrizes K CN) []) (c_check_choice_list : C8.Cal P w K mg base 2 "check_choice_list" (spCheckChoice K CN) [])
    (c_reached : C8.Cal P w K mg base 2 "reached" (spReached K CN) []) (c_price_of : C8.Cal P w K mg base 2 "price_of" (spPriceOf K CN) []) : C8.Cal P w K mg base 3 "cost" (spCost K CN) [] := by
  refine cal F sc_cost (fun vs H Q E h => ?_) (fun f cdv A outer s H vs Q E hr h => ?_)
  · obtain ⟨_, _, _, _, _, rfl, _⟩ := h; rfl
  · obtain ⟨v, u, c, N, C, rfl, hN, o, hu, hc, asc, hes, q⟩ := h
    have nd := sc_cost.nd
    refine ⟨_, (pss_cons (ps_expr (C8.pe_c c_check_prizes hr (by decide) (by rfl) (pa_cons (pv 0) (pa_cons (pv 1) (pa_cons (pv 2) pa_nil)))))
      (pss_cons (ps_expr (C8.pe_c c_check_choice_list hr (by decide) (by rfl) (pa_cons (pv 0) (pa_cons (pv 3) pa_nil))))
      (pss_cons (ps_set (i := 4) nd rfl (Or.inr rfl) (C8.pe_c c_reached hr (by decide) (by rfl) (pa_cons (pv 0) (pa_cons (pv 3) (pa_cons (pv 1) (pa_cons pe_bl pa_nil))))))
      (pss_cons (ps_setLc (i := 5) (own := [("vertex", 6)]) rfl nd rfl rfl (sw_true rfl rfl rfl (by decide +kernel)) (pi_range1 (by rfl) T.range (pa_cons (pe_callB (lenS K) (by rfl) T.len (by decide +kernel) (pa_cons (pv 2) pa_nil)) pa_nil)) (blkOk_by (by kernel_rfl)) (fun _ _ _ _ _ => (pg_name (i := 6) nd rfl (Or.inl rfl))) (fun _ _ _ _ _ => (pts_one (pt_cmpR (ninS K) (pv 6) (pv 4) (by rfl)))) (fun _ _ _ _ _ => (pe_ix (ixl K) (pv 2) (pv 6) (fun _ _ => rfl))))
      (pss_one (ps_ret (pe_op op_add (C8.pe_c c_price_of hr (by decide) (by rfl) (pa_cons (pv 0) (pa_cons (pv 3) pa_nil))) (pe_callB (crSum K rfl) (by rfl) T.sum (by decide +kernel) (pa_cons (pv 5) pa_nil))))))))), ?_⟩
    have cl := asc_len asc
    have n40 := o.n9
    refine ⟨_, rfl, _, rfl, _, rfl, v, u, N.n, N.es, N.root, N.pz, rfl, hN, hu, o.root, ⟨o.plen, o.pnn⟩, n40, ?_⟩
    refine ⟨_, rfl, _, rfl, v, c, N.n, N.es, C, rfl, hN, hc, asc, by omega, fun H1 s1 => ?_⟩
    refine ⟨_, rfl, _, rfl, _, rfl, v, c, N, C, rfl, hN.mono s1, o, hc.mono s1, isE_of asc, fun H2 p F s2 hp hF hl hR => ?_⟩
    have s12 := s1.trans s2
    obtain ⟨a, rfl, hs⟩ := hu
    have ll : (N.pz.map V.int).length = N.n := by rw [List.length_map]; exact o.plen
    refine ⟨_, rfl, a, _, rfl, .inl (SqL.mono s12 hs), _, rfl, by rw [ll]; omega, by rw [ll]; omega, fun D hD => ?_⟩
    rw [ll]
    refine lc_readR N.n (fun v => .int (N.pz.getD v.toNat 0)) (fun v => !decide (v ∈ F)) hD (by rw [szl]; omega) (fun i hi H3 s3 Qt Qf ht hf => ?_) (fun H3 s3 hD3 => ?_)
    · have hF3 := s3 _ _ hF
      refine ⟨rfl, _, rfl, _, rfl, p, _, rfl, .inl (SqL.of hF3), rfl, flat_ints _, _, rfl, ?_⟩
      rw [inV_ints]
      cases e : (!decide ((i : Int) ∈ F)) with
      | true =>
        refine iteT ?_
        have hi2 : (i : Int) < (N.pz.length : Int) := by rw [o.plen]; omega
        exact ⟨_, rfl, _, rfl, a, _, _, _, rfl, rfl, SqL.mono (s12.trans s3) hs, atI_lt (by omega) hi2, ht e _ (Same.refl _)⟩
      | false => exact iteF (hf e _ (Same.refl _))
    · have s13 := s12.trans s3
      obtain ⟨b, rfl, hcs⟩ := hc
      refine ⟨_, rfl, _, rfl, v, .ref b, N, C, rfl, hN.mono s13, ⟨b, rfl, SqL.mono s13 hcs⟩, isE_of asc, by omega, fun H4 s4 => ?_⟩
      have hD4 := s4 _ _ hD3
      have e3 : ((((List.range N.n).map fun i : Nat => (i : Int)).filter fun v => !decide (v ∈ F)).map fun v => V.int (N.pz.getD v.toNat 0)) = ((((List.range N.n).map fun i : Nat => (i : Int)).filter fun v => !decide (v ∈ F)).map fun v => N.pz.getD v.toNat 0).map V.int := by rw [List.map_map]; rfl
      rw [e3] at hD4
      refine ⟨_, rfl, D, _, rfl, SqL.of hD4, _, _, rfl, rfl, ?_⟩
      have qq := q _ (s13.trans s4)
      rw [← cost_of hR] at qq
      exact qq
abbrev s_is_part : Stmt := top 26
theorem sc_is_part : FnScope ["one", "two", "vertex"] ["one", "two"] (C8.fnScope s_is_part) := C8.fnScope_by (by decide +kernel)

def spIsPart (K : PySem.W.Frag) : Sp := fun vs H Q _ => ∃ (v u : V) (a b : List Int), vs = [v, u] ∧ IsIs K H v a ∧ IsIs K H u b ∧ a.length ≤ 1000 ∧ ∀ H', Same H H' → Q (.bl (dec (∀ x ∈ a, x ∈ b))) H'
theorem all_id (l : List Bool) : l.all id = dec (∀ x ∈ l, x = true) := by
  by_cases h : ∀ x ∈ l, x = true
  · rw [dec_t h]; exact List.all_eq_true.mpr h
  · rw [dec_f h]
    exact Bool.eq_false_iff.mpr fun z => h (List.all_eq_true.mp z)
theorem ok_isPart (F : DefAt K mg "is_part" s_is_part ["one", "two"]) (T : Txt K mg CN CG) : C8.Cal P w K mg base 1 "is_part" (spIsPart K) [] := by
  refine cal F sc_is_part (fun vs H Q E h => ?_) (fun f cdv A outer s H vs Q E hr h => ?_)
  · obtain ⟨_, _, _, _, rfl, _⟩ := h; rfl
  · obtain ⟨v, u, a, b, rfl, ⟨p, rfl, hp⟩, ⟨p2, rfl, hp2⟩, hz, q⟩ := h
    have nd := sc_is_part.nd
    refine ⟨_, (pss_one (ps_ret (pe_callB (crAll K rfl) (by rfl) T.all (by decide +kernel) (pa_cons (pe_lc (own := [("vertex", 2)]) rfl nd (pi_l K (pv 0)) (blkOk_by (by kernel_rfl)) (fun _ _ _ _ _ => (pg_name (i := 2) nd rfl (Or.inl rfl))) (fun _ _ _ _ _ => pts_nil) (fun _ _ _ _ _ => (pe_cmpR (inS K) (pv 2) (pv 1) (by rfl)))) pa_nil)))), ?_⟩
    refine ⟨_, rfl, p, rfl, ⟨_, hp⟩, fun D hD => ?_⟩
    refine lc_map a V.int (fun x => .bl (decide (x ∈ b))) hD hp (by rw [szl]; omega) (fun y hy H2 s2 Qt ht => ?_) (fun H2 s2 hD2 => ?_)
    · refine ⟨rfl, _, rfl, _, rfl, p2, _, rfl, .inl (SqL.mono s2 hp2), rfl, flat_ints _, ?_⟩
      rw [inV_ints]
      exact ht _ (Same.refl _)
    · have e3 : (a.map fun x => V.bl (decide (x ∈ b))) = (a.map fun x => decide (x ∈ b)).map V.bl := by rw [List.map_map]; rfl
      rw [e3] at hD2
      refine ⟨D, _, rfl, SqL.of hD2, ?_⟩
      rw [all_id]
      have e : dec (∀ x ∈ a.map fun x => decide (x ∈ b), x = true) = dec (∀ x ∈ a, x ∈ b) := dec_iff ⟨fun h x hx => of_decide_eq_true (h _ (List.mem_map.mpr ⟨x, hx, rfl⟩)), fun h y hy => by
        obtain ⟨x, hx, rfl⟩ := List.mem_map.mp hy
        exact decide_eq_true (h x hx)⟩
      rw [e]
      exact q _ s2
/-- moats as the checks take them -/
def SetOk (n : Nat) (g : List Int) : Prop := g ≠ [] ∧ g.Pairwise (· < ·) ∧ ∀ v ∈ g, 0 ≤ v ∧ v < n
structure MosOk (n : Nat) (M : List Mo) : Prop where
  len : M.length ≤ 40
  set : ∀ m ∈ M, SetOk n m.1
  fr : ∀ m ∈ M, Gw.FrOk m.2
theorem MosOk.frs {n : Nat} {M : List Mo} (h : MosOk n M) (p : Mo → Bool) : FrsOk ((M.filter p).map (·.2)) :=
  ⟨by rw [List.length_map]; exact Nat.le_trans (List.length_filter_le ..) h.len, fun x hx => by
    obtain ⟨m, hm, rfl⟩ := List.mem_map.mp hx
    exact h.fr m (List.mem_filter.mp hm).1⟩
abbrev s_total : Stmt := top 23
theorem sc_total : FnScope ["moats", "_", "height"] ["moats"] (C8.fnScope s_total) := C8.fnScope_by (by decide +kernel)

def spTotal (K : PySem.W.Frag) : Sp := fun vs H Q _ => ∃ (v : V) (n : Nat) (M : List Mo), vs = [v] ∧ IsL K H (IsMo K H) v M ∧ MosOk n M ∧
  ∀ H' p f, Same H H' → H' p = some (.tup [.int f.1, .int f.2]) → Gw.Alike f (Gw.fsum (M.map (·.2))) → 0 ≤ f.1 → f.1 < 2 ^ 25000 → f.2 < 2 ^ 8600 → Q (.ref p) H'

theorem ok_total (F : DefAt K mg "total" s_total ["moats"]) (T : Txt K mg CN CG) (c_sum_of : C8.Cal P w K mg base 3 "sum_of" (spSumOf K) []) : C8.Cal P w K mg base 4 "total" (spTotal K) [] := by
  refine cal F sc_total (fun vs H Q E h => ?_) (fun f cdv A outer s H vs Q E hr h => ?_)
  · obtain ⟨_, _, _, rfl, _⟩ := h; rfl
  · obtain ⟨v, n, M, rfl, ⟨a, xs, rfl, hs, hp⟩, ok, q⟩ := h
    have nd := sc_total.nd
    refine ⟨_, (pss_one (ps_ret (C8.pe_c c_sum_of hr (by decide) (by rfl) (pa_cons (pe_lc (own := [("_", 1), ("height", 2)]) rfl nd (pi_l K (pv 0)) (blkOk_by (by kernel_rfl)) (fun _ _ _ _ _ => (pg_t K 2 rfl (pgs_cons (pg_name (i := 1) nd rfl (Or.inl rfl)) (pgs_cons (pg_name (i := 2) nd rfl (Or.inl rfl)) pgs_nil)))) (fun _ _ _ _ _ => pts_nil) (fun _ _ _ _ _ => (pv 2))) pa_nil)))), ?_⟩
    obtain ⟨L, rfl, rfl, hL⟩ := mos_rec hp
    have lz : L.length ≤ 40 := by have := ok.len; rw [List.length_map] at this; exact this
    refine ⟨_, rfl, a, rfl, ⟨_, hs⟩, fun D hD => ?_⟩
    refine lc_map L (fun r => V.ref r.a) (fun r => r.h) hD hs (by rw [szl]; omega) (fun y hy H2 s2 Qt ht => ?_) (fun H2 s2 hD2 => ?_)
    · exact ⟨y.a, _, rfl, SqT.mono s2 (hL y hy).1, rfl, _, _, rfl, _, _, rfl, rfl, rfl, _, rfl, ht _ (Same.refl _)⟩
    · refine ⟨_, _, rfl, ⟨D, _, rfl, SqL.of hD2, mos_frs_all fun r hr => (hL r hr).mono s2⟩, ⟨by rw [List.length_map]; exact ok.len, fun x hx => ?_⟩, fun H3 p f s3 hp' al f0 f1 f2 => q H3 p f (s2.trans s3) hp' al f0 f1 f2⟩
      obtain ⟨m, hm, rfl⟩ := List.mem_map.mp hx
      exact ok.fr m hm
end
end K5

namespace K5
open PySem PySem.Spec PyProof.Rows L2
/-- just one of u and v is in g -/
def cutB (u v : Int) (g : List Int) : Bool := decide (u ∈ g) != decide (v ∈ g)
theorem ne_bl (a b : Bool) : (!decide (V.bl a = V.bl b)) = (a != b) := by cases a <;> cases b <;> decide
/-- the heights of a part of the moats add up to at most p -/
def LeSum (M : List Mo) (t : Mo → Bool) (p : Int) : Prop := (Gw.fsum ((M.filter t).map (·.2))).1 ≤ p * (Gw.fsum ((M.filter t).map (·.2))).2
def PaidP (es : List Ed) (M : List Mo) : Prop := ∀ e ∈ es, LeSum M (fun m => cutB e.1 e.2.1 m.1) e.2.2
theorem MosOk.pos {n : Nat} {M : List Mo} (h : MosOk n M) (t : Mo → Bool) : 0 < (Gw.fsum ((M.filter t).map (·.2))).2 := (fsum_small (h.frs t).ok (by have := (h.frs t).len; omega)).2.2.1
theorem le_dec {M : List Mo} {n : Nat} (h : MosOk n M) (t : Mo → Bool) {f : Int × Int} (al : Gw.Alike f (Gw.fsum ((M.filter t).map (·.2)))) (p : Int) : decide (f.1 ≤ p * f.2) = dec (LeSum M t p) := by
  rw [dec_decide]
  exact dec_iff (Gw.alike_le al (h.pos t) p)
theorem grp_len {n : Nat} {g : List Int} (h : SetOk n g) : g.length ≤ n := nodup_len (Gw.asc_nodup h.2.1) h.2.2
section
variable {P : Program} {w : World} {K : PySem.W.Frag} {mg : Str → Option Value} {base : Heap} {CN CG : Addr}
abbrev s_are_sets : Stmt := top 24
theorem sc_are_sets : FnScope ["network", "moats", "group", "height", "k"] ["network", "moats"] (C8.fnScope s_are_sets) := C8.fnScope_by (by decide +kernel)

def spAreSets (K : PySem.W.Frag) (CN : Addr) : Sp := fun vs H Q _ => ∃ (v u : V) (n : Nat) (es : List Ed) (M : List Mo), vs = [v, u] ∧ NetAt K H CN n es v ∧ n ≤ 40 ∧ IsL K H (IsMo K H) u M ∧ MosOk n M ∧ Q (.bl true) H
theorem ok_areSets (F : DefAt K mg "are_sets" s_are_sets ["network", "moats"]) (T : Txt K mg CN CG) (m_size : C8.Met P w K mg base 1 CN "size" (spSize K CN) []) (c_is_fraction : C8.Cal P w K mg base 2 "is_fraction" (spIsFrac K) []) : C8.Cal P w K mg base 3 "are_sets" (spAreSets K CN) [] := by
  refine cal F sc_are_sets (fun vs H Q E h => ?_) (fun f cdv A outer s H vs Q E hr h => ?_)
  · obtain ⟨_, _, _, _, _, rfl, _⟩ := h; rfl
  · obtain ⟨v, u, n, es, M, rfl, hN, hn, ⟨a, xs, rfl, hs, hp⟩, ok, q⟩ := h
    have nd := sc_are_sets.nd
    refine ⟨_, (pss_cons (ps_for PassesOwn.never rfl (pi_l K (pv 1)) (pg_t K 2 rfl (pgs_cons (pg_name (i := 2) nd rfl (Or.inl rfl)) (pgs_cons (pg_name (i := 3) nd rfl (Or.inl rfl)) pgs_nil))) (pss_cons (ps_if (PW.pt (pw_or (pt_cmpR op_eq (pe_callB (lenS K) (by rfl) T.len (by decide +kernel) (pa_cons (pv 2) pa_nil)) pe_int (nomark _)) (pw_or1 (pt_not (pt_val (C8.pe_c c_is_fraction hr (by decide) (by rfl) (pa_cons (pv 3) pa_nil))))))) (pss_one (ps_ret pe_bl)) pss_nil)
      (pss_one (ps_for PassesOwn.never rfl (pi_range1 (by rfl) T.range (pa_cons (pe_callB (lenS K) (by rfl) T.len (by decide +kernel) (pa_cons (pv 2) pa_nil)) pa_nil)) (pg_name (i := 4) nd rfl (Or.inl rfl)) (pss_one (ps_if (PW.pt (pw_or (pt_not (pt_chain op_le op_lt pe_int (pe_ix (ixl K) (pv 2) (pv 4) (fun _ _ => rfl)) (C8.pe_mt0 m_size hr (by decide) (pv 0)))) (pw_or1 (PW.pt (pw_and (pt_cmpR op_gt (pv 4) pe_int (nomark _)) (pw_and1 (pt_cmpR op_le (pe_ix (ixl K) (pv 2) (pv 4) (fun _ _ => rfl)) (pe_ix (ixl K) (pv 2) (pe_op op_sub (pv 4) pe_int) (fun _ _ => rfl)) (nomark _)))))))) (pss_one (ps_ret pe_bl)) pss_nil))))))
      (pss_one (ps_ret pe_bl))), ?_⟩
    refine ⟨_, rfl, a, rfl, ⟨_, hs⟩, for_list (K := K) (a := a) (xs := xs) (fun i σ H' => H = H' ∧ ∃ o1 o2 o3, σ = [some v, some (.ref a), o1, o2, o3]) ⟨rfl, _, _, _, rfl⟩ (fun i σ H' _ h => by obtain ⟨rfl, _⟩ := h; exact hs) ?_ ?_⟩
    · rintro i x σ H' hx ⟨rfl, o1, o2, o3, rfl⟩
      obtain ⟨m, hm, t, g, h, rfl, ht, ⟨ga, rfl, hg⟩, hh⟩ := Paired.at hp hx
      have mM := List.mem_of_getElem? hm
      obtain ⟨g1, g2, g3⟩ := ok.set m mM
      have gl := grp_len (ok.set m mM)
      have ll : (m.1.map V.int).length = m.1.length := List.length_map ..
      have l0 : 0 < m.1.length := List.length_pos_iff.mpr g1
      refine ⟨t, _, rfl, ht, rfl, _, _, rfl, _, _, rfl, rfl, ?_⟩
      refine ⟨_, rfl, ga, _, rfl, .inl hg, rfl, _, rfl, ifnd (fun z => by have := V.int.inj z; rw [ll] at this; omega) ?_⟩
      refine ⟨_, rfl, h, m.2, rfl, hh, ok.fr m mM, _, rfl, iteF ?_⟩
      refine ⟨_, rfl, ga, _, rfl, .inl hg, _, rfl, by rw [ll]; omega, by rw [ll]; omega, ?_⟩
      rw [ll]
      refine for_rng (fun j σ H' => H = H' ∧ ∃ o3, σ = [some v, some (.ref a), some (.ref ga), some h, o3]) ⟨rfl, _, rfl⟩ ?_ ?_
      · rintro j σ H' hj ⟨rfl, o3, rfl⟩
        have e1 : atI (m.1.map V.int) (j : Int) = some (V.int (m.1.getD j 0)) := atI_lt (by omega) (by omega)
        have b := g3 _ (show m.1.getD j 0 ∈ m.1 by rw [Gw.getD_lt hj]; exact List.getElem_mem hj)
        obtain ⟨p, dx, le, xs', rfl, n1, n2, n3⟩ := id hN
        refine ⟨_, rfl, _, rfl, ga, _, _, _, rfl, rfl, hg, e1, _, _, rfl, rfl, _, rfl, ifd b.1 ?_⟩
        refine ⟨_, rfl, p, dx, _, rfl, n1, nf_no _ _ (by decide +kernel) (by decide +kernel), _, n, es, rfl, hN, _, _, rfl, rfl, _, rfl, ifnt b.2 ⟨_, rfl, _, _, rfl, rfl, _, rfl, ?_⟩⟩
        by_cases hi0 : (0 : Int) < (j : Int)
        · refine ifd hi0 ⟨_, rfl, _, rfl, ga, _, _, _, rfl, rfl, hg, e1, _, rfl, _, rfl, _, _, rfl, rfl, ga, _, _, _, rfl, rfl, hg, atI_lt (by omega) (by omega), _, _, rfl, rfl, _, rfl, ?_⟩
          have ei : ((j : Int) - 1).toNat = j - 1 := by omega
          rw [ei]
          have asc := (AscP.of (m := n) g2 g3 j hj).2 (by omega)
          exact ifnd (by omega) ⟨rfl, _, rfl⟩
        · exact ifnd hi0 ⟨rfl, _, rfl⟩
      · rintro σ H' ⟨rfl, o3, rfl⟩
        exact ⟨rfl, _, _, _, rfl⟩
    · rintro σ H' ⟨rfl, o1, o2, o3, rfl⟩
      exact q
abbrev s_are_paid : Stmt := top 25
theorem sc_are_paid : FnScope ["network", "moats", "u", "v", "price", "across", "group", "height"] ["network", "moats"] (C8.fnScope s_are_paid) := C8.fnScope_by (by decide +kernel)

def spArePaid (K : PySem.W.Frag) (CN : Addr) : Sp := fun vs H Q _ => ∃ (v u : V) (n : Nat) (es : List Ed) (M : List Mo), vs = [v, u] ∧ NetAt K H CN n es v ∧ (∀ e ∈ es, EdOk n e) ∧ IsL K H (IsMo K H) u M ∧ MosOk n M ∧ ∀ H', Same H H' → Q (.bl (dec (PaidP es M))) H'
theorem ok_arePaid (F : DefAt K mg "are_paid" s_are_paid ["network", "moats"]) (T : Txt K mg CN CG) (m_edges : C8.Met P w K mg base 1 CN "edges" (spEdges K CN) []) (c_sum_of : C8.Cal P w K mg base 3 "sum_of" (spSumOf K) []) (c_at_most : C8.Cal P w K mg base 1 "at_most" (spAtMost K) []) : C8.Cal P w K mg base 4 "are_paid" (spArePaid K CN) [] := by
  refine cal F sc_are_paid (fun vs H Q E h => ?_) (fun f cdv A outer s H vs Q E hr h => ?_)
  · obtain ⟨_, _, _, _, _, rfl, _⟩ := h; rfl
  · obtain ⟨v, u, n, es, M, rfl, hN, eok, ⟨a, xs, rfl, hs, hp⟩, ok, q⟩ := h
    have nd := sc_are_paid.nd
    refine ⟨_, (pss_cons (ps_for PassesOwn.never rfl (pi_l K (C8.pe_mt0 m_edges hr (by decide) (pv 0))) (pg_t K 3 rfl (pgs_cons (pg_name (i := 2) nd rfl (Or.inr rfl)) (pgs_cons (pg_name (i := 3) nd rfl (Or.inr rfl)) (pgs_cons (pg_name (i := 4) nd rfl (Or.inl rfl)) pgs_nil)))) (pss_cons (ps_setLc (i := 5) (own := [("group", 6), ("height", 7)]) rfl nd rfl rfl (sw_true rfl rfl rfl (by decide +kernel)) (pi_l K (pv 1)) (blkOk_by (by kernel_rfl)) (fun _ _ _ _ _ => (pg_t K 2 rfl (pgs_cons (pg_name (i := 6) nd rfl (Or.inl rfl)) (pgs_cons (pg_name (i := 7) nd rfl (Or.inl rfl)) pgs_nil)))) (fun _ _ _ _ _ => (pts_one (pt_cmpR op_ne (pe_cmpR (inS K) (pv 2) (pv 6) (by rfl)) (pe_cmpR (inS K) (pv 3) (pv 6) (by rfl)) (nomark _)))) (fun _ _ _ _ _ => (pv 7)))
      (pss_one (ps_if (pt_not (pt_val (C8.pe_c c_at_most hr (by decide) (by rfl) (pa_cons (C8.pe_c c_sum_of hr (by decide) (by rfl) (pa_cons (pv 5) pa_nil)) (pa_cons (pv 4) pa_nil))))) (pss_one (ps_ret pe_bl)) pss_nil))))
      (pss_one (ps_ret pe_bl))), ?_⟩
    obtain ⟨p, dx, le, xs0, rfl, n1, n2, n3⟩ := id hN
    obtain ⟨L, rfl, rfl, hL⟩ := mos_rec hp
    have lz : L.length ≤ 40 := by have := ok.len; rw [List.length_map] at this; exact this
    refine ⟨_, rfl, p, dx, _, rfl, n1, nf_no _ _ (by decide +kernel) (by decide +kernel), _, n, es, rfl, hN, fun te exs hte hpe => ?_⟩
    have s1 : Same H (upd H te (.lst exs)) := Same.new hte
    generalize hB : upd H te (.lst exs) = B at *
    have b1 : B te = some (.lst exs) := by rw [← hB]; exact upd_same
    refine ⟨te, rfl, ⟨_, SqL.of b1⟩, for_list (K := K) (a := te) (xs := exs) (fun i σ H' => Same B H' ∧ (∃ o2 o3 o4 o5 o6 o7, σ = [some (.ref p), some (.ref a), o2, o3, o4, o5, o6, o7]) ∧ ∀ e ∈ es.take i, LeSum (L.map (·.m)) (fun m => cutB e.1 e.2.1 m.1) e.2.2) ?_ (fun i σ H' _ h => SqL.of (h.1 _ _ b1)) ?_ ?_⟩
    · exact ⟨Same.refl _, ⟨_, _, _, _, _, _, rfl⟩, fun e he => by simp at he⟩
    · rintro i x σ H' hx ⟨s2, ⟨o2, o3, o4, o5, o6, o7, rfl⟩, ih⟩
      have s12 := s1.trans s2
      obtain ⟨e, he, t, rfl, ht⟩ := Paired.at (hpe.mono fun _ _ => IsEd.mono s12) hx
      have heM := List.mem_of_getElem? he
      have htk : es.take (i + 1) = es.take i ++ [e] := by rw [List.take_add_one, he]; rfl
      have ek := eok e heM
      refine ⟨t, _, rfl, ht, rfl, _, _, rfl, _, _, rfl, _, _, rfl, rfl, ?_⟩
      refine ⟨_, rfl, a, rfl, ⟨_, SqL.mono s12 hs⟩, fun D hD => ?_⟩
      refine lc_read L (fun r => V.ref r.a) (fun r => r.h) (fun r => cutB e.1 e.2.1 r.m.1) hD (SqL.mono s12 hs) (by rw [szl]; omega) (fun y hy H3 s3 Qt Qf hqt hqf => ?_) (fun H3 s3 hD3 => ?_)
      · have s13 := s12.trans s3
        obtain ⟨y1, ⟨ga, yg, y2⟩, y3⟩ := (hL y hy).mono s13
        refine ⟨y.a, _, rfl, y1, rfl, _, _, rfl, _, _, rfl, rfl, rfl, ?_⟩
        refine ⟨_, rfl, _, rfl, ga, _, yg, .inl y2, rfl, flat_ints _, _, rfl, _, rfl, ga, _, yg, .inl y2, rfl, flat_ints _, rfl, _, rfl, ?_⟩
        rw [ne_bl]
        simp only [inV_ints, if_neg Bool.false_ne_true]
        show (if cutB e.1 e.2.1 y.m.1 = true then _ else _)
        cases ec : cutB e.1 e.2.1 y.m.1 with
        | true => exact iteT ⟨_, rfl, hqt ec _ (Same.refl _)⟩
        | false => exact iteF (hqf ec _ (Same.refl _))
      · have s13 := s12.trans s3
        refine ⟨_, rfl, _, _, rfl, ⟨D, _, rfl, SqL.of hD3, mos_frs (fun r hr => (hL r hr).mono s13) (fun m => cutB e.1 e.2.1 m.1)⟩, ok.frs _, fun H4 pf f s4 hpf al f0 f1 f2 => ?_⟩
        refine ⟨_, rfl, _, f, _, rfl, ⟨pf, rfl, SqT.of hpf⟩, ?_, ?_, _, rfl, ?_⟩
        · have := ek.2.2.2; exact pow_nat this.1 (by omega)
        · exact pow_nat (Int.le_of_lt al.d0) (Int.lt_of_lt_of_le f2 (Gw.pow_mono (by decide)))
        rw [le_dec ok _ al]
        by_cases hle : LeSum (L.map (·.m)) (fun m => cutB e.1 e.2.1 m.1) e.2.2
        · rw [dec_t hle]
          refine iteF ⟨s2.trans (s3.trans s4), ⟨_, _, _, _, _, _, rfl⟩, fun e' he' => ?_⟩
          rw [htk] at he'
          rcases List.mem_append.mp he' with z | z
          · exact ih e' z
          · rw [List.mem_singleton] at z; subst z; exact hle
        · rw [dec_f hle]
          refine iteT ?_
          have qq := q _ (s13.trans s4)
          rw [dec_f fun z => hle (z e heM)] at qq
          exact qq
    · rintro σ H' ⟨s2, ⟨o2, o3, o4, o5, o6, o7, rfl⟩, ih⟩
      have qq := q _ (s1.trans s2)
      rw [hpe.length, List.take_length] at ih
      rw [dec_t (show PaidP es (L.map (·.m)) from ih)] at qq
      exact qq
end
end K5

namespace K5
open PySem PySem.Spec PyProof.Rows L2
/-- two sets: other ones, and apart or one in the other -/
def Pair2 (a b : List Int) : Prop := a ≠ b ∧ ((∀ v ∈ a, v ∉ b) ∨ (∀ v ∈ a, v ∈ b) ∨ (∀ v ∈ b, v ∈ a))
def NestP (M : List Mo) : Prop := ∀ k j : Nat, j < k → k < M.length → Pair2 ((M.map (·.1)).getD k []) ((M.map (·.1)).getD j [])
def InnerP (N : Gw.Net) (M : List Mo) : Prop := ∀ m ∈ M, N.root ∉ m.1 ∧ LeSum M (fun x => dec (∀ v ∈ x.1, v ∈ m.1)) (N.prL m.1)
def GoodP (N : Gw.Net) (M : List Mo) : Prop := NestP M ∧ PaidP N.es M ∧ InnerP N M
/-- a choice and moats are due -/
def DueP (N : Gw.Net) (C : List Int) (M : List Mo) : Prop := GoodP N M ∧ AscP N.es.length C ∧
  if N.n = 1 then C.length = 0 else ((N.n : Int) - 1) * costC N C * (Gw.fsum (M.map (·.2))).2 ≤ (2 * (N.n : Int) - 3) * (Gw.fsum (M.map (·.2))).1
theorem map_all (l : List Bool) : l.any id = dec (∃ x ∈ l, x = true) := by
  by_cases h : ∃ x ∈ l, x = true
  · rw [dec_t h]; obtain ⟨x, hx, e⟩ := h; exact List.any_eq_true.mpr ⟨x, hx, e⟩
  · rw [dec_f h]
    exact Bool.eq_false_iff.mpr fun z => h (let ⟨x, a, b⟩ := List.any_eq_true.mp z; ⟨x, a, b⟩)
theorem sum_bd {α : Type} {f : α → Int} {l : List α} {b : Int} (h : ∀ x ∈ l, 0 ≤ f x ∧ f x ≤ b) : 0 ≤ (l.map f).sum ∧ (l.map f).sum ≤ l.length * b := by
  induction l with
  | nil => simp
  | cons x r ih =>
    have h1 := h x List.mem_cons_self
    have h2 := ih fun y hy => h y (List.mem_cons_of_mem _ hy)
    rw [List.map_cons, List.sum_cons, List.length_cons]
    have : ((r.length + 1 : Nat) : Int) * b = r.length * b + b := by rw [Int.natCast_add, Int.add_mul]; simp
    omega
theorem pr_bd {N : Gw.Net} (o : N.Ok) (v : Int) : 0 ≤ N.pr v ∧ N.pr v ≤ 1048576 := by
  unfold Gw.Net.pr
  by_cases h : v.toNat < N.pz.length
  · rw [Gw.getD_lt h]; exact o.pnn _ (List.getElem_mem h)
  · rw [Gw.getD_ge (by omega)]; decide
theorem prL_bd {N : Gw.Net} (o : N.Ok) {g : List Int} (h : g.length ≤ 40) : 0 ≤ N.prL g ∧ N.prL g < 2 ^ 40 := by
  have := sum_bd (f := N.pr) (l := g) (b := 1048576) fun x _ => pr_bd o x
  unfold Gw.Net.prL
  have e : (2 : Int) ^ 40 = 1099511627776 := by decide
  omega
theorem cost_bd {N : Gw.Net} (o : N.Ok) {C : List Int} (asc : AscP N.es.length C) (h : N.es.length ≤ 200) : 0 ≤ costC N C ∧ costC N C < 2 ^ 40 := by
  have a := sum_bd (f := fun k => (N.ed k).2.2) (l := C) (b := 1048576) fun k hk => (ed_ok o (asc.mem k hk)).2.2.2
  have b : 0 ≤ Gw.piX N (fun v => ¬ Rs N C v) ∧ Gw.piX N (fun v => ¬ Rs N C v) ≤ (List.range N.n).length * 1048576 := by
    unfold Gw.piX
    refine sum_bd fun i _ => ?_
    split
    · exact pr_bd o _
    · decide
  rw [List.length_range] at b
  have := o.n9
  have := asc_len asc
  unfold costC Gw.costI
  have e : (2 : Int) ^ 40 = 1099511627776 := by decide
  omega
section
variable {P : Program} {w : World} {K : PySem.W.Frag} {mg : Str → Option Value} {base : Heap} {CN CG : Addr}
abbrev s_are_nested : Stmt := top 27
theorem sc_are_nested : FnScope ["moats", "groups", "group", "_", "k", "other", "apart", "vertex"] ["moats"] (C8.fnScope s_are_nested) := C8.fnScope_by (by decide +kernel)

def spAreNested (K : PySem.W.Frag) : Sp := fun vs H Q _ => ∃ (u : V) (n : Nat) (M : List Mo), vs = [u] ∧ n ≤ 40 ∧ IsL K H (IsMo K H) u M ∧ MosOk n M ∧ ∀ H', Same H H' → Q (.bl (dec (NestP M))) H'
theorem cut_take (xs : List V) (k : Nat) (h : k ≤ xs.length) : cutV xs none (some (k : Int)) = xs.take k := by
  unfold cutV
  rw [HT.sIx_none, HT.sIx_nat, List.drop_zero, Nat.min_eq_left h, Nat.sub_zero]
theorem ok_areNested (F : DefAt K mg "are_nested" s_are_nested ["moats"]) (T : Txt K mg CN CG) (c_is_part : C8.Cal P w K mg base 1 "is_part" (spIsPart K) []) : C8.Cal P w K mg base 2 "are_nested" (spAreNested K) [] := by
  refine cal F sc_are_nested (fun vs H Q E h => ?_) (fun f cdv A outer s H vs Q E hr h => ?_)
  · obtain ⟨_, _, _, rfl, _⟩ := h; rfl
  · obtain ⟨u, n, M, rfl, hn, ⟨a, xs, rfl, hs, hp⟩, ok, q⟩ := h
    have nd := sc_are_nested.nd
    refine ⟨_, (pss_cons (ps_setLc (i := 1) (own := [("group", 2), ("_", 3)]) rfl nd rfl rfl (sw_true rfl rfl rfl (by decide +kernel)) (pi_l K (pv 0)) (blkOk_by (by kernel_rfl)) (fun _ _ _ _ _ => (pg_t K 2 rfl (pgs_cons (pg_name (i := 2) nd rfl (Or.inl rfl)) (pgs_cons (pg_name (i := 3) nd rfl (Or.inl rfl)) pgs_nil)))) (fun _ _ _ _ _ => pts_nil) (fun _ _ _ _ _ => (pv 2)))
      (pss_cons (ps_for PassesOwn.never rfl (pi_range1 (by rfl) T.range (pa_cons (pe_callB (lenS K) (by rfl) T.len (by decide +kernel) (pa_cons (pv 1) pa_nil)) pa_nil)) (pg_name (i := 4) nd rfl (Or.inl rfl)) (pss_one (ps_for PassesOwn.never rfl (pi_l K (pe_slice (slL K) (pv 1) po_none (po_some (pv 4)))) (pg_name (i := 5) nd rfl (Or.inr rfl)) (pss_cons (ps_set (i := 6) nd rfl (Or.inl rfl) (pe_not (pe_callB (crAny K rfl) (by rfl) T.any (by decide +kernel) (pa_cons (pe_lc (own := [("vertex", 7)]) rfl nd (pi_l K (pe_ix (ixl K) (pv 1) (pv 4) (fun _ _ => rfl))) (blkOk_by (by kernel_rfl)) (fun _ _ _ _ _ => (pg_name (i := 7) nd rfl (Or.inl rfl))) (fun _ _ _ _ _ => pts_nil) (fun _ _ _ _ _ => (pe_cmpR (inS K) (pv 7) (pv 5) (by rfl)))) pa_nil))))
      (pss_one (ps_if (PW.pt (pw_or (pt_cmpR (eqD K hr.units) (pe_ix (ixl K) (pv 1) (pv 4) (fun _ _ => rfl)) (pv 5) (nomark _)) (pw_or1 (PW.pt (pw_and (pt_not (pt_val (pv 6))) (pw_and (pt_not (pt_val (C8.pe_c c_is_part hr (by decide) (by rfl) (pa_cons (pe_ix (ixl K) (pv 1) (pv 4) (fun _ _ => rfl)) (pa_cons (pv 5) pa_nil))))) (pw_and1 (pt_not (pt_val (C8.pe_c c_is_part hr (by decide) (by rfl) (pa_cons (pv 5) (pa_cons (pe_ix (ixl K) (pv 1) (pv 4) (fun _ _ => rfl)) pa_nil)))))))))))) (pss_one (ps_ret pe_bl)) pss_nil))))))
      (pss_one (ps_ret pe_bl)))), ?_⟩
    obtain ⟨L, rfl, rfl, hL⟩ := mos_rec hp
    have lz : L.length ≤ 40 := by have := ok.len; rw [List.length_map] at this; exact this
    refine ⟨_, rfl, a, rfl, ⟨_, hs⟩, fun D hD => ?_⟩
    refine lc_map L (fun r => V.ref r.a) (fun r => r.g) hD hs (by rw [szl]; omega) (fun y hy H2 s2 Qt ht => ?_) (fun B s1 b1 => ?_)
    · exact ⟨y.a, _, rfl, SqT.mono s2 (hL y hy).1, rfl, _, _, rfl, _, _, rfl, rfl, rfl, _, rfl, ht _ (Same.refl _)⟩
    have ll : (L.map (·.g)).length = L.length := List.length_map ..
    -- the group at k
    have grp : ∀ k : Nat, k < L.length → ∃ r, r ∈ L ∧ L[k]? = some r ∧ ((L.map (·.m)).map (·.1)).getD k [] = r.m.1 ∧ (L.map (·.g))[k]? = some r.g := fun k hk => by
      refine ⟨L[k], List.getElem_mem hk, List.getElem?_eq_getElem hk, ?_, by rw [List.getElem?_map, List.getElem?_eq_getElem hk]; rfl⟩
      simp [List.getD, hk]
    refine ⟨_, rfl, D, _, rfl, .inl (SqL.of b1), _, rfl, by rw [ll]; omega, by rw [ll]; omega, ?_⟩
    rw [ll]
    refine for_rng (fun i σ H' => Same B H' ∧ (∃ o2 o3 o4 o5 o6 o7, σ = [some (.ref a), some (.ref D), o2, o3, o4, o5, o6, o7]) ∧ ∀ k j : Nat, j < k → k < i → Pair2 (((L.map (·.m)).map (·.1)).getD k []) (((L.map (·.m)).map (·.1)).getD j [])) ?_ ?_ ?_
    · exact ⟨Same.refl _, ⟨_, _, _, _, _, _, rfl⟩, fun k j _ hk => by omega⟩
    · rintro i σ H' hi ⟨s2, ⟨o2, o3, o4, o5, o6, o7, rfl⟩, ih⟩
      obtain ⟨ri, hri, ei, egi, evi⟩ := grp i hi
      refine ⟨_, rfl, ?_⟩
      refine ⟨_, rfl, _, rfl, D, _, rfl, SqL.of (s2 _ _ b1), fun sl hsl => ?_⟩
      rw [cut_take _ _ (by rw [ll]; omega)]
      have s3 : Same H' (upd H' sl (.lst ((L.map (·.g)).take i))) := Same.new hsl
      generalize hB2 : upd H' sl (.lst ((L.map (·.g)).take i)) = B2 at *
      have b2 : B2 sl = some (.lst ((L.map (·.g)).take i)) := by rw [← hB2]; exact upd_same
      have lt : ((L.map (·.g)).take i).length = i := by rw [List.length_take, ll]; omega
      refine ⟨sl, rfl, ⟨_, SqL.of b2⟩, for_list (K := K) (a := sl) (xs := (L.map (·.g)).take i) (fun j σ H'' => Same B2 H'' ∧ (∃ o2 o3 o5 o6 o7, σ = [some (.ref a), some (.ref D), o2, o3, some (.int i), o5, o6, o7]) ∧ ∀ j' : Nat, j' < j → Pair2 (((L.map (·.m)).map (·.1)).getD i []) (((L.map (·.m)).map (·.1)).getD j' [])) ?_ (fun j σ H'' _ h => SqL.of (h.1 _ _ b2)) ?_ ?_⟩
      · exact ⟨Same.refl _, ⟨_, _, _, _, _, rfl⟩, fun j' hj' => by omega⟩
      · rintro j x σ H'' hx ⟨s4, ⟨o2, o3, o5, o6, o7, rfl⟩, jh⟩
        have hj : j < i := by have := (List.getElem?_eq_some_iff.mp hx).1; omega
        obtain ⟨rj, hrj, ej, egj, evj⟩ := grp j (by omega)
        rw [List.getElem?_take_of_lt hj, evj] at hx
        obtain rfl : rj.g = x := Option.some.inj hx
        have sB : Same B H'' := s2.trans (s3.trans s4)
        have sH : Same H H'' := s1.trans sB
        obtain ⟨i1, ⟨ia, ig, i2⟩, i3⟩ := (hL ri hri).mono sH
        obtain ⟨j1, ⟨ja, jg, j2⟩, j3⟩ := (hL rj hrj).mono sH
        have gi40 : ri.m.1.length ≤ 40 := Nat.le_trans (grp_len (ok.set _ (List.mem_map.mpr ⟨ri, hri, rfl⟩))) hn
        have gj40 : rj.m.1.length ≤ 40 := Nat.le_trans (grp_len (ok.set _ (List.mem_map.mpr ⟨rj, hrj, rfl⟩))) hn
        have evi2 : ∀ Hx, Same B Hx → SqL K Hx D (L.map (·.g)) := fun Hx sx => SqL.of (sx _ _ b1)
        have evat : atI (L.map (·.g)) (i : Int) = some (.ref ia) := atI_nat (by rw [evi, ig])
        rw [jg]
        -- apart
        refine ⟨_, rfl, _, rfl, D, _, _, _, rfl, rfl, evi2 _ sB, evat, ia, rfl, ⟨_, i2⟩, fun D2 hD2 => ?_⟩
        refine lc_map ri.m.1 V.int (fun x => .bl (decide (x ∈ rj.m.1))) hD2 i2 (by rw [szl]; omega) (fun y hy H3 s5 Qt ht => ?_) (fun H3 s5 hD3 => ?_)
        · refine ⟨rfl, _, rfl, _, rfl, ja, _, rfl, .inl (SqL.mono s5 j2), rfl, flat_ints _, ?_⟩
          rw [inV_ints]
          exact ht _ (Same.refl _)
        have e3 : (ri.m.1.map fun x => V.bl (decide (x ∈ rj.m.1))) = (ri.m.1.map fun x => decide (x ∈ rj.m.1)).map V.bl := by rw [List.map_map]; rfl
        rw [e3] at hD3
        refine ⟨D2, _, rfl, SqL.of hD3, _, rfl, ?_⟩
        rw [map_all]
        have eany : dec (∃ x ∈ ri.m.1.map fun x => decide (x ∈ rj.m.1), x = true) = dec (∃ x ∈ ri.m.1, x ∈ rj.m.1) := dec_iff ⟨fun ⟨x, hx, e⟩ => by
          obtain ⟨y, hy, rfl⟩ := List.mem_map.mp hx
          exact ⟨y, hy, of_decide_eq_true e⟩, fun ⟨x, hx, e⟩ => ⟨_, List.mem_map.mpr ⟨x, hx, rfl⟩, decide_eq_true e⟩⟩
        rw [eany]
        have sB3 : Same B H3 := sB.trans s5
        have s45 : Same B2 H3 := s4.trans s5
        have i2' := SqL.mono s5 i2
        have j2' := SqL.mono s5 j2
        -- groups[k] == other
        refine ⟨_, rfl, _, rfl, D, _, _, _, rfl, rfl, evi2 _ sB3, evat, _, rfl, encIs ri.m.1, encIs rj.m.1, (show IsIs K H3 (.ref ia) ri.m.1 from ⟨ia, rfl, i2'⟩).dp, (show IsIs K H3 (.ref ja) rj.m.1 from ⟨ja, rfl, j2'⟩).dp, sh_is _, sh_is _, _, rfl, ?_⟩
        rw [eqv_is]
        have bad : ∀ Hx, Same H Hx → ¬ Pair2 ri.m.1 rj.m.1 → Q (.bl false) Hx := fun Hx sx z => by
          have qq := q Hx sx
          rw [dec_f fun nest => z (by have := nest i j hj (by rw [List.length_map]; exact hi); rw [egi, egj] at this; exact this)] at qq
          exact qq

        by_cases hEq : ri.m.1 = rj.m.1
        · refine ifd hEq ?_
          exact bad _ (s1.trans sB3) fun z => z.1 hEq
        refine ifnd hEq ?_
        have good : Pair2 ri.m.1 rj.m.1 → ∀ j' : Nat, j' < j + 1 → Pair2 (((L.map (·.m)).map (·.1)).getD i []) (((L.map (·.m)).map (·.1)).getD j' []) := fun z j' hj' => by
          by_cases e : j' = j
          · subst e; rw [egi, egj]; exact z
          · exact jh j' (by omega)
        refine ⟨_, rfl, _, rfl, ?_⟩
        by_cases hA : ∃ x ∈ ri.m.1, x ∈ rj.m.1
        · rw [dec_t hA]
          refine iteT ⟨_, rfl, _, rfl, D, _, _, _, rfl, rfl, evi2 _ sB3, evat, _, rfl, _, _, ri.m.1, rj.m.1, rfl, ⟨ia, rfl, i2'⟩, ⟨ja, rfl, j2'⟩, by omega, fun H4 s6 => ⟨_, rfl, ?_⟩⟩
          by_cases hP : ∀ x ∈ ri.m.1, x ∈ rj.m.1
          · rw [dec_t hP]
            exact iteF ⟨s45.trans s6, ⟨_, _, _, _, _, rfl⟩, good ⟨hEq, .inr (.inl hP)⟩⟩
          · rw [dec_f hP]
            refine iteT ⟨_, rfl, _, rfl, _, rfl, D, _, _, _, rfl, rfl, evi2 _ (sB3.trans s6), evat, _, _, rj.m.1, ri.m.1, rfl, ⟨ja, rfl, SqL.mono s6 j2'⟩, ⟨ia, rfl, SqL.mono s6 i2'⟩, by omega, fun H5 s7 => ⟨_, rfl, ?_⟩⟩
            by_cases hP2 : ∀ x ∈ rj.m.1, x ∈ ri.m.1
            · rw [dec_t hP2]
              exact iteF ⟨(s45.trans s6).trans s7, ⟨_, _, _, _, _, rfl⟩, good ⟨hEq, .inr (.inr hP2)⟩⟩
            · rw [dec_f hP2]
              refine iteT (bad _ (((s1.trans sB3).trans s6).trans s7) fun z => ?_)
              rcases z.2 with z | z | z
              · obtain ⟨x, h1, h2⟩ := hA; exact z x h1 h2
              · exact hP z
              · exact hP2 z
        · rw [dec_f hA]
          exact iteF ⟨s45, ⟨_, _, _, _, _, rfl⟩, good ⟨hEq, .inl fun v h1 h2 => hA ⟨v, h1, h2⟩⟩⟩
      · rintro σ H'' ⟨s4, ⟨o2, o3, o5, o6, o7, rfl⟩, jh⟩
        rw [lt] at jh
        refine ⟨s2.trans (s3.trans s4), ⟨_, _, _, _, _, _, rfl⟩, fun k j hj hk => ?_⟩
        by_cases e : k = i
        · subst e; exact jh j hj
        · exact ih k j hj (by omega)
    · rintro σ H' ⟨s2, ⟨o2, o3, o4, o5, o6, o7, rfl⟩, ih⟩
      have qq := q _ (s1.trans s2)
      rw [dec_t (show NestP (L.map (·.m)) from fun k j hj hk => ih k j hj (by rw [List.length_map] at hk; exact hk))] at qq
      exact qq
abbrev s_are_good_for_prizes : Stmt := top 28
theorem sc_are_good_for_prizes : FnScope ["network", "root", "prizes", "moats", "group", "_", "inner", "other", "height", "vertex"] ["network", "root", "prizes", "moats"] (C8.fnScope s_are_good_for_prizes) := C8.fnScope_by (by decide +kernel)

def spAreGood (K : PySem.W.Frag) (CN : Addr) : Sp := fun vs H Q _ => ∃ (v u x : V) (N : Gw.Net) (M : List Mo), vs = [v, .int N.root, u, x] ∧ NetAt K H CN N.n N.es v ∧ N.Ok ∧ IsIs K H u N.pz ∧ IsL K H (IsMo K H) x M ∧ MosOk N.n M ∧ ∀ H', Same H H' → Q (.bl (dec (GoodP N M))) H'
theorem ok_areGood (F : DefAt K mg "are_good_for_prizes" s_are_good_for_prizes ["network", "root", "prizes", "moats"]) (T : Txt K mg CN CG) (c_check_prizes : C8.Cal P w K mg base 2 "check_prizes" (spCheckPrizes K CN) []) (c_are_sets : C8.Cal P w K mg base 3 "are_sets" (spAreSets K CN) [])
    (c_are_nested : C8.Cal P w K mg base 2 "are_nested" (spAreNested K) []) (c_are_paid : C8.Cal P w K mg base 4 "are_paid" (spArePaid K CN) []) (c_is_part : C8.Cal P w K mg base 1 "is_part" (spIsPart K) []) (c_sum_of : C8.Cal P w K mg base 3 "sum_of" (spSumOf K) [])
    (c_at_most : C8.Cal P w K mg base 1 "at_most" (spAtMost K) []) : C8.Cal P w K mg base 5 "are_good_for_prizes" (spAreGood K CN) [] := by
  refine cal F sc_are_good_for_prizes (fun vs H Q E h => ?_) (fun f cdv A outer s H vs Q E hr h => ?_)
  · obtain ⟨_, _, _, _, _, rfl, _⟩ := h; rfl
  · obtain ⟨v, u, x, N, M, rfl, hN, o, hu, hx, ok, q⟩ := h
    have nd := sc_are_good_for_prizes.nd
    refine ⟨_, (pss_cons (ps_expr (C8.pe_c c_check_prizes hr (by decide) (by rfl) (pa_cons (pv 0) (pa_cons (pv 1) (pa_cons (pv 2) pa_nil)))))
      (pss_cons (ps_if (PW.pt (pw_or (pt_not (pt_val (C8.pe_c c_are_sets hr (by decide) (by rfl) (pa_cons (pv 0) (pa_cons (pv 3) pa_nil))))) (pw_or (pt_not (pt_val (C8.pe_c c_are_nested hr (by decide) (by rfl) (pa_cons (pv 3) pa_nil)))) (pw_or1 (pt_not (pt_val (C8.pe_c c_are_paid hr (by decide) (by rfl) (pa_cons (pv 0) (pa_cons (pv 3) pa_nil))))))))) (pss_one (ps_ret pe_bl)) pss_nil)
      (pss_cons (ps_for PassesOwn.never rfl (pi_l K (pv 3)) (pg_t K 2 rfl (pgs_cons (pg_name (i := 4) nd rfl (Or.inr rfl)) (pgs_cons (pg_name (i := 5) nd rfl (Or.inl rfl)) pgs_nil))) (pss_cons (ps_setLc (i := 6) (own := [("other", 7), ("height", 8)]) rfl nd rfl rfl (sw_true rfl rfl rfl (by decide +kernel)) (pi_l K (pv 3)) (blkOk_by (by kernel_rfl)) (fun _ _ _ _ _ => (pg_t K 2 rfl (pgs_cons (pg_name (i := 7) nd rfl (Or.inl rfl)) (pgs_cons (pg_name (i := 8) nd rfl (Or.inl rfl)) pgs_nil)))) (fun _ _ _ _ _ => (pts_one (pt_val (C8.pe_c c_is_part hr (by decide) (by rfl) (pa_cons (pv 7) (pa_cons (pv 4) pa_nil)))))) (fun _ _ _ _ _ => (pv 8)))
      (pss_one (ps_if (PW.pt (pw_or (pt_cmpR (inS K) (pv 1) (pv 4) (by rfl)) (pw_or1 (pt_not (pt_val (C8.pe_c c_at_most hr (by decide) (by rfl) (pa_cons (C8.pe_c c_sum_of hr (by decide) (by rfl) (pa_cons (pv 6) pa_nil)) (pa_cons (pe_callB (crSum K rfl) (by rfl) T.sum (by decide +kernel) (pa_cons (pe_lc (own := [("vertex", 9)]) rfl nd (pi_l K (pv 4)) (blkOk_by (by kernel_rfl)) (fun _ _ _ _ _ => (pg_name (i := 9) nd rfl (Or.inl rfl))) (fun _ _ _ _ _ => pts_nil) (fun _ _ _ _ _ => (pe_ix (ixl K) (pv 2) (pv 9) (fun _ _ => rfl)))) pa_nil)) pa_nil)))))))) (pss_one (ps_ret pe_bl)) pss_nil))))
      (pss_one (ps_ret pe_bl))))), ?_⟩
    have n40 := o.n9
    refine ⟨_, rfl, _, rfl, _, rfl, v, u, N.n, N.es, N.root, N.pz, rfl, hN, hu, o.root, ⟨o.plen, o.pnn⟩, n40, ?_⟩
    refine ⟨_, rfl, _, rfl, v, x, N.n, N.es, M, rfl, hN, n40, hx, ok, _, rfl, iteF ?_⟩
    refine ⟨_, rfl, x, N.n, M, rfl, n40, hx, ok, fun H1 s1 => ⟨_, rfl, ?_⟩⟩
    by_cases hNest : NestP M
    · rw [dec_t hNest]
      refine iteF ⟨_, rfl, _, rfl, v, x, N.n, N.es, M, rfl, hN.mono s1, o.ends, hx.mono s1 (fun _ _ => IsMo.mono s1), ok, fun H2 s2 => ⟨_, rfl, ?_⟩⟩
      have s12 := s1.trans s2
      by_cases hPaid : PaidP N.es M
      · rw [dec_t hPaid]
        refine iteF ?_
        obtain ⟨a, xs, rfl, hs, hp⟩ := hx
        obtain ⟨up, rfl, hup⟩ := hu
        obtain ⟨L, rfl, rfl, hL⟩ := mos_rec hp
        have lz : L.length ≤ 40 := by have := ok.len; rw [List.length_map] at this; exact this
        refine ⟨_, rfl, a, rfl, ⟨_, SqL.mono s12 hs⟩, for_list (K := K) (a := a) (xs := L.map fun r => V.ref r.a) (fun i σ H' => Same H2 H' ∧ (∃ o4 o5 o6 o7 o8 o9, σ = [some v, some (.int N.root), some (.ref up), some (.ref a), o4, o5, o6, o7, o8, o9]) ∧
          ∀ m ∈ (L.map (·.m)).take i, N.root ∉ m.1 ∧ LeSum (L.map (·.m)) (fun y => dec (∀ v ∈ y.1, v ∈ m.1)) (N.prL m.1)) ?_ (fun i σ H' _ h => SqL.mono (s12.trans h.1) hs) ?_ ?_⟩
        · exact ⟨Same.refl _, ⟨_, _, _, _, _, _, rfl⟩, fun m hm => by simp at hm⟩
        · rintro i y σ H' hy ⟨s3, ⟨o4, o5, o6, o7, o8, o9, rfl⟩, ih⟩
          rw [List.getElem?_map] at hy
          obtain ⟨r, hr', rfl⟩ := Option.map_eq_some_iff.mp hy
          have hrL := List.mem_of_getElem? hr'
          have s13 := s12.trans s3
          have hi := (List.getElem?_eq_some_iff.mp hr').1
          have htk : (L.map (·.m)).take (i + 1) = (L.map (·.m)).take i ++ [r.m] := by rw [List.take_add_one, List.getElem?_map, hr']; rfl
          obtain ⟨r1, ⟨ra, rg, r2⟩, r3⟩ := (hL r hrL).mono s13
          have rm : r.m ∈ L.map (·.m) := List.mem_map.mpr ⟨r, hrL, rfl⟩
          have g40 : r.m.1.length ≤ 40 := Nat.le_trans (grp_len (ok.set _ rm)) n40
          refine ⟨r.a, _, rfl, r1, rfl, _, _, rfl, _, _, rfl, rfl, ?_⟩
          refine ⟨_, rfl, a, rfl, ⟨_, SqL.mono s13 hs⟩, fun D hD => ?_⟩
          refine lc_read L (fun r => V.ref r.a) (fun r => r.h) (fun y => dec (∀ v ∈ y.m.1, v ∈ r.m.1)) hD (SqL.mono s13 hs) (by rw [szl]; omega) (fun y hy H3 s4 Qt Qf hqt hqf => ?_) (fun H3 s4 hD3 => ?_)
          · have s14 := s13.trans s4
            obtain ⟨y1, ⟨ya, yg, y2⟩, y3⟩ := (hL y hy).mono s14
            have y40 : y.m.1.length ≤ 40 := Nat.le_trans (grp_len (ok.set _ (List.mem_map.mpr ⟨y, hy, rfl⟩))) n40
            refine ⟨y.a, _, rfl, y1, rfl, _, _, rfl, _, _, rfl, rfl, rfl, ?_⟩
            refine ⟨_, rfl, _, rfl, _, _, y.m.1, r.m.1, rfl, ⟨ya, yg, y2⟩, ⟨ra, rg, SqL.mono s4 r2⟩, by omega, fun H4 s5 => ⟨_, rfl, ?_⟩⟩
            show (if dec (∀ v ∈ y.m.1, v ∈ r.m.1) = true then _ else _)
            cases ec : dec (∀ v ∈ y.m.1, v ∈ r.m.1) with
            | true => exact iteT ⟨_, rfl, hqt ec _ s5⟩
            | false => exact iteF (hqf ec _ s5)
          · have s14 := s13.trans s4
            have bad : ∀ Hx, Same H Hx → ¬ (N.root ∉ r.m.1 ∧ LeSum (L.map (·.m)) (fun y => dec (∀ v ∈ y.1, v ∈ r.m.1)) (N.prL r.m.1)) → Q (.bl false) Hx := fun Hx sx z => by
              have qq := q Hx sx
              rw [dec_f fun g => z (g.2.2 _ rm)] at qq
              exact qq
            refine ⟨_, rfl, _, rfl, ra, _, rg, .inl (SqL.mono s4 r2), rfl, flat_ints _, _, rfl, ?_⟩
            rw [if_neg Bool.false_ne_true, inV_ints]
            by_cases hroot : N.root ∈ r.m.1
            · exact ifd hroot (bad _ s14 fun z => z.1 hroot)
            refine ifnd hroot ?_
            refine ⟨_, rfl, _, _, rfl, ⟨D, _, rfl, SqL.of hD3, mos_frs (fun r hr => (hL r hr).mono s14) (fun y => dec (∀ v ∈ y.1, v ∈ r.m.1))⟩, ok.frs _, fun H4 pf f s5 hpf al f0 f1 f2 => ?_⟩
            have s15 := s14.trans s5
            refine ⟨_, rfl, ra, rg, ⟨_, SqL.mono (s4.trans s5) r2⟩, fun D2 hD2 => ?_⟩
            refine lc_map r.m.1 V.int (fun v => .int (N.pr v)) hD2 (SqL.mono (s4.trans s5) r2) (by rw [szl]; omega) (fun y hy H5 s6 Qt ht => ?_) (fun H5 s6 hD5 => ?_)
            · have yb := (ok.set _ rm).2.2 y hy
              exact ⟨rfl, _, rfl, _, rfl, up, _, _, _, rfl, rfl, SqL.mono (s15.trans s6) hup, atI_lt yb.1 (by rw [o.plen]; exact yb.2), ht _ (Same.refl _)⟩
            have e3 : (r.m.1.map fun v => V.int (N.pr v)) = (r.m.1.map N.pr).map V.int := by rw [List.map_map]; rfl
            rw [e3] at hD5
            have pb := prL_bd o g40
            refine ⟨D2, _, rfl, SqL.of hD5, _, f, _, rfl, ⟨pf, rfl, SqT.of (s6 _ _ hpf)⟩, pow_nat pb.1 (Int.lt_of_lt_of_le pb.2 (Gw.pow_mono (by decide))), pow_nat (Int.le_of_lt al.d0) (Int.lt_of_lt_of_le f2 (Gw.pow_mono (by decide))), _, rfl, ?_⟩
            rw [le_dec ok _ al]
            show (if (!dec (LeSum (L.map (·.m)) (fun y => dec (∀ v ∈ y.1, v ∈ r.m.1)) (N.prL r.m.1))) = true then _ else _)
            by_cases hle : LeSum (L.map (·.m)) (fun y => dec (∀ v ∈ y.1, v ∈ r.m.1)) (N.prL r.m.1)
            · rw [dec_t hle]
              refine iteF ⟨((s3.trans s4).trans s5).trans s6, ⟨_, _, _, _, _, _, rfl⟩, fun m hm => ?_⟩
              rw [htk] at hm
              rcases List.mem_append.mp hm with z | z
              · exact ih m z
              · rw [List.mem_singleton] at z; subst z; exact ⟨hroot, hle⟩
            · rw [dec_f hle]
              exact iteT (bad _ (s15.trans s6) fun z => hle z.2)
        · rintro σ H' ⟨s3, ⟨o4, o5, o6, o7, o8, o9, rfl⟩, ih⟩
          have e : (L.map fun r => V.ref r.a).length = (L.map (·.m)).length := by rw [List.length_map, List.length_map]
          rw [e, List.take_length] at ih
          have qq := q _ (s12.trans s3)
          rw [dec_t (show GoodP N (L.map (·.m)) from ⟨hNest, hPaid, ih⟩)] at qq
          exact qq
      · rw [dec_f hPaid]
        refine iteT ?_
        have qq := q _ s12
        rw [dec_f fun g => hPaid g.2.1] at qq
        exact qq
    · rw [dec_f hNest]
      refine iteT ?_
      have qq := q _ s1
      rw [dec_f fun g => hNest g.1] at qq
      exact qq
end
end K5

namespace K5
open PySem PySem.Spec PyProof.Rows L2
theorem small_nat {i : Int} {k : Nat} (h0 : 0 ≤ i) (h : i < 2 ^ k) : i.natAbs < 2 ^ k := pow_nat h0 h
theorem dec_int0 (n : Nat) : decide (V.int (n : Int) = V.int 0) = dec (n = 0) := by
  rw [dec_decide]
  exact dec_iff ⟨fun h => by have := V.int.inj h; omega, fun h => by rw [h]; rfl⟩
/-- the last comparison of the checks -/
theorem fin_bd {N : Gw.Net} (o : N.Ok) {C : List Int} (asc : AscP N.es.length C) (h : N.es.length ≤ 200) : ((N.n : Int) - 1).natAbs < 2 ^ 10 ∧ (costC N C).natAbs < 2 ^ 40 ∧ (((N.n : Int) - 1) * costC N C).natAbs < 2 ^ 50 ∧ (2 * (N.n : Int) - 3).natAbs < 2 ^ 10 := by
  have b := cost_bd o asc h
  have n9 := o.n9
  have n1 := o.n1
  have c : (costC N C).natAbs < 2 ^ 40 := pow_nat b.1 b.2
  have a : ((N.n : Int) - 1).natAbs < 2 ^ 10 := by have : (2 : Nat) ^ 10 = 1024 := by decide
                                                   omega
  refine ⟨a, c, wide_lt a c, by have : (2 : Nat) ^ 10 = 1024 := by decide
                                omega⟩
section
variable {P : Program} {w : World} {K : PySem.W.Frag} {mg : Str → Option Value} {base : Heap} {CN CG : Addr}
abbrev s_check_quick_choice : Stmt := top 45
theorem sc_check_quick_choice : FnScope ["network", "root", "prizes", "choice", "moats", "numerator", "denominator", "many"] ["network", "root", "prizes", "choice", "moats"] (C8.fnScope s_check_quick_choice) := C8.fnScope_by (by decide +kernel)

def spCheckQuick (K : PySem.W.Frag) (CN : Addr) : Sp := fun vs H Q _ => ∃ (v u c x : V) (N : Gw.Net) (C : List Int) (M : List Mo), vs = [v, .int N.root, u, c, x] ∧ NetAt K H CN N.n N.es v ∧ N.Ok ∧ IsIs K H u N.pz ∧ IsIs K H c C ∧ C.length ≤ 1000 ∧ IsL K H (IsMo K H) x M ∧ MosOk N.n M ∧ N.es.length ≤ 200 ∧
  ∀ H', Same H H' → Q (.bl (dec (DueP N C M))) H'
theorem ok_checkQuick (F : DefAt K mg "check_quick_choice" s_check_quick_choice ["network", "root", "prizes", "choice", "moats"]) (T : Txt K mg CN CG) (c_are_good_for_prizes : C8.Cal P w K mg base 5 "are_good_for_prizes" (spAreGood K CN) []) (c_is_ascending : C8.Cal P w K mg base 2 "is_ascending" (spAsc K CN) [])
    (m_size : C8.Met P w K mg base 1 CN "size" (spSize K CN) []) (c_total : C8.Cal P w K mg base 4 "total" (spTotal K) []) (c_cost : C8.Cal P w K mg base 3 "cost" (spCost K CN) []) : C8.Cal P w K mg base 6 "check_quick_choice" (spCheckQuick K CN) [] := by
  refine cal F sc_check_quick_choice (fun vs H Q E h => ?_) (fun f cdv A outer s H vs Q E hr h => ?_)
  · obtain ⟨_, _, _, _, _, _, _, rfl, _⟩ := h; rfl
  · obtain ⟨v, u, c, x, N, C, M, rfl, hN, o, hu, hc, hcl, hx, ok, hes, q⟩ := h
    have nd := sc_check_quick_choice.nd
    refine ⟨_, (pss_cons (ps_if (PW.pt (pw_or (pt_not (pt_val (C8.pe_c c_are_good_for_prizes hr (by decide) (by rfl) (pa_cons (pv 0) (pa_cons (pv 1) (pa_cons (pv 2) (pa_cons (pv 4) pa_nil))))))) (pw_or1 (pt_not (pt_val (C8.pe_c c_is_ascending hr (by decide) (by rfl) (pa_cons (pv 0) (pa_cons (pv 3) pa_nil)))))))) (pss_one (ps_ret pe_bl)) pss_nil)
      (pss_cons (ps_if (pt_cmpR op_eq (C8.pe_mt0 m_size hr (by decide) (pv 0)) pe_int (nomark _)) (pss_one (ps_ret (pe_cmpR op_eq (pe_callB (lenS K) (by rfl) T.len (by decide +kernel) (pa_cons (pv 3) pa_nil)) pe_int (nomark _)))) pss_nil)
      (pss_cons (ps_asg (C8.pe_c c_total hr (by decide) (by rfl) (pa_cons (pv 4) pa_nil)) (pg_t K 2 rfl (pgs_cons (pg_name (i := 5) nd rfl (Or.inl rfl)) (pgs_cons (pg_name (i := 6) nd rfl (Or.inl rfl)) pgs_nil))))
      (pss_cons (ps_set (i := 7) nd rfl (Or.inl rfl) (C8.pe_mt0 m_size hr (by decide) (pv 0)))
      (pss_one (ps_ret (pe_cmpR op_le (pe_op op_mulX (pe_op op_mulX (pe_op op_sub (pv 7) pe_int) (C8.pe_c c_cost hr (by decide) (by rfl) (pa_cons (pv 0) (pa_cons (pv 1) (pa_cons (pv 2) (pa_cons (pv 3) pa_nil)))))) (pv 6)) (pe_op op_mulX (pe_op op_sub (pe_op op_mul pe_int (pv 7)) pe_int) (pv 5)) (nomark _)))))))), ?_⟩
    have n40 := o.n9
    refine ⟨_, rfl, _, rfl, _, rfl, _, rfl, v, u, x, N, M, rfl, hN, o, hu, hx, ok, fun H1 s1 => ⟨_, rfl, ?_⟩⟩
    by_cases hG : GoodP N M
    · rw [dec_t hG]
      refine iteF ⟨_, rfl, _, rfl, v, c, N.n, N.es, C, rfl, hN.mono s1, hc.mono s1, hcl, fun H2 s2 => ⟨_, rfl, ?_⟩⟩
      have s12 := s1.trans s2
      by_cases hA : AscP N.es.length C
      · rw [dec_t hA]
        refine iteF ?_
        have hN2 := hN.mono s12
        obtain ⟨p, dx, le, xs0, rfl, n1, n2, n3⟩ := id hN2
        refine ⟨_, rfl, p, dx, _, rfl, n1, nf_no _ _ (by decide +kernel) (by decide +kernel), _, N.n, N.es, rfl, hN2, rfl, _, rfl, ?_⟩
        by_cases h1 : V.int (N.n : Int) = V.int 1
        · refine ifd h1 ?_
          have h1' : N.n = 1 := by have := V.int.inj h1; omega
          obtain ⟨ca, rfl, hcs⟩ := hc
          refine ⟨_, rfl, ca, _, rfl, .inl (SqL.mono s12 hcs), rfl, ?_⟩
          have qq := q _ s12
          have e : dec (DueP N C M) = dec (C.length = 0) := dec_iff ⟨fun h => by have := h.2.2; rw [if_pos h1'] at this; exact this, fun h => ⟨hG, hA, by rw [if_pos h1']; exact h⟩⟩
          rw [e, ← dec_int0] at qq
          rw [List.length_map]
          exact qq
        · refine ifnd h1 ?_
          have h1' : ¬ N.n = 1 := fun e => h1 (by rw [e]; rfl)
          refine ⟨_, rfl, x, N.n, M, rfl, hx.mono s12 (fun _ _ => IsMo.mono s12), ok, fun H3 pf f s3 hpf al f0 f1 f2 => ?_⟩
          have s13 := s12.trans s3
          refine ⟨pf, _, rfl, SqT.of hpf, rfl, _, _, rfl, _, _, rfl, rfl, ?_⟩
          refine ⟨_, rfl, p, dx, _, rfl, s3 _ _ n1, nf_no _ _ (by decide +kernel) (by decide +kernel), _, N.n, N.es, rfl, hN2.mono s3, ?_⟩
          obtain ⟨k1, k2, k3, k4⟩ := fin_bd o hA hes
          refine ⟨_, rfl, _, _, rfl, rfl, _, rfl, _, rfl, _, rfl, _, rfl, _, u, c, N, C, rfl, hN2.mono s3, o, hu.mono s13, hc.mono s13, hA, hes, fun H4 s4 => ?_⟩
          refine ⟨_, _, rfl, rfl, mulx_ok k1 k2 (by decide), _, rfl, _, _, rfl, rfl, mulx_ok k3 (pow_nat (Int.le_of_lt al.d0) f2) (by decide), ?_⟩
          refine ⟨_, rfl, _, _, rfl, rfl, .inl ⟨by decide, by decide⟩, _, _, rfl, rfl, _, rfl, _, _, rfl, rfl, mulx_ok k4 (pow_nat f0 f1) (by decide), _, _, rfl, rfl, ?_⟩
          have qq := q _ (s13.trans s4)
          have pos := ok.pos fun _ => true
          rw [List.filter_eq_self.mpr fun _ _ => rfl] at pos
          have e : dec (DueP N C M) = dec (((N.n : Int) - 1) * costC N C * (Gw.fsum (M.map (·.2))).2 ≤ (2 * (N.n : Int) - 3) * (Gw.fsum (M.map (·.2))).1) :=
            dec_iff ⟨fun h => by have := h.2.2; rw [if_neg h1'] at this; exact this, fun h => ⟨hG, hA, by rw [if_neg h1']; exact h⟩⟩
          rw [e, ← dec_iff (Gw.alike_le2 al pos _ _), ← dec_decide] at qq
          exact qq
      · rw [dec_f hA]
        refine iteT ?_
        have qq := q _ s12
        rw [dec_f fun g => hA g.2.1] at qq
        exact qq
    · rw [dec_f hG]
      refine iteT ?_
      have qq := q _ s1
      rw [dec_f fun g => hG g.1] at qq
      exact qq
end
end K5

namespace K5
open PySem PySem.Spec PyProof.Rows L2
section
variable {P : Program} {w : World} {K : PySem.W.Frag} {mg : Str → Option Value} {base : Heap} {CN CG : Addr}
abbrev s_law_plus : Stmt := top 50
theorem sc_law_plus : FnScope ["_law_one", "_law_two"] ["_law_one", "_law_two"] (C8.fnScope s_law_plus) := C8.fnScope_by (by decide +kernel)

def spPlus (K : PySem.W.Frag) : Sp := fun vs H Q _ => ∃ (v u : V) (f g : Int × Int), vs = [v, u] ∧ IsFr K H v f ∧ IsFr K H u g ∧ f.1.natAbs < 2 ^ 30000 ∧ f.2.natAbs < 2 ^ 30000 ∧ g.1.natAbs < 2 ^ 30000 ∧ g.2.natAbs < 2 ^ 30000 ∧
  ∀ p, H p = none → Q (.ref p) (upd H p (.tup [.int (Gw.fadd f g).1, .int (Gw.fadd f g).2]))
theorem ok_plus (F : DefAt K mg "_law_plus" s_law_plus ["_law_one", "_law_two"]) (T : Txt K mg CN CG) : C8.Cal P w K mg base 1 "_law_plus" (spPlus K) [] := by
  refine cal F sc_law_plus (fun vs H Q E h => ?_) (fun f cdv A outer s H vs Q E hr h => ?_)
  · obtain ⟨_, _, _, _, rfl, _⟩ := h; rfl
  · obtain ⟨v, u, f, g, rfl, ⟨a, rfl, ha⟩, ⟨b, rfl, hb⟩, b1, b2, b3, b4, q⟩ := h
    have nd := sc_law_plus.nd
    refine ⟨_, (pss_one (ps_ret (pe_tup (pa_cons (pe_op op_add (pe_op op_mulX (pe_ix (ixt K) (pv 0) pe_int (fun _ _ => rfl)) (pe_ix (ixt K) (pv 1) pe_int (fun _ _ => rfl))) (pe_op op_mulX (pe_ix (ixt K) (pv 1) pe_int (fun _ _ => rfl)) (pe_ix (ixt K) (pv 0) pe_int (fun _ _ => rfl)))) (pa_cons (pe_op op_mulX (pe_ix (ixt K) (pv 0) pe_int (fun _ _ => rfl)) (pe_ix (ixt K) (pv 1) pe_int (fun _ _ => rfl))) pa_nil))))), ?_⟩
    refine ⟨_, rfl, a, _, 0, _, rfl, rfl, ha, atI_nat (j := 0) rfl, _, rfl, b, _, 1, _, rfl, rfl, hb, atI_nat (j := 1) rfl, _, _, rfl, rfl, mulx_ok b1 b4 (by decide), ?_⟩
    refine ⟨_, rfl, b, _, 0, _, rfl, rfl, hb, atI_nat (j := 0) rfl, _, rfl, a, _, 1, _, rfl, rfl, ha, atI_nat (j := 1) rfl, _, _, rfl, rfl, mulx_ok b3 b2 (by decide), _, _, rfl, rfl, ?_⟩
    refine ⟨_, rfl, a, _, 1, _, rfl, rfl, ha, atI_nat (j := 1) rfl, _, rfl, b, _, 1, _, rfl, rfl, hb, atI_nat (j := 1) rfl, _, _, rfl, rfl, mulx_ok b2 b4 (by decide), ?_⟩
    exact ⟨by show 2 ≤ sizeLine; rw [szl]; decide, fun p hp => q p hp⟩
abbrev s_law_sum : Stmt := top 51
theorem sc_law_sum : FnScope ["_law_heights", "_law_found", "_law_height"] ["_law_heights"] (C8.fnScope s_law_sum) := C8.fnScope_by (by decide +kernel)

def spLawSum (K : PySem.W.Frag) : Sp := fun vs H Q _ => ∃ (v : V) (l : List (Int × Int)), vs = [v] ∧ IsL K H (IsFr K H) v l ∧ FrsOk l ∧
  ∀ H' p, Same H H' → H' p = some (.tup [.int (Gw.fsum l).1, .int (Gw.fsum l).2]) → Q (.ref p) H'
theorem pow_up {i : Int} {a b : Nat} (h : i.natAbs < 2 ^ a) (k : a ≤ b) : i.natAbs < 2 ^ b := Nat.lt_of_lt_of_le h (Nat.pow_le_pow_right (by decide) k)
theorem ok_lawSum (F : DefAt K mg "_law_sum" s_law_sum ["_law_heights"]) (T : Txt K mg CN CG) (c_law_plus : C8.Cal P w K mg base 1 "_law_plus" (spPlus K) []) : C8.Cal P w K mg base 2 "_law_sum" (spLawSum K) [] := by
  refine cal F sc_law_sum (fun vs H Q E h => ?_) (fun f cdv A outer s H vs Q E hr h => ?_)
  · obtain ⟨_, _, rfl, _⟩ := h; rfl
  · obtain ⟨v, l, rfl, ⟨a, xs, rfl, hs, hp⟩, ok, q⟩ := h
    have nd := sc_law_sum.nd
    refine ⟨_, (pss_cons (ps_set (i := 1) nd rfl (Or.inl rfl) (pe_tup (pa_cons pe_int (pa_cons pe_int pa_nil))))
      (pss_cons (ps_for PassesOwn.never rfl (pi_l K (pv 0)) (pg_name (i := 2) nd rfl (Or.inl rfl)) (pss_one (ps_set (i := 1) nd rfl (Or.inl rfl) (C8.pe_c c_law_plus hr (by decide) (by rfl) (pa_cons (pv 1) (pa_cons (pv 2) pa_nil))))))
      (pss_one (ps_ret (pv 1))))), ?_⟩
    refine ⟨by show 2 ≤ sizeLine; rw [szl]; decide, fun t0 ht0 => ?_⟩
    have s0 : Same H (upd H t0 (.tup [.int 0, .int 1])) := Same.new ht0
    refine ⟨_, rfl, a, rfl, ⟨_, SqL.mono s0 hs⟩, for_list (K := K) (a := a) (xs := xs) (fun i σ H' => Same H H' ∧ ∃ (p : Addr) (o2 : Option V), σ = [some (.ref a), some (.ref p), o2] ∧ H' p = some (.tup [.int (Gw.fsum (l.take i)).1, .int (Gw.fsum (l.take i)).2])) ?_ (fun i σ H' _ h => SqL.mono h.1 hs) ?_ ?_⟩
    · exact ⟨s0, t0, none, rfl, upd_same⟩
    · rintro i x σ H' hx ⟨s1, p, o2, rfl, hp'⟩
      obtain ⟨y, hy, hyv⟩ := Paired.at hp hx
      have oy := ok.ok y (List.mem_of_getElem? hy)
      have htk : l.take (i + 1) = l.take i ++ [y] := by rw [List.take_add_one, hy]; rfl
      have oks : ∀ x ∈ l.take i, Gw.FrOk x := fun x hx => ok.ok x (List.mem_of_mem_take hx)
      obtain ⟨b1, b2, b3, b4⟩ := fsum_small oks (by rw [List.length_take]; have := ok.len; omega)
      obtain ⟨y1, y2⟩ := frok_bd oy
      refine ⟨_, rfl, _, rfl, _, _, Gw.fsum (l.take i), y, rfl, ⟨p, rfl, SqT.of hp'⟩, hyv.mono s1, pow_up (pow_nat b1 b2) (by decide), pow_up (pow_nat (Int.le_of_lt b3) b4) (by decide), pow_up y1 (by decide), pow_up y2 (by decide), fun t ht => ?_⟩
      exact ⟨Same.put s1 (s1.free ht), t, _, rfl, by rw [upd_same, htk, Gw.fsum_snoc]⟩
    · rintro σ H' ⟨s1, p, o2, rfl, hp'⟩
      rw [hp.length, List.take_length] at hp'
      exact ⟨_, rfl, q H' p s1 hp'⟩
abbrev s_law_lowest : Stmt := top 52
theorem sc_law_lowest : FnScope ["_law_height", "_law_a", "_law_b", "_law_turn"] ["_law_height"] (C8.fnScope s_law_lowest) := C8.fnScope_by (by decide +kernel)

/-- Euclid's loop behind i turns -/
def Euc (a b : Int) (i : Nat) (x y : Int) : Prop := 0 ≤ x ∧ 0 ≤ y ∧ Int.gcd x y = Int.gcd a b ∧ ((i = 0 ∧ x = a ∧ y = b) ∨ (1 ≤ i ∧ (y = 0 ∨ (0 < y ∧ y < x ∧ x * y * 2 ^ (i - 1) < 2 ^ 400))))
theorem euc_step {a b : Int} (hb : 0 < b) (hb2 : b ≤ 2 ^ 200) {i : Nat} {x y : Int} (h : Euc a b i x y) : (0 < y → Euc a b (i + 1) y (x % y)) ∧ (¬ 0 < y → Euc a b (i + 1) x y) := by
  obtain ⟨x0, y0, g, c⟩ := h
  constructor
  · intro hy
    have m1 := Int.emod_lt_of_pos x hy
    have m0 := Int.emod_nonneg x (show y ≠ 0 by omega)
    refine ⟨y0, m0, by rw [gcd_step x0 hy]; exact g, .inr ⟨by omega, ?_⟩⟩
    by_cases z : x % y = 0
    · exact .inl z
    · refine .inr ⟨by omega, m1, ?_⟩
      rw [Nat.add_sub_cancel]
      rcases c with ⟨rfl, rfl, rfl⟩ | ⟨hi, c | ⟨_, c2, c3⟩⟩
      · rw [Int.pow_zero, Int.mul_one]
        have l1 : y * (x % y) ≤ y * (y - 1) := Int.mul_le_mul_of_nonneg_left (by omega) y0
        have l2 : y * (y - 1) < y * y := Int.mul_lt_mul_of_pos_left (by omega) hy
        have l3 : y * y ≤ 2 ^ 200 * 2 ^ 200 := Int.mul_le_mul hb2 hb2 y0 (Int.le_of_lt (Gw.pow_pos' 200))
        rw [← Int.pow_add] at l3
        have e : (200 + 200 : Nat) = 400 := rfl
        rw [e] at l3
        omega
      · omega
      · have h2 := Gw.euclid_half hy c2
        have e : (2 : Int) ^ i = 2 * 2 ^ (i - 1) := by
          rw [show i = (i - 1) + 1 by omega, Nat.add_sub_cancel, Int.pow_succ, Int.mul_comm]
        have p := Gw.pow_pos' (i - 1)
        have q := Int.mul_le_mul_of_nonneg_right h2 (Int.le_of_lt p)
        have e2 : y * (x % y) * 2 ^ i = 2 * (y * (x % y)) * 2 ^ (i - 1) := by rw [e]; grind
        rw [e2]
        exact Int.lt_of_le_of_lt q c3
  · intro hy
    have e : y = 0 := by omega
    exact ⟨x0, y0, g, .inr ⟨by omega, .inl e⟩⟩
theorem euc_end {a b : Int} (hb : 0 < b) {x y : Int} (h : Euc a b 400 x y) : x = (Int.gcd a b : Int) := by
  obtain ⟨x0, y0, g, c⟩ := h
  have z : y = 0 := by
    rcases c with ⟨c, _⟩ | ⟨_, c | ⟨c1, c2, c3⟩⟩
    · omega
    · exact c
    · exfalso
      have l : 2 * 1 ≤ x * y := Int.mul_le_mul (by omega) (by omega) (by decide) x0
      have p := Gw.pow_pos' 399
      have l2 := Int.mul_le_mul_of_nonneg_right l (Int.le_of_lt p)
      have e : (2 : Int) ^ 400 = 2 * 1 * 2 ^ 399 := by rw [show (400 : Nat) = 399 + 1 from rfl, Int.pow_succ]; omega
      rw [show (400 - 1 : Nat) = 399 from rfl] at c3
      omega
  subst z
  rw [← g, Int.gcd_zero_right]; omega
def spLawLowest (K : PySem.W.Frag) : Sp := fun vs H Q _ => ∃ (v : V) (f : Int × Int), vs = [v] ∧ IsFr K H v f ∧ 0 ≤ f.1 ∧ 0 < f.2 ∧ f.2 ≤ 2 ^ 200 ∧
  ∀ p, H p = none → Q (.ref p) (upd H p (.tup [.int (Gw.lowest f.1 f.2).1, .int (Gw.lowest f.1 f.2).2]))
theorem ok_lawLowest (F : DefAt K mg "_law_lowest" s_law_lowest ["_law_height"]) (T : Txt K mg CN CG) : C8.Cal P w K mg base 1 "_law_lowest" (spLawLowest K) [] := by
  refine cal F sc_law_lowest (fun vs H Q E h => ?_) (fun f cdv A outer s H vs Q E hr h => ?_)
  · obtain ⟨_, _, rfl, _⟩ := h; rfl
  · obtain ⟨v, f, rfl, ⟨a, rfl, ht⟩, h0, h1, h2, q⟩ := h
    have nd := sc_law_lowest.nd
    refine ⟨_, (pss_cons (ps_asg (pv 0) (pg_t K 2 rfl (pgs_cons (pg_name (i := 1) nd rfl (Or.inl rfl)) (pgs_cons (pg_name (i := 2) nd rfl (Or.inl rfl)) pgs_nil))))
      (pss_cons (ps_for PassesOwn.never rfl (pi_range1 (by rfl) T.range (pa_cons pe_int pa_nil)) (pg_name (i := 3) nd rfl (Or.inl rfl)) (pss_one (ps_if (pt_cmpR op_gt (pv 2) pe_int (nomark _)) (pss_one (ps_par (i := 1) (j := 2) (by rfl) nd rfl rfl (by decide) rfl rfl (pa_cons (pv 2) (pa_cons (pe_op op_mod (pe_callTy call_int1 (by rfl) T.int (by decide +kernel) (pa_cons (pv 1) pa_nil)) (pv 2)) pa_nil)) (by rfl))) pss_nil)))
      (pss_one (ps_ret (pe_tup (pa_cons (pe_op op_fdivW (pe_ix (ixt K) (pv 0) pe_int (fun _ _ => rfl)) (pe_callB (call_max2 rfl) (by rfl) T.max (by decide +kernel) (pa_cons pe_int (pa_cons (pv 1) pa_nil)))) (pa_cons (pe_op op_fdivW (pe_ix (ixt K) (pv 0) pe_int (fun _ _ => rfl)) (pe_callB (call_max2 rfl) (by rfl) T.max (by decide +kernel) (pa_cons pe_int (pa_cons (pv 1) pa_nil)))) pa_nil))))))), ?_⟩
    refine ⟨_, rfl, a, _, rfl, ht, rfl, _, _, rfl, _, _, rfl, rfl, ?_⟩
    refine ⟨400, rfl, by decide, by decide, ?_⟩
    refine for_rng (n := 400) (fun i σ H' => H = H' ∧ ∃ x y o3, σ = [some (.ref a), some (.int x), some (.int y), o3] ∧ Euc f.1 f.2 i x y) ?_ ?_ ?_
    · exact ⟨rfl, f.1, f.2, none, rfl, h0, Int.le_of_lt h1, rfl, .inl ⟨rfl, rfl, rfl⟩⟩
    · rintro i σ H' hi ⟨rfl, x, y, o3, rfl, eu⟩
      have st := euc_step h1 h2 eu
      refine ⟨_, rfl, _, _, rfl, rfl, _, rfl, ?_⟩
      by_cases hy : 0 < y
      · refine ifd hy ⟨_, rfl, _, rfl, .inl ⟨_, rfl, _, rfl, _, _, rfl, rfl, hy, _, _, rfl, ?_⟩⟩
        exact ⟨rfl, _, _, _, rfl, st.1 hy⟩
      · exact ifnd hy ⟨rfl, _, _, _, rfl, st.2 hy⟩
    · rintro σ H' ⟨rfl, x, y, o3, rfl, eu⟩
      have ex := euc_end h1 eu
      have g0 := Gw.gcd_pos (n := f.1) h1
      have em : (if x > 1 then x else 1) = (Int.gcd f.1 f.2 : Int) := by rw [← ex] at g0 ⊢; split <;> omega
      have gle : (Int.gcd f.1 f.2 : Int) ≤ f.2 := Int.le_of_dvd h1 (Int.gcd_dvd_right ..)
      have gb : ∀ z, CDivW z (Int.gcd f.1 f.2 : Int) := fun z => wide_div g0 (b := 201) (pow_nat2 (Int.le_of_lt g0) (Int.le_trans gle h2)) (by decide) (by decide)
      refine ⟨_, rfl, a, _, 0, _, rfl, rfl, ht, atI_nat (j := 0) rfl, _, rfl, 1, x, rfl, ?_⟩
      rw [em]
      refine ⟨_, _, rfl, rfl, gb _, _, rfl, a, _, 1, _, rfl, rfl, ht, atI_nat (j := 1) rfl, _, rfl, 1, x, rfl, ?_⟩
      rw [em]
      refine ⟨_, _, rfl, rfl, gb _, by show 2 ≤ sizeLine; rw [szl]; decide, fun p hp => q p hp⟩
abbrev s_law_is_height : Stmt := top 53
theorem sc_law_is_height : FnScope ["_law_height"] ["_law_height"] (C8.fnScope s_law_is_height) := C8.fnScope_by (by decide +kernel)

def spIsHeight (K : PySem.W.Frag) : Sp := fun vs H Q _ => ∃ (v : V) (f : Int × Int), vs = [v] ∧ IsFr K H v f ∧ Gw.FrOk f ∧ ∀ H', Same H H' → Q (.bl true) H'
theorem ok_isHeight (F : DefAt K mg "_law_is_height" s_law_is_height ["_law_height"]) (T : Txt K mg CN CG) (c_law_lowest : C8.Cal P w K mg base 1 "_law_lowest" (spLawLowest K) []) : C8.Cal P w K mg base 2 "_law_is_height" (spIsHeight K) [] := by
  refine cal F sc_law_is_height (fun vs H Q E h => ?_) (fun f cdv A outer s H vs Q E hr h => ?_)
  · obtain ⟨_, _, rfl, _⟩ := h; rfl
  · obtain ⟨v, f, rfl, hv, ok, q⟩ := h
    have nd := sc_law_is_height.nd
    refine ⟨_, (pss_one (ps_ret (pe_and (pe_cmpR op_gt (pe_ix (ixt K) (pv 0) pe_int (fun _ _ => rfl)) pe_int (nomark _)) (pe_and (pe_cmpR op_gt (pe_ix (ixt K) (pv 0) pe_int (fun _ _ => rfl)) pe_int (nomark _)) (pe_one (pe_cmpR (eqD K hr.units) (C8.pe_c c_law_lowest hr (by decide) (by rfl) (pa_cons (pv 0) pa_nil)) (pv 0) (nomark _))))))), ?_⟩
    obtain ⟨a, rfl, ht⟩ := id hv
    refine ⟨_, rfl, a, _, 0, _, rfl, rfl, ht, atI_nat (j := 0) rfl, _, _, rfl, rfl, _, rfl, ifd ok.n0 ?_⟩
    refine ⟨_, rfl, a, _, 1, _, rfl, rfl, ht, atI_nat (j := 1) rfl, _, _, rfl, rfl, _, rfl, ifd ok.d0 ?_⟩
    refine ⟨_, rfl, _, f, rfl, hv, Int.le_of_lt ok.n0, ok.d0, ok.d1, fun p hp => ?_⟩
    have s1 : Same H (upd H p (.tup [.int (Gw.lowest f.1 f.2).1, .int (Gw.lowest f.1 f.2).2])) := Same.new hp
    have el : Gw.lowest f.1 f.2 = f := by
      unfold Gw.lowest
      rw [ok.g]
      show (f.1 / 1, f.2 / 1) = f
      rw [Int.ediv_one, Int.ediv_one]
    refine ⟨_, rfl, encFr (Gw.lowest f.1 f.2), encFr f, (show IsFr K _ (.ref p) (Gw.lowest f.1 f.2) from ⟨p, rfl, SqT.of upd_same⟩).dp, (hv.mono s1).dp, sh_fr _, sh_fr _, ?_⟩
    rw [eqv_fr, decide_eq_true el]
    exact q _ s1
end
end K5

namespace K5
open PySem PySem.Spec PyProof.Rows L2
section
variable {P : Program} {w : World} {K : PySem.W.Frag} {mg : Str → Option Value} {base : Heap} {CN CG : Addr}
abbrev s_law_are_sets : Stmt := top 54
theorem sc_law_are_sets : FnScope ["_law_size", "_law_moats", "_law_group", "_law_height", "_law_k"] ["_law_size", "_law_moats"] (C8.fnScope s_law_are_sets) := C8.fnScope_by (by decide +kernel)

def spLawSets (K : PySem.W.Frag) : Sp := fun vs H Q _ => ∃ (u : V) (n : Nat) (M : List Mo), vs = [.int n, u] ∧ n ≤ 40 ∧ IsL K H (IsMo K H) u M ∧ MosOk n M ∧ ∀ H', Same H H' → Q (.bl true) H'
theorem ok_lawSets (F : DefAt K mg "_law_are_sets" s_law_are_sets ["_law_size", "_law_moats"]) (T : Txt K mg CN CG) (c_law_is_height : C8.Cal P w K mg base 2 "_law_is_height" (spIsHeight K) []) : C8.Cal P w K mg base 3 "_law_are_sets" (spLawSets K) [] := by
  refine cal F sc_law_are_sets (fun vs H Q E h => ?_) (fun f cdv A outer s H vs Q E hr h => ?_)
  · obtain ⟨_, _, _, rfl, _⟩ := h; rfl
  · obtain ⟨u, n, M, rfl, hn, ⟨a, xs, rfl, hs, hp⟩, ok, q⟩ := h
    have nd := sc_law_are_sets.nd
    refine ⟨_, (pss_cons (ps_for PassesOwn.never rfl (pi_l K (pv 1)) (pg_t K 2 rfl (pgs_cons (pg_name (i := 2) nd rfl (Or.inl rfl)) (pgs_cons (pg_name (i := 3) nd rfl (Or.inl rfl)) pgs_nil))) (pss_cons (ps_if (PW.pt (pw_or (pt_cmpR op_eq (pe_callB (lenS K) (by rfl) T.len (by decide +kernel) (pa_cons (pv 2) pa_nil)) pe_int (nomark _)) (pw_or1 (pt_not (pt_val (C8.pe_c c_law_is_height hr (by decide) (by rfl) (pa_cons (pv 3) pa_nil))))))) (pss_one (ps_ret pe_bl)) pss_nil)
      (pss_one (ps_for PassesOwn.never rfl (pi_range1 (by rfl) T.range (pa_cons (pe_callB (lenS K) (by rfl) T.len (by decide +kernel) (pa_cons (pv 2) pa_nil)) pa_nil)) (pg_name (i := 4) nd rfl (Or.inl rfl)) (pss_one (ps_if (PW.pt (pw_or (pt_not (pt_chain op_le op_lt pe_int (pe_ix (ixl K) (pv 2) (pv 4) (fun _ _ => rfl)) (pv 0))) (pw_or1 (PW.pt (pw_and (pt_cmpR op_gt (pv 4) pe_int (nomark _)) (pw_and1 (pt_cmpR op_le (pe_ix (ixl K) (pv 2) (pv 4) (fun _ _ => rfl)) (pe_ix (ixl K) (pv 2) (pe_op op_sub (pv 4) pe_int) (fun _ _ => rfl)) (nomark _)))))))) (pss_one (ps_ret pe_bl)) pss_nil))))))
      (pss_one (ps_ret pe_bl))), ?_⟩
    refine ⟨_, rfl, a, rfl, ⟨_, hs⟩, for_list (K := K) (a := a) (xs := xs) (fun i σ H' => Same H H' ∧ ∃ o1 o2 o3, σ = [some (.int n), some (.ref a), o1, o2, o3]) ⟨Same.refl _, _, _, _, rfl⟩ (fun i σ H' _ h => SqL.mono h.1 hs) ?_ ?_⟩
    · rintro i x σ H' hx ⟨s1, o1, o2, o3, rfl⟩
      obtain ⟨m, hm, hmv⟩ := Paired.at hp hx
      obtain ⟨t, g, h, rfl, ht, ⟨ga, rfl, hg⟩, hh⟩ := hmv.mono s1
      have mM := List.mem_of_getElem? hm
      obtain ⟨g1, g2, g3⟩ := ok.set m mM
      have gl := grp_len (ok.set m mM)
      have ll : (m.1.map V.int).length = m.1.length := List.length_map ..
      have l0 : 0 < m.1.length := List.length_pos_iff.mpr g1
      refine ⟨t, _, rfl, ht, rfl, _, _, rfl, _, _, rfl, rfl, ?_⟩
      refine ⟨_, rfl, ga, _, rfl, .inl hg, rfl, _, rfl, ifnd (fun z => by have := V.int.inj z; rw [ll] at this; omega) ?_⟩
      refine ⟨_, rfl, h, m.2, rfl, hh, ok.fr m mM, fun H2 s2 => ⟨_, rfl, iteF ?_⟩⟩
      have hg2 := SqL.mono s2 hg
      refine ⟨_, rfl, ga, _, rfl, .inl hg2, _, rfl, by rw [ll]; omega, by rw [ll]; omega, ?_⟩
      rw [ll]
      refine for_rng (fun j σ H' => H2 = H' ∧ ∃ o3, σ = [some (.int n), some (.ref a), some (.ref ga), some h, o3]) ⟨rfl, _, rfl⟩ ?_ ?_
      · rintro j σ H' hj ⟨rfl, o3, rfl⟩
        have e1 : atI (m.1.map V.int) (j : Int) = some (V.int (m.1.getD j 0)) := atI_lt (by omega) (by omega)
        have b := g3 _ (show m.1.getD j 0 ∈ m.1 by rw [Gw.getD_lt hj]; exact List.getElem_mem hj)
        refine ⟨_, rfl, _, rfl, ga, _, _, _, rfl, rfl, hg2, e1, _, _, rfl, rfl, _, rfl, ifd b.1 ?_⟩
        refine ⟨_, rfl, _, _, rfl, rfl, _, rfl, ifnt b.2 ⟨_, rfl, _, _, rfl, rfl, _, rfl, ?_⟩⟩
        by_cases hi0 : (0 : Int) < (j : Int)
        · refine ifd hi0 ⟨_, rfl, _, rfl, ga, _, _, _, rfl, rfl, hg2, e1, _, rfl, _, rfl, _, _, rfl, rfl, ga, _, _, _, rfl, rfl, hg2, atI_lt (by omega) (by omega), _, _, rfl, rfl, _, rfl, ?_⟩
          have ei : ((j : Int) - 1).toNat = j - 1 := by omega
          rw [ei]
          have asc := (AscP.of (m := n) g2 g3 j hj).2 (by omega)
          exact ifnd (by omega) ⟨rfl, _, rfl⟩
        · exact ifnd hi0 ⟨rfl, _, rfl⟩
      · rintro σ H' ⟨rfl, o3, rfl⟩
        exact ⟨s1.trans s2, _, _, _, rfl⟩
    · rintro σ H' ⟨s1, o1, o2, o3, rfl⟩
      exact q _ s1
abbrev s_law_are_paid : Stmt := top 55
theorem sc_law_are_paid : FnScope ["_law_edges_here", "_law_moats", "_law_u", "_law_v", "_law_price", "_law_paid", "_law_group", "_law_height"] ["_law_edges_here", "_law_moats"] (C8.fnScope s_law_are_paid) := C8.fnScope_by (by decide +kernel)

def spLawPaid (K : PySem.W.Frag) : Sp := fun vs H Q _ => ∃ (v u : V) (n : Nat) (es : List Ed) (M : List Mo), vs = [v, u] ∧ IsL K H (IsEd K H) v es ∧ (∀ e ∈ es, EdOk n e) ∧ IsL K H (IsMo K H) u M ∧ MosOk n M ∧ ∀ H', Same H H' → Q (.bl (dec (PaidP es M))) H'
theorem law_le {M : List Mo} {n : Nat} (t : Mo → Bool) (p : Int) : decide (p * (Gw.fsum ((M.filter t).map (·.2))).2 < (Gw.fsum ((M.filter t).map (·.2))).1) = !dec (LeSum M t p) := by
  by_cases h : LeSum M t p
  · rw [dec_t h, decide_eq_false (Int.not_lt.mpr h)]; rfl
  · rw [dec_f h, decide_eq_true (Int.not_le.mp h)]; rfl
theorem ok_lawPaid (F : DefAt K mg "_law_are_paid" s_law_are_paid ["_law_edges_here", "_law_moats"]) (T : Txt K mg CN CG) (c_law_sum : C8.Cal P w K mg base 2 "_law_sum" (spLawSum K) []) : C8.Cal P w K mg base 3 "_law_are_paid" (spLawPaid K) [] := by
  refine cal F sc_law_are_paid (fun vs H Q E h => ?_) (fun f cdv A outer s H vs Q E hr h => ?_)
  · obtain ⟨_, _, _, _, _, rfl, _⟩ := h; rfl
  · obtain ⟨v, u, n, es, M, rfl, ⟨te, exs, rfl, hte, hpe⟩, eok, ⟨a, xs, rfl, hs, hp⟩, ok, q⟩ := h
    have nd := sc_law_are_paid.nd
    refine ⟨_, (pss_cons (ps_for PassesOwn.never rfl (pi_l K (pv 0)) (pg_t K 3 rfl (pgs_cons (pg_name (i := 2) nd rfl (Or.inr rfl)) (pgs_cons (pg_name (i := 3) nd rfl (Or.inr rfl)) (pgs_cons (pg_name (i := 4) nd rfl (Or.inl rfl)) pgs_nil)))) (pss_cons (ps_set (i := 5) nd rfl (Or.inl rfl) (C8.pe_c c_law_sum hr (by decide) (by rfl) (pa_cons (pe_lc (own := [("_law_group", 6), ("_law_height", 7)]) rfl nd (pi_l K (pv 1)) (blkOk_by (by kernel_rfl)) (fun _ _ _ _ _ => (pg_t K 2 rfl (pgs_cons (pg_name (i := 6) nd rfl (Or.inl rfl)) (pgs_cons (pg_name (i := 7) nd rfl (Or.inl rfl)) pgs_nil)))) (fun _ _ _ _ _ => (pts_one (pt_cmpR op_ne (pe_cmpR (inS K) (pv 2) (pv 6) (by rfl)) (pe_cmpR (inS K) (pv 3) (pv 6) (by rfl)) (nomark _)))) (fun _ _ _ _ _ => (pv 7))) pa_nil)))
      (pss_one (ps_if (pt_cmpR op_gt (pe_ix (ixt K) (pv 5) pe_int (fun _ _ => rfl)) (pe_op op_mulX (pv 4) (pe_ix (ixt K) (pv 5) pe_int (fun _ _ => rfl))) (nomark _)) (pss_one (ps_ret pe_bl)) pss_nil))))
      (pss_one (ps_ret pe_bl))), ?_⟩
    obtain ⟨L, rfl, rfl, hL⟩ := mos_rec hp
    have lz : L.length ≤ 40 := by have := ok.len; rw [List.length_map] at this; exact this
    refine ⟨_, rfl, te, rfl, ⟨_, hte⟩, for_list (K := K) (a := te) (xs := exs) (fun i σ H' => Same H H' ∧ (∃ o2 o3 o4 o5 o6 o7, σ = [some (.ref te), some (.ref a), o2, o3, o4, o5, o6, o7]) ∧ ∀ e ∈ es.take i, LeSum (L.map (·.m)) (fun m => cutB e.1 e.2.1 m.1) e.2.2) ?_ (fun i σ H' _ h => SqL.mono h.1 hte) ?_ ?_⟩
    · exact ⟨Same.refl _, ⟨_, _, _, _, _, _, rfl⟩, fun e he => by simp at he⟩
    · rintro i x σ H' hx ⟨s12, ⟨o2, o3, o4, o5, o6, o7, rfl⟩, ih⟩
      obtain ⟨e, he, t, rfl, ht⟩ := Paired.at (hpe.mono fun _ _ => IsEd.mono s12) hx
      have heM := List.mem_of_getElem? he
      have htk : es.take (i + 1) = es.take i ++ [e] := by rw [List.take_add_one, he]; rfl
      have ek := eok e heM
      refine ⟨t, _, rfl, ht, rfl, _, _, rfl, _, _, rfl, _, _, rfl, rfl, ?_⟩
      refine ⟨_, rfl, a, rfl, ⟨_, SqL.mono s12 hs⟩, fun D hD => ?_⟩
      refine lc_read L (fun r => V.ref r.a) (fun r => r.h) (fun r => cutB e.1 e.2.1 r.m.1) hD (SqL.mono s12 hs) (by rw [szl]; omega) (fun y hy H3 s3 Qt Qf hqt hqf => ?_) (fun H3 s3 hD3 => ?_)
      · have s13 := s12.trans s3
        obtain ⟨y1, ⟨ga, yg, y2⟩, y3⟩ := (hL y hy).mono s13
        refine ⟨y.a, _, rfl, y1, rfl, _, _, rfl, _, _, rfl, rfl, rfl, ?_⟩
        refine ⟨_, rfl, _, rfl, ga, _, yg, .inl y2, rfl, flat_ints _, _, rfl, _, rfl, ga, _, yg, .inl y2, rfl, flat_ints _, rfl, _, rfl, ?_⟩
        rw [ne_bl]
        simp only [inV_ints, if_neg Bool.false_ne_true]
        show (if cutB e.1 e.2.1 y.m.1 = true then _ else _)
        cases ec : cutB e.1 e.2.1 y.m.1 with
        | true => exact iteT ⟨_, rfl, hqt ec _ (Same.refl _)⟩
        | false => exact iteF (hqf ec _ (Same.refl _))
      · have s13 := s12.trans s3
        obtain ⟨b1, b2, b3, b4⟩ := fsum_small (ok.frs fun m => cutB e.1 e.2.1 m.1).ok (by have := (ok.frs fun m => cutB e.1 e.2.1 m.1).len; omega)
        refine ⟨_, _, rfl, ⟨D, _, rfl, SqL.of hD3, mos_frs (fun r hr => (hL r hr).mono s13) (fun m => cutB e.1 e.2.1 m.1)⟩, ok.frs _, fun H4 pf s4 hpf => ?_⟩
        refine ⟨_, rfl, pf, _, 0, _, rfl, rfl, SqT.of hpf, atI_nat (j := 0) rfl, _, rfl, _, rfl, pf, _, 1, _, rfl, rfl, SqT.of hpf, atI_nat (j := 1) rfl, _, _, rfl, rfl, mulx_ok (pow_nat ek.2.2.2.1 (k := 60) (by have := ek.2.2.2.2; omega)) (pow_nat (Int.le_of_lt b3) b4) (by decide), _, _, rfl, rfl, _, rfl, ?_⟩
        rw [law_le (n := n)]
        by_cases hle : LeSum (L.map (·.m)) (fun m => cutB e.1 e.2.1 m.1) e.2.2
        · rw [dec_t hle]
          refine iteF ⟨s13.trans s4, ⟨_, _, _, _, _, _, rfl⟩, fun e' he' => ?_⟩
          rw [htk] at he'
          rcases List.mem_append.mp he' with z | z
          · exact ih e' z
          · rw [List.mem_singleton] at z; subst z; exact hle
        · rw [dec_f hle]
          refine iteT ?_
          have qq := q _ (s13.trans s4)
          rw [dec_f fun z => hle (z e heM)] at qq
          exact qq
    · rintro σ H' ⟨s2, ⟨o2, o3, o4, o5, o6, o7, rfl⟩, ih⟩
      have qq := q _ s2
      rw [hpe.length, List.take_length] at ih
      rw [dec_t (show PaidP es (L.map (·.m)) from ih)] at qq
      exact qq
abbrev s_law_reach : Stmt := top 49
theorem sc_law_reach : FnScope ["_law_edges_here", "_law_chosen", "_law_start", "_law_arcs", "_law_found", "_law_turn", "_law_k", "_law_u", "_law_v", "_law_price"] ["_law_edges_here", "_law_chosen", "_law_start", "_law_arcs"] (C8.fnScope s_law_reach) := C8.fnScope_by (by decide +kernel)

/-- what stands of the law's list of reached vertices: no more than one beside the edges used -/
def used (N : Gw.Net) (C F : List Int) : Nat := C.countP fun k => decide ((N.ed k).1 ∈ F) && decide ((N.ed k).2.1 ∈ F)
theorem used_le (N : Gw.Net) (C F : List Int) : used N C F ≤ C.length := List.countP_le_length
theorem used_mono {N : Gw.Net} {C F G : List Int} (h : ∀ v ∈ F, v ∈ G) : used N C F ≤ used N C G := by
  refine List.countP_mono_left fun k _ q => ?_
  simp only [Bool.and_eq_true, decide_eq_true_eq] at q ⊢
  exact ⟨h _ q.1, h _ q.2⟩
theorem used_add {N : Gw.Net} : ∀ {C F G : List Int}, (∀ v ∈ F, v ∈ G) → ∀ {k : Int}, k ∈ C → ¬ ((N.ed k).1 ∈ F ∧ (N.ed k).2.1 ∈ F) → (N.ed k).1 ∈ G → (N.ed k).2.1 ∈ G → used N C F + 1 ≤ used N C G
  | [], _, _, _, _, hk, _, _, _ => by cases hk
  | c :: C, F, G, h, k, hk, n, g1, g2 => by
    have m := used_mono (N := N) (C := C) h
    unfold used at *
    rw [List.countP_cons, List.countP_cons]
    by_cases e : c = k
    · subst e
      rw [if_neg (by simpa using n), if_pos (by simp [g1, g2])]
      omega
    · have hk' : k ∈ C := (List.mem_cons.mp hk).resolve_left fun z => e z.symm
      have ih := used_add h hk' n g1 g2
      unfold used at ih
      have : (if (decide ((N.ed c).1 ∈ F) && decide ((N.ed c).2.1 ∈ F)) = true then 1 else 0) ≤ (if (decide ((N.ed c).1 ∈ G) && decide ((N.ed c).2.1 ∈ G)) = true then 1 else 0) := by
        by_cases q : (decide ((N.ed c).1 ∈ F) && decide ((N.ed c).2.1 ∈ F)) = true
        · have q2 := q
          simp only [Bool.and_eq_true, decide_eq_true_eq] at q2
          rw [if_pos q, if_pos (by simp [h _ q2.1, h _ q2.2])]; exact Nat.le_refl _
        · rw [if_neg q]; exact Nat.zero_le _
      omega
/-- closed under the edges of C -/
def Clo (N : Gw.Net) (C F : List Int) : Prop := ∀ k ∈ C, ((N.ed k).1 ∈ F ↔ (N.ed k).2.1 ∈ F)
def spLawReach (K : PySem.W.Frag) : Sp := fun vs H Q _ => ∃ (v u : V) (N : Gw.Net) (C : List Int), vs = [v, u, .int N.root, .bl false] ∧ IsL K H (IsEd K H) v N.es ∧ N.Ok ∧ IsIs K H u C ∧ (∀ k ∈ C, N.isE k) ∧ C.length ≤ 1000 ∧
  ∀ (H' : Hp) (p : Addr) (F : List Int), Same H H' → H p = none → H' p = some (.lst (F.map V.int)) → F.length ≤ 40 → Gw.Reach N C (· ∈ F) → Q (.ref p) H'
theorem ok_lawReach (F : DefAt K mg "_law_reach" s_law_reach ["_law_edges_here", "_law_chosen", "_law_start", "_law_arcs"]) (T : Txt K mg CN CG) : C8.Cal P w K mg base 1 "_law_reach" (spLawReach K) [] := by
  refine cal F sc_law_reach (fun vs H Q E h => ?_) (fun f cdv A outer s H vs Q E hr h => ?_)
  · obtain ⟨_, _, _, _, rfl, _⟩ := h; rfl
  · obtain ⟨v, u, N, C, rfl, ⟨le, xs, rfl, hle, hpe⟩, o, ⟨a, rfl, hs⟩, hE, hC, q⟩ := h
    have nd := sc_law_reach.nd
    refine ⟨_, (pss_cons (ps_set (i := 4) nd rfl (Or.inl rfl) (pe_lst (pa_cons (pv 2) pa_nil)))
      (pss_cons (ps_for PassesOwn.never rfl (pi_range1 (by rfl) T.range (pa_cons (pe_op op_add (pe_callB (lenS K) (by rfl) T.len (by decide +kernel) (pa_cons (pv 1) pa_nil)) pe_int) pa_nil)) (pg_name (i := 5) nd rfl (Or.inl rfl)) (pss_one (ps_for PassesOwn.never rfl (pi_l K (pv 1)) (pg_name (i := 6) nd rfl (Or.inl rfl)) (pss_cons (ps_asg (pe_ix (ixl K) (pv 0) (pv 6) (fun _ _ => rfl)) (pg_t K 3 rfl (pgs_cons (pg_name (i := 7) nd rfl (Or.inl rfl)) (pgs_cons (pg_name (i := 8) nd rfl (Or.inl rfl)) (pgs_cons (pg_name (i := 9) nd rfl (Or.inl rfl)) pgs_nil)))))
      (C8.pss_cut (ps_if (PW.pt (pw_and (pt_cmpR (inS K) (pv 7) (pv 4) (by rfl)) (pw_and1 (pt_cmpR (ninS K) (pv 8) (pv 4) (by rfl))))) (pss_one (ps_expr (pe_bm PySem.F.plainAttrs_list PySem.F.slot_list_append PySem.F.type_list_append mt_append (pv 4) (pa_cons (pv 8) pa_nil)))) pss_nil)
      (pss_one (ps_if (PW.pt (pw_and (pt_not (pt_val (pv 3))) (pw_and (pt_cmpR (inS K) (pv 8) (pv 4) (by rfl)) (pw_and1 (pt_cmpR (ninS K) (pv 7) (pv 4) (by rfl)))))) (pss_one (ps_expr (pe_bm PySem.F.plainAttrs_list PySem.F.slot_list_append PySem.F.type_list_append mt_append (pv 4) (pa_cons (pv 7) pa_nil)))) pss_nil)))))))
      (pss_one (ps_ret (pv 4))))), ?_⟩
    refine ⟨_, rfl, by show 1 ≤ sizeLine; rw [szl]; decide, fun lf hlf => ?_⟩
    have s0 : Same H (upd H lf (.lst [.int N.root])) := Same.new hlf
    have n40 := o.n9
    have ll : (C.map V.int).length = C.length := List.length_map ..
    have f0 : FoundOk N C [N.root] := by
      refine ⟨List.nodup_cons.mpr ⟨List.not_mem_nil, List.nodup_nil⟩, fun v hv => ?_, List.mem_singleton.mpr rfl, fun X x0 _ v hv => ?_⟩
      · rw [List.mem_singleton] at hv; rw [hv]; exact o.root
      · rw [List.mem_singleton] at hv; rw [hv]; exact x0
    refine ⟨_, rfl, a, _, rfl, .inl (SqL.mono s0 hs), _, _, rfl, rfl, _, rfl, by rw [ll]; omega, by rw [ll]; omega, ?_⟩
    rw [ll]
    refine for_rng (n := C.length + 1) (fun i σ H' => Same H H' ∧ ∃ (F : List Int) (o5 o6 o7 o8 o9 : Option V), σ = [some (.ref le), some (.ref a), some (.int N.root), some (.bl false), some (.ref lf), o5, o6, o7, o8, o9] ∧ H' lf = some (.lst (F.map V.int)) ∧ FoundOk N C F ∧
      F.length ≤ 1 + used N C F ∧ (Clo N C F ∨ i + 1 ≤ F.length)) ?_ ?_ ?_
    · exact ⟨s0, [N.root], _, _, _, _, _, rfl, upd_same, f0, by simp, .inr (by simp)⟩
    · rintro i σ H' hi ⟨s1, F, o5, o6, o7, o8, o9, rfl, hF, fo, fu, fc⟩
      refine ⟨_, rfl, a, rfl, ⟨_, SqL.mono s1 hs⟩, ?_⟩
      refine for_list (K := K) (a := a) (xs := C.map V.int) (fun j σ H' => Same H H' ∧ ∃ (G : List Int) (o6 o7 o8 o9 : Option V), σ = [some (.ref le), some (.ref a), some (.int N.root), some (.bl false), some (.ref lf), some (.int i), o6, o7, o8, o9] ∧ H' lf = some (.lst (G.map V.int)) ∧ FoundOk N C G ∧
        G.length ≤ 1 + used N C G ∧ (∀ v ∈ F, v ∈ G) ∧ F.length ≤ G.length ∧ (G.length = F.length → G = F ∧ ∀ k ∈ C.take j, ((N.ed k).1 ∈ F ↔ (N.ed k).2.1 ∈ F))) ?_ (fun i σ H' _ h => SqL.mono h.1 hs) ?_ ?_
      · exact ⟨s1, F, _, _, _, _, rfl, hF, fo, fu, fun _ h => h, Nat.le_refl _, fun _ => ⟨rfl, fun k hk => by simp at hk⟩⟩
      · rintro j x σ H' hx ⟨s3, G, o6, o7, o8, o9, rfl, hG, go, gu, gF, gl, gc⟩
        rw [List.getElem?_map] at hx
        obtain ⟨k, hk, rfl⟩ := Option.map_eq_some_iff.mp hx
        have kC : k ∈ C := List.mem_of_getElem? hk
        obtain ⟨t, e1, ht⟩ := es_at (hpe.mono fun _ _ => IsEd.mono s3) (hE k kC)
        have htk : C.take (j + 1) = C.take j ++ [k] := by rw [List.take_add_one, hk]; rfl
        have g40 : G.length ≤ 40 := Nat.le_trans (nodup_len go.nd go.rng) n40
        refine ⟨_, rfl, _, rfl, le, _, _, _, rfl, rfl, SqL.mono s3 hle, e1, t, _, rfl, ht, rfl, _, _, rfl, _, _, rfl, _, _, rfl, rfl, ?_⟩
        -- the first test
        refine ⟨fun σ' H' => Same H H' ∧ ∃ G1 : List Int, σ' = [some (.ref le), some (.ref a), some (.int N.root), some (.bl false), some (.ref lf), some (.int i), some (.int k), some (.int (N.ed k).1), some (.int (N.ed k).2.1), some (.int (N.ed k).2.2)] ∧ H' lf = some (.lst (G1.map V.int)) ∧ FoundOk N C G1 ∧
          G1.length ≤ 1 + used N C G1 ∧ (∀ v ∈ F, v ∈ G1) ∧ F.length ≤ G1.length ∧ (G1.length = F.length → G1 = F ∧ (∀ k ∈ C.take j, ((N.ed k).1 ∈ F ↔ (N.ed k).2.1 ∈ F)) ∧ ((N.ed k).1 ∈ F → (N.ed k).2.1 ∈ F)) ∧ G1.length ≤ 41, ?_, ?_⟩
        · refine ⟨_, rfl, _, rfl, lf, _, rfl, .inl (SqL.of hG), rfl, flat_ints _, _, rfl, ?_⟩
          rw [if_neg Bool.false_ne_true, inV_ints]
          by_cases hu : (N.ed k).1 ∈ G
          · refine ifd hu ⟨_, rfl, _, rfl, lf, _, rfl, .inl (SqL.of hG), rfl, flat_ints _, _, rfl, ?_⟩
            rw [if_pos rfl, inV_ints]
            by_cases hv : (N.ed k).2.1 ∈ G
            · exact ifnt hv ⟨s3, G, rfl, hG, go, gu, gF, gl, fun e => ⟨(gc e).1, (gc e).2, fun _ => (gc e).1 ▸ hv⟩, by omega⟩
            · refine ifnf hv ⟨_, rfl, .inl ⟨rfl, _, SqL.of hG⟩, _, rfl, lf, _, _, rfl, rfl, hG, by rw [List.length_map, szl]; omega, ?_⟩
              have la : (G ++ [(N.ed k).2.1]).length = G.length + 1 := by rw [List.length_append]; rfl
              refine ⟨Same.put s3 hlf, G ++ [(N.ed k).2.1], rfl, by rw [upd_same, List.map_append]; rfl, go.add o kC (hE k kC) (.inl ⟨rfl, rfl⟩) hu hv, ?_, fun v hv' => List.mem_append_left _ (gF v hv'), by omega, fun e => by omega, by omega⟩
              have := used_add (N := N) (C := C) (F := G) (G := G ++ [(N.ed k).2.1]) (fun v hv => List.mem_append_left _ hv) kC (fun z => hv z.2) (List.mem_append_left _ hu) (List.mem_append_right _ (List.mem_singleton.mpr rfl))
              omega
          · exact ifnd hu ⟨s3, G, rfl, hG, go, gu, gF, gl, fun e => ⟨(gc e).1, (gc e).2, fun z => absurd ((gc e).1 ▸ z) hu⟩, by omega⟩
        · rintro σ' H2 ⟨s4, G1, rfl, hG1, go1, gu1, gF1, gl1, gc1, g41⟩
          refine ⟨_, rfl, _, rfl, iteT ⟨_, rfl, _, rfl, lf, _, rfl, .inl (SqL.of hG1), rfl, flat_ints _, _, rfl, ?_⟩⟩
          rw [if_neg Bool.false_ne_true, inV_ints]
          have fin : ∀ k' ∈ C.take (j + 1), (∀ k ∈ C.take j, ((N.ed k).1 ∈ F ↔ (N.ed k).2.1 ∈ F)) → ((N.ed k).1 ∈ F ↔ (N.ed k).2.1 ∈ F) → ((N.ed k').1 ∈ F ↔ (N.ed k').2.1 ∈ F) := fun k' hk' h1 h2 => by
            rw [htk] at hk'
            rcases List.mem_append.mp hk' with z | z
            · exact h1 k' z
            · rw [List.mem_singleton] at z; subst z; exact h2
          by_cases hv : (N.ed k).2.1 ∈ G1
          · refine ifd hv ⟨_, rfl, _, rfl, lf, _, rfl, .inl (SqL.of hG1), rfl, flat_ints _, _, rfl, ?_⟩
            rw [if_pos rfl, inV_ints]
            by_cases hu : (N.ed k).1 ∈ G1
            · refine ifnt hu ⟨s4, G1, _, _, _, _, rfl, hG1, go1, gu1, gF1, gl1, fun e => ⟨(gc1 e).1, fun k' hk' => fin k' hk' (gc1 e).2.1 ⟨(gc1 e).2.2, fun _ => ?_⟩⟩⟩
              have := (gc1 e).1
              subst this; exact hu
            · refine ifnf hu ⟨_, rfl, .inl ⟨rfl, _, SqL.of hG1⟩, _, rfl, lf, _, _, rfl, rfl, hG1, by rw [List.length_map, szl]; omega, ?_⟩
              have la : (G1 ++ [(N.ed k).1]).length = G1.length + 1 := by rw [List.length_append]; rfl
              refine ⟨Same.put s4 hlf, G1 ++ [(N.ed k).1], _, _, _, _, rfl, by rw [upd_same, List.map_append]; rfl, go1.add o kC (hE k kC) (.inr ⟨rfl, rfl⟩) hv hu, ?_, fun v hv' => List.mem_append_left _ (gF1 v hv'), by omega, fun e => by omega⟩
              have := used_add (N := N) (C := C) (F := G1) (G := G1 ++ [(N.ed k).1]) (fun v hv => List.mem_append_left _ hv) kC (fun z => hu z.1) (List.mem_append_right _ (List.mem_singleton.mpr rfl)) (List.mem_append_left _ hv)
              omega
          · refine ifnd hv ⟨s4, G1, _, _, _, _, rfl, hG1, go1, gu1, gF1, gl1, fun e => ⟨(gc1 e).1, fun k' hk' => fin k' hk' (gc1 e).2.1 ⟨(gc1 e).2.2, fun z => ?_⟩⟩⟩
            have := (gc1 e).1
            subst this; exact absurd z hv
      · rintro σ H' ⟨s3, G, o6, o7, o8, o9, rfl, hG, go, gu, gF, gl, gc⟩
        rw [List.length_map, List.take_length] at gc
        refine ⟨s3, G, _, _, _, _, _, rfl, hG, go, gu, ?_⟩
        by_cases e : G.length = F.length
        · obtain ⟨e1, e2⟩ := gc e
          subst e1; exact .inl e2
        · rcases fc with c | c
          · -- F was closed: nothing could come
            refine .inl ?_
            have sub : ∀ v ∈ G, v ∈ F := fun v hv => go.least (· ∈ F) fo.root (fun k hk => c k hk) v hv
            have := Gw.len_le (b := F) go.nd sub
            omega
          · exact .inr (by omega)
    · rintro σ H' ⟨s1, F, o5, o6, o7, o8, o9, rfl, hF, fo, fu, fc⟩
      refine ⟨_, rfl, q H' lf F s1 hlf hF (Nat.le_trans (nodup_len fo.nd fo.rng) n40) ⟨fo.root, ?_, fo.least⟩⟩
      rcases fc with c | c
      · exact c
      · have := used_le N C F
        omega
end
end K5

namespace K5
open PySem PySem.Spec PyProof.Rows L2
theorem common_eq_right {a b : List Int} : b.filter (fun v => decide (v ∈ a)) = b ↔ ∀ v ∈ b, v ∈ a := by
  rw [List.filter_eq_self]
  exact ⟨fun h v hv => of_decide_eq_true (h v hv), fun h v hv => decide_eq_true (h v hv)⟩
theorem common_eq_left {a b : List Int} (ha : a.Pairwise (· < ·)) (hb : b.Pairwise (· < ·)) : b.filter (fun v => decide (v ∈ a)) = a ↔ ∀ v ∈ a, v ∈ b := by
  constructor
  · intro h v hv
    rw [← h] at hv
    exact (List.mem_filter.mp hv).1
  · intro h
    refine Gw.asc_ext (hb.sublist List.filter_sublist) ha fun v => ?_
    rw [List.mem_filter]
    exact ⟨fun q => of_decide_eq_true q.2, fun q => ⟨h v q, decide_eq_true q⟩⟩
theorem out_none {a b : List Int} : decide (V.int (((a.filter fun v => !decide (v ∈ b)).length : Nat) : Int) = V.int 0) = dec (∀ v ∈ a, v ∈ b) := by
  rw [dec_int0]
  refine dec_iff ?_
  rw [List.length_eq_zero_iff, List.filter_eq_nil_iff]
  exact ⟨fun h v hv => by have := h v hv; simpa using this, fun h v hv => by have := h v hv; simpa using this⟩
section
variable {P : Program} {w : World} {K : PySem.W.Frag} {mg : Str → Option Value} {base : Heap} {CN CG : Addr}
abbrev s_law_good : Stmt := top 56
theorem sc_law_good : FnScope ["_law_size", "_law_edges_here", "_law_root", "_law_prizes_here", "_law_moats", "_law_groups", "_law_group", "_law_height", "_law_k", "_law_other", "_law_common", "_law_vertex", "_law_inner", "_law_part", "_law_low"] ["_law_size", "_law_edges_here", "_law_root", "_law_prizes_here", "_law_moats"] (C8.fnScope s_law_good) := C8.fnScope_by (by decide +kernel)

def spLawGood (K : PySem.W.Frag) : Sp := fun vs H Q _ => ∃ (v u x : V) (N : Gw.Net) (M : List Mo), vs = [.int N.n, v, .int N.root, u, x] ∧ IsL K H (IsEd K H) v N.es ∧ N.Ok ∧ IsIs K H u N.pz ∧ IsL K H (IsMo K H) x M ∧ MosOk N.n M ∧ ∀ H', Same H H' → Q (.bl (dec (GoodP N M))) H'
theorem ok_lawGood (F : DefAt K mg "_law_good" s_law_good ["_law_size", "_law_edges_here", "_law_root", "_law_prizes_here", "_law_moats"]) (T : Txt K mg CN CG) (c_law_are_sets : C8.Cal P w K mg base 3 "_law_are_sets" (spLawSets K) []) (c_law_are_paid : C8.Cal P w K mg base 3 "_law_are_paid" (spLawPaid K) []) (c_law_sum : C8.Cal P w K mg base 2 "_law_sum" (spLawSum K) []) : C8.Cal P w K mg base 4 "_law_good" (spLawGood K) [] := by
  refine cal F sc_law_good (fun vs H Q E h => ?_) (fun f cdv A outer s H vs Q E hr h => ?_)
  · obtain ⟨_, _, _, _, _, rfl, _⟩ := h; rfl
  · obtain ⟨v, u, x, N, M, rfl, he, o, hu, hx, ok, q⟩ := h
    have nd := sc_law_good.nd
    refine ⟨_, (pss_cons (ps_if (PW.pt (pw_or (pt_not (pt_val (C8.pe_c c_law_are_sets hr (by decide) (by rfl) (pa_cons (pv 0) (pa_cons (pv 4) pa_nil))))) (pw_or1 (pt_not (pt_val (C8.pe_c c_law_are_paid hr (by decide) (by rfl) (pa_cons (pv 1) (pa_cons (pv 4) pa_nil)))))))) (pss_one (ps_ret pe_bl)) pss_nil)
      (pss_cons (ps_set (i := 5) nd rfl (Or.inr rfl) (pe_lc (own := [("_law_group", 6), ("_law_height", 7)]) rfl nd (pi_l K (pv 4)) (blkOk_by (by kernel_rfl)) (fun _ _ _ _ _ => (pg_t K 2 rfl (pgs_cons (pg_name (i := 6) nd rfl (Or.inl rfl)) (pgs_cons (pg_name (i := 7) nd rfl (Or.inl rfl)) pgs_nil)))) (fun _ _ _ _ _ => pts_nil) (fun _ _ _ _ _ => (pv 6))))
      (pss_cons (ps_for PassesOwn.never rfl (pi_range1 (by rfl) T.range (pa_cons (pe_callB (lenS K) (by rfl) T.len (by decide +kernel) (pa_cons (pv 5) pa_nil)) pa_nil)) (pg_name (i := 8) nd rfl (Or.inr rfl)) (pss_one (ps_for PassesOwn.never rfl (pi_l K (pe_slice (slL K) (pv 5) po_none (po_some (pv 8)))) (pg_name (i := 9) nd rfl (Or.inl rfl)) (pss_cons (ps_setLc (i := 10) (own := [("_law_vertex", 11)]) rfl nd rfl rfl (sw_true rfl rfl rfl (by decide +kernel)) (pi_l K (pv 9)) (blkOk_by (by kernel_rfl)) (fun _ _ _ _ _ => (pg_name (i := 11) nd rfl (Or.inl rfl))) (fun _ _ _ _ _ => (pts_one (pt_cmpR (inS K) (pv 11) (pe_ix (ixl K) (pv 5) (pv 8) (fun _ _ => rfl)) (by rfl)))) (fun _ _ _ _ _ => (pv 11)))
      (pss_one (ps_if (PW.pt (pw_or (pt_cmpR (eqD K hr.units) (pe_ix (ixl K) (pv 5) (pv 8) (fun _ _ => rfl)) (pv 9) (nomark _)) (pw_or1 (PW.pt (pw_and (pt_cmpR op_gt (pe_callB (lenS K) (by rfl) T.len (by decide +kernel) (pa_cons (pv 10) pa_nil)) pe_int (nomark _)) (pw_and (pt_cmpR (neD K hr.units) (pv 10) (pv 9) (nomark _)) (pw_and1 (pt_cmpR (neD K hr.units) (pv 10) (pe_ix (ixl K) (pv 5) (pv 8) (fun _ _ => rfl)) (nomark _))))))))) (pss_one (ps_ret pe_bl)) pss_nil))))))
      (pss_cons (ps_for PassesOwn.never rfl (pi_l K (pv 4)) (pg_t K 2 rfl (pgs_cons (pg_name (i := 6) nd rfl (Or.inr rfl)) (pgs_cons (pg_name (i := 7) nd rfl (Or.inl rfl)) pgs_nil))) (pss_cons (ps_if (pt_cmpR (inS K) (pv 2) (pv 6) (by rfl)) (pss_one (ps_ret pe_bl)) pss_nil)
      (pss_cons (ps_set (i := 12) nd rfl (Or.inl rfl) (C8.pe_c c_law_sum hr (by decide) (by rfl) (pa_cons (pe_lc (own := [("_law_part", 13), ("_law_low", 14)]) rfl nd (pi_l K (pv 4)) (blkOk_by (by kernel_rfl)) (fun _ _ _ _ _ => (pg_t K 2 rfl (pgs_cons (pg_name (i := 13) nd rfl (Or.inl rfl)) (pgs_cons (pg_name (i := 14) nd rfl (Or.inl rfl)) pgs_nil)))) (fun _ _ _ _ _ => (pts_one (pt_cmpR op_eq (pe_callB (lenS K) (by rfl) T.len (by decide +kernel) (pa_cons (pe_lc (own := [("_law_vertex", 11)]) rfl nd (pi_l K (pv 13)) (blkOk_by (by kernel_rfl)) (fun _ _ _ _ _ => (pg_name (i := 11) nd rfl (Or.inl rfl))) (fun _ _ _ _ _ => (pts_one (pt_cmpR (ninS K) (pv 11) (pv 6) (by rfl)))) (fun _ _ _ _ _ => (pv 11))) pa_nil)) pe_int (nomark _)))) (fun _ _ _ _ _ => (pv 14))) pa_nil)))
      (pss_one (ps_if (pt_cmpR op_gt (pe_ix (ixt K) (pv 12) pe_int (fun _ _ => rfl)) (pe_op op_mulX (pe_callB (crSum K rfl) (by rfl) T.sum (by decide +kernel) (pa_cons (pe_lc (own := [("_law_vertex", 11)]) rfl nd (pi_l K (pv 6)) (blkOk_by (by kernel_rfl)) (fun _ _ _ _ _ => (pg_name (i := 11) nd rfl (Or.inl rfl))) (fun _ _ _ _ _ => pts_nil) (fun _ _ _ _ _ => (pe_ix (ixl K) (pv 3) (pv 11) (fun _ _ => rfl)))) pa_nil)) (pe_ix (ixt K) (pv 12) pe_int (fun _ _ => rfl))) (nomark _)) (pss_one (ps_ret pe_bl)) pss_nil)))))
      (pss_one (ps_ret pe_bl)))))), ?_⟩
    have n40 := o.n9
    refine ⟨_, rfl, _, rfl, x, N.n, M, rfl, n40, hx, ok, fun H1 s1 => ⟨_, rfl, iteF ?_⟩⟩
    refine ⟨_, rfl, _, rfl, v, x, N.n, N.es, M, rfl, he.mono s1 (fun _ _ => IsEd.mono s1), o.ends, hx.mono s1 (fun _ _ => IsMo.mono s1), ok, fun H2 s2 => ⟨_, rfl, ?_⟩⟩
    have s12 := s1.trans s2
    by_cases hPaid : PaidP N.es M
    · rw [dec_t hPaid]
      refine iteF ?_
      obtain ⟨a, xs, rfl, hs, hp⟩ := hx
      obtain ⟨up, rfl, hup⟩ := hu
      obtain ⟨L, rfl, rfl, hL⟩ := mos_rec hp
      have lz : L.length ≤ 40 := by have := ok.len; rw [List.length_map] at this; exact this
      have ll : (L.map (·.g)).length = L.length := List.length_map ..
      refine ⟨_, rfl, a, rfl, ⟨_, SqL.mono s12 hs⟩, fun D hD => ?_⟩
      refine lc_map L (fun r => V.ref r.a) (fun r => r.g) hD (SqL.mono s12 hs) (by rw [szl]; omega) (fun y hy H2 s2 Qt ht => ?_) (fun B sB b1 => ?_)
      · exact ⟨y.a, _, rfl, SqT.mono (s12.trans s2) (hL y hy).1, rfl, _, _, rfl, _, _, rfl, rfl, rfl, _, rfl, ht _ (Same.refl _)⟩
      have s1B := s12.trans sB
      have grp : ∀ k : Nat, k < L.length → ∃ r, r ∈ L ∧ L[k]? = some r ∧ ((L.map (·.m)).map (·.1)).getD k [] = r.m.1 ∧ (L.map (·.g))[k]? = some r.g := fun k hk => by
        refine ⟨L[k], List.getElem_mem hk, List.getElem?_eq_getElem hk, ?_, by rw [List.getElem?_map, List.getElem?_eq_getElem hk]; rfl⟩
        simp [List.getD, hk]
      refine ⟨_, rfl, D, _, rfl, .inl (SqL.of b1), _, rfl, by rw [ll]; omega, by rw [ll]; omega, ?_⟩
      rw [ll]
      refine for_rng (fun i σ H' => Same B H' ∧ (∃ o6 o7 o8 o9 o10 o11 o12 o13 o14, σ = [some (.int N.n), some v, some (.int N.root), some (.ref up), some (.ref a), some (.ref D), o6, o7, o8, o9, o10, o11, o12, o13, o14]) ∧ ∀ k j : Nat, j < k → k < i → Pair2 (((L.map (·.m)).map (·.1)).getD k []) (((L.map (·.m)).map (·.1)).getD j [])) ?_ ?_ ?_
      · exact ⟨Same.refl _, ⟨_, _, _, _, _, _, _, _, _, rfl⟩, fun k j _ hk => by omega⟩
      · rintro i σ H' hi ⟨s2, ⟨o6, o7, o8, o9, o10, o11, o12, o13, o14, rfl⟩, ih⟩
        obtain ⟨ri, hri, ei, egi, evi⟩ := grp i hi
        refine ⟨_, rfl, ?_⟩
        refine ⟨_, rfl, _, rfl, D, _, rfl, SqL.of (s2 _ _ b1), fun sl hsl => ?_⟩
        rw [cut_take _ _ (by rw [ll]; omega)]
        have s3 : Same H' (upd H' sl (.lst ((L.map (·.g)).take i))) := Same.new hsl
        generalize hB2 : upd H' sl (.lst ((L.map (·.g)).take i)) = B2 at *
        have b2 : B2 sl = some (.lst ((L.map (·.g)).take i)) := by rw [← hB2]; exact upd_same
        have lt : ((L.map (·.g)).take i).length = i := by rw [List.length_take, ll]; omega
        refine ⟨sl, rfl, ⟨_, SqL.of b2⟩, for_list (K := K) (a := sl) (xs := (L.map (·.g)).take i) (fun j σ H'' => Same B2 H'' ∧ (∃ o6 o7 o9 o10 o11 o12 o13 o14, σ = [some (.int N.n), some v, some (.int N.root), some (.ref up), some (.ref a), some (.ref D), o6, o7, some (.int i), o9, o10, o11, o12, o13, o14]) ∧ ∀ j' : Nat, j' < j → Pair2 (((L.map (·.m)).map (·.1)).getD i []) (((L.map (·.m)).map (·.1)).getD j' [])) ?_ (fun j σ H'' _ h => SqL.of (h.1 _ _ b2)) ?_ ?_⟩
        · exact ⟨Same.refl _, ⟨_, _, _, _, _, _, _, _, rfl⟩, fun j' hj' => by omega⟩
        · rintro j x σ H'' hx ⟨s4, ⟨o6, o7, o9, o10, o11, o12, o13, o14, rfl⟩, jh⟩
          have hj : j < i := by have := (List.getElem?_eq_some_iff.mp hx).1; omega
          obtain ⟨rj, hrj, ej, egj, evj⟩ := grp j (by omega)
          rw [List.getElem?_take_of_lt hj, evj] at hx
          obtain rfl : rj.g = x := Option.some.inj hx
          have sBB : Same B H'' := s2.trans (s3.trans s4)
          have sH : Same H H'' := s1B.trans sBB
          obtain ⟨i1, ⟨ia, ig, i2⟩, i3⟩ := (hL ri hri).mono sH
          obtain ⟨j1, ⟨ja, jg, j2⟩, j3⟩ := (hL rj hrj).mono sH
          have si := ok.set _ (List.mem_map.mpr ⟨ri, hri, rfl⟩)
          have sj := ok.set _ (List.mem_map.mpr ⟨rj, hrj, rfl⟩)
          have gj40 : rj.m.1.length ≤ 40 := Nat.le_trans (grp_len sj) n40
          have evi2 : ∀ Hx, Same B Hx → SqL K Hx D (L.map (·.g)) := fun Hx sx => SqL.of (sx _ _ b1)
          have evat : atI (L.map (·.g)) (i : Int) = some (.ref ia) := atI_nat (by rw [evi, ig])
          rw [jg]
          refine ⟨_, rfl, ja, rfl, ⟨_, j2⟩, fun D2 hD2 => ?_⟩
          refine lc_read rj.m.1 V.int V.int (fun v => decide (v ∈ ri.m.1)) hD2 j2 (by rw [szl]; omega) (fun y hy H3 s5 Qt Qf hqt hqf => ?_) (fun H3 s5 hD3 => ?_)
          · refine ⟨rfl, _, rfl, _, rfl, _, rfl, D, _, _, _, rfl, rfl, evi2 _ (sBB.trans s5), evat, ia, _, rfl, .inl (SqL.mono s5 i2), rfl, flat_ints _, _, rfl, ?_⟩
            rw [if_neg Bool.false_ne_true, inV_ints]
            cases ec : decide (y ∈ ri.m.1) with
            | true => exact iteT ⟨_, rfl, hqt ec _ (Same.refl _)⟩
            | false => exact iteF (hqf ec _ (Same.refl _))
          have sB3 : Same B H3 := sBB.trans s5
          have s45 : Same B2 H3 := s4.trans s5
          have i2' := SqL.mono s5 i2
          have j2' := SqL.mono s5 j2
          refine ⟨_, rfl, _, rfl, D, _, _, _, rfl, rfl, evi2 _ sB3, evat, _, rfl, encIs ri.m.1, encIs rj.m.1, (show IsIs K H3 (.ref ia) ri.m.1 from ⟨ia, rfl, i2'⟩).dp, (show IsIs K H3 (.ref ja) rj.m.1 from ⟨ja, rfl, j2'⟩).dp, sh_is _, sh_is _, _, rfl, ?_⟩
          rw [eqv_is]
          have bad : ∀ Hx, Same H Hx → ¬ Pair2 ri.m.1 rj.m.1 → Q (.bl false) Hx := fun Hx sx z => by
            have qq := q Hx sx
            rw [dec_f fun g => z (by have := g.1 i j hj (by rw [List.length_map]; exact hi); rw [egi, egj] at this; exact this)] at qq
            exact qq
          by_cases hEq : ri.m.1 = rj.m.1
          · refine ifd hEq ?_
            exact bad _ (s1B.trans sB3) fun z => z.1 hEq
          refine ifnd hEq ?_
          have good : Pair2 ri.m.1 rj.m.1 → ∀ j' : Nat, j' < j + 1 → Pair2 (((L.map (·.m)).map (·.1)).getD i []) (((L.map (·.m)).map (·.1)).getD j' []) := fun z j' hj' => by
            by_cases e : j' = j
            · subst e; rw [egi, egj]; exact z
            · exact jh j' (by omega)
          refine ⟨_, rfl, D2, _, rfl, .inl (SqL.of hD3), _, _, rfl, rfl, _, rfl, ?_⟩
          rw [List.length_map]
          have hcd : IsIs K H3 (.ref D2) (rj.m.1.filter fun v => decide (v ∈ ri.m.1)) := ⟨D2, rfl, SqL.of hD3⟩
          by_cases hA : ∃ x ∈ ri.m.1, x ∈ rj.m.1
          · have l0 : 0 < (rj.m.1.filter fun v => decide (v ∈ ri.m.1)).length := by
              obtain ⟨x, h1, h2⟩ := hA
              exact List.length_pos_of_mem (List.mem_filter.mpr ⟨h2, decide_eq_true h1⟩)
            refine ifd (by omega) ⟨_, rfl, _, rfl, encIs _, encIs rj.m.1, hcd.dp, (show IsIs K H3 (.ref ja) rj.m.1 from ⟨ja, rfl, j2'⟩).dp, sh_is _, sh_is _, _, rfl, ?_⟩
            rw [eqv_is]
            by_cases hP2 : ∀ x ∈ rj.m.1, x ∈ ri.m.1
            · exact ifnt (common_eq_right.mpr hP2) ⟨s45, ⟨_, _, _, _, _, _, _, _, rfl⟩, good ⟨hEq, .inr (.inr hP2)⟩⟩
            refine ifnf (fun z => hP2 (common_eq_right.mp z)) ⟨_, rfl, _, rfl, _, rfl, D, _, _, _, rfl, rfl, evi2 _ sB3, evat, encIs _, encIs ri.m.1, hcd.dp, (show IsIs K H3 (.ref ia) ri.m.1 from ⟨ia, rfl, i2'⟩).dp, sh_is _, sh_is _, _, rfl, ?_⟩
            rw [eqv_is]
            by_cases hP : ∀ x ∈ ri.m.1, x ∈ rj.m.1
            · exact ifnt ((common_eq_left si.2.1 sj.2.1).mpr hP) ⟨s45, ⟨_, _, _, _, _, _, _, _, rfl⟩, good ⟨hEq, .inr (.inl hP)⟩⟩
            refine ifnf (fun z => hP ((common_eq_left si.2.1 sj.2.1).mp z)) (bad _ (s1B.trans sB3) fun z => ?_)
            rcases z.2 with z | z | z
            · obtain ⟨x, h1, h2⟩ := hA; exact z x h1 h2
            · exact hP z
            · exact hP2 z
          · have l0 : (rj.m.1.filter fun v => decide (v ∈ ri.m.1)).length = 0 := by
              rw [List.length_eq_zero_iff, List.filter_eq_nil_iff]
              exact fun v hv e => hA ⟨v, of_decide_eq_true e, hv⟩
            exact ifnd (by omega) ⟨s45, ⟨_, _, _, _, _, _, _, _, rfl⟩, good ⟨hEq, .inl fun v h1 h2 => hA ⟨v, h1, h2⟩⟩⟩
        · rintro σ H'' ⟨s4, ⟨o6, o7, o9, o10, o11, o12, o13, o14, rfl⟩, jh⟩
          rw [lt] at jh
          refine ⟨s2.trans (s3.trans s4), ⟨_, _, _, _, _, _, _, _, _, rfl⟩, fun k j hj hk => ?_⟩
          by_cases e : k = i
          · subst e; exact jh j hj
          · exact ih k j hj (by omega)
      · rintro σ H2' ⟨s2, ⟨o6, o7, o8, o9, o10, o11, o12, o13, o14, rfl⟩, ih⟩
        have hNest : NestP (L.map (·.m)) := fun k j hj hk => ih k j hj (by rw [List.length_map] at hk; exact hk)
        have s12 := s1B.trans s2
        refine ⟨_, rfl, a, rfl, ⟨_, SqL.mono s12 hs⟩, for_list (K := K) (a := a) (xs := L.map fun r => V.ref r.a) (fun i σ H' => Same H2' H' ∧ (∃ o6 o7 o8 o9 o10 o11 o12 o13 o14, σ = [some (.int N.n), some v, some (.int N.root), some (.ref up), some (.ref a), some (.ref D), o6, o7, o8, o9, o10, o11, o12, o13, o14]) ∧
          ∀ m ∈ (L.map (·.m)).take i, N.root ∉ m.1 ∧ LeSum (L.map (·.m)) (fun y => dec (∀ v ∈ y.1, v ∈ m.1)) (N.prL m.1)) ?_ (fun i σ H' _ h => SqL.mono (s12.trans h.1) hs) ?_ ?_⟩
        · exact ⟨Same.refl _, ⟨_, _, _, _, _, _, _, _, _, rfl⟩, fun m hm => by simp at hm⟩
        · rintro i y σ H' hy ⟨s3, ⟨o6, o7, o8, o9, o10, o11, o12, o13, o14, rfl⟩, ih⟩
          rw [List.getElem?_map] at hy
          obtain ⟨r, hr', rfl⟩ := Option.map_eq_some_iff.mp hy
          have hrL := List.mem_of_getElem? hr'
          have s13 := s12.trans s3
          have htk : (L.map (·.m)).take (i + 1) = (L.map (·.m)).take i ++ [r.m] := by rw [List.take_add_one, List.getElem?_map, hr']; rfl
          obtain ⟨r1, ⟨ra, rg, r2⟩, r3⟩ := (hL r hrL).mono s13
          have rm : r.m ∈ L.map (·.m) := List.mem_map.mpr ⟨r, hrL, rfl⟩
          have g40 : r.m.1.length ≤ 40 := Nat.le_trans (grp_len (ok.set _ rm)) n40
          have bad : ∀ Hx, Same H Hx → ¬ (N.root ∉ r.m.1 ∧ LeSum (L.map (·.m)) (fun y => dec (∀ v ∈ y.1, v ∈ r.m.1)) (N.prL r.m.1)) → Q (.bl false) Hx := fun Hx sx z => by
            have qq := q Hx sx
            rw [dec_f fun g => z (g.2.2 _ rm)] at qq
            exact qq
          refine ⟨r.a, _, rfl, r1, rfl, _, _, rfl, _, _, rfl, rfl, ?_⟩
          refine ⟨_, rfl, _, rfl, ra, _, rg, .inl r2, rfl, flat_ints _, _, rfl, ?_⟩
          rw [if_neg Bool.false_ne_true, inV_ints]
          by_cases hroot : N.root ∈ r.m.1
          · exact ifd hroot (bad _ s13 fun z => z.1 hroot)
          refine ifnd hroot ⟨_, rfl, a, rfl, ⟨_, SqL.mono s13 hs⟩, fun D3 hD3 => ?_⟩
          refine lc_read L (fun r => V.ref r.a) (fun r => r.h) (fun y => dec (∀ v ∈ y.m.1, v ∈ r.m.1)) hD3 (SqL.mono s13 hs) (by rw [szl]; omega) (fun y hy H3 s4 Qt Qf hqt hqf => ?_) (fun H3 s4 hD4 => ?_)
          · have s14 := s13.trans s4
            obtain ⟨y1, ⟨ya, yg, y2⟩, y3⟩ := (hL y hy).mono s14
            have y40 : y.m.1.length ≤ 40 := Nat.le_trans (grp_len (ok.set _ (List.mem_map.mpr ⟨y, hy, rfl⟩))) n40
            refine ⟨y.a, _, rfl, y1, rfl, _, _, rfl, _, _, rfl, rfl, rfl, ?_⟩
            refine ⟨_, rfl, ya, yg, ⟨_, y2⟩, fun D5 hD5 => ?_⟩
            refine lc_read y.m.1 V.int V.int (fun v => !decide (v ∈ r.m.1)) hD5 y2 (by rw [szl]; omega) (fun z hz H5 s6 Qt2 Qf2 hqt2 hqf2 => ?_) (fun H5 s6 hD6 => ?_)
            · refine ⟨rfl, _, rfl, _, rfl, ra, _, rg, .inl (SqL.mono (s4.trans s6) r2), rfl, flat_ints _, _, rfl, ?_⟩
              rw [if_pos rfl, inV_ints]
              cases ec : (!decide (z ∈ r.m.1)) with
              | true => exact iteT ⟨_, rfl, hqt2 ec _ (Same.refl _)⟩
              | false => exact iteF (hqf2 ec _ (Same.refl _))
            refine ⟨D5, _, rfl, .inl (SqL.of hD6), rfl, _, rfl, ?_⟩
            rw [List.length_map, out_none]
            cases ec : dec (∀ v ∈ y.m.1, v ∈ r.m.1) with
            | true => exact iteT ⟨_, rfl, hqt ec _ s6⟩
            | false => exact iteF (hqf ec _ s6)
          have s14 := s13.trans s4
          refine ⟨_, _, rfl, ⟨D3, _, rfl, SqL.of hD4, mos_frs (fun r hr => (hL r hr).mono s14) (fun y => dec (∀ v ∈ y.1, v ∈ r.m.1))⟩, ok.frs _, fun H4 pf s5 hpf => ?_⟩
          have s15 := s14.trans s5
          obtain ⟨b1, b2, b3, b4⟩ := fsum_small (ok.frs fun y => dec (∀ v ∈ y.1, v ∈ r.m.1)).ok (by have := (ok.frs fun y => dec (∀ v ∈ y.1, v ∈ r.m.1)).len; omega)
          refine ⟨_, rfl, pf, _, 0, _, rfl, rfl, SqT.of hpf, atI_nat (j := 0) rfl, ?_⟩
          refine ⟨_, rfl, ra, rg, ⟨_, SqL.mono (s4.trans s5) r2⟩, fun D2 hD2 => ?_⟩
          refine lc_map r.m.1 V.int (fun v => .int (N.pr v)) hD2 (SqL.mono (s4.trans s5) r2) (by rw [szl]; omega) (fun y hy H5 s6 Qt ht => ?_) (fun H5 s6 hD5 => ?_)
          · have yb := (ok.set _ rm).2.2 y hy
            exact ⟨rfl, _, rfl, _, rfl, up, _, _, _, rfl, rfl, SqL.mono (s15.trans s6) hup, atI_lt yb.1 (by rw [o.plen]; exact yb.2), ht _ (Same.refl _)⟩
          have e3 : (r.m.1.map fun v => V.int (N.pr v)) = (r.m.1.map N.pr).map V.int := by rw [List.map_map]; rfl
          rw [e3] at hD5
          have pb := prL_bd o g40
          refine ⟨D2, _, rfl, SqL.of hD5, _, rfl, pf, _, 1, _, rfl, rfl, SqT.of (s6 _ _ hpf), atI_nat (j := 1) rfl, _, _, rfl, rfl, mulx_ok (pow_nat pb.1 (k := 60) (Int.lt_of_lt_of_le pb.2 (Gw.pow_mono (by decide)))) (pow_nat (Int.le_of_lt b3) b4) (by decide), _, _, rfl, rfl, _, rfl, ?_⟩
          show (if decide (N.prL r.m.1 * _ < _) = true then _ else _)
          rw [law_le (n := N.n)]
          by_cases hle : LeSum (L.map (·.m)) (fun y => dec (∀ v ∈ y.1, v ∈ r.m.1)) (N.prL r.m.1)
          · rw [dec_t hle]
            refine iteF ⟨((s3.trans s4).trans s5).trans s6, ⟨_, _, _, _, _, _, _, _, _, rfl⟩, fun m hm => ?_⟩
            rw [htk] at hm
            rcases List.mem_append.mp hm with z | z
            · exact ih m z
            · rw [List.mem_singleton] at z; subst z; exact ⟨hroot, hle⟩
          · rw [dec_f hle]
            exact iteT (bad _ (s15.trans s6) fun z => hle z.2)
        · rintro σ H' ⟨s3, ⟨o6, o7, o8, o9, o10, o11, o12, o13, o14, rfl⟩, ih⟩
          have e : (L.map fun r => V.ref r.a).length = (L.map (·.m)).length := by rw [List.length_map, List.length_map]
          rw [e, List.take_length] at ih
          have qq := q _ (s12.trans s3)
          rw [dec_t (show GoodP N (L.map (·.m)) from ⟨hNest, hPaid, ih⟩)] at qq
          exact qq
    · rw [dec_f hPaid]
      refine iteT ?_
      have qq := q _ s12
      rw [dec_f fun g => hPaid g.2.1] at qq
      exact qq
end
end K5

namespace K5
open PySem PySem.Spec PyProof.Rows L2
section
variable {P : Program} {w : World} {K : PySem.W.Frag} {mg : Str → Option Value} {base : Heap} {CN CG : Addr}
abbrev s_law_cost : Stmt := top 58
theorem sc_law_cost : FnScope ["_law_edges_here", "_law_root", "_law_prizes_here", "_law_chosen", "_law_found", "_law_lost", "_law_vertex", "_law_k"] ["_law_edges_here", "_law_root", "_law_prizes_here", "_law_chosen"] (C8.fnScope s_law_cost) := C8.fnScope_by (by decide +kernel)

def spLawCost (K : PySem.W.Frag) : Sp := fun vs H Q _ => ∃ (v u c : V) (N : Gw.Net) (C : List Int), vs = [v, .int N.root, u, c] ∧ IsL K H (IsEd K H) v N.es ∧ N.Ok ∧ IsIs K H u N.pz ∧ IsIs K H c C ∧ (∀ k ∈ C, N.isE k) ∧ C.length ≤ 1000 ∧ ∀ H', Same H H' → Q (.int (costC N C)) H'
theorem ok_lawCost (F : DefAt K mg "_law_cost" s_law_cost ["_law_edges_here", "_law_root", "_law_prizes_here", "_law_chosen"]) (T : Txt K mg CN CG) (c_law_reach : C8.Cal P w K mg base 1 "_law_reach" (spLawReach K) []) : C8.Cal P w K mg base 2 "_law_cost" (spLawCost K) [] := by
  refine cal F sc_law_cost (fun vs H Q E h => ?_) (fun f cdv A outer s H vs Q E hr h => ?_)
  · obtain ⟨_, _, _, _, _, rfl, _⟩ := h; rfl
  · obtain ⟨v, u, c, N, C, rfl, he, o, ⟨a, rfl, hs⟩, ⟨ca, rfl, hcs⟩, hE, hcl, q⟩ := h
    have nd := sc_law_cost.nd
    refine ⟨_, (pss_cons (ps_set (i := 4) nd rfl (Or.inr rfl) (C8.pe_c c_law_reach hr (by decide) (by rfl) (pa_cons (pv 0) (pa_cons (pv 3) (pa_cons (pv 1) (pa_cons pe_bl pa_nil))))))
      (pss_cons (ps_setLc (i := 5) (own := [("_law_vertex", 6)]) rfl nd rfl rfl (sw_true rfl rfl rfl (by decide +kernel)) (pi_range1 (by rfl) T.range (pa_cons (pe_callB (lenS K) (by rfl) T.len (by decide +kernel) (pa_cons (pv 2) pa_nil)) pa_nil)) (blkOk_by (by kernel_rfl)) (fun _ _ _ _ _ => (pg_name (i := 6) nd rfl (Or.inl rfl))) (fun _ _ _ _ _ => (pts_one (pt_cmpR (ninS K) (pv 6) (pv 4) (by rfl)))) (fun _ _ _ _ _ => (pe_ix (ixl K) (pv 2) (pv 6) (fun _ _ => rfl))))
      (pss_one (ps_ret (pe_op op_add (pe_callB (crSum K rfl) (by rfl) T.sum (by decide +kernel) (pa_cons (pe_lc (own := [("_law_k", 7)]) rfl nd (pi_l K (pv 3)) (blkOk_by (by kernel_rfl)) (fun _ _ _ _ _ => (pg_name (i := 7) nd rfl (Or.inl rfl))) (fun _ _ _ _ _ => pts_nil) (fun _ _ _ _ _ => (pe_ix (ixt K) (pe_ix (ixl K) (pv 0) (pv 7) (fun _ _ => rfl)) pe_int (fun _ _ => rfl)))) pa_nil)) (pe_callB (crSum K rfl) (by rfl) T.sum (by decide +kernel) (pa_cons (pv 5) pa_nil))))))), ?_⟩
    have n40 := o.n9
    refine ⟨_, rfl, _, rfl, _, rfl, v, _, N, C, rfl, he, o, ⟨ca, rfl, hcs⟩, hE, hcl, fun H2 p F s12 hp hF hl hR => ?_⟩
    have ll : (N.pz.map V.int).length = N.n := by rw [List.length_map]; exact o.plen
    refine ⟨_, rfl, a, _, rfl, .inl (SqL.mono s12 hs), _, rfl, by rw [ll]; omega, by rw [ll]; omega, fun D hD => ?_⟩
    rw [ll]
    refine lc_readR N.n (fun v => .int (N.pz.getD v.toNat 0)) (fun v => !decide (v ∈ F)) hD (by rw [szl]; omega) (fun i hi H3 s3 Qt Qf ht hf => ?_) (fun H3 s3 hD3 => ?_)
    · have hF3 := s3 _ _ hF
      refine ⟨rfl, _, rfl, _, rfl, p, _, rfl, .inl (SqL.of hF3), rfl, flat_ints _, _, rfl, ?_⟩
      rw [if_pos rfl, inV_ints]
      cases e : (!decide ((i : Int) ∈ F)) with
      | true =>
        refine iteT ?_
        have hi2 : (i : Int) < (N.pz.length : Int) := by rw [o.plen]; omega
        exact ⟨_, rfl, _, rfl, a, _, _, _, rfl, rfl, SqL.mono (s12.trans s3) hs, atI_lt (by omega) hi2, ht e _ (Same.refl _)⟩
      | false => exact iteF (hf e _ (Same.refl _))
    · have s13 := s12.trans s3
      obtain ⟨le, xs, rfl, hle, hpe⟩ := he
      refine ⟨_, rfl, ca, rfl, ⟨_, SqL.mono s13 hcs⟩, fun D2 hD2 => ?_⟩
      refine lc_map C V.int (fun k => .int (N.ed k).2.2) hD2 (SqL.mono s13 hcs) (by rw [szl]; omega) (fun y hy H4 s4 Qt ht => ?_) (fun H4 s4 hD4 => ?_)
      · obtain ⟨t2, e2, ht2⟩ := es_at (hpe.mono fun _ _ => IsEd.mono (s13.trans s4)) (hE y hy)
        exact ⟨rfl, _, rfl, _, rfl, le, _, _, _, rfl, rfl, SqL.mono (s13.trans s4) hle, e2, t2, _, 2, _, rfl, rfl, ht2, atI_nat (j := 2) rfl, ht _ (Same.refl _)⟩
      have e3 : (C.map fun k => V.int (N.ed k).2.2) = (C.map fun k => (N.ed k).2.2).map V.int := by rw [List.map_map]; rfl
      rw [e3] at hD4
      have e4 : ((((List.range N.n).map fun i : Nat => (i : Int)).filter fun v => !decide (v ∈ F)).map fun v => V.int (N.pz.getD v.toNat 0)) = ((((List.range N.n).map fun i : Nat => (i : Int)).filter fun v => !decide (v ∈ F)).map fun v => N.pz.getD v.toNat 0).map V.int := by rw [List.map_map]; rfl
      rw [e4] at hD3
      refine ⟨D2, _, rfl, SqL.of hD4, _, rfl, D, _, rfl, SqL.of (s4 _ _ hD3), _, _, rfl, rfl, ?_⟩
      have qq := q _ (s13.trans s4)
      rw [← cost_of hR] at qq
      exact qq
abbrev s_law_due : Stmt := top 60
theorem sc_law_due : FnScope ["_law_size", "_law_edges_here", "_law_root", "_law_prizes_here", "_law_chosen", "_law_moats", "_law_k", "_law_most", "_law_group", "_law_height"] ["_law_size", "_law_edges_here", "_law_root", "_law_prizes_here", "_law_chosen", "_law_moats"] (C8.fnScope s_law_due) := C8.fnScope_by (by decide +kernel)

def spDue (K : PySem.W.Frag) : Sp := fun vs H Q _ => ∃ (v u c x : V) (N : Gw.Net) (C : List Int) (M : List Mo), vs = [.int N.n, v, .int N.root, u, c, x] ∧ IsL K H (IsEd K H) v N.es ∧ N.Ok ∧ IsIs K H u N.pz ∧ IsIs K H c C ∧ C.length ≤ 1000 ∧ IsL K H (IsMo K H) x M ∧ MosOk N.n M ∧ N.es.length ≤ 200 ∧
  ∀ H', Same H H' → Q (.bl (dec (DueP N C M))) H'
theorem ok_due (F : DefAt K mg "_law_due" s_law_due ["_law_size", "_law_edges_here", "_law_root", "_law_prizes_here", "_law_chosen", "_law_moats"]) (T : Txt K mg CN CG) (c_law_good : C8.Cal P w K mg base 4 "_law_good" (spLawGood K) []) (c_law_sum : C8.Cal P w K mg base 2 "_law_sum" (spLawSum K) []) (c_law_cost : C8.Cal P w K mg base 2 "_law_cost" (spLawCost K) []) : C8.Cal P w K mg base 5 "_law_due" (spDue K) [] := by
  refine cal F sc_law_due (fun vs H Q E h => ?_) (fun f cdv A outer s H vs Q E hr h => ?_)
  · obtain ⟨_, _, _, _, _, _, _, rfl, _⟩ := h; rfl
  · obtain ⟨v, u, c, x, N, C, M, rfl, he, o, hu, ⟨ca, rfl, hcs⟩, hcl, hx, ok, hes, q⟩ := h
    have nd := sc_law_due.nd
    refine ⟨_, (pss_cons (ps_if (pt_not (pt_val (C8.pe_c c_law_good hr (by decide) (by rfl) (pa_cons (pv 0) (pa_cons (pv 1) (pa_cons (pv 2) (pa_cons (pv 3) (pa_cons (pv 5) pa_nil)))))))) (pss_one (ps_ret pe_bl)) pss_nil)
      (pss_cons (ps_for PassesOwn.never rfl (pi_range1 (by rfl) T.range (pa_cons (pe_callB (lenS K) (by rfl) T.len (by decide +kernel) (pa_cons (pv 4) pa_nil)) pa_nil)) (pg_name (i := 6) nd rfl (Or.inl rfl)) (pss_one (ps_if (PW.pt (pw_or (pt_not (pt_chain op_le op_lt pe_int (pe_ix (ixl K) (pv 4) (pv 6) (fun _ _ => rfl)) (pe_callB (lenS K) (by rfl) T.len (by decide +kernel) (pa_cons (pv 1) pa_nil)))) (pw_or1 (PW.pt (pw_and (pt_cmpR op_gt (pv 6) pe_int (nomark _)) (pw_and1 (pt_cmpR op_le (pe_ix (ixl K) (pv 4) (pv 6) (fun _ _ => rfl)) (pe_ix (ixl K) (pv 4) (pe_op op_sub (pv 6) pe_int) (fun _ _ => rfl)) (nomark _)))))))) (pss_one (ps_ret pe_bl)) pss_nil)))
      (pss_cons (ps_if (pt_cmpR op_eq (pv 0) pe_int (nomark _)) (pss_one (ps_ret (pe_cmpR op_eq (pe_callB (lenS K) (by rfl) T.len (by decide +kernel) (pa_cons (pv 4) pa_nil)) pe_int (nomark _)))) pss_nil)
      (pss_cons (ps_set (i := 7) nd rfl (Or.inl rfl) (C8.pe_c c_law_sum hr (by decide) (by rfl) (pa_cons (pe_lc (own := [("_law_group", 8), ("_law_height", 9)]) rfl nd (pi_l K (pv 5)) (blkOk_by (by kernel_rfl)) (fun _ _ _ _ _ => (pg_t K 2 rfl (pgs_cons (pg_name (i := 8) nd rfl (Or.inl rfl)) (pgs_cons (pg_name (i := 9) nd rfl (Or.inl rfl)) pgs_nil)))) (fun _ _ _ _ _ => pts_nil) (fun _ _ _ _ _ => (pv 9))) pa_nil)))
      (pss_one (ps_ret (pe_cmpR op_le (pe_op op_mulX (pe_op op_mulX (pe_op op_sub (pv 0) pe_int) (C8.pe_c c_law_cost hr (by decide) (by rfl) (pa_cons (pv 1) (pa_cons (pv 2) (pa_cons (pv 3) (pa_cons (pv 4) pa_nil)))))) (pe_ix (ixt K) (pv 7) pe_int (fun _ _ => rfl))) (pe_op op_mulX (pe_op op_sub (pe_op op_mul pe_int (pv 0)) pe_int) (pe_ix (ixt K) (pv 7) pe_int (fun _ _ => rfl))) (nomark _)))))))), ?_⟩
    have n40 := o.n9
    refine ⟨_, rfl, _, rfl, _, rfl, _, rfl, _, rfl, v, u, x, N, M, rfl, he, o, hu, hx, ok, fun H1 s1 => ⟨_, rfl, ?_⟩⟩
    by_cases hG : GoodP N M
    · rw [dec_t hG]
      refine iteF ?_
      have ll : (C.map V.int).length = C.length := List.length_map ..
      have hcs1 := SqL.mono s1 hcs
      refine ⟨_, rfl, ca, _, rfl, .inl hcs1, _, rfl, by rw [ll]; omega, by rw [ll]; omega, ?_⟩
      rw [ll]
      refine for_rng (fun i σ H' => H1 = H' ∧ (∃ o6 o7 o8 o9, σ = [some (.int N.n), some v, some (.int N.root), some u, some (.ref ca), some x, o6, o7, o8, o9]) ∧ ∀ k : Nat, k < i → (0 ≤ C.getD k 0 ∧ C.getD k 0 < N.es.length) ∧ (0 < k → C.getD (k - 1) 0 < C.getD k 0)) ⟨rfl, ⟨_, _, _, _, rfl⟩, fun k hk => by omega⟩ ?_ ?_
      · rintro i σ H' hi ⟨rfl, ⟨o6, o7, o8, o9, rfl⟩, ih⟩
        have e1 : atI (C.map V.int) (i : Int) = some (V.int (C.getD i 0)) := atI_lt (by omega) (by omega)
        have bad : ¬ ((0 ≤ C.getD i 0 ∧ C.getD i 0 < N.es.length) ∧ (0 < i → C.getD (i - 1) 0 < C.getD i 0)) → Q (.bl false) H1 := fun z => by
          have qq := q _ s1
          rw [dec_f fun d => z (d.2.1 i hi)] at qq
          exact qq
        refine ⟨_, rfl, _, rfl, ca, _, _, _, rfl, rfl, hcs1, e1, _, _, rfl, rfl, _, rfl, ?_⟩
        by_cases h0 : 0 ≤ C.getD i 0
        · obtain ⟨le, xs, rfl, hle, hpe⟩ := id he
          refine ifd h0 ⟨_, rfl, le, xs, rfl, .inl (SqL.mono s1 hle), _, _, rfl, rfl, _, rfl, ?_⟩
          rw [hpe.length]
          by_cases h1 : C.getD i 0 < (N.es.length : Int)
          · refine ifnt h1 ⟨_, rfl, _, _, rfl, rfl, _, rfl, ?_⟩
            by_cases hi0 : (0 : Int) < (i : Int)
            · refine ifd hi0 ⟨_, rfl, _, rfl, ca, _, _, _, rfl, rfl, hcs1, e1, _, rfl, _, rfl, _, _, rfl, rfl, ca, _, _, _, rfl, rfl, hcs1, atI_lt (by omega) (by omega), _, _, rfl, rfl, _, rfl, ?_⟩
              have ei : ((i : Int) - 1).toNat = i - 1 := by omega
              rw [ei]
              by_cases h2 : C.getD i 0 ≤ C.getD (i - 1) 0
              · exact ifd h2 (bad fun z => by have := z.2 (by omega); omega)
              · refine ifnd h2 ⟨rfl, ⟨_, _, _, _, rfl⟩, fun k hk => ?_⟩
                by_cases e : k = i
                · subst e; exact ⟨⟨h0, h1⟩, fun _ => by omega⟩
                · exact ih k (by omega)
            · refine ifnd hi0 ⟨rfl, ⟨_, _, _, _, rfl⟩, fun k hk => ?_⟩
              have : k = i := by omega
              subst this
              exact ⟨⟨h0, h1⟩, fun _ => by omega⟩
          · exact ifnf h1 (bad fun z => h1 z.1.2)
        · exact ifnd h0 ⟨_, rfl, iteT (bad fun z => h0 z.1.1)⟩
      · rintro σ H' ⟨rfl, ⟨o6, o7, o8, o9, rfl⟩, asc⟩
        have hA : AscP N.es.length C := asc
        refine ⟨_, rfl, rfl, _, rfl, ?_⟩
        by_cases h1 : V.int (N.n : Int) = V.int 1
        · have h1' : N.n = 1 := by have := V.int.inj h1; omega
          refine ifd h1 ⟨_, rfl, ca, _, rfl, .inl hcs1, rfl, ?_⟩
          have qq := q _ s1
          have e : dec (DueP N C M) = dec (C.length = 0) := dec_iff ⟨fun h => by have := h.2.2; rw [if_pos h1'] at this; exact this, fun h => ⟨hG, hA, by rw [if_pos h1']; exact h⟩⟩
          rw [e, ← dec_int0] at qq
          rw [List.length_map]
          exact qq
        · have h1' : ¬ N.n = 1 := fun e => h1 (by rw [e]; rfl)
          obtain ⟨a, xs, rfl, hs, hp⟩ := hx
          obtain ⟨L, rfl, rfl, hL⟩ := mos_rec hp
          have lz : L.length ≤ 40 := by have := ok.len; rw [List.length_map] at this; exact this
          have fok : FrsOk ((L.map (·.m)).map (·.2)) := ⟨by rw [List.length_map]; exact ok.len, fun x hx => by
            obtain ⟨m, hm, rfl⟩ := List.mem_map.mp hx
            exact ok.fr m hm⟩
          refine ifnd h1 ⟨_, rfl, a, rfl, ⟨_, SqL.mono s1 hs⟩, fun D hD => ?_⟩
          refine lc_map L (fun r => V.ref r.a) (fun r => r.h) hD (SqL.mono s1 hs) (by rw [szl]; omega) (fun y hy H2 s2 Qt ht => ?_) (fun H2 s2 hD2 => ?_)
          · exact ⟨y.a, _, rfl, SqT.mono (s1.trans s2) (hL y hy).1, rfl, _, _, rfl, _, _, rfl, rfl, rfl, _, rfl, ht _ (Same.refl _)⟩
          have s12 := s1.trans s2
          refine ⟨_, _, rfl, ⟨D, _, rfl, SqL.of hD2, mos_frs_all fun r hr => (hL r hr).mono s12⟩, fok, fun H3 pf s3 hpf => ?_⟩
          have s13 := s12.trans s3
          obtain ⟨b1, b2, b3, b4⟩ := fsum_small fok.ok (by have := fok.len; omega)
          obtain ⟨k1, k2, k3, k4⟩ := fin_bd o hA hes
          refine ⟨_, rfl, _, _, rfl, rfl, _, rfl, _, rfl, _, rfl, _, rfl, v, u, _, N, C, rfl, he.mono s13 (fun _ _ => IsEd.mono s13), o, hu.mono s13, ⟨ca, rfl, SqL.mono s13 hcs⟩, isE_of hA, hcl, fun H4 s4 => ?_⟩
          have hpf4 := SqT.of (K := K) (s4 _ _ hpf)
          refine ⟨_, _, rfl, rfl, mulx_ok k1 k2 (by decide), _, rfl, pf, _, 1, _, rfl, rfl, hpf4, atI_nat (j := 1) rfl, _, _, rfl, rfl, mulx_ok k3 (pow_nat (Int.le_of_lt b3) b4) (by decide), ?_⟩
          refine ⟨_, rfl, _, _, rfl, rfl, .inl ⟨by decide, by decide⟩, _, _, rfl, rfl, _, rfl, pf, _, 0, _, rfl, rfl, hpf4, atI_nat (j := 0) rfl, _, _, rfl, rfl, mulx_ok k4 (pow_nat b1 b2) (by decide), _, _, rfl, rfl, ?_⟩
          have qq := q _ (s13.trans s4)
          have e : dec (DueP N C (L.map (·.m))) = dec (((N.n : Int) - 1) * costC N C * (Gw.fsum ((L.map (·.m)).map (·.2))).2 ≤ (2 * (N.n : Int) - 3) * (Gw.fsum ((L.map (·.m)).map (·.2))).1) :=
            dec_iff ⟨fun h => by have := h.2.2; rw [if_neg h1'] at this; exact this, fun h => ⟨hG, hA, by rw [if_neg h1']; exact h⟩⟩
          rw [e, ← dec_decide] at qq
          exact qq
    · rw [dec_f hG]
      refine iteT ?_
      have qq := q _ s1
      rw [dec_f fun g => hG g.1] at qq
      exact qq
end
end K5

namespace K5
open PySem PySem.Spec PyProof.Rows L2
/-! ### the growth as it stands -/
structure GA where
  x : Addr
  dx : Addr
  le : Addr
  lg : Addr
  ld : Addr
  lh : Addr
  lc : Addr
def GA.four (g : GA) : List Addr := [g.lg, g.ld, g.lh, g.lc]
def gf (g : GA) : List (Str × V) := [("edges", .ref g.le), ("groups", .ref g.lg), ("depths", .ref g.ld), ("heights", .ref g.lh), ("chosen", .ref g.lc)]
theorem gf_edges (g : GA) : (gf g).lookup ("edges" : Str) = some (V.ref g.le) := lk_hit
theorem gf_groups (g : GA) : (gf g).lookup ("groups" : Str) = some (V.ref g.lg) := (lk_miss (by decide +kernel)).trans lk_hit
theorem gf_depths (g : GA) : (gf g).lookup ("depths" : Str) = some (V.ref g.ld) := (lk_miss (by decide +kernel)).trans ((lk_miss (by decide +kernel)).trans lk_hit)
theorem gf_heights (g : GA) : (gf g).lookup ("heights" : Str) = some (V.ref g.lh) := (lk_miss (by decide +kernel)).trans ((lk_miss (by decide +kernel)).trans ((lk_miss (by decide +kernel)).trans lk_hit))
theorem gf_chosen (g : GA) : (gf g).lookup ("chosen" : Str) = some (V.ref g.lc) := (lk_miss (by decide +kernel)).trans ((lk_miss (by decide +kernel)).trans ((lk_miss (by decide +kernel)).trans ((lk_miss (by decide +kernel)).trans lk_hit)))
theorem gf_no (g : GA) {m : Str} (h1 : ¬ m = "edges") (h2 : ¬ m = "groups") (h3 : ¬ m = "depths") (h4 : ¬ m = "heights") (h5 : ¬ m = "chosen") : (gf g).lookup m = none :=
  (lk_miss h1).trans ((lk_miss h2).trans ((lk_miss h3).trans ((lk_miss h4).trans (lk_miss h5))))
/-- a tracked list of ints -/
def IsT (H : Hp) (v : V) (l : List Int) : Prop := ∃ a, v = .ref a ∧ H a = some (.lst (l.map V.int))
theorem IsT.mono {H H' : Hp} (s : Same H H') {v l} (h : IsT H v l) : IsT H' v l := let ⟨a, e, q⟩ := h; ⟨a, e, s _ _ q⟩
theorem IsT.is {K : PySem.W.Frag} {H : Hp} {v l} (h : IsT H v l) : IsIs K H v l := let ⟨a, e, q⟩ := h; ⟨a, e, SqL.of q⟩
/-- the depths, by the heights -/
def DepOk (n : Nat) (hs : Gw.Hts) (ds : List Int) : Prop := ds.length = n ∧ ∀ v : Nat, v < n → ds.getD v 0 = Gw.ws (Gw.inn v) hs
structure Gr (K : PySem.W.Frag) (CG : Addr) (N : Gw.Net) (g : GA) (L : List Addr) (H : Hp) (s : Gw.St) : Prop where
  sub : ∀ b ∈ g.four, b ∈ L
  tr : ∀ b ∈ L, ∃ u, H b = some u
  nd : g.four.Nodup
  at_ : off L H g.x = some (.ins CG g.dx (gf g))
  ed : ∃ xs, off L H g.le = some (.lst xs) ∧ Paired (IsEd K (off L H)) xs N.es
  gs : ∃ gx, H g.lg = some (.lst gx) ∧ Paired (IsT (off L H)) gx s.gs
  ds : ∃ ds : List Int, H g.ld = some (.lst (ds.map V.int)) ∧ DepOk N.n s.hs ds
  hs : ∃ hx, H g.lh = some (.lst hx) ∧ Paired (IsHt K (off L H)) hx s.hs
  ch : H g.lc = some (.lst (s.ch.map V.int))
section
variable {K : PySem.W.Frag} {CG : Addr} {N : Gw.Net} {g : GA} {L L' : List Addr} {H H' : Hp} {s : Gw.St}
theorem Gr.mono (sm : Same H H') (h : Gr K CG N g L H s) : Gr K CG N g L H' s := by
  have so : Same (off L H) (off L H') := off_mono sm
  obtain ⟨xs, e1, e2⟩ := h.ed
  obtain ⟨gx, g1, g2⟩ := h.gs
  obtain ⟨ds, d1, d2⟩ := h.ds
  obtain ⟨hx, h1, h2⟩ := h.hs
  exact ⟨h.sub, fun b hb => let ⟨u, e⟩ := h.tr b hb; ⟨u, sm _ _ e⟩, h.nd, so _ _ h.at_, ⟨xs, so _ _ e1, e2.mono fun _ _ => IsEd.mono so⟩, ⟨gx, sm _ _ g1, g2.mono fun _ _ => IsT.mono so⟩, ⟨ds, sm _ _ d1, d2⟩, ⟨hx, sm _ _ h1, h2.mono fun _ _ => IsHt.mono so⟩, sm _ _ h.ch⟩
/-- other lists besides -/
theorem Gr.besides (hs : ∀ b ∈ g.four, b ∈ L') (ht : ∀ b ∈ L', ∃ u, H' b = some u) (so : Same (off L H) (off L' H')) (k1 : H' g.lg = H g.lg) (k2 : H' g.ld = H g.ld) (k3 : H' g.lh = H g.lh) (k4 : H' g.lc = H g.lc) (h : Gr K CG N g L H s) : Gr K CG N g L' H' s := by
  obtain ⟨xs, e1, e2⟩ := h.ed
  obtain ⟨gx, g1, g2⟩ := h.gs
  obtain ⟨ds, d1, d2⟩ := h.ds
  obtain ⟨hx, h1, h2⟩ := h.hs
  exact ⟨hs, ht, h.nd, so _ _ h.at_, ⟨xs, so _ _ e1, e2.mono fun _ _ => IsEd.mono so⟩, ⟨gx, k1.trans g1, g2.mono fun _ _ => IsT.mono so⟩, ⟨ds, k2.trans d1, d2⟩, ⟨hx, k3.trans h1, h2.mono fun _ _ => IsHt.mono so⟩, k4.trans h.ch⟩
theorem off_less (h : ∀ b ∈ L', b ∈ L) : Same (off L H) (off L' H) := fun b u e => by
  by_cases m : b ∈ L
  · rw [off_in m] at e; cases e
  · rw [off_out m] at e; rw [off_out fun z => m (h b z)]; exact e
theorem Gr.less (hs : ∀ b ∈ g.four, b ∈ L') (hl : ∀ b ∈ L', b ∈ L) (h : Gr K CG N g L H s) : Gr K CG N g L' H s :=
  h.besides hs (fun b hb => h.tr b (hl b hb)) (off_less hl) rfl rfl rfl rfl
/-- a new place is none of the four -/
theorem Gr.new {p : Addr} (hp : H p = none) (h : Gr K CG N g L H s) : p ≠ g.lg ∧ p ≠ g.ld ∧ p ≠ g.lh ∧ p ≠ g.lc := by
  obtain ⟨gx, g1, g2⟩ := h.gs
  obtain ⟨ds, d1, d2⟩ := h.ds
  obtain ⟨hx, h1, h2⟩ := h.hs
  exact ⟨ne_of_none' g1 hp, ne_of_none' d1 hp, ne_of_none' h1 hp, ne_of_none' h.ch hp⟩
where
  ne_of_none' {H : Hp} {a p : Addr} {u : HO} (e : H a = some u) (hp : H p = none) : p ≠ a := fun z => by rw [z, e] at hp; cases hp
theorem Gr.push {p : Addr} {o : HO} (hp : H p = none) (h : Gr K CG N g L H s) : Gr K CG N g (p :: L) (upd H p o) s := by
  obtain ⟨a, b, c, d⟩ := h.new hp
  refine h.besides (fun b hb => List.mem_cons_of_mem _ (h.sub b hb)) (fun b hb => ?_) (fun b u e => ?_) (upd_ne a.symm) (upd_ne b.symm) (upd_ne c.symm) (upd_ne d.symm)
  · by_cases e : b = p
    · exact ⟨o, by rw [e, upd_same]⟩
    · obtain ⟨u, hu⟩ := h.tr b ((List.mem_cons.mp hb).resolve_left e)
      exact ⟨u, by rw [upd_ne e]; exact hu⟩
  by_cases m : b ∈ L
  · rw [off_in m] at e; cases e
  · rw [off_out m] at e
    have ne : b ≠ p := fun z => by rw [z, hp] at e; cases e
    rw [off_out fun z => (List.mem_cons.mp z).elim ne m, upd_ne ne]
    exact e
/-- a list that is none of the four changes -/
theorem Gr.put {p : Addr} {o : HO} (hp : p ∈ L) (hn : p ∉ g.four) (h : Gr K CG N g L H s) : Gr K CG N g L (upd H p o) s := by
  have m : ∀ {b}, b ∈ g.four → b ≠ p := fun hb e => hn (e ▸ hb)
  refine h.besides h.sub (fun b hb => by
    by_cases e : b = p
    · exact ⟨o, by rw [e, upd_same]⟩
    · rw [upd_ne e]; exact h.tr b hb) (by rw [off_put hp]; exact Same.refl _) (upd_ne (m ?_)) (upd_ne (m ?_)) (upd_ne (m ?_)) (upd_ne (m ?_)) <;> simp [GA.four]
theorem four_ne (h : g.four.Nodup) : g.lg ≠ g.ld ∧ g.lg ≠ g.lh ∧ g.lg ≠ g.lc ∧ g.ld ≠ g.lh ∧ g.ld ≠ g.lc ∧ g.lh ≠ g.lc := by
  unfold GA.four at h
  simp only [List.nodup_cons, List.mem_cons, List.not_mem_nil, or_false, not_or] at h
  exact ⟨h.1.1, h.1.2.1, h.1.2.2, h.2.1.1, h.2.1.2, h.2.2.1⟩
theorem Gr.insv (h : Gr K CG N g L H s) : H g.x = some (.ins CG g.dx (gf g)) := off_sub L _ _ h.at_
end
end K5

namespace K5
open PySem PySem.Spec PyProof.Rows L2
section
variable {N : Gw.Net} (o : N.Ok) {f : Gw.St} {kvs : Gw.Hts}
include o
theorem end_one (F : Gw.Fit N f) (S : Gw.Sums f.hs kvs) {e : List Int × Int} (he : e ∈ kvs) : e.2 ≤ N.prL e.1 * Gw.UN := by
  obtain ⟨e', he', eq⟩ := S.sub e he
  have a : e.2 ≤ Gw.ws (Gw.sub (· ∈ e.1)) kvs := by
    have q := Gw.sum_map_ge_one (f := fun x : List Int × Int => Gw.sub (· ∈ e.1) x.1 * x.2) (l := kvs) (fun x hx => Int.mul_nonneg Gw.sub_nn (Int.le_of_lt (S.pos x hx))) he
    have z : Gw.sub (· ∈ e.1) e.1 = 1 := by unfold Gw.sub; rw [if_pos fun v h => h]
    simp only [z, Int.one_mul] at q
    exact q
  rw [S.ws] at a
  have b := F.I.hpr e' he'
  rw [eq] at b
  omega
theorem end_set (F : Gw.Fit N f) (S : Gw.Sums f.hs kvs) {e : List Int × Int} (he : e ∈ kvs) : SetOk N.n e.1 := by
  obtain ⟨e', he', eq⟩ := S.sub e he
  rw [← eq]
  exact ⟨F.I.hne e' he', F.I.hasc e' he', F.I.hrng e' he'⟩
theorem end_len (F : Gw.Fit N f) (S : Gw.Sums f.hs kvs) : kvs.length ≤ 2 * N.n := by
  obtain ⟨all, h1, h2, h3⟩ := F.seen
  have a := Gw.len_le (a := kvs.map (·.1)) (b := all) S.nd fun x hx => by
    obtain ⟨e, he, rfl⟩ := List.mem_map.mp hx
    obtain ⟨e', he', eq⟩ := S.sub e he
    rw [← eq]; exact h3 e' he'
  have b := F.I.len
  rw [List.length_map] at a
  omega
theorem end_mos (hn : N.n ≤ 9) (F : Gw.Fit N f) (S : Gw.Sums f.hs kvs) : MosOk N.n (kvs.map Gw.frac) ∧ ∀ m ∈ kvs.map Gw.frac, m.2.2 ≤ 2 ^ 18 ∧ m.2.1 < 2 ^ 250 := by
  have bd : ∀ e ∈ kvs, Gw.FrOk (Gw.lowest e.2 Gw.UN) ∧ (Gw.lowest e.2 Gw.UN).2 ≤ 2 ^ 18 ∧ (Gw.lowest e.2 Gw.UN).1 < 2 ^ 250 := fun e he => by
    have p := S.pos e he
    have a := end_one o F S he
    obtain ⟨s1, s2, s3⟩ := end_set o F S he
    have ln : e.1.length ≤ 40 := by have := nodup_len (Gw.asc_nodup s2) s3; omega
    obtain ⟨b0, b1⟩ := prL_bd o ln
    have u0 := Gw.UN_pos
    have m := Int.mul_lt_mul_of_pos_right b1 u0
    have u : (2 : Int) ^ 40 * Gw.UN = 2 ^ 240 := by unfold Gw.UN; decide +kernel
    have z1 : (2 : Int) ^ 240 < 2 ^ 250 := by decide +kernel
    have z2 : (2 : Int) ^ 250 < 2 ^ 300 := by decide +kernel
    obtain ⟨l0, l1, l2⟩ := Gw.lowest_le (Int.le_of_lt p) u0
    obtain ⟨d0, de⟩ := Gw.lowest_exact e.2
    have n0 : 0 < (Gw.lowest e.2 Gw.UN).1 := by
      rcases Int.lt_or_eq_of_le l0 with q | q
      · exact q
      · rw [← q, Int.zero_mul] at de
        have := Int.mul_pos p d0
        omega
    have dv : (2 : Int) ^ (200 - 18) ∣ e.2 := by
      refine S.dvd _ (fun x hx => Int.dvd_trans (Gw.pow_dvd ?_) (F.D x hx)) e he
      have := Gw.mu_nn f
      unfold Gw.dvE
      omega
    exact ⟨⟨n0, by omega, d0, l2, Gw.lowest_gcd u0⟩, Gw.lowest_small p (by decide) dv, by omega⟩
  refine ⟨⟨?_, fun m hm => ?_, fun m hm => ?_⟩, fun m hm => ?_⟩
  · have := end_len o F S
    rw [List.length_map]; omega
  all_goals obtain ⟨e, he, rfl⟩ := List.mem_map.mp hm
  · exact end_set o F S he
  · exact (bd e he).1
  · exact (bd e he).2
theorem end_sum (t : List Int → Bool) (g : List Int → Int) (hg : ∀ e ∈ f.hs, (if t e.1 = true then (1 : Int) else 0) = g e.1) (S : Gw.Sums f.hs kvs) {p : Int} (h : Gw.ws g f.hs ≤ p * Gw.UN) : LeSum (kvs.map Gw.frac) (fun m => t m.1) p := by
  obtain ⟨a, b⟩ := Gw.part_exact kvs t
  rw [S.ws, Gw.ws_congr hg] at b
  exact Gw.le_of_exact a b h
theorem end_good (F : Gw.Fit N f) (S : Gw.Sums f.hs kvs) : GoodP N (kvs.map Gw.frac) := by
  have e1 : (kvs.map Gw.frac).map (·.1) = kvs.map (·.1) := by rw [List.map_map]; rfl
  refine ⟨fun k j hj hk => ?_, fun e he => ?_, fun m hm => ?_⟩
  · rw [List.length_map] at hk
    have hk2 : k < (kvs.map (·.1)).length := by rw [List.length_map]; exact hk
    have hj2 : j < (kvs.map (·.1)).length := by omega
    rw [e1, Gw.getD_lt hk2, Gw.getD_lt hj2]
    have ne : (kvs.map (·.1))[k] ≠ (kvs.map (·.1))[j] := fun e => by
      have := (List.nodup_iff_pairwise_ne.mp S.nd)
      rw [List.pairwise_iff_getElem] at this
      exact this j k hj2 hk2 hj e.symm
    refine ⟨ne, ?_⟩
    simp only [List.getElem_map] at ne ⊢
    obtain ⟨x, hx, ex⟩ := S.sub _ (List.getElem_mem (l := kvs) (n := k) hk)
    obtain ⟨y, hy, ey⟩ := S.sub _ (List.getElem_mem (l := kvs) (n := j) (by omega))
    rw [← ex, ← ey] at ne ⊢
    rcases Gw.pair_any F.I.hlam hx hy (fun e => ne (by rw [e])) with (q | q) | (q | q)
    · exact .inr (.inl q)
    · exact .inl q
    · exact .inr (.inr q)
    · exact .inl fun v h h2 => q v h2 h
  · refine end_sum o (fun g => cutB e.1 e.2.1 g) (Gw.cut e.1 e.2.1) (fun x hx => ?_) S (F.I.epd e he)
    unfold cutB Gw.cut
    by_cases a : e.1 ∈ x.1 <;> by_cases b : e.2.1 ∈ x.1 <;> simp [a, b]
  · obtain ⟨e, he, rfl⟩ := List.mem_map.mp hm
    obtain ⟨e', he', eq⟩ := S.sub e he
    have r := F.I.hrt e' he'
    have q := F.I.hpr e' he'
    rw [eq] at r q
    refine ⟨r, end_sum o (fun g => dec (∀ v ∈ g, v ∈ e.1)) (Gw.sub (· ∈ e.1)) (fun x hx => ?_) S q⟩
    unfold Gw.sub
    by_cases a : ∀ v ∈ x.1, v ∈ e.1
    · rw [dec_t a, if_pos rfl, if_pos a]
    · rw [dec_f a, if_neg Bool.false_ne_true, if_neg a]
theorem end_tot (S : Gw.Sums f.hs kvs) : 0 < (Gw.fsum ((kvs.map Gw.frac).map (·.2))).2 ∧ (Gw.fsum ((kvs.map Gw.frac).map (·.2))).1 * Gw.UN = Gw.tot f.hs * (Gw.fsum ((kvs.map Gw.frac).map (·.2))).2 := by
  have q := Gw.part_exact kvs fun _ => true
  rw [List.filter_eq_self.mpr fun _ _ => rfl, S.ws] at q
  exact q
theorem end_le (F : Gw.Fit N f) (S : Gw.Sums f.hs kvs) {C : List Int} (hC : ∀ k ∈ C, N.isE k) : (Gw.fsum ((kvs.map Gw.frac).map (·.2))).1 ≤ costC N C * (Gw.fsum ((kvs.map Gw.frac).map (·.2))).2 := by
  obtain ⟨a, b⟩ := end_tot o S
  exact Gw.le_of_exact a b (Gw.weak o F.I hC (rs_reach N C))
theorem end_near (st : Gw.Star N (Gw.st0 N.n) f) (F : Gw.Fit N f) {C : List Int} (T : Gw.Tree N f C) (h1 : ∀ X ∈ f.sp, Gw.dT N C X ≠ 1) (n2 : 2 ≤ N.n) : ((N.n : Int) - 1) * costC N C * Gw.UN ≤ (2 * (N.n : Int) - 3) * Gw.tot f.hs :=
  Gw.near o T.cT T.hT T.nT n2 h1 st T.cov (rs_reach N C)
theorem end_due (st : Gw.Star N (Gw.st0 N.n) f) (F : Gw.Fit N f) (S : Gw.Sums f.hs kvs) {C : List Int} (T : Gw.Tree N f C) (h1 : ∀ X ∈ f.sp, Gw.dT N C X ≠ 1) (asc : C.Pairwise (· < ·)) : DueP N C (kvs.map Gw.frac) := by
  have hE : ∀ k ∈ C, N.isE k := fun k hk => F.I.cE k (T.hT k hk)
  refine ⟨end_good o F S, AscP.of asc hE, ?_⟩
  by_cases n1 : N.n = 1
  · rw [if_pos n1]
    cases C with
    | nil => rfl
    | cons k C =>
      have q := ed_ok o (hE k List.mem_cons_self)
      have a := q.1
      have b := q.2.1
      have c := q.2.2.1
      omega
  · rw [if_neg n1]
    have n2 : 2 ≤ N.n := by have := o.n1; omega
    obtain ⟨a, b⟩ := end_tot o S
    have q := Int.mul_le_mul_of_nonneg_right (end_near o st F T h1 n2) (Int.le_of_lt a)
    generalize (Gw.fsum ((kvs.map Gw.frac).map (·.2))) = z at *
    refine Int.le_of_mul_le_mul_right (a := Gw.UN) ?_ Gw.UN_pos
    have e1 : ((N.n : Int) - 1) * costC N C * z.2 * Gw.UN = ((N.n : Int) - 1) * costC N C * Gw.UN * z.2 := Int.mul_right_comm ..
    have e2 : (2 * (N.n : Int) - 3) * z.1 * Gw.UN = (2 * (N.n : Int) - 3) * Gw.tot f.hs * z.2 := by rw [Int.mul_assoc, b, ← Int.mul_assoc]
    rw [e1, e2]; exact q
/-- near the least one -/
theorem end_least (st : Gw.Star N (Gw.st0 N.n) f) (F : Gw.Fit N f) {C D : List Int} (T : Gw.Tree N f C) (h1 : ∀ X ∈ f.sp, Gw.dT N C X ≠ 1) (n2 : 2 ≤ N.n) (hD : ∀ k ∈ D, N.isE k) : ((N.n : Int) - 1) * costC N C ≤ (2 * (N.n : Int) - 3) * costC N D := by
  have a := end_near o st F T h1 n2
  have b := Int.mul_le_mul_of_nonneg_left (Gw.weak o F.I hD (rs_reach N D)) (show 0 ≤ 2 * (N.n : Int) - 3 by omega)
  refine Int.le_of_mul_le_mul_right (a := Gw.UN) ?_ Gw.UN_pos
  rw [Int.mul_assoc (2 * (N.n : Int) - 3)]
  exact Int.le_trans a b
end
end K5

namespace K5
open PySem PySem.Spec PyProof.Rows L2
/-- over range(n), each item new or old: what it is stands beside it -/
theorem lc_newR {g : TG} {te : TE} {vs : List Nat} {σ : L2.St} {H1 : Hp} {D : Addr} {Qd : Hp → Prop} (n : Nat) (R : Nat → Hp → V → Prop) (hR : ∀ i H H' v, Same H H' → R i H v → R i H' v)
    (hD : H1 D = none) (hz : n ≤ sizeLine)
    (turn : ∀ i : Nat, i < n → ∀ H, Same H1 H → (∃ acc, H D = some (.lst acc)) → ∀ (Qt : V → Hp → Prop), (∀ H4 v, Same H H4 → R i (off [D] H4) v → Qt v H4) → g (.int i) (wipe σ vs) H fun σ2 H2 => wipe σ2 vs = wipe σ vs ∧ te σ2 H2 Qt)
    (done : ∀ H xs, Same H1 H → H D = some (.lst xs) → Paired (fun v i => R i (off [D] H) v) xs (List.range n) → Qd H) :
    ∃ W : Nat → Nat → Hp → Prop, (∃ m, W 0 m (upd H1 D (.lst []))) ∧ ∀ i m H, W i m H →
      ((Itr 0 n).stop i H ∧ Qd H) ∨ ((Itr 0 n).go i H ∧ ∃ Nx : Hp → Prop, (∀ H', Nx H' → ∃ m', m' < m ∧ W (i + 1) m' H') ∧ ∀ x H', (Itr 0 n).yld i H x H' → g x (wipe σ vs) H' fun σ2 H2 => wipe σ2 vs = wipe σ vs ∧ tYes σ2 H2 fun b H3 =>
        if b = true then te σ2 H3 fun y H4 => ∃ acc, H4 D = some (.lst acc) ∧ acc.length < sizeLine ∧ Nx (upd H4 D (.lst (acc ++ [y]))) else Nx H3) := by
  refine lc_range (lo := 0) (n := n) (fun i H => Same H1 H ∧ ∃ xs, H D = some (.lst xs) ∧ Paired (fun v i => R i (off [D] H) v) xs (List.range i)) ⟨Same.new hD, [], upd_same, .nil⟩ (fun i H hi h => ?_) (fun H h => ?_)
  · have e0 : (0 : Int) + (i : Int) = (i : Int) := Int.zero_add _
    rw [e0]
    have e : (fun (σ2 : L2.St) (H2 : Hp) => wipe σ2 vs = wipe σ vs ∧ tYes σ2 H2 fun b H3 =>
        if b = true then te σ2 H3 fun y H4 => ∃ acc, H4 D = some (.lst acc) ∧ acc.length < sizeLine ∧ (Same H1 (upd H4 D (.lst (acc ++ [y]))) ∧ ∃ xs, (upd H4 D (.lst (acc ++ [y]))) D = some (.lst xs) ∧ Paired (fun v i => R i (off [D] (upd H4 D (.lst (acc ++ [y])))) v) xs (List.range (i + 1)))
        else (Same H1 H3 ∧ ∃ xs, H3 D = some (.lst xs) ∧ Paired (fun v i => R i (off [D] H3) v) xs (List.range (i + 1)))) =
        (fun (σ2 : L2.St) (H2 : Hp) => wipe σ2 vs = wipe σ vs ∧ te σ2 H2 fun y H4 => ∃ acc, H4 D = some (.lst acc) ∧ acc.length < sizeLine ∧ (Same H1 (upd H4 D (.lst (acc ++ [y]))) ∧ ∃ xs, (upd H4 D (.lst (acc ++ [y]))) D = some (.lst xs) ∧ Paired (fun v i => R i (off [D] (upd H4 D (.lst (acc ++ [y])))) v) xs (List.range (i + 1)))) := by
      funext σ2 H2
      unfold tYes
      dsimp only
      rw [if_pos rfl]
    rw [e]
    obtain ⟨s1, xs, hxs, hp⟩ := h
    refine turn i hi H s1 ⟨xs, hxs⟩ _ fun H4 v s4 r => ⟨xs, s4 _ _ hxs, ?_, Same.put (s1.trans s4) hD, xs ++ [v], upd_same, ?_⟩
    · have := hp.length
      rw [List.length_range] at this
      omega
    · rw [List.range_succ, off_put (List.mem_singleton.mpr rfl)]
      exact Paired.app (hp.mono fun v j h => hR _ _ _ _ (off_mono s4) h) (.cons r .nil)
  · obtain ⟨s1, xs, hxs, hp⟩ := h
    exact done H xs s1 hxs hp
/-- over a list -/
theorem lc_new {β : Type} {K : PySem.W.Frag} {a : Addr} {g : TG} {te : TE} {vs : List Nat} {σ : L2.St} {H1 : Hp} {D : Addr} {Qd : Hp → Prop} (l : List β) (val : β → V) (R : β → Hp → V → Prop) (hR : ∀ y H H' v, Same H H' → R y H v → R y H' v)
    (hD : H1 D = none) (hs : SqL K H1 a (l.map val)) (hz : l.length ≤ sizeLine)
    (turn : ∀ y ∈ l, ∀ H, Same H1 H → (∃ acc, H D = some (.lst acc)) → ∀ (Qt : V → Hp → Prop), (∀ H4 v, Same H H4 → R y (off [D] H4) v → Qt v H4) → g (val y) (wipe σ vs) H fun σ2 H2 => wipe σ2 vs = wipe σ vs ∧ te σ2 H2 Qt)
    (done : ∀ H xs, Same H1 H → H D = some (.lst xs) → Paired (fun v y => R y (off [D] H) v) xs l → Qd H) :
    ∃ W : Nat → Nat → Hp → Prop, (∃ m, W 0 m (upd H1 D (.lst []))) ∧ ∀ i m H, W i m H →
      ((Itl K a).stop i H ∧ Qd H) ∨ ((Itl K a).go i H ∧ ∃ Nx : Hp → Prop, (∀ H', Nx H' → ∃ m', m' < m ∧ W (i + 1) m' H') ∧ ∀ x H', (Itl K a).yld i H x H' → g x (wipe σ vs) H' fun σ2 H2 => wipe σ2 vs = wipe σ vs ∧ tYes σ2 H2 fun b H3 =>
        if b = true then te σ2 H3 fun y H4 => ∃ acc, H4 D = some (.lst acc) ∧ acc.length < sizeLine ∧ Nx (upd H4 D (.lst (acc ++ [y]))) else Nx H3) := by
  refine lc_list (xs := l.map val) (fun i H => Same H1 H ∧ ∃ xs, H D = some (.lst xs) ∧ Paired (fun v y => R y (off [D] H) v) xs (l.take i)) ⟨Same.new hD, [], upd_same, .nil⟩ (fun i H _ h => SqL.mono h.1 hs) (fun i x H hx h => ?_) (fun H h => ?_)
  · rw [List.getElem?_map] at hx
    obtain ⟨y, hy, rfl⟩ := Option.map_eq_some_iff.mp hx
    obtain ⟨hi, hy2⟩ := List.getElem?_eq_some_iff.mp hy
    have htk : l.take (i + 1) = l.take i ++ [y] := by rw [List.take_add_one, hy]; rfl
    have e : (fun (σ2 : L2.St) (H2 : Hp) => wipe σ2 vs = wipe σ vs ∧ tYes σ2 H2 fun b H3 =>
        if b = true then te σ2 H3 fun y H4 => ∃ acc, H4 D = some (.lst acc) ∧ acc.length < sizeLine ∧ (Same H1 (upd H4 D (.lst (acc ++ [y]))) ∧ ∃ xs, (upd H4 D (.lst (acc ++ [y]))) D = some (.lst xs) ∧ Paired (fun v b => R b (off [D] (upd H4 D (.lst (acc ++ [y])))) v) xs (l.take (i + 1)))
        else (Same H1 H3 ∧ ∃ xs, H3 D = some (.lst xs) ∧ Paired (fun v b => R b (off [D] H3) v) xs (l.take (i + 1)))) =
        (fun (σ2 : L2.St) (H2 : Hp) => wipe σ2 vs = wipe σ vs ∧ te σ2 H2 fun y H4 => ∃ acc, H4 D = some (.lst acc) ∧ acc.length < sizeLine ∧ (Same H1 (upd H4 D (.lst (acc ++ [y]))) ∧ ∃ xs, (upd H4 D (.lst (acc ++ [y]))) D = some (.lst xs) ∧ Paired (fun v b => R b (off [D] (upd H4 D (.lst (acc ++ [y])))) v) xs (l.take (i + 1)))) := by
      funext σ2 H2
      unfold tYes
      dsimp only
      rw [if_pos rfl]
    rw [e]
    obtain ⟨s1, xs, hxs, hp⟩ := h
    refine turn y (List.mem_of_getElem? hy) H s1 ⟨xs, hxs⟩ _ fun H4 v s4 r => ⟨xs, s4 _ _ hxs, ?_, Same.put (s1.trans s4) hD, xs ++ [v], upd_same, ?_⟩
    · have := hp.length
      rw [List.length_take] at this
      omega
    · rw [htk, off_put (List.mem_singleton.mpr rfl)]
      exact Paired.app (hp.mono fun v j h => hR _ _ _ _ (off_mono s4) h) (.cons r .nil)
  · obtain ⟨s1, xs, hxs, hp⟩ := h
    rw [List.length_map, List.take_length] at hp
    exact done H xs s1 hxs hp
section
variable {K : PySem.W.Frag} {H : Hp} {x : Addr} {C dx : Addr} {fs : List (Str × V)}
theorem Rd.offx (hx : H x = some (.ins C dx fs)) {a : Addr} {u : HO} (hu : ∀ C d f, u ≠ .ins C d f) (h : Rd H a u) : Rd (off [x] H) a u := by
  have ne : a ∉ [x] := fun m => by
    rw [List.mem_singleton] at m
    subst m
    rcases h with h | ⟨o, h⟩
    · rw [hx] at h; injection h with h; exact hu _ _ _ h.symm
    · rw [hx] at h; injection h with h; cases h
  unfold Rd
  rw [off_out ne]
  exact h
theorem IsEd.offx (hx : H x = some (.ins C dx fs)) {v : V} {e : Ed} (h : IsEd K H v e) : IsEd K (off [x] H) v e := by
  obtain ⟨a, e, q⟩ := h
  exact ⟨a, e, q.imp (Rd.offx hx fun _ _ _ z => by cases z) id⟩
theorem IsIs.offx (hx : H x = some (.ins C dx fs)) {v : V} {e : List Int} (h : IsIs K H v e) : IsIs K (off [x] H) v e := by
  obtain ⟨a, e, q⟩ := h
  exact ⟨a, e, q.imp (Rd.offx hx fun _ _ _ z => by cases z) id⟩
theorem NetAt.offx (hx : H x = some (.ins C dx [])) {CN : Addr} {n : Nat} {es : List Ed} {v : V} (h : NetAt K H CN n es v) : NetAt K (off [x] H) CN n es v := by
  obtain ⟨p, d2, le, xs, e, h1, h2, h3⟩ := h
  have np : p ∉ [x] := fun m => by
    rw [List.mem_singleton] at m
    subst m
    rw [hx] at h1; injection h1 with h1; injection h1 with _ _ h1; cases h1
  have nl : le ∉ [x] := fun m => by
    rw [List.mem_singleton] at m
    subst m
    rw [hx] at h2; injection h2 with h2; cases h2
  exact ⟨p, d2, le, xs, e, by rw [off_out np]; exact h1, by rw [off_out nl]; exact h2, h3.mono fun _ _ => IsEd.offx hx⟩
end
/-- all but the places of L kept -/
theorem off_off {L : List Addr} {H : Hp} : off L (off L H) = off L H := by
  funext b
  by_cases h : b ∈ L
  · rw [off_in h, off_in h]
  · rw [off_out h]
theorem same_into {L : List Addr} {H H' : Hp} (s : Same (off L H) H') : Same (off L H) (off L H') := fun b u e => by
  by_cases h : b ∈ L
  · rw [off_in h] at e; cases e
  · rw [off_out h]; exact s _ _ e
/-- a place of L changes -/
theorem same_at {L : List Addr} {H H' : Hp} {p : Addr} {o : HO} (s : Same (off L H) H') (h : p ∈ L) : Same (off L H) (upd H' p o) := fun b u e => by
  have ne : b ≠ p := fun z => by rw [z, off_in h] at e; cases e
  rw [upd_ne ne]; exact s _ _ e
end K5

namespace K5
open PySem PySem.Spec PyProof.Rows L2
theorem tr_rec {H : Hp} : ∀ {xs : List V} {gs : List (List Int)}, Paired (IsT H) xs gs → ∃ R : List (Addr × List Int), xs = R.map (fun r => V.ref r.1) ∧ gs = R.map (·.2) ∧ ∀ r ∈ R, H r.1 = some (.lst (r.2.map V.int))
  | _, _, .nil => ⟨[], rfl, rfl, fun _ h => by cases h⟩
  | _, _, .cons r t => by
    obtain ⟨R, e1, e2, h⟩ := tr_rec t
    obtain ⟨a, e, q⟩ := r
    refine ⟨(a, _) :: R, by rw [List.map_cons, ← e1, e], by rw [List.map_cons, ← e2], fun r hr => ?_⟩
    rcases List.mem_cons.mp hr with z | z
    · subst z; exact q
    · exact h r z
theorem is_rec {K : PySem.W.Frag} {H : Hp} : ∀ {xs : List V} {gs : List (List Int)}, Paired (IsIs K H) xs gs → ∃ R : List (Addr × List Int), xs = R.map (fun r => V.ref r.1) ∧ gs = R.map (·.2) ∧ ∀ r ∈ R, SqL K H r.1 (r.2.map V.int)
  | _, _, .nil => ⟨[], rfl, rfl, fun _ h => by cases h⟩
  | _, _, .cons r t => by
    obtain ⟨R, e1, e2, h⟩ := is_rec t
    obtain ⟨a, e, q⟩ := r
    refine ⟨(a, _) :: R, by rw [List.map_cons, ← e1, e], by rw [List.map_cons, ← e2], fun r hr => ?_⟩
    rcases List.mem_cons.mp hr with z | z
    · subst z; exact q
    · exact h r z
/-- a height as it stands: its tuple, its list -/
structure HtR where
  a : Addr
  g : Addr
  e : List Int × Int
theorem ht_rec {K : PySem.W.Frag} {H : Hp} : ∀ {xs : List V} {hs : Gw.Hts}, Paired (IsHt K H) xs hs → ∃ R : List HtR, xs = R.map (fun r => V.ref r.a) ∧ hs = R.map (·.e) ∧ ∀ r ∈ R, SqT K H r.a [.ref r.g, .int r.e.2] ∧ SqL K H r.g (r.e.1.map V.int)
  | _, _, .nil => ⟨[], rfl, rfl, fun _ h => by cases h⟩
  | _, _, .cons r t => by
    obtain ⟨R, e1, e2, h⟩ := ht_rec t
    obtain ⟨a, g, e, q, g2, rfl, q2⟩ := r
    refine ⟨⟨a, g2, _⟩ :: R, by rw [List.map_cons, ← e1, e], by rw [List.map_cons, ← e2], fun r hr => ?_⟩
    rcases List.mem_cons.mp hr with z | z
    · subst z; exact ⟨q, q2⟩
    · exact h r z
section
variable {P : Program} {w : World} {K : PySem.W.Frag} {mg : Str → Option Value} {base : Heap} {CN CG : Addr}
abbrev s_Growth_group_of : Stmt := L2.inClass (top 36) 1
theorem sc_Growth_group_of : FnScope ["self", "vertex", "group"] ["self", "vertex"] (C8.fnScope s_Growth_group_of) := C8.fnScope_by (by decide +kernel)

def spGroupOf (K : PySem.W.Frag) (CG : Addr) : Sp := fun vs H Q _ => ∃ (N : Gw.Net) (g : GA) (L : List Addr) (st : Gw.St) (v : Int), vs = [.ref g.x, .int v] ∧ Gr K CG N g L H st ∧ N.Ok ∧ Gw.Inv N st ∧ (0 ≤ v ∧ v < N.n) ∧
  ∀ H' p gr, Same H H' → gr ∈ st.gs → v ∈ gr → off L H p = some (.lst (gr.map V.int)) → Q (.ref p) H'
theorem ok_groupOf (F : MetAt K CG "group_of" "Growth.group_of" s_Growth_group_of ["self", "vertex"]) (T : Txt K mg CN CG) : C8.Met P w K mg base 1 CG "group_of" (spGroupOf K CG) [] := by
  refine met F T.clG sc_Growth_group_of (fun vs H Q E h => ?_) (fun f cdv A outer s H vs Q E hr h => ?_)
  · obtain ⟨_, _, _, _, _, rfl, _⟩ := h; rfl
  · obtain ⟨N, g, L, st, v, rfl, G, o, I, ⟨v0, v1⟩, q⟩ := h
    have nd := sc_Growth_group_of.nd
    refine ⟨_, (pss_one (ps_ret (pe_ix (ixl K) (pe_lc (own := [("group", 2)]) rfl nd (pi_l K (pe_f K (pv 0))) (blkOk_by (by kernel_rfl)) (fun _ _ _ _ _ => (pg_name (i := 2) nd rfl (Or.inl rfl))) (fun _ _ _ _ _ => (pts_one (pt_cmpR (inS K) (pv 1) (pv 2) (by rfl)))) (fun _ _ _ _ _ => (pv 2))) pe_int (fun _ _ => rfl)))), ?_⟩
    obtain ⟨gx, hg, hp⟩ := G.gs
    obtain ⟨R, rfl, eR, hR⟩ := tr_rec hp
    have n9 := o.n9
    have gl := Gw.part_len I
    have rl : R.length ≤ 40 := by rw [eR, List.length_map] at gl; omega
    refine ⟨_, rfl, g.x, CG, g.dx, _, _, rfl, G.insv, T.clG, T.gGroups, gf_groups g, g.lg, rfl, ⟨_, SqL.of hg⟩, fun D hD => ?_⟩
    refine lc_read R (fun r => .ref r.1) (fun r => .ref r.1) (fun r => decide (v ∈ r.2)) hD (SqL.of hg) (by rw [szl]; omega) (fun y hy H2 s2 Qt Qf ht hf => ?_) (fun H2 s2 hD2 => ?_)
    · have hy2 := s2 _ _ (off_sub L _ _ (hR y hy))
      refine ⟨rfl, _, rfl, _, rfl, y.1, _, rfl, .inl (SqL.of hy2), rfl, flat_ints _, _, rfl, ?_⟩
      rw [if_neg Bool.false_ne_true, inV_ints]
      by_cases h : v ∈ y.2
      · exact ifd h ⟨_, rfl, ht (decide_eq_true h) _ (Same.refl _)⟩
      · exact ifnd h (hf (decide_eq_false h) _ (Same.refl _))
    · obtain ⟨gr, hgr, vgr⟩ := I.P.cov v v0 v1
      have hgr2 := hgr
      rw [eR] at hgr2
      obtain ⟨r, hr, rfl⟩ := List.mem_map.mp hgr2
      have hm : r ∈ R.filter fun r => decide (v ∈ r.2) := List.mem_filter.mpr ⟨hr, decide_eq_true vgr⟩
      obtain ⟨r0, hr0⟩ : ∃ r0, (R.filter fun r => decide (v ∈ r.2))[0]? = some r0 := ⟨_, List.getElem?_eq_getElem (List.length_pos_of_mem hm)⟩
      obtain ⟨m1, m2⟩ := List.mem_filter.mp (List.mem_of_getElem? hr0)
      refine ⟨D, _, 0, _, rfl, rfl, SqL.of hD2, atI_nat (j := 0) (by rw [List.getElem?_map, hr0]; rfl), ?_⟩
      exact q _ _ _ s2 (by rw [eR]; exact List.mem_map.mpr ⟨r0, m1, rfl⟩) (of_decide_eq_true m2) (hR r0 m1)
abbrev s_is_active : Stmt := top 40
theorem sc_is_active : FnScope ["group", "root", "stopped"] ["group", "root", "stopped"] (C8.fnScope s_is_active) := C8.fnScope_by (by decide +kernel)

def spIsActive (K : PySem.W.Frag) : Sp := fun vs H Q _ => ∃ (v u : V) (r : Int) (gr : List Int) (sp : List (List Int)), vs = [v, .int r, u] ∧ IsIs K H v gr ∧ IsL K H (IsIs K H) u sp ∧ Q (.bl (Gw.isAct r sp gr)) H
theorem isAct_eq (r : Int) (sp : List (List Int)) (gr : List Int) : Gw.isAct r sp gr = (!decide (r ∈ gr) && !decide (gr ∈ sp)) := by
  unfold Gw.isAct
  congr 1
  · congr 1; exact List.contains_eq_mem ..
  · congr 1; exact List.contains_eq_mem ..
theorem ok_isActive (F : DefAt K mg "is_active" s_is_active ["group", "root", "stopped"]) (T : Txt K mg CN CG) : C8.Cal P w K mg base 1 "is_active" (spIsActive K) [] := by
  refine cal F sc_is_active (fun vs H Q E h => ?_) (fun f cdv A outer s H vs Q E hr h => ?_)
  · obtain ⟨_, _, _, _, _, rfl, _⟩ := h; rfl
  · obtain ⟨v, u, r, gr, sp, rfl, hv, hu, q⟩ := h
    have nd := sc_is_active.nd
    refine ⟨_, (pss_one (ps_ret (pe_and (pe_cmpR (ninS K) (pv 1) (pv 0) (by rfl)) (pe_one (pe_cmpR (ninD K (hu65 hr)) (pv 0) (pv 2) (by rfl)))))), ?_⟩
    rw [isAct_eq] at q
    obtain ⟨a, rfl, ha⟩ := id hv
    refine ⟨_, rfl, _, rfl, a, _, rfl, .inl ha, rfl, flat_ints _, ?_⟩
    rw [if_pos rfl, inV_ints]
    by_cases h : r ∈ gr
    · rw [decide_eq_true h] at q ⊢
      exact ⟨false, rfl, q⟩
    · rw [decide_eq_false h] at q ⊢
      refine ⟨true, rfl, _, rfl, _, rfl, encIs gr, sp.map encIs, hv.dp, hu.dp (enc := encIs) (fun _ _ z => z.dp), sh_is _, sh_list lay_is dep_is (by decide) _, ?_⟩
      rw [any_is]
      exact q
end
end K5

namespace K5
open PySem PySem.Spec PyProof.Rows L2
theorem none_of {W H : Hp} (s : Same W H) {p : Addr} (h : H p = none) : W p = none := by
  cases e : W p with
  | none => rfl
  | some u => rw [s _ _ e] at h; cases h
theorem rep_flat (n : Nat) (v : V) : (List.replicate n [v]).flatten = List.replicate n v := by
  induction n with
  | zero => rfl
  | succ n ih => rw [List.replicate_succ, List.flatten_cons, ih]; rfl
theorem putF_new {f : Str} {v : V} : ∀ {fs : List (Str × V)}, (∀ x ∈ fs, ¬ x.1 = f) → putF f v fs = fs ++ [(f, v)]
  | [], _ => rfl
  | (g, x) :: r, h => by
    show (if g = f then _ else (g, x) :: putF f v r) = _
    rw [if_neg (h (g, x) List.mem_cons_self), putF_new fun y hy => h y (List.mem_cons_of_mem _ hy)]; rfl
def f1 (le : Addr) : List (Str × V) := [("edges", .ref le)]
def f2 (le lg : Addr) : List (Str × V) := [("edges", .ref le), ("groups", .ref lg)]
def f3 (le lg ld : Addr) : List (Str × V) := [("edges", .ref le), ("groups", .ref lg), ("depths", .ref ld)]
def f4 (le lg ld lh : Addr) : List (Str × V) := [("edges", .ref le), ("groups", .ref lg), ("depths", .ref ld), ("heights", .ref lh)]
theorem pf2 (le lg : Addr) : putF ("groups" : Str) (V.ref lg) (f1 le) = f2 le lg := putF_new fun y hy => by
  rw [List.mem_singleton.mp hy]; show ¬ ("edges" : Str) = "groups"; decide +kernel
theorem pf3 (le lg ld : Addr) : putF ("depths" : Str) (V.ref ld) (f2 le lg) = f3 le lg ld := putF_new fun y hy => by
  rcases List.mem_cons.mp hy with e | hy
  · rw [e]; show ¬ ("edges" : Str) = "depths"; decide +kernel
  · rw [List.mem_singleton.mp hy]; show ¬ ("groups" : Str) = "depths"; decide +kernel
theorem pf4 (le lg ld lh : Addr) : putF ("heights" : Str) (V.ref lh) (f3 le lg ld) = f4 le lg ld lh := putF_new fun y hy => by
  rcases List.mem_cons.mp hy with e | hy
  · rw [e]; show ¬ ("edges" : Str) = "heights"; decide +kernel
  rcases List.mem_cons.mp hy with e | hy
  · rw [e]; show ¬ ("groups" : Str) = "heights"; decide +kernel
  · rw [List.mem_singleton.mp hy]; show ¬ ("depths" : Str) = "heights"; decide +kernel
theorem pf5 (x dx le lg ld lh lc : Addr) : putF ("chosen" : Str) (V.ref lc) (f4 le lg ld lh) = gf ⟨x, dx, le, lg, ld, lh, lc⟩ := putF_new fun y hy => by
  rcases List.mem_cons.mp hy with e | hy
  · rw [e]; show ¬ ("edges" : Str) = "chosen"; decide +kernel
  rcases List.mem_cons.mp hy with e | hy
  · rw [e]; show ¬ ("groups" : Str) = "chosen"; decide +kernel
  rcases List.mem_cons.mp hy with e | hy
  · rw [e]; show ¬ ("depths" : Str) = "chosen"; decide +kernel
  · rw [List.mem_singleton.mp hy]; show ¬ ("heights" : Str) = "chosen"; decide +kernel
section
variable {P : Program} {w : World} {K : PySem.W.Frag} {mg : Str → Option Value} {base : Heap} {CN CG : Addr}
abbrev s_Growth___init__ : Stmt := L2.inClass (top 36) 0
theorem sc_Growth___init__ : FnScope ["self", "network", "vertex"] ["self", "network"] (C8.fnScope s_Growth___init__) := C8.fnScope_by (by decide +kernel)

def spGrInit (K : PySem.W.Frag) (CN CG : Addr) : Sp := fun vs H Q _ => ∃ (x dx : Addr) (N : Gw.Net) (v : V), vs = [.ref x, v] ∧ H x = some (.ins CG dx []) ∧ NetAt K H CN N.n N.es v ∧ N.Ok ∧
  ∀ H' g, (∀ b o, H b = some o → b ≠ x → H' b = some o) → g.x = x → (∀ b ∈ g.four, H b = none) → Gr K CG N g g.four H' (Gw.st0 N.n) → Q .non H'
theorem ok_grInit (C : ∃ fI, Mk K CG fI ∧ mg "Growth" = some (.ref CG) ∧ ∃ fd, C8.Fun K "__init__" "Growth.__init__" s_Growth___init__ fI fd ∧ Binds K fd ["self", "network"] []) (T : Txt K mg CN CG) (m_edges : C8.Met P w K mg base 1 CN "edges" (spEdges K CN) []) (m_size : C8.Met P w K mg base 1 CN "size" (spSize K CN) []) : C8.Mak P w K mg base 2 "Growth" CG (spGrInit K CN CG) [] := by
  obtain ⟨fI, M, hm, fd, F, b⟩ := C
  refine C8.mak0 M hm F b .nil sc_Growth___init__ (fun vs H Q E h => ?_) (fun cdv A outer s H vs Q E hr h => ?_)
  · obtain ⟨_, _, _, _, rfl, _⟩ := h; rfl
  · obtain ⟨x, dx, N, v, rfl, hx, hN, o, q⟩ := h
    have nd := sc_Growth___init__.nd
    refine ⟨_, (pss_cons (ps_fld (pv 0) (C8.pe_mt0 m_edges hr (by decide) (pv 1)) rfl)
      (pss_cons (ps_fld (pv 0) (pe_lc (own := [("vertex", 2)]) rfl nd (pi_range1 (by rfl) T.range (pa_cons (C8.pe_mt0 m_size hr (by decide) (pv 1)) pa_nil)) (blkOk_by (by kernel_rfl)) (fun _ _ _ _ _ => (pg_name (i := 2) nd rfl (Or.inl rfl))) (fun _ _ _ _ _ => pts_nil) (fun _ _ _ _ _ => (pe_lst (pa_cons (pv 2) pa_nil)))) rfl)
      (pss_cons (ps_fld (pv 0) (pe_op op_rep (pe_lst (pa_cons pe_int pa_nil)) (C8.pe_mt0 m_size hr (by decide) (pv 1))) rfl)
      (pss_cons (ps_fld (pv 0) (pe_lst pa_nil) rfl)
      (pss_one (ps_fld (pv 0) (pe_lst pa_nil) rfl)))))), ?_⟩
    have n9 := o.n9
    -- edges
    obtain ⟨p, ndx, le0, xs0, rfl, n1, n2, n3⟩ := id hN
    have npx : p ≠ x := fun e => by rw [e, hx] at n1; injection n1 with n1; injection n1 with _ _ n1; cases n1
    refine ⟨_, rfl, p, ndx, _, rfl, n1, nf_no _ _ (by decide +kernel) (by decide +kernel), _, N.n, N.es, rfl, hN, fun le xs hle hp => ?_⟩
    have hN0 := NetAt.offx hx hN
    have hp0 := hp.mono fun _ _ z => IsEd.offx hx z
    have nlx : le ≠ x := fun e => by rw [e, hx] at hle; cases hle
    have z1 : Same (off [x] H) (upd H le (.lst xs)) := Same.trans (off_sub [x]) (Same.new hle)
    refine ⟨_, rfl, x, CG, dx, _, rfl, (upd_ne nlx.symm).trans hx, T.clG, T.gEdges, by show 0 < 1000; decide, ?_⟩
    have z2 := same_at z1 (L := [x]) (List.mem_singleton.mpr rfl) (o := .ins CG dx (putF "edges" (V.ref le) []))
    have hle2 : (upd (upd H le (.lst xs)) x (.ins CG dx (putF "edges" (V.ref le) []))) le = some (.lst xs) := (upd_ne nlx).trans upd_same
    have hx2 : (upd (upd H le (.lst xs)) x (.ins CG dx (putF "edges" (V.ref le) []))) x = some (.ins CG dx (f1 le)) := upd_same
    generalize (upd (upd H le (.lst xs)) x (.ins CG dx (putF "edges" (V.ref le) []))) = H2 at z2 hle2 hx2 ⊢
    -- groups
    have hN2 := hN0.mono z2
    obtain ⟨p', ndx2, le1, xs1, e, m1, m2, m3⟩ := id hN2
    cases e
    refine ⟨_, rfl, p, ndx2, _, rfl, m1, nf_no _ _ (by decide +kernel) (by decide +kernel), _, N.n, N.es, rfl, hN2, _, rfl, by omega, by omega, fun lg hlg => ?_⟩
    refine lc_newR N.n (fun i H v => IsT H v [(i : Int)]) (fun i H H' v sm z => z.mono sm) hlg (by rw [szl]; omega) (fun i hi H3 s3 hd Qt ht => ?_) (fun H3 gx s3 hg3 hgp => ?_)
    · refine ⟨rfl, _, rfl, by show 1 ≤ sizeLine; rw [szl]; decide, fun q1 hq1 => ht _ _ (Same.new hq1) ⟨q1, rfl, ?_⟩⟩
      obtain ⟨acc, hacc⟩ := hd
      rw [off_out fun m => by rw [List.mem_singleton] at m; rw [m, hacc] at hq1; cases hq1]
      exact upd_same
    have nlg : lg ≠ x := fun e => by rw [e, hx2] at hlg; cases hlg
    refine ⟨_, rfl, x, CG, dx, _, rfl, s3 _ _ hx2, T.clG, T.gGroups, by show 1 < 1000; decide, ?_⟩
    rw [pf2]
    have z3 : Same (off [x] H2) (upd H3 x (.ins CG dx (f2 le lg))) := same_at (Same.trans (off_sub [x]) s3) (List.mem_singleton.mpr rfl)
    have hgp3 : Paired (fun v (i : Nat) => IsT (off [lg] (off [x] H3)) v [(i : Int)]) gx (List.range N.n) := hgp.mono fun v i z => by
      obtain ⟨a, e, q⟩ := z
      refine ⟨a, e, ?_⟩
      have m : a ∉ [lg] := fun m => by rw [off_in m] at q; cases q
      rw [off_out m] at q ⊢
      have m2 : a ∉ [x] := fun m => by rw [List.mem_singleton] at m; rw [m, s3 _ _ hx2] at q; injection q with q; cases q
      rw [off_out m2]; exact q
    have w3 : Same (off [x] H3) (upd H3 x (.ins CG dx (f2 le lg))) := same_at (off_sub [x]) (List.mem_singleton.mpr rfl)
    have hg4 : (upd H3 x (.ins CG dx (f2 le lg))) lg = some (.lst gx) := (upd_ne nlg).trans hg3
    have hx4 : (upd H3 x (.ins CG dx (f2 le lg))) x = some (.ins CG dx (f2 le lg)) := upd_same
    generalize (upd H3 x (.ins CG dx (f2 le lg))) = H4 at z3 w3 hg4 hx4 ⊢
    have hle4 : H4 le = some (.lst xs) := z3 _ _ (by rw [off_out fun m => nlx (List.mem_singleton.mp m)]; exact hle2)
    have z4 : Same (off [x] H) H4 := Same.trans (same_into z2) z3
    -- depths
    refine ⟨by show 1 ≤ sizeLine; rw [szl]; decide, fun q1 hq1 => ?_⟩
    have hN4 := hN0.mono (Same.trans z4 (Same.new hq1 (o := .lst [V.int 0])))
    obtain ⟨p', ndx4, le4, xs4, e, k1, k2, k3⟩ := id hN4
    cases e
    refine ⟨_, rfl, p, ndx4, _, rfl, k1, nf_no _ _ (by decide +kernel) (by decide +kernel), _, N.n, N.es, rfl, hN4, ?_⟩
    refine ⟨q1, _, _, rfl, rfl, upd_same, by omega, by omega, by show 1 * _ ≤ _; rw [szl]; omega, fun ld hld => ?_⟩
    have s5 : Same H4 (upd (upd H4 q1 (.lst [V.int 0])) ld (.lst (List.replicate ((N.n : Int)).toNat [V.int 0]).flatten)) := (Same.new hq1).trans (Same.new hld)
    have hld4 : H4 ld = none := none_of (Same.new hq1) hld
    have hd5 : (upd (upd H4 q1 (.lst [V.int 0])) ld (.lst (List.replicate ((N.n : Int)).toNat [V.int 0]).flatten)) ld = some (.lst ((List.replicate N.n (0 : Int)).map V.int)) := by
      rw [upd_same, rep_flat, List.map_replicate]; rfl
    generalize (upd (upd H4 q1 (.lst [V.int 0])) ld (.lst (List.replicate ((N.n : Int)).toNat [V.int 0]).flatten)) = H5 at s5 hd5 ⊢
    have nld : ld ≠ x := fun e => by rw [e, hx4] at hld4; cases hld4
    refine ⟨_, rfl, x, CG, dx, _, rfl, s5 _ _ hx4, T.clG, T.gDepths, by show 2 < 1000; decide, ?_⟩
    rw [pf3]
    have w6 : Same (off [x] H5) (upd H5 x (.ins CG dx (f3 le lg ld))) := same_at (off_sub [x]) (List.mem_singleton.mpr rfl)
    have hx6 : (upd H5 x (.ins CG dx (f3 le lg ld))) x = some (.ins CG dx (f3 le lg ld)) := upd_same
    generalize (upd H5 x (.ins CG dx (f3 le lg ld))) = H6 at w6 hx6 ⊢
    have z6 : Same (off [x] H4) H6 := Same.trans (off_mono s5) w6
    -- heights
    refine ⟨by show 0 ≤ sizeLine; omega, fun lh hlh => ?_⟩
    have nlh : lh ≠ x := fun e => by rw [e, hx6] at hlh; cases hlh
    refine ⟨_, rfl, x, CG, dx, _, rfl, (upd_ne nlh.symm).trans hx6, T.clG, T.gHeights, by show 3 < 1000; decide, ?_⟩
    rw [pf4]
    have w8 : Same (off [x] (upd H6 lh (.lst []))) (upd (upd H6 lh (.lst [])) x (.ins CG dx (f4 le lg ld lh))) := same_at (off_sub [x]) (List.mem_singleton.mpr rfl)
    have hx8 : (upd (upd H6 lh (.lst [])) x (.ins CG dx (f4 le lg ld lh))) x = some (.ins CG dx (f4 le lg ld lh)) := upd_same
    have hlh8 : (upd (upd H6 lh (.lst [])) x (.ins CG dx (f4 le lg ld lh))) lh = some (.lst []) := (upd_ne nlh).trans upd_same
    generalize (upd (upd H6 lh (.lst [])) x (.ins CG dx (f4 le lg ld lh))) = H8 at w8 hx8 hlh8 ⊢
    have z8 : Same (off [x] H6) H8 := Same.trans (off_mono (Same.new hlh)) w8
    -- chosen
    refine ⟨by show 0 ≤ sizeLine; omega, fun lc hlc => ?_⟩
    have nlc : lc ≠ x := fun e => by rw [e, hx8] at hlc; cases hlc
    refine ⟨_, rfl, x, CG, dx, _, rfl, (upd_ne nlc.symm).trans hx8, T.clG, T.gChosen, by show 4 < 1000; decide, ?_⟩
    rw [pf5 x dx]
    have w9 : Same (off [x] (upd H8 lc (.lst []))) (upd (upd H8 lc (.lst [])) x (.ins CG dx (gf ⟨x, dx, le, lg, ld, lh, lc⟩))) := same_at (off_sub [x]) (List.mem_singleton.mpr rfl)
    have hx9 : (upd (upd H8 lc (.lst [])) x (.ins CG dx (gf ⟨x, dx, le, lg, ld, lh, lc⟩))) x = some (.ins CG dx (gf ⟨x, dx, le, lg, ld, lh, lc⟩)) := upd_same
    have hlc9 : (upd (upd H8 lc (.lst [])) x (.ins CG dx (gf ⟨x, dx, le, lg, ld, lh, lc⟩))) lc = some (.lst []) := (upd_ne nlc).trans upd_same
    generalize (upd (upd H8 lc (.lst [])) x (.ins CG dx (gf ⟨x, dx, le, lg, ld, lh, lc⟩))) = H9 at w9 hx9 hlc9 ⊢
    have z9 : Same (off [x] H8) H9 := Same.trans (off_mono (Same.new hlc)) w9
    -- all together
    have a9 : Same (off [x] H6) H9 := Same.trans (same_into z8) z9
    have b9 : Same (off [x] H5) H9 := Same.trans (same_into w6) a9
    have c9 : Same (off [x] H4) H9 := Same.trans (off_mono s5) b9
    have d9 : Same (off [x] H3) H9 := Same.trans (same_into w3) c9
    have e9 : Same (off [x] H) H9 := Same.trans (same_into z4) c9
    have nx : ∀ {a : Addr}, a ≠ x → a ∉ [x] := fun h m => h (List.mem_singleton.mp m)
    have f1 : H9 lg = some (.lst gx) := c9 _ _ ((off_out (nx nlg)).trans hg4)
    have f2 : H9 ld = some (.lst ((List.replicate N.n (0 : Int)).map V.int)) := b9 _ _ ((off_out (nx nld)).trans hd5)
    have f3 : H9 lh = some (.lst []) := z9 _ _ ((off_out (nx nlh)).trans hlh8)
    have f5 : H9 le = some (.lst xs) := c9 _ _ ((off_out (nx nlx)).trans hle4)
    -- none stood before
    have o4 : ∀ {b}, H4 b = none → b ≠ x → H b = none := fun {b} h hb => by
      have := none_of z4 h
      rwa [off_out (nx hb)] at this
    have hlh4 : H4 lh = none := by
      have := none_of z6 hlh
      rwa [off_out (nx nlh)] at this
    have hlc6 : H6 lc = none := by
      have := none_of z8 hlc
      rwa [off_out (nx nlc)] at this
    have hlc4 : H4 lc = none := by
      have := none_of z6 hlc6
      rwa [off_out (nx nlc)] at this
    have hlg0 : H lg = none := by
      have := none_of z2 hlg
      rwa [off_out (nx nlg)] at this
    have ne1 : lg ≠ ld := fun e => by rw [← e, hg4] at hld4; cases hld4
    have ne2 : lg ≠ lh := fun e => by rw [← e, hg4] at hlh4; cases hlh4
    have ne3 : lg ≠ lc := fun e => by rw [← e, hg4] at hlc4; cases hlc4
    have ne4 : ld ≠ lh := fun e => by
      have q := w6 _ _ ((off_out (nx nld)).trans hd5)
      rw [e, hlh] at q; cases q
    have ne5 : ld ≠ lc := fun e => by
      have q := w6 _ _ ((off_out (nx nld)).trans hd5)
      rw [e, hlc6] at q; cases q
    have ne6 : lh ≠ lc := fun e => by rw [← e, hlh8] at hlc; cases hlc
    have fr : ∀ {W : Hp}, Same W H4 → W lg = none → ∀ b ∈ (GA.mk x dx le lg ld lh lc).four, W b = none := fun s4 h b hb => by
      simp only [GA.four, List.mem_cons, List.not_mem_nil, or_false] at hb
      rcases hb with e | e | e | e
      · rw [e]; exact h
      · rw [e]; exact none_of s4 hld4
      · rw [e]; exact none_of s4 hlh4
      · rw [e]; exact none_of s4 hlc4
    have off9 : ∀ {a u}, H9 a = some u → a ≠ lg → a ≠ ld → a ≠ lh → a ≠ lc → off (GA.mk x dx le lg ld lh lc).four H9 a = some u := fun {a u} h m1 m2 m3 m4 => by
      rw [off_out fun m => by
        simp only [GA.four, List.mem_cons, List.not_mem_nil, or_false] at m
        rcases m with e | e | e | e
        · exact m1 e
        · exact m2 e
        · exact m3 e
        · exact m4 e]
      exact h
    have tl : ∀ {p : Addr}, H4 p = none → le ≠ p := fun h e => by rw [← e, hle4] at h; cases h
    have tlg : le ≠ lg := fun e => by rw [← e, hle2] at hlg; cases hlg
    refine q H9 ⟨x, dx, le, lg, ld, lh, lc⟩ (fun b u hb nb => e9 _ _ ((off_out (nx nb)).trans hb)) rfl (fun b hb => ?_) ⟨fun b hb => hb, fun b hb => ?_, ?_, off9 hx9 nlg.symm nld.symm nlh.symm nlc.symm, ⟨xs, off9 f5 tlg (tl hld4) (tl hlh4) (tl hlc4), ?_⟩, ⟨gx, f1, ?_⟩, ⟨_, f2, ?_⟩, ⟨[], f3, .nil⟩, hlc9⟩
    · have q := fr z4 (by rw [off_out (nx nlg)]; exact hlg0) b hb
      rwa [off_out (nx ?_)] at q
      simp only [GA.four, List.mem_cons, List.not_mem_nil, or_false] at hb
      rcases hb with e | e | e | e <;> rw [e] <;> assumption
    · simp only [GA.four, List.mem_cons, List.not_mem_nil, or_false] at hb
      rcases hb with e | e | e | e <;> rw [e]
      · exact ⟨_, f1⟩
      · exact ⟨_, f2⟩
      · exact ⟨_, f3⟩
      · exact ⟨_, hlc9⟩
    · simp only [GA.four, List.nodup_cons, List.mem_cons, List.not_mem_nil, or_false, not_or]
      exact ⟨⟨ne1, ne2, ne3⟩, ⟨ne4, ne5⟩, ne6, not_false, List.nodup_nil⟩
    · exact hp0.mono fun _ _ z => z.mono (Same.off e9 (fr z4 (by rw [off_out (nx nlg)]; exact hlg0)))
    · show Paired _ gx ((List.range N.n).map fun (i : Nat) => [(i : Int)])
      have w : Same (off [lg] (off [x] H3)) H9 := Same.trans (off_sub [lg]) d9
      have w4 : Same (off [lg] (off [x] H3)) H4 := Same.trans (off_sub [lg]) w3
      exact Paired.mp (fun v i z => z.mono (Same.off w (fr w4 (off_in (List.mem_singleton.mpr rfl))))) hgp3
    · refine ⟨List.length_replicate, fun v hv => ?_⟩
      rw [Gw.getD_lt (by rw [List.length_replicate]; exact hv), List.getElem_replicate]; rfl
end
end K5

namespace K5
open PySem PySem.Spec PyProof.Rows L2
section
variable {P : Program} {w : World} {K : PySem.W.Frag} {mg : Str → Option Value} {base : Heap} {CN CG : Addr}
theorem un_nat : (UN).natAbs < 2 ^ 201 := by show (Gw.UN).natAbs < _; unfold Gw.UN; decide +kernel
theorem set_len {n : Nat} {g : List Int} (h : g.Pairwise (· < ·)) (hr : ∀ v ∈ g, 0 ≤ v ∧ v < n) : g.length ≤ n := nodup_len (Gw.asc_nodup h) hr
abbrev s_room_of : Stmt := top 41
theorem sc_room_of : FnScope ["growth", "group", "prizes", "used", "inner", "time", "vertex"] ["growth", "group", "prizes"] (C8.fnScope s_room_of) := C8.fnScope_by (by decide +kernel)

def spRoomOf (K : PySem.W.Frag) (CG : Addr) : Sp := fun vs H Q _ => ∃ (N : Gw.Net) (g : GA) (L : List Addr) (st : Gw.St) (v u : V) (gr : List Int), vs = [.ref g.x, v, u] ∧ Gr K CG N g L H st ∧ N.Ok ∧ Gw.Fit N st ∧ IsIs K H v gr ∧ gr ∈ st.gs ∧ IsIs K H u N.pz ∧
  ∀ H', Same H H' → Q (.int (Gw.room N st gr)) H'
theorem ok_roomOf (F : DefAt K mg "room_of" s_room_of ["growth", "group", "prizes"]) (T : Txt K mg CN CG) : C8.Cal P w K mg base 1 "room_of" (spRoomOf K CG) [] := by
  refine cal F sc_room_of (fun vs H Q E h => ?_) (fun f cdv A outer s H vs Q E hr h => ?_)
  · obtain ⟨_, _, _, _, _, _, _, rfl, _⟩ := h; rfl
  · obtain ⟨N, g, L, st, v, u, gr, rfl, G, o, I, ⟨gp, rfl, hgp⟩, hgr, ⟨up, rfl, hup⟩, q⟩ := h
    have nd := sc_room_of.nd
    refine ⟨_, (pss_cons (ps_set (i := 3) nd rfl (Or.inl rfl) (pe_callB (crSum K rfl) (by rfl) T.sum (by decide +kernel) (pa_cons (pe_lc (own := [("inner", 4), ("time", 5)]) rfl nd (pi_l K (pe_f K (pv 0))) (blkOk_by (by kernel_rfl)) (fun _ _ _ _ _ => (pg_t K 2 rfl (pgs_cons (pg_name (i := 4) nd rfl (Or.inl rfl)) (pgs_cons (pg_name (i := 5) nd rfl (Or.inl rfl)) pgs_nil)))) (fun _ _ _ _ _ => (pts_one (pt_val (pe_callB (crAll K rfl) (by rfl) T.all (by decide +kernel) (pa_cons (pe_lc (own := [("vertex", 6)]) rfl nd (pi_l K (pv 4)) (blkOk_by (by kernel_rfl)) (fun _ _ _ _ _ => (pg_name (i := 6) nd rfl (Or.inl rfl))) (fun _ _ _ _ _ => pts_nil) (fun _ _ _ _ _ => (pe_cmpR (inS K) (pv 6) (pv 1) (by rfl)))) pa_nil))))) (fun _ _ _ _ _ => (pv 5))) pa_nil)))
      (pss_one (ps_ret (pe_op op_sub (pe_op op_mulX (pe_callB (crSum K rfl) (by rfl) T.sum (by decide +kernel) (pa_cons (pe_lc (own := [("vertex", 6)]) rfl nd (pi_l K (pv 1)) (blkOk_by (by kernel_rfl)) (fun _ _ _ _ _ => (pg_name (i := 6) nd rfl (Or.inl rfl))) (fun _ _ _ _ _ => pts_nil) (fun _ _ _ _ _ => (pe_ix (ixl K) (pv 2) (pv 6) (fun _ _ => rfl)))) pa_nil)) (C8.pe_gc (by rfl) T.UNIT)) (pv 3))))), ?_⟩
    obtain ⟨hx, hh, hp⟩ := G.hs
    obtain ⟨R, rfl, eR, hR⟩ := ht_rec hp
    have n9 := o.n9
    have hl := I.len o
    have rl : R.length ≤ 3200 := by rw [eR, List.length_map] at hl; exact hl
    have gl : gr.length ≤ 40 := by have := set_len (I.I.P.asc gr hgr) (I.I.P.rng gr hgr); omega
    refine ⟨_, rfl, g.x, CG, g.dx, _, _, rfl, G.insv, T.clG, T.gHeights, gf_heights g, g.lh, rfl, ⟨_, SqL.of hh⟩, fun D hD => ?_⟩
    refine lc_read R (fun r => .ref r.a) (fun r => .int r.e.2) (fun r => dec (∀ v ∈ r.e.1, v ∈ gr)) hD (SqL.of hh) (by rw [szl]; omega) (fun y hy H2 s2 Qt Qf ht hf => ?_) (fun H2 s2 hD2 => ?_)
    · have hy1 := SqT.mono s2 (SqT.mono (off_sub L) (hR y hy).1)
      have hy2 := SqL.mono s2 (SqL.mono (off_sub L) (hR y hy).2)
      have hm : y.e ∈ st.hs := by rw [eR]; exact List.mem_map.mpr ⟨y, hy, rfl⟩
      have yl : y.e.1.length ≤ 40 := by have := set_len (I.I.hasc _ hm) (I.I.hrng _ hm); omega
      refine ⟨y.a, _, rfl, hy1, rfl, _, _, rfl, _, _, rfl, rfl, rfl, _, rfl, y.g, rfl, ⟨_, hy2⟩, fun D2 hD2 => ?_⟩
      refine lc_map y.e.1 V.int (fun x => .bl (decide (x ∈ gr))) hD2 hy2 (by rw [szl]; omega) (fun z hz H3 s3 Qt2 ht2 => ?_) (fun H3 s3 hD3 => ?_)
      · refine ⟨rfl, _, rfl, _, rfl, gp, _, rfl, .inl (SqL.mono (s2.trans s3) hgp), rfl, flat_ints _, ?_⟩
        rw [if_neg Bool.false_ne_true, inV_ints]
        exact ht2 _ (Same.refl _)
      · have e3 : (y.e.1.map fun x => V.bl (decide (x ∈ gr))) = (y.e.1.map fun x => decide (x ∈ gr)).map V.bl := by rw [List.map_map]; rfl
        rw [e3] at hD3
        refine ⟨D2, _, rfl, SqL.of hD3, _, rfl, ?_⟩
        rw [all_id]
        have e : dec (∀ x ∈ y.e.1.map fun x => decide (x ∈ gr), x = true) = dec (∀ x ∈ y.e.1, x ∈ gr) := dec_iff ⟨fun h x hx => of_decide_eq_true (h _ (List.mem_map.mpr ⟨x, hx, rfl⟩)), fun h y hy => by
          obtain ⟨x, hx, rfl⟩ := List.mem_map.mp hy
          exact decide_eq_true (h x hx)⟩
        rw [e]
        by_cases c : ∀ x ∈ y.e.1, x ∈ gr
        · rw [dec_t c]; exact iteT ⟨_, rfl, ht (dec_t c) _ s3⟩
        · rw [dec_f c]; exact iteF (hf (dec_f c) _ s3)
    · have e3 : ((R.filter fun r => dec (∀ v ∈ r.e.1, v ∈ gr)).map fun r => V.int r.e.2) = ((R.filter fun r => dec (∀ v ∈ r.e.1, v ∈ gr)).map fun r => r.e.2).map V.int := by rw [List.map_map]; rfl
      rw [e3] at hD2
      have eu : ((R.filter fun r => dec (∀ v ∈ r.e.1, v ∈ gr)).map fun r => r.e.2).sum = Gw.ws (Gw.sub (· ∈ gr)) st.hs := by
        rw [Gw.sum_filter, eR]
        unfold Gw.ws
        rw [List.map_map]
        refine Gw.sum_map_congr fun r _ => ?_
        show _ = Gw.sub (· ∈ gr) r.e.1 * r.e.2
        unfold Gw.sub
        by_cases c : ∀ v ∈ r.e.1, v ∈ gr
        · rw [dec_t c, if_pos rfl, if_pos c, Int.one_mul]
        · rw [dec_f c, if_neg Bool.false_ne_true, if_neg c, Int.zero_mul]
      refine ⟨D, _, rfl, SqL.of hD2, ?_⟩
      rw [eu]
      refine ⟨_, rfl, gp, rfl, ⟨_, SqL.mono s2 hgp⟩, fun D2 hD2 => ?_⟩
      refine lc_map gr V.int (fun x => .int (N.pr x)) hD2 (SqL.mono s2 hgp) (by rw [szl]; omega) (fun z hz H3 s3 Qt2 ht2 => ?_) (fun H3 s3 hD3 => ?_)
      · have zr := I.I.P.rng gr hgr z hz
        exact ⟨rfl, _, rfl, _, rfl, up, _, _, _, rfl, rfl, SqL.mono (s2.trans s3) hup, atI_lt zr.1 (by rw [o.plen]; exact zr.2), ht2 _ (Same.refl _)⟩
      · have e3 : (gr.map fun x => V.int (N.pr x)) = (gr.map N.pr).map V.int := by rw [List.map_map]; rfl
        rw [e3] at hD3
        obtain ⟨b0, b1⟩ := prL_bd o gl
        refine ⟨D2, _, rfl, SqL.of hD3, _, _, rfl, rfl, mulx_ok (pow_nat b0 b1) un_nat (by decide), _, rfl, _, _, rfl, rfl, ?_⟩
        exact q _ (s2.trans s3)
end
end K5

namespace K5
open PySem PySem.Spec PyProof.Rows L2
/-- an edge that is paid at time t -/
def Cand (N : Gw.Net) (st : Gw.St) (k t : Int) : Prop := N.isE k ∧ ∃ one ∈ st.gs, ∃ two ∈ st.gs, (N.ed k).1 ∈ one ∧ (N.ed k).2.1 ∈ two ∧ one ≠ two ∧ 0 < Gw.rate N st one two ∧ t = Gw.left N st k / Gw.rate N st one two
/-- the groups of the ends are known -/
theorem Cand.only {N : Gw.Net} {st : Gw.St} (I : Gw.Inv N st) {k t : Int} {one two : List Int} (h : Cand N st k t) (h1 : one ∈ st.gs) (h2 : two ∈ st.gs) (u : (N.ed k).1 ∈ one) (v : (N.ed k).2.1 ∈ two) : one ≠ two ∧ 0 < Gw.rate N st one two ∧ t = Gw.left N st k / Gw.rate N st one two := by
  obtain ⟨_, a, ha, b, hb, ua, vb, q⟩ := h
  have e1 := I.P.dis a ha one h1 _ ua u
  have e2 := I.P.dis b hb two h2 _ vb v
  subst e1; subst e2
  exact q
/-- the best edge among the first i -/
def BestOk (N : Gw.Net) (st : Gw.St) (H : Hp) (b : V) (i : Nat) : Prop := (b = .non ∧ ∀ j : Nat, j < i → ∀ t, ¬ Cand N st j t) ∨
  (∃ p k t, b = .ref p ∧ H p = some (.tup [.int t, .int k]) ∧ Cand N st k t ∧ ∀ j : Nat, j < i → ∀ t', Cand N st j t' → t ≤ t')
theorem price_nat {p : Int} (h0 : 0 ≤ p) (h : p ≤ 1048576) : p.natAbs < 2 ^ 21 := pow_nat h0 (by
  have : (2 : Int) ^ 21 = 2097152 := by decide
  omega)
section
variable {P : Program} {w : World} {K : PySem.W.Frag} {mg : Str → Option Value} {base : Heap} {CN CG : Addr}
abbrev s_Growth_next_edge : Stmt := L2.inClass (top 36) 2
theorem sc_Growth_next_edge : FnScope ["self", "active", "best", "number", "u", "v", "price", "one", "two", "rate", "time"] ["self", "active"] (C8.fnScope s_Growth_next_edge) := C8.fnScope_by (by decide +kernel)

def spNextEdge (K : PySem.W.Frag) (CG : Addr) : Sp := fun vs H Q _ => ∃ (N : Gw.Net) (g : GA) (L : List Addr) (st : Gw.St) (v : V), vs = [.ref g.x, v] ∧ Gr K CG N g L H st ∧ N.Ok ∧ Gw.Inv N st ∧ IsL K H (IsIs K H) v (Gw.act N.root st) ∧ N.es.length ≤ 200 ∧
  ∀ H' b, Same H H' → BestOk N st H' b N.es.length → Q b H'
theorem ok_nextEdge (F : MetAt K CG "next_edge" "Growth.next_edge" s_Growth_next_edge ["self", "active"]) (T : Txt K mg CN CG) (m_group_of : C8.Met P w K mg base 1 CG "group_of" (spGroupOf K CG) []) : C8.Met P w K mg base 2 CG "next_edge" (spNextEdge K CG) [] := by
  refine met F T.clG sc_Growth_next_edge (fun vs H Q E h => ?_) (fun f cdv A outer s H vs Q E hr h => ?_)
  · obtain ⟨_, _, _, _, _, rfl, _⟩ := h; rfl
  · obtain ⟨N, g, L, st, v, rfl, G, o, I, hv, hes, q⟩ := h
    have nd := sc_Growth_next_edge.nd
    refine ⟨_, (pss_cons (ps_set (i := 2) nd rfl (Or.inl rfl) pe_non)
      (pss_cons (ps_for PassesOwn.never rfl (pi_range1 (by rfl) T.range (pa_cons (pe_callB (lenS K) (by rfl) T.len (by decide +kernel) (pa_cons (pe_f K (pv 0)) pa_nil)) pa_nil)) (pg_name (i := 3) nd rfl (Or.inl rfl)) (pss_cons (ps_asg (pe_ix (ixl K) (pe_f K (pv 0)) (pv 3) (fun _ _ => rfl)) (pg_t K 3 rfl (pgs_cons (pg_name (i := 4) nd rfl (Or.inl rfl)) (pgs_cons (pg_name (i := 5) nd rfl (Or.inl rfl)) (pgs_cons (pg_name (i := 6) nd rfl (Or.inl rfl)) pgs_nil)))))
      (pss_cons (ps_set (i := 7) nd rfl (Or.inl rfl) (C8.pe_mt m_group_of hr (by decide) (pv 0) (pa_cons (pv 4) pa_nil)))
      (pss_cons (ps_set (i := 8) nd rfl (Or.inl rfl) (C8.pe_mt m_group_of hr (by decide) (pv 0) (pa_cons (pv 5) pa_nil)))
      (pss_cons (ps_set (i := 9) nd rfl (Or.inl rfl) (pe_op op_add (pe_callTy call_int1 (by rfl) T.int (by decide +kernel) (pa_cons (pe_cmpR (inD K (hu65 hr)) (pv 7) (pv 1) (by rfl)) pa_nil)) (pe_callTy call_int1 (by rfl) T.int (by decide +kernel) (pa_cons (pe_cmpR (inD K (hu65 hr)) (pv 8) (pv 1) (by rfl)) pa_nil))))
      (pss_one (ps_if (PW.pt (pw_and (pt_cmpR (neD K hr.units) (pv 7) (pv 8) (nomark _)) (pw_and1 (pt_cmpR op_gt (pv 9) pe_int (nomark _))))) (pss_cons (ps_set (i := 10) nd rfl (Or.inl rfl) (pe_op op_fdiv (pe_op op_sub (pe_op op_sub (pe_op op_mulX (pv 6) (C8.pe_gc (by rfl) T.UNIT)) (pe_ix (ixl K) (pe_f K (pv 0)) (pv 4) (fun _ _ => rfl))) (pe_ix (ixl K) (pe_f K (pv 0)) (pv 5) (fun _ _ => rfl))) (pv 9)))
      (pss_one (ps_if (PW.pt (pw_or (pt_cmpR op_isN (pv 2) pe_non (nomark _)) (pw_or1 (pt_cmpR op_lt (pv 10) (pe_ix (ixt K) (pv 2) pe_int (fun _ _ => rfl)) (nomark _))))) (pss_one (ps_set (i := 2) nd rfl (Or.inl rfl) (pe_tup (pa_cons (pv 10) (pa_cons (pv 3) pa_nil))))) pss_nil))) pss_nil)))))))
      (pss_one (ps_ret (pv 2))))), ?_⟩
    obtain ⟨xs, hle, hpe⟩ := G.ed
    have xl : xs.length = N.es.length := hpe.length
    refine ⟨_, rfl, g.x, CG, g.dx, _, _, rfl, G.insv, T.clG, T.gEdges, gf_edges g, g.le, xs, rfl, .inl (SqL.of (off_sub L _ _ hle)), _, rfl, by omega, by omega, ?_⟩
    rw [xl]
    refine for_rng (fun i σ H' => Same H H' ∧ ∃ b o3 o4 o5 o6 o7 o8 o9 o10, σ = [some (.ref g.x), some v, some b, o3, o4, o5, o6, o7, o8, o9, o10] ∧ BestOk N st H' b i) ⟨Same.refl _, _, _, _, _, _, _, _, _, _, rfl, .inl ⟨rfl, fun j hj => by omega⟩⟩ ?_ ?_
    · rintro i σ H' hi ⟨s1, b, o3, o4, o5, o6, o7, o8, o9, o10, rfl, hb⟩
      have G1 := G.mono s1
      have hE : N.isE (i : Int) := ⟨by omega, by omega⟩
      obtain ⟨t2, e2, ht2⟩ := es_at (hpe.mono fun _ _ z => IsEd.mono (Same.trans (off_sub L) s1) z) hE
      obtain ⟨⟨u0, u1⟩, ⟨v0, v1⟩, ne, p0, p1⟩ := ed_ok o hE
      have hle1 := s1 _ _ (off_sub L _ _ hle)
      refine ⟨_, rfl, g.x, CG, g.dx, _, _, rfl, G1.insv, T.clG, T.gEdges, gf_edges g, _, rfl, g.le, xs, _, _, rfl, rfl, SqL.of hle1, e2, t2, _, rfl, ht2, rfl, _, _, rfl, _, _, rfl, _, _, rfl, rfl, ?_⟩
      refine ⟨_, rfl, g.x, g.dx, _, rfl, G1.insv, gf_no g (by decide +kernel) (by decide +kernel) (by decide +kernel) (by decide +kernel) (by decide +kernel), _, rfl, N, g, L, st, _, rfl, G1, o, I, ⟨u0, u1⟩, fun H2 pa one s2 hone uone hpa => ?_⟩
      have G2 := G1.mono s2
      refine ⟨_, rfl, g.x, g.dx, _, rfl, G2.insv, gf_no g (by decide +kernel) (by decide +kernel) (by decide +kernel) (by decide +kernel) (by decide +kernel), _, rfl, N, g, L, st, _, rfl, G2, o, I, ⟨v0, v1⟩, fun H3 pb two s3 htwo vtwo hpb => ?_⟩
      have G3 := G2.mono s3
      have s13 := (s1.trans s2).trans s3
      have iOne : IsIs K H3 (.ref pa) one := ⟨pa, rfl, SqL.of (s3 _ _ (s2 _ _ (off_sub L _ _ hpa)))⟩
      have iTwo : IsIs K H3 (.ref pb) two := ⟨pb, rfl, SqL.of (s3 _ _ (off_sub L _ _ hpb))⟩
      have hv3 : IsL K H3 (IsIs K H3) v (Gw.act N.root st) := hv.mono s13 fun _ _ => IsIs.mono s13
      refine ⟨_, rfl, _, rfl, encIs one, (Gw.act N.root st).map encIs, iOne.dp, hv3.dp (enc := encIs) (fun _ _ z => z.dp), sh_is _, sh_list lay_is dep_is (by decide) _, ?_⟩
      rw [any_is]
      refine .inr ⟨_, rfl, ?_⟩
      refine ⟨_, rfl, _, rfl, encIs two, (Gw.act N.root st).map encIs, iTwo.dp, hv3.dp (enc := encIs) (fun _ _ z => z.dp), sh_is _, sh_list lay_is dep_is (by decide) _, ?_⟩
      rw [any_is]
      refine .inr ⟨_, rfl, _, _, rfl, rfl, ?_⟩
      have er : (if decide (one ∈ Gw.act N.root st) = true then (1 : Int) else 0) + (if decide (two ∈ Gw.act N.root st) = true then 1 else 0) = Gw.rate N st one two := by
        unfold Gw.rate
        by_cases a : one ∈ Gw.act N.root st <;> by_cases b : two ∈ Gw.act N.root st <;> simp [a, b]
      dsimp only
      rw [er]
      have rb : Gw.rate N st one two ≤ 2 := by unfold Gw.rate; split <;> split <;> omega
      have ext : ∀ {b : V}, BestOk N st H3 b i → (∀ t, ¬ Cand N st (i : Int) t) → BestOk N st H3 b (i + 1) := fun h hn => by
        rcases h with ⟨e, z⟩ | ⟨p, k, t, e, z1, z2, z3⟩
        · exact .inl ⟨e, fun j hj t => by
            by_cases c : j = i
            · subst c; exact hn t
            · exact z j (by omega) t⟩
        · exact .inr ⟨p, k, t, e, z1, z2, fun j hj t' ht' => by
            by_cases c : j = i
            · subst c; exact absurd ht' (hn t')
            · exact z3 j (by omega) t' ht'⟩
      have hb3 : BestOk N st H3 b i := by
        rcases hb with z | ⟨p, k, t, e, z1, z2, z3⟩
        · exact .inl z
        · exact .inr ⟨p, k, t, e, (s2.trans s3) _ _ z1, z2, z3⟩
      refine ⟨_, rfl, _, rfl, encIs one, encIs two, iOne.dp, iTwo.dp, sh_is _, sh_is _, ?_⟩
      rw [eqv_is]
      refine ⟨_, rfl, ?_⟩
      by_cases c1 : one = two
      · refine ifnt c1 ⟨s13, _, _, _, _, _, _, _, _, _, rfl, ext hb3 fun t z => (z.only I hone htwo uone vtwo).1 c1⟩
      · refine ifnf c1 ⟨_, rfl, _, _, rfl, rfl, _, rfl, ?_⟩
        by_cases c2 : 0 < Gw.rate N st one two
        · refine ifd c2 ?_
          obtain ⟨ds, hds, dl, dv⟩ := G3.ds
          have eu : ds.getD (N.ed (i : Int)).1.toNat 0 = Gw.ws (Gw.inn (N.ed (i : Int)).1) st.hs := by
            have := dv (N.ed (i : Int)).1.toNat (by omega)
            rwa [show (((N.ed (i : Int)).1.toNat : Nat) : Int) = (N.ed (i : Int)).1 by omega] at this
          have ev : ds.getD (N.ed (i : Int)).2.1.toNat 0 = Gw.ws (Gw.inn (N.ed (i : Int)).2.1) st.hs := by
            have := dv (N.ed (i : Int)).2.1.toNat (by omega)
            rwa [show (((N.ed (i : Int)).2.1.toNat : Nat) : Int) = (N.ed (i : Int)).2.1 by omega] at this
          have au := atI_lt (xs := ds) u0 (by rw [dl]; exact u1)
          have av := atI_lt (xs := ds) v0 (by rw [dl]; exact v1)
          rw [eu] at au
          rw [ev] at av
          refine ⟨_, rfl, _, _, rfl, rfl, mulx_ok (price_nat p0 p1) un_nat (by decide), _, rfl, g.x, CG, g.dx, _, _, rfl, G3.insv, T.clG, T.gDepths, gf_depths g, _, rfl, g.ld, _, _, _, rfl, rfl, SqL.of hds, au, _, _, rfl, rfl,
            _, rfl, g.x, CG, g.dx, _, _, rfl, G3.insv, T.clG, T.gDepths, gf_depths g, _, rfl, g.ld, _, _, _, rfl, rfl, SqL.of hds, av, _, _, rfl, rfl, _, rfl, _, _, rfl, rfl, ⟨c2, by omega⟩, ?_⟩
          have cd : Cand N st (i : Int) (Gw.left N st (i : Int) / Gw.rate N st one two) := ⟨hE, one, hone, two, htwo, uone, vtwo, c1, c2, rfl⟩
          have cu : ∀ t, Cand N st (i : Int) t → t = Gw.left N st (i : Int) / Gw.rate N st one two := fun t z => (z.only I hone htwo uone vtwo).2.2
          have el : (N.ed (i : Int)).2.2 * UN - Gw.ws (Gw.inn (N.ed (i : Int)).1) st.hs - Gw.ws (Gw.inn (N.ed (i : Int)).2.1) st.hs = Gw.left N st (i : Int) := rfl
          dsimp only
          rw [el]
          generalize Gw.left N st (i : Int) / Gw.rate N st one two = t at cd cu ⊢
          have put : ∀ p, H3 p = none → (∀ j : Nat, j < i → ∀ t', Cand N st j t' → t ≤ t') → BestOk N st (upd H3 p (.tup [.int t, .int (i : Int)])) (.ref p) (i + 1) := fun p hp z => .inr ⟨p, i, t, rfl, upd_same, cd, fun j hj t' ht' => by
            by_cases c : j = i
            · subst c; rw [cu t' ht']; exact Int.le_refl _
            · exact z j (by omega) t' ht'⟩
          refine ⟨_, rfl, rfl, _, rfl, ?_⟩
          rcases hb3 with ⟨rfl, z⟩ | ⟨p, k, t0, rfl, z1, z2, z3⟩
          · refine ifd rfl ⟨_, rfl, _, rfl, by show 2 ≤ sizeLine; rw [szl]; decide, fun p hp => ⟨s13.trans (Same.new hp), _, _, _, _, _, _, _, _, _, rfl, put p hp fun j hj t' ht' => absurd ht' (z j hj t')⟩⟩
          · refine ifnd (fun z => by cases z) ⟨_, rfl, _, rfl, p, _, 0, _, rfl, rfl, SqT.of z1, atI_nat (j := 0) rfl, _, _, rfl, rfl, _, rfl, ?_⟩
            by_cases c3 : t < t0
            · refine ifd c3 ⟨_, rfl, _, rfl, by show 2 ≤ sizeLine; rw [szl]; decide, fun p hp => ⟨s13.trans (Same.new hp), _, _, _, _, _, _, _, _, _, rfl, put p hp fun j hj t' ht' => by have := z3 j hj t' ht'; omega⟩⟩
            · refine ifnd c3 ⟨s13, _, _, _, _, _, _, _, _, _, rfl, .inr ⟨p, k, t0, rfl, z1, z2, fun j hj t' ht' => ?_⟩⟩
              by_cases c : j = i
              · subst c; rw [cu t' ht']; omega
              · exact z3 j (by omega) t' ht'
        · refine ifnd c2 ⟨s13, _, _, _, _, _, _, _, _, _, rfl, ext hb3 fun t z => c2 (z.only I hone htwo uone vtwo).2.1⟩
    · rintro σ H' ⟨s1, b, o3, o4, o5, o6, o7, o8, o9, o10, rfl, hb⟩
      exact ⟨_, rfl, q _ _ s1 hb⟩
end
end K5

namespace K5
open PySem PySem.Spec PyProof.Rows L2
section
variable {K : PySem.W.Frag} {CG : Addr} {N : Gw.Net} {g : GA} {L : List Addr} {H H' : Hp} {s : Gw.St}
/-- what is kept beside the four is kept beside L -/
theorem four_L (hs : ∀ b ∈ g.four, b ∈ L) (h : Same (off g.four H) (off g.four H')) : Same (off L H) (off L H') := fun b u e => by
  by_cases m : b ∈ L
  · rw [off_in m] at e; cases e
  · have m4 : b ∉ g.four := fun z => m (hs b z)
    rw [off_out m] at e ⊢
    have q := h b u (by rw [off_out m4]; exact e)
    rwa [off_out m4] at q
theorem in_lg : g.lg ∈ g.four := by simp [GA.four]
theorem in_ld : g.ld ∈ g.four := by simp [GA.four]
theorem in_lh : g.lh ∈ g.four := by simp [GA.four]
theorem in_lc : g.lc ∈ g.four := by simp [GA.four]
theorem upd_self {p : Addr} {o : HO} (h : H p = some o) : upd H p o = H := by
  funext b
  by_cases e : b = p
  · rw [e, upd_same, h]
  · rw [upd_ne e]
theorem dep_snoc {n : Nat} {hs : Gw.Hts} {ds ds' : List Int} {y : List Int} {t : Int} (h : DepOk n hs ds) (l : ds'.length = n) (e : ∀ v : Nat, v < n → ds'.getD v 0 = ds.getD v 0 + if (v : Int) ∈ y then t else 0) : DepOk n (hs ++ [(y, t)]) ds' := by
  refine ⟨l, fun v hv => ?_⟩
  rw [e v hv, h.2 v hv, Gw.ws_append, Gw.ws_cons, Gw.ws_nil, Int.add_zero]
  congr 1
  show _ = Gw.inn (v : Int) y * t
  unfold Gw.inn
  by_cases c : (v : Int) ∈ y
  · rw [if_pos c, if_pos c, Int.one_mul]
  · rw [if_neg c, if_neg c, Int.zero_mul]
end
theorem upd_twice {H : Hp} {p : Addr} {a b : HO} : upd (upd H p a) p b = upd H p b := by
  funext x
  by_cases e : x = p
  · rw [e, upd_same, upd_same]
  · rw [upd_ne e, upd_ne e, upd_ne e]
theorem Gr.setHD {K : PySem.W.Frag} {CG : Addr} {N : Gw.Net} {g : GA} {L : List Addr} {H : Hp} {s : Gw.St} (G : Gr K CG N g L H s) {hx : List V} {hs : Gw.Hts} {ds : List Int} (h1 : Paired (IsHt K (off L H)) hx hs) (h2 : DepOk N.n hs ds) :
    Gr K CG N g L (upd (upd H g.lh (.lst hx)) g.ld (.lst (ds.map V.int))) ⟨s.gs, hs, s.ch, s.sp⟩ := by
  have e : off L (upd (upd H g.lh (.lst hx)) g.ld (.lst (ds.map V.int))) = off L H := by rw [off_put (G.sub _ in_ld), off_put (G.sub _ in_lh)]
  obtain ⟨n1, n2, n3, n4, n5, n6⟩ := four_ne G.nd
  obtain ⟨xs, e1, e2⟩ := G.ed
  obtain ⟨gx, g1, g2⟩ := G.gs
  refine ⟨G.sub, fun b hb => ?_, G.nd, by rw [e]; exact G.at_, ⟨xs, by rw [e]; exact e1, by rw [e]; exact e2⟩, ⟨gx, ?_, by rw [e]; exact g2⟩, ⟨ds, upd_same, h2⟩, ⟨hx, ?_, by rw [e]; exact h1⟩, ?_⟩
  · by_cases c1 : b = g.ld
    · exact ⟨_, by rw [c1, upd_same]⟩
    · by_cases c2 : b = g.lh
      · exact ⟨.lst hx, by rw [upd_ne c1, c2, upd_same]⟩
      · rw [upd_ne c1, upd_ne c2]; exact G.tr b hb
  · rw [upd_ne n1, upd_ne n2]; exact g1
  · rw [upd_ne n4.symm, upd_same]
  · rw [upd_ne n5.symm, upd_ne n6.symm]; exact G.ch
theorem Gr.x_out {K : PySem.W.Frag} {CG : Addr} {N : Gw.Net} {g : GA} {L : List Addr} {H : Hp} {s : Gw.St} (G : Gr K CG N g L H s) : g.x ∉ L := fun m => by
  have q := G.at_
  rw [off_in m] at q; cases q
theorem dep_step {n : Nat} {ds ds1 : List Int} {y : List Int} {t v : Int} {i : Nat} (hn : y.Nodup) (hv : y[i]? = some v) (v0 : 0 ≤ v) (v1 : v < n) (l : ds1.length = n) (e : ∀ u : Nat, u < n → ds1.getD u 0 = ds.getD u 0 + if (u : Int) ∈ y.take i then t else 0) :
    (ds1.set v.toNat (ds1.getD v.toNat 0 + t)).length = n ∧ ∀ u : Nat, u < n → (ds1.set v.toNat (ds1.getD v.toNat 0 + t)).getD u 0 = ds.getD u 0 + if (u : Int) ∈ y.take (i + 1) then t else 0 := by
  refine ⟨by rw [List.length_set]; exact l, fun u hu => ?_⟩
  have hi := (List.getElem?_eq_some_iff.mp hv).1
  have htk : y.take (i + 1) = y.take i ++ [v] := by rw [List.take_add_one, hv]; rfl
  have nv : v ∉ y.take i := fun m => by
    have h2 : (y.take (i + 1)).Nodup := hn.sublist (List.take_sublist ..)
    rw [htk] at h2
    exact (List.nodup_append.mp h2).2.2 v m v (List.mem_singleton.mpr rfl) rfl
  rw [htk]
  by_cases c : u = v.toNat
  · have cv : (u : Int) = v := by omega
    rw [c, Gw.getD_lt (by rw [List.length_set]; omega), List.getElem_set_self, e v.toNat (by omega)]
    rw [show ((v.toNat : Nat) : Int) = v by omega, if_neg nv, if_pos (List.mem_append_right _ (List.mem_singleton.mpr rfl)), Int.add_zero]
  · have cv : (u : Int) ≠ v := by omega
    rw [Gw.getD_lt (by rw [List.length_set]; omega), List.getElem_set_ne (fun z => c z.symm), ← Gw.getD_lt (d := 0) (by omega), e u hu]
    congr 1
    by_cases m : (u : Int) ∈ y.take i
    · rw [if_pos m, if_pos (List.mem_append_left _ m)]
    · rw [if_neg m, if_neg fun z => (List.mem_append.mp z).elim m fun w => cv (List.mem_singleton.mp w)]
section
variable {P : Program} {w : World} {K : PySem.W.Frag} {mg : Str → Option Value} {base : Heap} {CN CG : Addr}
abbrev s_Growth_grow : Stmt := L2.inClass (top 36) 3
theorem sc_Growth_grow : FnScope ["self", "active", "time", "group", "vertex"] ["self", "active", "time"] (C8.fnScope s_Growth_grow) := C8.fnScope_by (by decide +kernel)

def spGrow (K : PySem.W.Frag) (CG : Addr) : Sp := fun vs H Q _ => ∃ (N : Gw.Net) (g : GA) (L : List Addr) (st : Gw.St) (v : V) (t : Int), vs = [.ref g.x, v, .int t] ∧ Gr K CG N g L H st ∧ N.Ok ∧ Gw.Fit N st ∧ IsL K (off L H) (IsIs K (off L H)) v (Gw.act N.root st) ∧
  ∀ H', Same (off g.four H) (off g.four H') → Gr K CG N g L H' (st.grow N.root t) → Q .non H'
theorem ok_grow (F : MetAt K CG "grow" "Growth.grow" s_Growth_grow ["self", "active", "time"]) (T : Txt K mg CN CG) : C8.Met P w K mg base 1 CG "grow" (spGrow K CG) [] := by
  refine met F T.clG sc_Growth_grow (fun vs H Q E h => ?_) (fun f cdv A outer s H vs Q E hr h => ?_)
  · obtain ⟨_, _, _, _, _, _, rfl, _⟩ := h; rfl
  · obtain ⟨N, g, L, st, v, t, rfl, G, o, I, ⟨va, vx, rfl, hva, hvp⟩, q⟩ := h
    have nd := sc_Growth_grow.nd
    refine ⟨_, (pss_one (ps_if (pt_cmpR op_gt (pv 2) pe_int (nomark _)) (pss_one (ps_for PassesOwn.never rfl (pi_l K (pv 1)) (pg_name (i := 3) nd rfl (Or.inl rfl)) (pss_cons (ps_expr (pe_bm PySem.F.plainAttrs_list PySem.F.slot_list_append PySem.F.type_list_append mt_append (pe_f K (pv 0)) (pa_cons (pe_tup (pa_cons (pe_callTy (listOf K) (by rfl) T.list (by decide +kernel) (pa_cons (pv 3) pa_nil)) (pa_cons (pv 2) pa_nil))) pa_nil)))
      (pss_one (ps_for PassesOwn.never rfl (pi_l K (pv 3)) (pg_name (i := 4) nd rfl (Or.inl rfl)) (pss_one (ps_augS (pe_f K (pv 0)) (pv 4) (getL K) (pv 2) ip_add set_list))))))) pss_nil)), ?_⟩
    have n9 := o.n9
    have hl := I.len o
    have al := Gw.act_len I.I
    refine ⟨_, rfl, _, _, rfl, rfl, _, rfl, ?_⟩
    by_cases t0 : 0 < t
    · obtain ⟨R, rfl, eR, hR⟩ := is_rec hvp
      have rl : R.length ≤ 40 := by rw [eR, List.length_map] at al; omega
      refine ifd t0 ⟨_, rfl, va, rfl, ⟨_, SqL.mono (off_sub L) hva⟩, ?_⟩
      refine for_list (K := K) (a := va) (xs := R.map fun r => V.ref r.1) (fun i σ H' => Same (off g.four H) (off g.four H') ∧ (∃ o3 o4, σ = [some (.ref g.x), some (.ref va), some (.int t), o3, o4]) ∧ Gr K CG N g L H' ⟨st.gs, st.hs ++ (R.take i).map (fun r => (r.2, t)), st.ch, st.sp⟩) ?_ (fun i σ H' _ h => SqL.mono (Same.trans (four_L G.sub h.1) (off_sub L)) hva) ?_ ?_
      · refine ⟨Same.refl _, ⟨_, _, rfl⟩, ?_⟩
        rw [List.take_zero, List.map_nil, List.append_nil]
        exact G
      · rintro i x σ H' hx ⟨s1, ⟨o3, o4, rfl⟩, G1⟩
        rw [List.getElem?_map] at hx
        obtain ⟨y, hy, rfl⟩ := Option.map_eq_some_iff.mp hx
        have yR : y ∈ R := List.mem_of_getElem? hy
        have ilt := (List.getElem?_eq_some_iff.mp hy).1
        have htk : (R.take (i + 1)).map (fun r => (r.2, t)) = (R.take i).map (fun r => (r.2, t)) ++ [(y.2, t)] := by rw [List.take_add_one, hy, List.map_append]; rfl
        have yA : y.2 ∈ st.gs := (Gw.mem_act.mp (by rw [eR]; exact List.mem_map.mpr ⟨y, yR, rfl⟩)).1
        have ya := I.I.P.asc _ yA
        have yr := I.I.P.rng _ yA
        have yl : y.2.length ≤ 40 := by have := set_len ya yr; omega
        have sL1 := four_L G.sub s1
        have hyo : SqL K (off L H') y.1 (y.2.map V.int) := SqL.mono sL1 (hR y yR)
        obtain ⟨hx, hh, hp⟩ := G1.hs
        refine ⟨_, rfl, g.x, CG, g.dx, _, _, rfl, G1.insv, T.clG, T.gHeights, gf_heights g, .inl ⟨rfl, _, SqL.of hh⟩, _, rfl, y.1, _, rfl, .inl (SqL.mono (off_sub L) hyo), fun l hl => ?_⟩
        refine ⟨_, rfl, by show 2 ≤ sizeLine; rw [szl]; decide, fun p hpn => ?_⟩
        have s2 : Same H' (upd (upd H' l (.lst (y.2.map V.int))) p (.tup [.ref l, .int t])) := (Same.new hl).trans (Same.new hpn)
        have lL : l ∉ L := fun m => by obtain ⟨u, e⟩ := G1.tr l m; rw [hl] at e; cases e
        have pL : p ∉ L := fun m => by obtain ⟨u, e⟩ := G1.tr p m; rw [none_of (Same.new hl) hpn] at e; cases e
        have hlt : off L (upd (upd H' l (.lst (y.2.map V.int))) p (.tup [.ref l, .int t])) l = some (.lst (y.2.map V.int)) := by
          have ne : l ≠ p := ne_of_none upd_same hpn
          rw [off_out lL, upd_ne ne, upd_same]
        have hpt : off L (upd (upd H' l (.lst (y.2.map V.int))) p (.tup [.ref l, .int t])) p = some (.tup [.ref l, .int t]) := by
          rw [off_out pL, upd_same]
        generalize upd (upd H' l (.lst (y.2.map V.int))) p (.tup [.ref l, .int t]) = Hb at s2 hlt hpt ⊢
        have G2 := G1.mono s2
        have hh2 := s2 _ _ hh
        have hxl : hx.length ≤ 4000 := by
          rw [hp.length]
          show (st.hs ++ (R.take i).map (fun r => (r.2, t))).length ≤ 4000
          rw [List.length_append, List.length_map, List.length_take]; omega
        refine ⟨g.lh, _, _, rfl, rfl, hh2, by rw [szl]; omega, ?_⟩
        obtain ⟨n1, n2, n3, n4, n5, n6⟩ := four_ne G.nd
        obtain ⟨ds, hds, dok⟩ := G2.ds
        have hp3 : Paired (IsHt K (off L Hb)) (hx ++ [.ref p]) ((st.hs ++ (R.take i).map (fun r => (r.2, t))) ++ [(y.2, t)]) :=
          Paired.app (hp.mono fun _ _ z => z.mono (off_mono s2)) (.cons ⟨p, .ref l, rfl, SqT.of hpt, ⟨l, rfl, SqL.of hlt⟩⟩ .nil)
        have hds3 : (upd Hb g.lh (.lst (hx ++ [.ref p]))) g.ld = some (.lst (ds.map V.int)) := by rw [upd_ne n4]; exact hds
        have hin3 : ∀ ds1 : List Int, (upd (upd Hb g.lh (.lst (hx ++ [.ref p]))) g.ld (.lst (ds1.map V.int))) g.x = some (.ins CG g.dx (gf g)) := fun ds1 => by
          have m := G.x_out
          rw [upd_ne fun e => m (by rw [e]; exact G.sub _ in_ld), upd_ne fun e => m (by rw [e]; exact G.sub _ in_lh)]
          exact G2.insv
        have hy3 : ∀ ds1 : List Int, SqL K (upd (upd Hb g.lh (.lst (hx ++ [.ref p]))) g.ld (.lst (ds1.map V.int))) y.1 (y.2.map V.int) := fun ds1 => by
          have q1 := SqL.mono (off_mono (L := L) s2) hyo
          have e : off L (upd (upd Hb g.lh (.lst (hx ++ [.ref p]))) g.ld (.lst (ds1.map V.int))) = off L Hb := by rw [off_put (G.sub _ in_ld), off_put (G.sub _ in_lh)]
          rw [← e] at q1
          exact SqL.mono (off_sub L) q1
        have start : upd Hb g.lh (.lst (hx ++ [.ref p])) = upd (upd Hb g.lh (.lst (hx ++ [.ref p]))) g.ld (.lst (ds.map V.int)) := (upd_self hds3).symm
        rw [start]
        refine ⟨_, rfl, y.1, rfl, ⟨_, hy3 ds⟩, ?_⟩
        refine for_list (K := K) (a := y.1) (xs := y.2.map V.int) (fun j σ H'' => (∃ o4, σ = [some (.ref g.x), some (.ref va), some (.int t), some (.ref y.1), o4]) ∧ ∃ ds1 : List Int, H'' = upd (upd Hb g.lh (.lst (hx ++ [.ref p]))) g.ld (.lst (ds1.map V.int)) ∧ ds1.length = N.n ∧ ∀ u : Nat, u < N.n → ds1.getD u 0 = ds.getD u 0 + if (u : Int) ∈ y.2.take j then t else 0) ?_ (fun j σ H'' _ h => by obtain ⟨_, ds1, rfl, _⟩ := h; exact hy3 ds1) ?_ ?_
        · exact ⟨⟨_, rfl⟩, ds, rfl, dok.1, fun u hu => by rw [List.take_zero, if_neg List.not_mem_nil, Int.add_zero]⟩
        · rintro j x σ H'' hx ⟨⟨o4, rfl⟩, ds1, rfl, l1, e1⟩
          rw [List.getElem?_map] at hx
          obtain ⟨v, hv, rfl⟩ := Option.map_eq_some_iff.mp hx
          obtain ⟨v0, v1⟩ := yr v (List.mem_of_getElem? hv)
          have hn := Gw.asc_nodup ya
          obtain ⟨f1, f2⟩ := dep_step hn hv v0 v1 l1 e1
          have lt1 : v.toNat < ds1.length := by omega
          refine ⟨_, rfl, g.x, CG, g.dx, _, _, rfl, hin3 ds1, T.clG, T.gDepths, gf_depths g, _, rfl, g.ld, _, v.toNat, .int (ds1.getD v.toNat 0), rfl, congrArg V.int (by omega), SqL.of upd_same, ?_, _, rfl, _, _, rfl, rfl, g.ld, _, v, v.toNat, rfl, rfl, upd_same, ?_, ?_⟩
          · rw [List.getElem?_map, List.getElem?_eq_getElem lt1, Gw.getD_lt lt1]; rfl
          · unfold ixN
            rw [List.length_map, if_pos v0, if_pos (by omega)]
          · refine ⟨⟨_, rfl⟩, ds1.set v.toNat (ds1.getD v.toNat 0 + t), ?_, f1, f2⟩
            rw [upd_twice, List.map_set]
        · rintro σ H'' ⟨⟨o4, rfl⟩, ds1, rfl, l1, e1⟩
          rw [List.length_map, List.take_length] at e1
          have r := G2.setHD hp3 (dep_snoc dok l1 e1)
          refine ⟨?_, ⟨_, _, rfl⟩, ?_⟩
          · rw [off_put in_ld, off_put in_lh]
            exact s1.trans (off_mono s2)
          · rw [htk, ← List.append_assoc]
            exact r
      · rintro σ H' ⟨s1, ⟨o3, o4, rfl⟩, G1⟩
        rw [List.length_map, List.take_length] at G1
        refine q H' s1 ?_
        have e : st.grow N.root t = ⟨st.gs, st.hs ++ R.map (fun r => (r.2, t)), st.ch, st.sp⟩ := by
          unfold Gw.St.grow Gw.grown
          rw [if_pos t0, eR, List.map_map]; rfl
        rw [e]; exact G1
    · refine ifnd t0 (q H (Same.refl _) ?_)
      have e : st.grow N.root t = st := by
        unfold Gw.St.grow Gw.grown
        rw [if_neg t0]
      rw [e]; exact G
end
end K5

namespace K5
open PySem PySem.Spec PyProof.Rows L2
theorem plain_is (g : List Int) : (encIs g).plain = true := PyData.plain_of_canLay0 _ (lay_is g)
theorem plain_all : ∀ gs : List (List Int), PyData.plainAll (gs.map encIs) = true
  | [] => by simp [PyData.plainAll]
  | x :: r => by simp [PyData.plainAll, plain_is, plain_all r]
theorem place_is {g : List Int} : ∀ {gs : List (List Int)}, g ∈ gs → ∃ j, SeqAt.dataPlace (gs.map encIs) (encIs g) = some j ∧ gs.eraseIdx j = gs.erase g
  | [], h => absurd h List.not_mem_nil
  | x :: r, h => by
    unfold SeqAt.dataPlace
    rw [List.map_cons, List.findIdx?_cons, eqv_is]
    by_cases e : x = g
    · rw [decide_eq_true e]
      refine ⟨0, rfl, ?_⟩
      subst e
      rw [List.erase_cons_head]; rfl
    · rw [decide_eq_false e]
      obtain ⟨j, h1, h2⟩ := place_is ((List.mem_cons.mp h).resolve_left fun z => e z.symm)
      unfold SeqAt.dataPlace at h1
      refine ⟨j + 1, ?_, ?_⟩
      · rw [h1]; rfl
      · rw [List.erase_cons_tail (by simpa using e), List.eraseIdx_cons_succ, h2]
theorem lt_of_sorted {l m : List Int} (p : l.Perm m) (n : m.Nodup) (s : l.Pairwise (· ≤ ·)) : l.Pairwise (· < ·) :=
  (s.and (p.nodup_iff.mpr n)).imp fun h => by have := h.1; have := h.2; omega
section
variable {K : PySem.W.Frag} {CG : Addr} {N : Gw.Net} {g : GA} {L : List Addr} {H : Hp} {s : Gw.St}
theorem Gr.setG (G : Gr K CG N g L H s) {gx : List V} {gs : List (List Int)} (h : Paired (IsT (off L H)) gx gs) : Gr K CG N g L (upd H g.lg (.lst gx)) ⟨gs, s.hs, s.ch, s.sp⟩ := by
  have e : off L (upd H g.lg (.lst gx)) = off L H := off_put (G.sub _ in_lg)
  obtain ⟨n1, n2, n3, n4, n5, n6⟩ := four_ne G.nd
  obtain ⟨xs, e1, e2⟩ := G.ed
  obtain ⟨ds, d1, d2⟩ := G.ds
  obtain ⟨hx, h1, h2⟩ := G.hs
  refine ⟨G.sub, fun b hb => ?_, G.nd, by rw [e]; exact G.at_, ⟨xs, by rw [e]; exact e1, by rw [e]; exact e2⟩, ⟨gx, upd_same, by rw [e]; exact h⟩, ⟨ds, by rw [upd_ne n1.symm]; exact d1, d2⟩, ⟨hx, by rw [upd_ne n2.symm]; exact h1, by rw [e]; exact h2⟩, by rw [upd_ne n3.symm]; exact G.ch⟩
  by_cases c : b = g.lg
  · exact ⟨_, by rw [c, upd_same]⟩
  · rw [upd_ne c]; exact G.tr b hb
theorem Gr.setC (G : Gr K CG N g L H s) (ch : List Int) : Gr K CG N g L (upd H g.lc (.lst (ch.map V.int))) ⟨s.gs, s.hs, ch, s.sp⟩ := by
  have e : off L (upd H g.lc (.lst (ch.map V.int))) = off L H := off_put (G.sub _ in_lc)
  obtain ⟨n1, n2, n3, n4, n5, n6⟩ := four_ne G.nd
  obtain ⟨xs, e1, e2⟩ := G.ed
  obtain ⟨gx, g1, g2⟩ := G.gs
  obtain ⟨ds, d1, d2⟩ := G.ds
  obtain ⟨hx, h1, h2⟩ := G.hs
  refine ⟨G.sub, fun b hb => ?_, G.nd, by rw [e]; exact G.at_, ⟨xs, by rw [e]; exact e1, by rw [e]; exact e2⟩, ⟨gx, by rw [upd_ne n3]; exact g1, by rw [e]; exact g2⟩, ⟨ds, by rw [upd_ne n5]; exact d1, d2⟩, ⟨hx, by rw [upd_ne n6]; exact h1, by rw [e]; exact h2⟩, upd_same⟩
  by_cases c : b = g.lc
  · exact ⟨_, by rw [c, upd_same]⟩
  · rw [upd_ne c]; exact G.tr b hb
end
section
variable {P : Program} {w : World} {K : PySem.W.Frag} {mg : Str → Option Value} {base : Heap} {CN CG : Addr}
abbrev s_Growth_join : Stmt := L2.inClass (top 36) 4
theorem sc_Growth_join : FnScope ["self", "number", "u", "v", "_", "one", "two"] ["self", "number"] (C8.fnScope s_Growth_join) := C8.fnScope_by (by decide +kernel)

def spJoin (K : PySem.W.Frag) (CG : Addr) : Sp := fun vs H Q _ => ∃ (N : Gw.Net) (g : GA) (L : List Addr) (st : Gw.St) (k : Int) (one two : List Int), vs = [.ref g.x, .int k] ∧ Gr K CG N g L H st ∧ N.Ok ∧ Gw.Inv N st ∧ N.isE k ∧ one ∈ st.gs ∧ two ∈ st.gs ∧ one ≠ two ∧ (N.ed k).1 ∈ one ∧ (N.ed k).2.1 ∈ two ∧
  ∀ H' new, Same (off g.four H) (off g.four H') → new.Perm (one ++ two) → new.Pairwise (· < ·) → Gr K CG N g L H' (st.join k one two new) → Q .non H'
theorem ok_join (F : MetAt K CG "join" "Growth.join" s_Growth_join ["self", "number"]) (T : Txt K mg CN CG) (m_group_of : C8.Met P w K mg base 1 CG "group_of" (spGroupOf K CG) []) : C8.Met P w K mg base 2 CG "join" (spJoin K CG) [] := by
  refine met F T.clG sc_Growth_join (fun vs H Q E h => ?_) (fun f cdv A outer s H vs Q E hr h => ?_)
  · obtain ⟨_, _, _, _, _, _, _, rfl, _⟩ := h; rfl
  · obtain ⟨N, g, L, st, k, one, two, rfl, G, o, I, hE, hone, htwo, hd, uone, vtwo, q⟩ := h
    have nd := sc_Growth_join.nd
    refine ⟨_, (pss_cons (ps_asg (pe_ix (ixl K) (pe_f K (pv 0)) (pv 1) (fun _ _ => rfl)) (pg_t K 3 rfl (pgs_cons (pg_name (i := 2) nd rfl (Or.inl rfl)) (pgs_cons (pg_name (i := 3) nd rfl (Or.inl rfl)) (pgs_cons (pg_name (i := 4) nd rfl (Or.inl rfl)) pgs_nil)))))
      (pss_cons (ps_set (i := 5) nd rfl (Or.inl rfl) (C8.pe_mt m_group_of hr (by decide) (pv 0) (pa_cons (pv 2) pa_nil)))
      (pss_cons (ps_set (i := 6) nd rfl (Or.inl rfl) (C8.pe_mt m_group_of hr (by decide) (pv 0) (pa_cons (pv 3) pa_nil)))
      (pss_cons (ps_expr (pe_bm PySem.F.plainAttrs_list PySem.F.slot_list_remove PySem.F.type_list_remove (mtRemD K hr.units) (pe_f K (pv 0)) (pa_cons (pv 5) pa_nil)))
      (pss_cons (ps_expr (pe_bm PySem.F.plainAttrs_list PySem.F.slot_list_remove PySem.F.type_list_remove (mtRemD K hr.units) (pe_f K (pv 0)) (pa_cons (pv 6) pa_nil)))
      (pss_cons (ps_expr (pe_bm PySem.F.plainAttrs_list PySem.F.slot_list_append PySem.F.type_list_append mt_append (pe_f K (pv 0)) (pa_cons (pe_callB (crSorted K) (by rfl) T.sorted (by decide +kernel) (pa_cons (pe_op op_cat (pv 5) (pv 6)) pa_nil)) pa_nil)))
      (pss_one (ps_expr (pe_bm PySem.F.plainAttrs_list PySem.F.slot_list_append PySem.F.type_list_append mt_append (pe_f K (pv 0)) (pa_cons (pv 1) pa_nil)))))))))), ?_⟩
    have n9 := o.n9
    obtain ⟨xs, hle, hpe⟩ := G.ed
    obtain ⟨t2, e2, ht2⟩ := es_at (hpe.mono fun _ _ z => IsEd.mono (off_sub L) z) hE
    obtain ⟨⟨u0, u1⟩, ⟨v0, v1⟩, ne, p0, p1⟩ := ed_ok o hE
    refine ⟨_, rfl, g.x, CG, g.dx, _, _, rfl, G.insv, T.clG, T.gEdges, gf_edges g, _, rfl, g.le, xs, _, _, rfl, rfl, SqL.of (off_sub L _ _ hle), e2, t2, _, rfl, ht2, rfl, _, _, rfl, _, _, rfl, _, _, rfl, rfl, ?_⟩
    refine ⟨_, rfl, g.x, g.dx, _, rfl, G.insv, gf_no g (by decide +kernel) (by decide +kernel) (by decide +kernel) (by decide +kernel) (by decide +kernel), _, rfl, N, g, L, st, _, rfl, G, o, I, ⟨u0, u1⟩, fun H2 pa one' s2 hone' uone' hpa => ?_⟩
    have G2 := G.mono s2
    refine ⟨_, rfl, g.x, g.dx, _, rfl, G2.insv, gf_no g (by decide +kernel) (by decide +kernel) (by decide +kernel) (by decide +kernel) (by decide +kernel), _, rfl, N, g, L, st, _, rfl, G2, o, I, ⟨v0, v1⟩, fun H3 pb two' s3 htwo' vtwo' hpb => ?_⟩
    obtain rfl := I.P.dis one' hone' one hone _ uone' uone
    obtain rfl := I.P.dis two' htwo' two htwo _ vtwo' vtwo
    have G3 := G2.mono s3
    have hpa3 : off L H3 pa = some (.lst (one'.map V.int)) := (off_mono (s2.trans s3)) _ _ hpa
    have hpb3 : off L H3 pb = some (.lst (two'.map V.int)) := (off_mono s3) _ _ hpb
    obtain ⟨gx, hg, hgp⟩ := G3.gs
    obtain ⟨j1, pl1, er1⟩ := place_is hone
    have dpg : ∀ {H : Hp} {gx : List V} {gs : List (List Int)}, Paired (IsT (off L H)) gx gs → DpAll K H gx (gs.map encIs) := fun h => dp_all (fun v b z => (IsT.is (K := K) (z.mono (off_sub L))).dp) h
    have dpo : ∀ {H : Hp} {p : Addr} {l : List Int}, off L H p = some (.lst (l.map V.int)) → Dp K H (.ref p) (encIs l) := fun h => IsIs.dp ⟨_, rfl, SqL.of (off_sub L _ _ h)⟩
    refine ⟨_, rfl, g.x, CG, g.dx, _, _, rfl, G3.insv, T.clG, T.gGroups, gf_groups g, .inl ⟨rfl, _, SqL.of hg⟩, _, rfl, g.lg, _, gx, _, _, j1, rfl, rfl, hg, dpg hgp, dpo hpa3, plain_all _, plain_is _, by have := dep_is one'; omega, pl1, ?_⟩
    have hgp4 := Paired.er j1 hgp
    rw [er1] at hgp4
    have G4 := G3.setG hgp4
    have e4 : off L (upd H3 g.lg (.lst (gx.eraseIdx j1))) = off L H3 := off_put (G.sub _ in_lg)
    have s4 : Same (off g.four H) (off g.four (upd H3 g.lg (.lst (gx.eraseIdx j1)))) := by rw [off_put in_lg]; exact off_mono (s2.trans s3)
    have hg4 : (upd H3 g.lg (.lst (gx.eraseIdx j1))) g.lg = some (.lst (gx.eraseIdx j1)) := upd_same
    generalize upd H3 g.lg (.lst (gx.eraseIdx j1)) = H4 at G4 e4 s4 hg4 ⊢
    rw [← e4] at hpa3 hpb3 hgp4
    have htwo4 : two' ∈ st.gs.erase one' := (List.mem_erase_of_ne fun z => hd z.symm).mpr htwo
    obtain ⟨j2, pl2, er2⟩ := place_is htwo4
    refine ⟨_, rfl, g.x, CG, g.dx, _, _, rfl, G4.insv, T.clG, T.gGroups, gf_groups g, .inl ⟨rfl, _, SqL.of hg4⟩, _, rfl, g.lg, _, _, _, _, j2, rfl, rfl, hg4, dpg hgp4, dpo hpb3, plain_all _, plain_is _, by have := dep_is two'; omega, pl2, ?_⟩
    have hgp5 := Paired.er j2 hgp4
    rw [er2] at hgp5
    have G5 := G4.setG hgp5
    have e5 : off L (upd H4 g.lg (.lst ((gx.eraseIdx j1).eraseIdx j2))) = off L H4 := off_put (G.sub _ in_lg)
    have s5 : Same (off g.four H) (off g.four (upd H4 g.lg (.lst ((gx.eraseIdx j1).eraseIdx j2)))) := by rw [off_put in_lg]; exact s4
    have hg5 : (upd H4 g.lg (.lst ((gx.eraseIdx j1).eraseIdx j2))) g.lg = some (.lst ((gx.eraseIdx j1).eraseIdx j2)) := upd_same
    generalize upd H4 g.lg (.lst ((gx.eraseIdx j1).eraseIdx j2)) = H5 at G5 e5 s5 hg5 ⊢
    rw [← e5] at hpa3 hpb3 hgp5
    have l1 := set_len (I.P.asc _ hone) (I.P.rng _ hone)
    have l2 := set_len (I.P.asc _ htwo) (I.P.rng _ htwo)
    have gl := Gw.part_len I
    have cl := I.len
    have hcat : one'.map V.int ++ two'.map V.int = (one' ++ two').map V.int := (List.map_append ..).symm
    have gxl : ((gx.eraseIdx j1).eraseIdx j2).length ≤ 40 := by
      rw [hgp5.length]
      have a := List.length_erase_le (a := two') (l := st.gs.erase one')
      have b := List.length_erase_le (a := one') (l := st.gs)
      omega
    refine ⟨_, rfl, g.x, CG, g.dx, _, _, rfl, G5.insv, T.clG, T.gGroups, gf_groups g, .inl ⟨rfl, _, SqL.of hg5⟩, _, rfl, _, rfl, pa, pb, _, _, rfl, rfl, off_sub L _ _ hpa3, off_sub L _ _ hpb3, by rw [List.length_map, List.length_map, szl]; omega, fun pc hpc => ?_⟩
    rw [hcat]
    refine ⟨pc, _, rfl, SqL.of upd_same, fun new pd perm srt hpd => ?_⟩
    have s6 : Same H5 (upd (upd H5 pc (.lst ((one' ++ two').map V.int))) pd (.lst (new.map V.int))) := (Same.new hpc).trans (Same.new hpd)
    have pdL : pd ∉ L := fun m => by
      obtain ⟨u, e⟩ := G5.tr pd m
      rw [none_of (Same.new hpc) hpd] at e; cases e
    have hd6 : off L (upd (upd H5 pc (.lst ((one' ++ two').map V.int))) pd (.lst (new.map V.int))) pd = some (.lst (new.map V.int)) := by rw [off_out pdL, upd_same]
    generalize upd (upd H5 pc (.lst ((one' ++ two').map V.int))) pd (.lst (new.map V.int)) = H6 at s6 hd6 ⊢
    have G6 := G5.mono s6
    have hgp7 : Paired (IsT (off L H6)) (((gx.eraseIdx j1).eraseIdx j2) ++ [.ref pd]) (((st.gs.erase one').erase two') ++ [new]) := Paired.app (hgp5.mono fun _ _ z => z.mono (off_mono s6)) (.cons ⟨pd, rfl, hd6⟩ .nil)
    refine ⟨g.lg, _, _, rfl, rfl, s6 _ _ hg5, by rw [szl]; omega, ?_⟩
    have G7 := G6.setG hgp7
    have s7 : Same (off g.four H) (off g.four (upd H6 g.lg (.lst (((gx.eraseIdx j1).eraseIdx j2) ++ [.ref pd])))) := by rw [off_put in_lg]; exact s5.trans (off_mono s6)
    generalize upd H6 g.lg (.lst (((gx.eraseIdx j1).eraseIdx j2) ++ [.ref pd])) = H7 at G7 s7 ⊢
    have hc7 : H7 g.lc = some (.lst (st.ch.map V.int)) := G7.ch
    refine ⟨_, rfl, g.x, CG, g.dx, _, _, rfl, G7.insv, T.clG, T.gChosen, gf_chosen g, .inl ⟨rfl, _, SqL.of hc7⟩, _, rfl, g.lc, _, _, rfl, rfl, hc7, by rw [List.length_map, szl]; omega, ?_⟩
    have e8 : st.ch.map V.int ++ [V.int k] = (st.ch ++ [k]).map V.int := by rw [List.map_append]; rfl
    rw [e8]
    have dj : (one' ++ two').Nodup := List.nodup_append.mpr ⟨Gw.asc_nodup (I.P.asc _ hone), Gw.asc_nodup (I.P.asc _ htwo), fun a ha b hb e => hd (I.P.dis _ hone _ htwo a ha (by rw [e]; exact hb))⟩
    refine q _ new ?_ perm (lt_of_sorted perm dj srt) (G7.setC (st.ch ++ [k]))
    rw [off_put in_lc]; exact s7
end
end K5

namespace K5
open PySem PySem.Spec PyProof.Rows L2
/-- what stands at places that H0 does not track -/
def newer (H0 H : Hp) : Hp := fun b => if H0 b = none then H b else none
theorem newer_at {H0 H : Hp} {b : Addr} (h : H0 b = none) : newer H0 H b = H b := if_pos h
theorem newer_old {H0 H : Hp} {b : Addr} {u : HO} (h : H0 b = some u) : newer H0 H b = none := if_neg (by rw [h]; intro z; cases z)
theorem newer_sub (H0 H : Hp) : Same (newer H0 H) H := fun b u e => by
  cases h : H0 b with
  | none => rwa [newer_at h] at e
  | some o => rw [newer_old h] at e; cases e
theorem newer_mono {H0 A B : Hp} (s : Same A B) : Same (newer H0 A) (newer H0 B) := fun b u e => by
  cases h : H0 b with
  | none => rw [newer_at h] at e ⊢; exact s _ _ e
  | some o => rw [newer_old h] at e; cases e
/-- over the keys of a locked dict of tuples, each item new -/
theorem lc_keysT {o : Obj} {d : Addr} {kvs : List (List Key × V)} {g : TG} {te : TE} {vs : List Nat} {σ : L2.St} {H1 : Hp} {D : Addr} {Qd : Hp → Prop} (R : List Key × V → Hp → V → Prop) (hR : ∀ y H H' v, Same H H' → R y H v → R y H' v)
    (hD : H1 D = none) (hd : H1 d = some (.frz o (.dT kvs))) (hz : kvs.length ≤ sizeLine)
    (turn : ∀ y ∈ kvs, ∀ H q, Same H1 H → H q = some (.tup (y.1.map kV)) → (∃ acc, H D = some (.lst acc)) → ∀ (Qt : V → Hp → Prop), (∀ H4 v, Same H H4 → R y (off [D] H4) v → Qt v H4) → g (.ref q) (wipe σ vs) H fun σ2 H2 => wipe σ2 vs = wipe σ vs ∧ te σ2 H2 Qt)
    (done : ∀ H xs, Same H1 H → H D = some (.lst xs) → Paired (fun v y => R y (off [D] H) v) xs kvs → Qd H) :
    ∃ W : Nat → Nat → Hp → Prop, (∃ m, W 0 m (upd H1 D (.lst []))) ∧ ∀ i m H, W i m H →
      ((Itkt d o kvs).stop i H ∧ Qd H) ∨ ((Itkt d o kvs).go i H ∧ ∃ Nx : Hp → Prop, (∀ H', Nx H' → ∃ m', m' < m ∧ W (i + 1) m' H') ∧ ∀ x H', (Itkt d o kvs).yld i H x H' → g x (wipe σ vs) H' fun σ2 H2 => wipe σ2 vs = wipe σ vs ∧ tYes σ2 H2 fun b H3 =>
        if b = true then te σ2 H3 fun y H4 => ∃ acc, H4 D = some (.lst acc) ∧ acc.length < sizeLine ∧ Nx (upd H4 D (.lst (acc ++ [y]))) else Nx H3) := by
  refine ⟨fun i m H => m = kvs.length - i ∧ i ≤ kvs.length ∧ Same H1 H ∧ ∃ xs, H D = some (.lst xs) ∧ Paired (fun v y => R y (off [D] H) v) xs (kvs.take i), ⟨kvs.length, by simp, Nat.zero_le _, Same.new hD, [], upd_same, .nil⟩, ?_⟩
  rintro i m H ⟨rfl, hi, s1, xs, hxs, hp⟩
  by_cases hlt : i < kvs.length
  · refine .inr ⟨⟨s1 _ _ hd, hlt⟩, fun H' => i + 1 ≤ kvs.length ∧ Same H1 H' ∧ ∃ xs, H' D = some (.lst xs) ∧ Paired (fun v y => R y (off [D] H') v) xs (kvs.take (i + 1)), fun H' p' => ⟨kvs.length - (i + 1), by omega, rfl, p'⟩, fun x H' y => ?_⟩
    obtain ⟨rfl, k, v, q, hk, rfl, hq⟩ := y
    have hy : kvs[i]? = some (k, v) := hk
    have htk : kvs.take (i + 1) = kvs.take i ++ [(k, v)] := by rw [List.take_add_one, hy]; rfl
    have e : (fun (σ2 : L2.St) (H2 : Hp) => wipe σ2 vs = wipe σ vs ∧ tYes σ2 H2 fun b H3 =>
        if b = true then te σ2 H3 fun y H4 => ∃ acc, H4 D = some (.lst acc) ∧ acc.length < sizeLine ∧ (i + 1 ≤ kvs.length ∧ Same H1 (upd H4 D (.lst (acc ++ [y]))) ∧ ∃ xs, (upd H4 D (.lst (acc ++ [y]))) D = some (.lst xs) ∧ Paired (fun v b => R b (off [D] (upd H4 D (.lst (acc ++ [y])))) v) xs (kvs.take (i + 1)))
        else (i + 1 ≤ kvs.length ∧ Same H1 H3 ∧ ∃ xs, H3 D = some (.lst xs) ∧ Paired (fun v b => R b (off [D] H3) v) xs (kvs.take (i + 1)))) =
        (fun (σ2 : L2.St) (H2 : Hp) => wipe σ2 vs = wipe σ vs ∧ te σ2 H2 fun y H4 => ∃ acc, H4 D = some (.lst acc) ∧ acc.length < sizeLine ∧ (i + 1 ≤ kvs.length ∧ Same H1 (upd H4 D (.lst (acc ++ [y]))) ∧ ∃ xs, (upd H4 D (.lst (acc ++ [y]))) D = some (.lst xs) ∧ Paired (fun v b => R b (off [D] (upd H4 D (.lst (acc ++ [y])))) v) xs (kvs.take (i + 1)))) := by
      funext σ2 H2
      unfold tYes
      dsimp only
      rw [if_pos rfl]
    rw [e]
    refine turn (k, v) (List.mem_of_getElem? hy) H' q s1 hq ⟨xs, hxs⟩ _ fun H4 v s4 r => ⟨xs, s4 _ _ hxs, ?_, by omega, Same.put (s1.trans s4) hD, xs ++ [v], upd_same, ?_⟩
    · have := hp.length
      rw [List.length_take] at this
      omega
    · rw [htk, off_put (List.mem_singleton.mpr rfl)]
      exact Paired.app (hp.mono fun v j h => hR _ _ _ _ (off_mono s4) h) (.cons r .nil)
  · have e : i = kvs.length := by omega
    subst e
    rw [List.take_length] at hp
    exact .inl ⟨⟨s1 _ _ hd, Nat.le_refl _⟩, done H xs s1 hxs hp⟩
/-! ### heights by sets, as the dict keeps them -/
def kk (g : List Int) : List Key := g.map Sum.inl
def kvV (kv : Gw.Hts) : List (List Key × V) := kv.map fun e => (kk e.1, .int e.2)
theorem kk_map (g : List Int) : (kk g).map kV = g.map V.int := by unfold kk; rw [List.map_map]; rfl
theorem kk_inj : ∀ {a b : List Int}, kk a = kk b → a = b
  | [], [], _ => rfl
  | [], _ :: _, h => by simp [kk] at h
  | _ :: _, [], h => by simp [kk] at h
  | x :: a, y :: b, h => by
    have h' : (Sum.inl x : Key) :: kk a = Sum.inl y :: kk b := h
    injection h' with h1 h2
    injection h1 with h1
    rw [h1, kk_inj h2]
theorem valV_out {g : List Int} : ∀ {kv : Gw.Hts}, g ∉ kv.map (·.1) → valV (kvV kv) (kk g) = none
  | [], _ => rfl
  | e :: r, h => by
    have h1 : ¬ kk e.1 = kk g := fun z => h (by rw [List.map_cons, kk_inj z]; exact List.mem_cons_self)
    exact (valV_neg (p := (kk e.1, V.int e.2)) h1).trans (valV_out fun z => h (List.mem_cons_of_mem _ z))
theorem valV_in {e : List Int × Int} : ∀ {kv : Gw.Hts}, (kv.map (·.1)).Nodup → e ∈ kv → valV (kvV kv) (kk e.1) = some (.int e.2)
  | [], _, h => absurd h List.not_mem_nil
  | x :: r, n, h => by
    rw [List.map_cons] at n
    obtain ⟨n1, n2⟩ := List.nodup_cons.mp n
    rcases List.mem_cons.mp h with q | q
    · subst q; exact valV_pos (p := (kk e.1, V.int e.2)) rfl
    · have ne : ¬ kk x.1 = kk e.1 := fun z => n1 (by rw [kk_inj z]; exact List.mem_map.mpr ⟨e, q, rfl⟩)
      exact (valV_neg (p := (kk x.1, V.int x.2)) ne).trans (valV_in n2 q)
theorem any_kk {g : List Int} : ∀ kv : Gw.Hts, ((kvV kv).any fun x => decide (x.1 = kk g)) = true ↔ g ∈ kv.map (·.1)
  | [] => by simp [kvV]
  | e :: r => by
    have ih := any_kk (g := g) r
    show ((decide (kk e.1 = kk g)) || (kvV r).any fun x => decide (x.1 = kk g)) = true ↔ g ∈ e.1 :: r.map (·.1)
    rw [Bool.or_eq_true, decide_eq_true_iff, List.mem_cons, ih]
    exact or_congr ⟨fun h => (kk_inj h).symm, fun h => by rw [h]⟩ Iff.rfl
theorem map_kk {g : List Int} {t : Int} {y : V} : ∀ kv : Gw.Hts, (∀ e ∈ kv, e.1 = g → y = .int (e.2 + t)) → ((kvV kv).map fun x => if x.1 = kk g then (x.1, y) else x) = kvV (kv.map fun e => if e.1 = g then (e.1, e.2 + t) else e)
  | [], _ => rfl
  | e :: r, h => by
    have ih := map_kk r fun x hx => h x (List.mem_cons_of_mem _ hx)
    show (if kk e.1 = kk g then (kk e.1, y) else (kk e.1, V.int e.2)) :: ((kvV r).map fun x => if x.1 = kk g then (x.1, y) else x) = (fun e : List Int × Int => (kk e.1, V.int e.2)) (if e.1 = g then (e.1, e.2 + t) else e) :: kvV (r.map fun e => if e.1 = g then (e.1, e.2 + t) else e)
    rw [ih]
    by_cases c : e.1 = g
    · rw [if_pos (by rw [c]), if_pos c, h e List.mem_cons_self c]
    · rw [if_neg fun z => c (kk_inj z), if_neg c]
theorem putK_kk {kv : Gw.Hts} {g : List Int} {t : Int} {y : V} (h1 : ∀ e ∈ kv, e.1 = g → y = .int (e.2 + t)) (h2 : g ∉ kv.map (·.1) → y = .int t) : putK (kvV kv) (kk g) y = kvV (Gw.putS kv g t) := by
  unfold putK
  by_cases c : g ∈ kv.map (·.1)
  · rw [if_pos ((any_kk kv).mpr c), Gw.putS_in c]
    exact map_kk kv h1
  · rw [if_neg fun z => c ((any_kk kv).mp z), Gw.putS_out c, h2 c]
    unfold kvV
    rw [List.map_append]; rfl
end K5

namespace K5
open PySem PySem.Spec PyProof.Rows L2
theorem pair_kv {K : PySem.W.Frag} {H : Hp} : ∀ {xs : List V} {kv : Gw.Hts}, Paired (fun v (y : List Key × V) => ∃ e : List Int × Int, y = (kk e.1, .int e.2) ∧ IsMo K H v (Gw.frac e)) xs (kvV kv) → Paired (IsMo K H) xs (kv.map Gw.frac)
  | [], [], _ => .nil
  | [], e :: r, h => by cases h
  | x :: xs, [], h => by cases h
  | x :: xs, e :: r, h => by
    have h' : Paired (fun v (y : List Key × V) => ∃ e : List Int × Int, y = (kk e.1, .int e.2) ∧ IsMo K H v (Gw.frac e)) (x :: xs) ((kk e.1, V.int e.2) :: kvV r) := h
    cases h' with
    | cons a b =>
      obtain ⟨e', he, m⟩ := a
      injection he with h1 h2
      injection h2 with h2
      have : e = e' := Prod.ext (kk_inj h1) h2
      rw [← this] at m
      exact .cons m (pair_kv b)
theorem new_out {H : Hp} {p q : Addr} {u : HO} (h : H p = none) (e : H q = some u) : p ∉ [q] := fun m => by rw [List.mem_singleton.mp m, e] at h; cases h
theorem off_swap {D pd : Addr} {H : Hp} {o : HO} : off [pd] (off [D] (upd H pd o)) = off [pd] (off [D] H) := by
  funext b
  by_cases h : b ∈ [pd]
  · rw [off_in h, off_in h]
  · rw [off_out h, off_out h]
    by_cases h2 : b ∈ [D]
    · rw [off_in h2, off_in h2]
    · rw [off_out h2, off_out h2, upd_ne fun e => h (List.mem_singleton.mpr e)]
section
variable {P : Program} {w : World} {K : PySem.W.Frag} {mg : Str → Option Value} {base : Heap} {CN CG : Addr}
abbrev s_Growth_moats : Stmt := L2.inClass (top 36) 5
theorem sc_Growth_moats : FnScope ["self", "sums", "group", "time"] ["self"] (C8.fnScope s_Growth_moats) := C8.fnScope_by (by decide +kernel)

def spMoats (K : PySem.W.Frag) (CG : Addr) : Sp := fun vs H Q _ => ∃ (N : Gw.Net) (g : GA) (L : List Addr) (st : Gw.St), vs = [.ref g.x] ∧ Gr K CG N g L H st ∧ N.Ok ∧ Gw.Fit N st ∧
  ∀ H' p xs kv, Same H H' → H p = none → H' p = some (.lst xs) → Gw.Sums st.hs kv → Paired (IsMo K (off [p] (newer H H'))) xs (kv.map Gw.frac) → Q (.ref p) H'
theorem ok_moats (F : MetAt K CG "moats" "Growth.moats" s_Growth_moats ["self"]) (T : Txt K mg CN CG) (c_lowest : C8.Cal P w K mg base 2 "lowest" spLowest []) : C8.Met P w K mg base 3 CG "moats" (spMoats K CG) [] := by
  refine met F T.clG sc_Growth_moats (fun vs H Q E h => ?_) (fun f cdv A outer s H vs Q E hr h => ?_)
  · obtain ⟨_, _, _, _, rfl, _⟩ := h; rfl
  · obtain ⟨N, g, L, st, rfl, G, o, I, q⟩ := h
    have nd := sc_Growth_moats.nd
    refine ⟨_, (pss_cons (ps_set (i := 1) nd rfl (Or.inr rfl) pe_dnewT)
      (pss_cons (ps_for PassesOwn.never rfl (pi_l K (pe_f K (pv 0))) (pg_t K 2 rfl (pgs_cons (pg_name (i := 2) nd rfl (Or.inl rfl)) (pgs_cons (pg_name (i := 3) nd rfl (Or.inl rfl)) pgs_nil))) (pss_one (ps_dput (hu_of hr) (pv 1) (pe_callTy (tupOf K) (by rfl) T.tuple (by decide +kernel) (pa_cons (pv 2) pa_nil)) (pe_op op_add (pe_dget2 (hu_of hr) (pv 1) (pe_callTy (tupOf K) (by rfl) T.tuple (by decide +kernel) (pa_cons (pv 2) pa_nil)) pe_int ⟨by rfl, by rfl, by rfl, by rfl⟩) (pv 3)) rfl)))
      (pss_one (ps_ret (pe_lock (pe_lc (own := [("group", 2)]) rfl nd (pi_keys (pv 1)) (blkOk_by (by kernel_rfl)) (fun _ _ _ _ _ => (pg_name (i := 2) nd rfl (Or.inl rfl))) (fun _ _ _ _ _ => pts_nil) (fun _ _ _ _ _ => (pe_tup (pa_cons (pe_callTy (listOf K) (by rfl) T.list (by decide +kernel) (pa_cons (pv 2) pa_nil)) (pa_cons (C8.pe_c c_lowest hr (by decide) (by rfl) (pa_cons (pe_dget (hu_of hr) (pv 1) (pv 2) (fun _ _ => rfl)) (pa_cons (C8.pe_gc (by rfl) T.UNIT) pa_nil))) pa_nil)))))))))), ?_⟩
    obtain ⟨hx, hh, hp⟩ := G.hs
    obtain ⟨R, rfl, eR, hR⟩ := ht_rec hp
    have hl := I.len o
    have rl : R.length ≤ 3200 := by rw [eR, List.length_map] at hl; exact hl
    refine fun pd hpd => ?_
    have s1 : Same H (upd H pd (.dT [])) := Same.new hpd
    refine ⟨_, rfl, g.x, CG, g.dx, _, _, rfl, (G.mono s1).insv, T.clG, T.gHeights, gf_heights g, g.lh, rfl, ⟨_, SqL.of (s1 _ _ hh)⟩, ?_⟩
    refine for_list (K := K) (a := g.lh) (xs := R.map fun r => V.ref r.a) (fun i σ H' => Same H H' ∧ (∃ o2 o3, σ = [some (.ref g.x), some (.ref pd), o2, o3]) ∧ ∃ kv, H' pd = some (.dT (kvV kv)) ∧ Gw.Sums ((R.take i).map (·.e)) kv ∧ kv.length ≤ i) ?_ (fun i σ H' _ h => SqL.mono h.1 (SqL.of hh)) ?_ ?_
    · exact ⟨s1, ⟨_, _, rfl⟩, [], upd_same, Gw.Sums.nil, Nat.le_refl _⟩
    · rintro i x σ H' hx ⟨s2, ⟨o2, o3, rfl⟩, kv, hkv, S, kl⟩
      rw [List.getElem?_map] at hx
      obtain ⟨y, hy, rfl⟩ := Option.map_eq_some_iff.mp hx
      have yR : y ∈ R := List.mem_of_getElem? hy
      have ilt := (List.getElem?_eq_some_iff.mp hy).1
      have htk : (R.take (i + 1)).map (·.e) = (R.take i).map (·.e) ++ [(y.e.1, y.e.2)] := by rw [List.take_add_one, hy, List.map_append]; rfl
      have hy1 := SqT.mono s2 (SqT.mono (off_sub L) (hR y yR).1)
      have hy2 := SqL.mono s2 (SqL.mono (off_sub L) (hR y yR).2)
      have tp : 0 < y.e.2 := I.I.hpos _ (by rw [eR]; exact List.mem_map.mpr ⟨y, yR, rfl⟩)
      refine ⟨y.a, _, rfl, hy1, rfl, _, _, rfl, _, _, rfl, rfl, ?_⟩
      -- sums.get(tuple(group), 0) + time
      refine ⟨_, rfl, pd, rfl, .inr ⟨_, .inl hkv⟩, _, rfl, y.g, _, rfl, .inl ⟨hy2, fun t1 ht1 => ?_⟩⟩
      have s3 : Same H' (upd H' t1 (.tup (y.e.1.map V.int))) := Same.new ht1
      have ht1' : (upd H' t1 (.tup (y.e.1.map V.int))) t1 = some (.tup ((kk y.e.1).map kV)) := by rw [upd_same, kk_map]
      have hkv3 := s3 _ _ hkv
      refine ⟨_, DGet.t hkv3 ht1', ?_⟩
      obtain ⟨old, e1, e2, e3⟩ : ∃ old : Int, (valV (kvV kv) (kk y.e.1)).getD (.int 0) = .int old ∧ (∀ e ∈ kv, e.1 = y.e.1 → V.int (old + y.e.2) = .int (e.2 + y.e.2)) ∧ (y.e.1 ∉ kv.map (·.1) → V.int (old + y.e.2) = .int y.e.2) := by
        by_cases c : y.e.1 ∈ kv.map (·.1)
        · obtain ⟨e, he, ee⟩ := List.mem_map.mp c
          have q1 := valV_in S.nd he
          rw [ee] at q1
          refine ⟨e.2, by rw [q1]; rfl, fun e' he' ee' => ?_, fun z => absurd c z⟩
          have q2 := valV_in S.nd he'
          rw [ee', q1] at q2
          injection q2 with q2
          injection q2 with q2
          rw [q2]
        · refine ⟨0, by rw [valV_out c]; rfl, fun e he ee => absurd (List.mem_map.mpr ⟨e, he, ee⟩) c, fun _ => by rw [Int.zero_add]⟩
      dsimp only
      rw [e1]
      refine ⟨_, rfl, _, _, rfl, rfl, _, rfl, _, rfl, y.g, _, rfl, .inl ⟨SqL.mono s3 hy2, fun t2 ht2 => ?_⟩⟩
      have s4 := s3.trans (Same.new ht2 (o := .tup (y.e.1.map V.int)))
      have ht2' : (upd (upd H' t1 (.tup (y.e.1.map V.int))) t2 (.tup (y.e.1.map V.int))) t2 = some (.tup ((kk y.e.1).map kV)) := by rw [upd_same, kk_map]
      refine ⟨pd, _, rfl, DPut.t (s4 _ _ hkv) ht2' (by unfold kvV; rw [List.length_map, szl]; omega), ?_⟩
      refine ⟨Same.put (s2.trans s4) hpd, ⟨_, _, rfl⟩, Gw.putS kv y.e.1 y.e.2, ?_, ?_, ?_⟩
      · rw [upd_same, putK_kk e2 e3]
      · rw [htk]; exact S.put tp
      · have l1 := length_putK (kvV kv) (kk y.e.1) (V.int (old + y.e.2))
        rw [putK_kk e2 e3] at l1
        unfold kvV at l1
        rw [List.length_map, List.length_map] at l1
        omega
    · rintro σ H' ⟨s2, ⟨o2, o3, rfl⟩, kv, hkv, S, kl⟩
      rw [List.length_map, List.take_length, ← eR] at S
      rw [List.length_map] at kl
      refine ⟨pd, _, hkv, trivial, fun od => ?_⟩
      have kvl : (kvV kv).length ≤ 3200 := by unfold kvV; rw [List.length_map]; omega
      refine ⟨_, rfl, pd, od, rfl, .inr ⟨_, upd_same, fun D hD => ?_⟩⟩
      have nDp : D ≠ pd := fun e => by rw [e, upd_same] at hD; cases hD
      refine lc_keysT (o := od) (d := pd) (kvs := kvV kv) (fun y Hx v => ∃ e : List Int × Int, y = (kk e.1, .int e.2) ∧ IsMo K (off [pd] (newer H Hx)) v (Gw.frac e)) (fun y A B v sm z => by
        obtain ⟨e, e1, e2⟩ := z
        exact ⟨e, e1, e2.mono (off_mono (newer_mono sm))⟩) hD upd_same (by rw [szl]; omega) (fun y hy H3 qa s3 hqa hacc Qt ht => ?_) (fun H3 xs s3 hD3 hps => ?_)
      · obtain ⟨e, he, rfl⟩ := List.mem_map.mp hy
        have hqa' : H3 qa = some (.tup (e.1.map V.int)) := by rw [← kk_map]; exact hqa
        have hfz := s3 _ _ upd_same
        obtain ⟨acc, hacc⟩ := hacc
        have ep := S.pos e he
        have old : ∀ {b : Addr}, H3 b = none → H b = none := fun {b} h => by
          have h2 := none_of s3 h
          by_cases c : b = pd
          · rw [c]; exact hpd
          · rw [upd_ne c] at h2; exact none_of s2 h2
        refine ⟨rfl, _, rfl, qa, _, rfl, .inr (SqT.of hqa'), fun l hl => ?_⟩
        have s4 : Same H3 (upd H3 l (.lst (e.1.map V.int))) := Same.new hl
        refine ⟨_, rfl, _, rfl, pd, .int e.2, rfl, .inr ⟨_, kk e.1, qa, .inr ⟨od, s4 _ _ hfz⟩, rfl, s4 _ _ hqa, (valV_in S.nd he).symm⟩, e.2, UN, rfl, by omega, Gw.UN_pos, by show Gw.UN < _; unfold Gw.UN; decide +kernel, fun pf hpf => ⟨by show 2 ≤ sizeLine; rw [szl]; decide, fun pt hpt => ?_⟩⟩
        have s5 := s4.trans (Same.new hpf (o := .tup [.int (Gw.lowest e.2 Gw.UN).1, .int (Gw.lowest e.2 Gw.UN).2]))
        have s6 := s5.trans (Same.new hpt (o := .tup [.ref l, .ref pf]))
        refine ht _ _ s6 ⟨e, rfl, pt, .ref l, .ref pf, rfl, SqT.of ?_, ⟨l, rfl, SqL.of ?_⟩, ⟨pf, rfl, SqT.of ?_⟩⟩
        · rw [off_out (new_out hpt (s5 _ _ hfz)), newer_at (old (none_of s5 hpt)), off_out (new_out hpt (s5 _ _ hacc)), upd_same]
        · have n1 : l ≠ pf := ne_of_none upd_same hpf
          have n2 : l ≠ pt := ne_of_none (by rw [upd_ne n1, upd_same]) hpt
          rw [off_out (new_out hl hfz), newer_at (old hl), off_out (new_out hl hacc), upd_ne n2, upd_ne n1, upd_same]; rfl
        · have n2 : pf ≠ pt := ne_of_none upd_same hpt
          rw [off_out (new_out hpf (s4 _ _ hfz)), newer_at (old (none_of s4 hpf)), off_out (new_out hpf (s4 _ _ hacc)), upd_ne n2, upd_same]; rfl
      · refine ⟨s3 _ _ upd_same, q _ D xs kv (fun b u e => ?_) ?_ ?_ S ?_⟩
        · have ne : b ≠ pd := fun z => by rw [z, hpd] at e; cases e
          rw [upd_ne ne]
          exact s3 _ _ (by rw [upd_ne ne]; exact s2 _ _ e)
        · rw [upd_ne nDp] at hD
          exact none_of s2 hD
        · rw [upd_ne nDp]; exact hD3
        · refine pair_kv (hps.mono fun v y z => ?_)
          obtain ⟨e, e1, e2⟩ := z
          refine ⟨e, e1, ?_⟩
          refine e2.mono fun b u z => ?_
          by_cases c : b ∈ [pd]
          · rw [off_in c] at z; cases z
          · rw [off_out c] at z
            have nb : b ≠ pd := fun q => c (List.mem_singleton.mpr q)
            cases h : H b with
            | some o => rw [newer_old h] at z; cases z
            | none =>
              rw [newer_at h] at z
              by_cases c2 : b ∈ [D]
              · rw [off_in c2] at z; cases z
              · rw [off_out c2] at z
                rw [off_out c2, newer_at h, upd_ne nb]; exact z
end
end K5

namespace K5
open PySem PySem.Spec PyProof.Rows L2
theorem first_idx {m : Int} : ∀ {l : List Int}, m ∈ l → ∃ j : Nat, l[j]? = some m ∧ ∀ (i : Nat) (z : Int), i < j → l[i]? = some z → z ≠ m
  | [], h => absurd h List.not_mem_nil
  | x :: r, h => by
    by_cases e : x = m
    · exact ⟨0, by rw [e]; rfl, fun i z hi => absurd hi (Nat.not_lt_zero _)⟩
    · obtain ⟨j, h1, h2⟩ := first_idx ((List.mem_cons.mp h).resolve_left fun z => e z.symm)
      refine ⟨j + 1, h1, fun i z hi hz => ?_⟩
      cases i with
      | zero => injection hz with hz; rw [← hz]; exact e
      | succ i => exact h2 i z (by omega) hz
theorem may_of {N : Gw.Net} {st : Gw.St} (I : Gw.Inv N st) {t : Int} (h0 : 0 ≤ t) (hr : ∀ gr ∈ Gw.act N.root st, t ≤ Gw.room N st gr) (hc : ∀ j : Nat, j < N.es.length → ∀ t', Cand N st j t' → t ≤ t') : Gw.May N st t := by
  refine ⟨h0, hr, fun e he g1 h1 g2 h2 u v ne => ?_⟩
  obtain ⟨k, hk, ek⟩ := List.mem_iff_getElem.mp he
  have ed : N.ed (k : Int) = e := by unfold Gw.Net.ed; rw [Gw.getD_lt (by simpa using hk)]; simpa using ek
  have lf : Gw.left N st (k : Int) = e.2.2 * Gw.UN - Gw.ws (Gw.inn e.1) st.hs - Gw.ws (Gw.inn e.2.1) st.hs := by unfold Gw.left; rw [ed]
  show Gw.rate N st g1 g2 * t ≤ _
  rw [← lf]
  by_cases c : 0 < Gw.rate N st g1 g2
  · have q := hc k hk _ ⟨⟨by omega, by omega⟩, g1, h1, g2, h2, by rw [ed]; exact u, by rw [ed]; exact v, ne, c, rfl⟩
    rw [Int.mul_comm]
    exact (Int.le_ediv_iff_mul_le c).mp q
  · have z : Gw.rate N st g1 g2 = 0 := by
      have : 0 ≤ Gw.rate N st g1 g2 := by unfold Gw.rate; split <;> split <;> omega
      omega
    have a := Gw.ws_cut_diff I h1 h2 u v ne
    have b := I.epd e he
    rw [z, Int.zero_mul, lf]
    omega
theorem left_nn {N : Gw.Net} {st : Gw.St} (I : Gw.Inv N st) {k t : Int} (h : Cand N st k t) : 0 ≤ t := by
  obtain ⟨hE, one, h1, two, h2, u, v, ne, r, rfl⟩ := h
  have a := Gw.ws_cut_diff I h1 h2 u v ne
  have b := I.epd _ (N.ed_mem hE)
  refine Int.ediv_nonneg ?_ (Int.le_of_lt r)
  unfold Gw.left
  omega
theorem room_nn {N : Gw.Net} {st : Gw.St} (I : Gw.Inv N st) {gr : List Int} (h : gr ∈ Gw.act N.root st) : 0 ≤ Gw.room N st gr := by
  obtain ⟨a, b, _⟩ := Gw.mem_act.mp h
  have := I.gpr gr a b
  unfold Gw.room
  omega
theorem best_all {N : Gw.Net} {st : Gw.St} {H : Hp} {p : Addr} {t k : Int} (h : BestOk N st H (.ref p) N.es.length) (e : H p = some (.tup [.int t, .int k])) : Cand N st k t ∧ ∀ j : Nat, j < N.es.length → ∀ t', Cand N st j t' → t ≤ t' := by
  rcases h with ⟨e1, _⟩ | ⟨p', k', t', e1, e2, e3, e4⟩
  · cases e1
  · injection e1 with e1
    rw [← e1, e] at e2
    injection e2 with e2
    injection e2 with e2
    injection e2 with e5 e6
    injection e5 with e5
    injection e6 with e6
    injection e6 with e6
    subst e5; subst e6
    exact ⟨e3, e4⟩
section
variable {P : Program} {w : World} {K : PySem.W.Frag} {mg : Str → Option Value} {base : Heap} {CN CG : Addr}
abbrev s_grown : Stmt := top 42
theorem sc_grown : FnScope ["network", "root", "prizes", "growth", "stopped", "active", "group", "rooms", "edge"] ["network", "root", "prizes"] (C8.fnScope s_grown) := C8.fnScope_by (by decide +kernel)

def spGrown (K : PySem.W.Frag) (CN CG : Addr) : Sp := fun vs H Q _ => ∃ (N : Gw.Net) (v u : V), vs = [v, .int N.root, u] ∧ NetAt K H CN N.n N.es v ∧ N.Ok ∧ IsIs K H u N.pz ∧ N.es.length ≤ 200 ∧
  ∀ H' p g ps st, Same H H' → H' p = some (.tup [.ref g.x, .ref ps]) → Gr K CG N g g.four H' st → IsL K H' (IsIs K H') (.ref ps) st.sp → Gw.Star N (Gw.st0 N.n) st → Gw.Fit N st → Gw.act N.root st = [] → Q (.ref p) H'
/-- the active groups stand in a new list -/
theorem act_new {N : Gw.Net} {L : List Addr} {st : Gw.St} {H : Hp} {R : List (Addr × List Int)} {D : Addr} (eR : st.gs = R.map (·.2)) (hR : ∀ r ∈ R, off L H r.1 = some (.lst (r.2.map V.int))) (hD : D ∉ L) (hDl : H D = some (.lst ((R.filter fun r => Gw.isAct N.root st.sp r.2).map fun r => V.ref r.1))) :
    ∃ R2 : List (Addr × List Int), H D = some (.lst (R2.map fun r => V.ref r.1)) ∧ D ∉ L ∧ Gw.act N.root st = R2.map (·.2) ∧ ∀ r ∈ R2, off L H r.1 = some (.lst (r.2.map V.int)) := by
  refine ⟨R.filter fun r => Gw.isAct N.root st.sp r.2, hDl, hD, ?_, fun r hr => hR r (List.mem_filter.mp hr).1⟩
  unfold Gw.act
  rw [eR]
  clear hDl hR eR
  induction R with
  | nil => rfl
  | cons r R ih =>
    by_cases c : Gw.isAct N.root st.sp r.2 = true
    · rw [List.map_cons, List.filter_cons_of_pos c, List.filter_cons_of_pos (p := fun r : Addr × List Int => Gw.isAct N.root st.sp r.2) c, List.map_cons, ih]
    · rw [List.map_cons, List.filter_cons_of_neg c, List.filter_cons_of_neg (p := fun r : Addr × List Int => Gw.isAct N.root st.sp r.2) c, ih]
theorem Gr.tup_out {K : PySem.W.Frag} {CG : Addr} {N : Gw.Net} {g : GA} {L : List Addr} {H : Hp} {st : Gw.St} (G : Gr K CG N g L H st) {p : Addr} {xs : List V} (h : H p = some (.tup xs)) : p ∉ g.four := fun m => by
  obtain ⟨gx, g1, _⟩ := G.gs
  obtain ⟨ds, d1, _⟩ := G.ds
  obtain ⟨hx, h1, _⟩ := G.hs
  have c1 := G.ch
  simp only [GA.four, List.mem_cons, List.not_mem_nil, or_false] at m
  rcases m with e | e | e | e <;> rw [e] at h
  · rw [g1] at h; injection h with h; cases h
  · rw [d1] at h; injection h with h; cases h
  · rw [h1] at h; injection h with h; cases h
  · rw [c1] at h; injection h with h; cases h
theorem with_goal {X G S : Prop} (main : (S → X) → G) (side : S → X) : G := main side
theorem with_cont {Y S : Hp → Prop} {G : Prop} (main : (∀ H, S H → Y H) → G) (side : ∀ H, S H → Y H) : G := main side
/-- what stopped does not matter to the growth's own lists -/
theorem Gr.spAny {K : PySem.W.Frag} {CG : Addr} {N : Gw.Net} {g : GA} {L : List Addr} {H : Hp} {st : Gw.St} (G : Gr K CG N g L H st) (sp : List (List Int)) : Gr K CG N g L H ⟨st.gs, st.hs, st.ch, sp⟩ :=
  ⟨G.sub, G.tr, G.nd, G.at_, G.ed, G.gs, G.ds, G.hs, G.ch⟩
/-- the loop's state -/
structure LpOk (K : PySem.W.Frag) (CG : Addr) (N : Gw.Net) (g : GA) (ps pa : Addr) (H : Hp) (st : Gw.St) : Prop where
  gr : Gr K CG N g (ps :: g.four) H st
  ps4 : ps ∉ g.four
  sp : ∃ sx, H ps = some (.lst sx) ∧ Paired (IsIs K (off (ps :: g.four) H)) sx st.sp
  ac : ∃ R : List (Addr × List Int), H pa = some (.lst (R.map fun r => V.ref r.1)) ∧ pa ∉ ps :: g.four ∧ Gw.act N.root st = R.map (·.2) ∧ ∀ r ∈ R, off (ps :: g.four) H r.1 = some (.lst (r.2.map V.int))
  star : Gw.Star N (Gw.st0 N.n) st
  fit : Gw.Fit N st
theorem ok_grown (F : DefAt K mg "grown" s_grown ["network", "root", "prizes"]) (T : Txt K mg CN CG) (k_Growth : C8.Mak P w K mg base 2 "Growth" CG (spGrInit K CN CG) []) (c_is_active : C8.Cal P w K mg base 1 "is_active" (spIsActive K) []) (c_room_of : C8.Cal P w K mg base 1 "room_of" (spRoomOf K CG) [])
    (m_next_edge : C8.Met P w K mg base 2 CG "next_edge" (spNextEdge K CG) []) (m_grow : C8.Met P w K mg base 1 CG "grow" (spGrow K CG) []) (m_join : C8.Met P w K mg base 2 CG "join" (spJoin K CG) []) : C8.Cal P w K mg base 4 "grown" (spGrown K CN CG) [] := by
  refine cal F sc_grown (fun vs H Q E h => ?_) (fun f cdv A outer s H vs Q E hr h => ?_)
  · obtain ⟨_, _, _, rfl, _⟩ := h; rfl
  · obtain ⟨N, v, u, rfl, hN, o, hu, hes, q⟩ := h
    have nd := sc_grown.nd
    refine ⟨_, (pss_cons (ps_set (i := 3) nd rfl (Or.inr rfl) (C8.pe_mk k_Growth hr (by decide) (by rfl) (pa_cons (pv 0) pa_nil)))
      (pss_cons (ps_set (i := 4) nd rfl (Or.inr rfl) (pe_lst pa_nil))
      (pss_cons (ps_setLc (i := 5) (own := [("group", 6)]) rfl nd rfl rfl (sw_true rfl rfl rfl (by decide +kernel)) (pi_l K (pe_f K (pv 3))) (blkOk_by (by kernel_rfl)) (fun _ _ _ _ _ => (pg_name (i := 6) nd rfl (Or.inl rfl))) (fun _ _ _ _ _ => (pts_one (pt_val (C8.pe_c c_is_active hr (by decide) (by rfl) (pa_cons (pv 6) (pa_cons (pv 1) (pa_cons (pv 4) pa_nil))))))) (fun _ _ _ _ _ => (pv 6)))
      (pss_cons (ps_while PassesOwn.never (pt_cmpR op_gt (pe_callB (lenS K) (by rfl) T.len (by decide +kernel) (pa_cons (pv 5) pa_nil)) pe_int (nomark _)) (pss_cons (ps_setLc (i := 7) (own := [("group", 6)]) rfl nd rfl rfl (sw_true rfl rfl rfl (by decide +kernel)) (pi_l K (pv 5)) (blkOk_by (by kernel_rfl)) (fun _ _ _ _ _ => (pg_name (i := 6) nd rfl (Or.inl rfl))) (fun _ _ _ _ _ => pts_nil) (fun _ _ _ _ _ => (C8.pe_c c_room_of hr (by decide) (by rfl) (pa_cons (pv 3) (pa_cons (pv 6) (pa_cons (pv 2) pa_nil))))))
      (pss_cons (ps_set (i := 8) nd rfl (Or.inl rfl) (C8.pe_mt m_next_edge hr (by decide) (pv 3) (pa_cons (pv 5) pa_nil)))
      (pss_cons (ps_if (PW.pt (pw_or (pt_cmpR op_isN (pv 8) pe_non (nomark _)) (pw_or1 (pt_cmpR op_le (pe_callB (crMin K rfl) (by rfl) T.min (by decide +kernel) (pa_cons (pv 7) pa_nil)) (pe_ix (ixt K) (pv 8) pe_int (fun _ _ => rfl)) (nomark _))))) (pss_cons (ps_expr (C8.pe_mt m_grow hr (by decide) (pv 3) (pa_cons (pv 5) (pa_cons (pe_callB (crMin K rfl) (by rfl) T.min (by decide +kernel) (pa_cons (pv 7) pa_nil)) pa_nil))))
      (pss_one (ps_expr (pe_bm PySem.F.plainAttrs_list PySem.F.slot_list_append PySem.F.type_list_append mt_append (pv 4) (pa_cons (pe_ix (ixl K) (pv 5) (pe_bm PySem.F.plainAttrs_list PySem.F.slot_list_index PySem.F.type_list_index (mtIndex K) (pv 7) (pa_cons (pe_callB (crMin K rfl) (by rfl) T.min (by decide +kernel) (pa_cons (pv 7) pa_nil)) pa_nil)) (fun _ _ => rfl)) pa_nil))))) (pss_cons (ps_expr (C8.pe_mt m_grow hr (by decide) (pv 3) (pa_cons (pv 5) (pa_cons (pe_ix (ixt K) (pv 8) pe_int (fun _ _ => rfl)) pa_nil))))
      (pss_one (ps_expr (C8.pe_mt m_join hr (by decide) (pv 3) (pa_cons (pe_ix (ixt K) (pv 8) pe_int (fun _ _ => rfl)) pa_nil))))))
      (pss_one (ps_setLc (i := 5) (own := [("group", 6)]) rfl nd rfl rfl (sw_true rfl rfl rfl (by decide +kernel)) (pi_l K (pe_f K (pv 3))) (blkOk_by (by kernel_rfl)) (fun _ _ _ _ _ => (pg_name (i := 6) nd rfl (Or.inl rfl))) (fun _ _ _ _ _ => (pts_one (pt_val (C8.pe_c c_is_active hr (by decide) (by rfl) (pa_cons (pv 6) (pa_cons (pv 1) (pa_cons (pv 4) pa_nil))))))) (fun _ _ _ _ _ => (pv 6))))))))
      (pss_one (ps_ret (pe_tup (pa_cons (pv 3) (pa_cons (pv 4) pa_nil))))))))), ?_⟩
    have n9 := o.n9
    refine ⟨_, rfl, fun x dx hx hdx nx => ?_⟩
    have s0 : Same H (upd (upd H dx (.own x)) x (.ins CG dx [])) := (Same.new hdx).trans (Same.new (by rw [upd_ne nx.symm]; exact hx))
    refine ⟨x, dx, N, v, rfl, upd_same, hN.mono s0, o, fun H1 g keep gx fresh G => ⟨rfl, ?_⟩⟩
    have s1 : Same H H1 := fun b e hb => keep b e (s0 _ _ hb) (ne_of_none hb hx)
    subst gx
    refine ⟨by show 0 ≤ sizeLine; omega, fun ps hps => ?_⟩
    have G1 := G.push hps (o := .lst [])
    have s2 := s1.trans (Same.new hps (o := .lst []))
    have ps4 : ps ∉ g.four := fun m => by
      obtain ⟨u, e⟩ := G.tr ps m
      rw [hps] at e; cases e
    have hps2 : (upd H1 ps (.lst [])) ps = some (.lst []) := upd_same
    generalize upd H1 ps (.lst []) = H2 at G1 s2 hps2 ⊢
    -- active
    have actLc : ∀ {st : Gw.St} {H3 : Hp}, Gr K CG N g (ps :: g.four) H3 st → Gw.Inv N st → ∃ R : List (Addr × List Int), H3 g.lg = some (.lst (R.map fun r => V.ref r.1)) ∧ st.gs = R.map (·.2) ∧ (∀ r ∈ R, off (ps :: g.four) H3 r.1 = some (.lst (r.2.map V.int))) ∧ R.length ≤ 40 := fun G I => by
      obtain ⟨gx, hg, hp⟩ := G.gs
      obtain ⟨R, rfl, eR, hR⟩ := tr_rec hp
      have gl := Gw.part_len I
      exact ⟨R, hg, eR, hR, by rw [eR, List.length_map] at gl; omega⟩
    have I0 := Gw.st0_fit o
    obtain ⟨R, hg, eR, hR, rl⟩ := actLc G1 I0.I
    refine ⟨_, rfl, g.x, CG, g.dx, _, _, rfl, G1.insv, T.clG, T.gGroups, gf_groups g, g.lg, rfl, ⟨_, SqL.of hg⟩, fun D hD => ?_⟩
    refine lc_read R (fun r => .ref r.1) (fun r => .ref r.1) (fun r => Gw.isAct N.root (Gw.st0 N.n).sp r.2) hD (SqL.of hg) (by rw [szl]; omega) (fun y hy H3 s3 Qt Qf ht hf => ?_) (fun H3 s3 hD3 => ?_)
    · refine ⟨rfl, _, rfl, _, rfl, _, rfl, .ref y.1, .ref ps, N.root, y.2, (Gw.st0 N.n).sp, rfl, ⟨_, rfl, SqL.of (s3 _ _ (off_sub _ _ _ (hR y hy)))⟩, ⟨ps, [], rfl, SqL.of (s3 _ _ hps2), .nil⟩, _, rfl, ?_⟩
      by_cases c : Gw.isAct N.root (Gw.st0 N.n).sp y.2 = true
      · rw [c]; exact iteT ⟨_, rfl, ht c _ (Same.refl _)⟩
      · rw [Bool.not_eq_true] at c; rw [c]; exact iteF (hf c _ (Same.refl _))
    have G3 := G1.mono s3
    have Dn : D ∉ ps :: g.four := fun m => by
      obtain ⟨u, e⟩ := G1.tr D m
      rw [hD] at e; cases e
    refine ⟨fun m σ H' => Same H H' ∧ ∃ st pa o6 o7 o8, σ = [some v, some (.int N.root), some u, some (.ref g.x), some (.ref ps), some (.ref pa), o6, o7, o8] ∧ LpOk K CG N g ps pa H' st ∧ m = (Gw.mu st).toNat, ⟨_, s2.trans s3, Gw.st0 N.n, D, _, _, _, rfl, ⟨G3, ps4, ⟨[], s3 _ _ hps2, .nil⟩, act_new eR (fun r hr => off_mono s3 _ _ (hR r hr)) Dn hD3, .refl _, I0⟩, rfl⟩, ?_⟩
    rintro m σ H4 ⟨s4, st, pa, o6, o7, o8, rfl, Lp, rfl⟩
    obtain ⟨G4, _, ⟨sx, hsx, hsp⟩, ⟨A, hA, pan, eA, hAr⟩, star, fit⟩ := id Lp
    have I := fit.I
    have al := Gw.act_len I
    have Al : A.length ≤ 40 := by rw [eA, List.length_map] at al; omega
    have acL : ∀ {H'}, Same (off (ps :: g.four) H4) (off (ps :: g.four) H') → IsL K (off (ps :: g.four) H') (IsIs K (off (ps :: g.four) H')) (.ref pa) (Gw.act N.root st) := fun {H'} sm => by
      refine ⟨pa, _, rfl, SqL.of (sm _ _ ((off_out pan).trans hA)), ?_⟩
      rw [eA]
      have : ∀ (B : List (Addr × List Int)), (∀ r ∈ B, r ∈ A) → Paired (IsIs K (off (ps :: g.four) H')) (B.map fun r => V.ref r.1) (B.map (·.2)) := fun B hB => by
        induction B with
        | nil => exact .nil
        | cons r B ih => exact .cons ⟨r.1, rfl, SqL.of (sm _ _ (hAr r (hB r List.mem_cons_self)))⟩ (ih fun x hx => hB x (List.mem_cons_of_mem _ hx))
      exact this A fun r h => h
    have acR : ∀ {H'}, Same (off (ps :: g.four) H4) (off (ps :: g.four) H') → IsL K H' (IsIs K H') (.ref pa) (Gw.act N.root st) := fun sm => (acL sm).mono (off_sub _) fun _ _ z => z.mono (off_sub _)
    refine ⟨_, rfl, pa, _, rfl, .inl (SqL.of hA), _, _, rfl, rfl, _, rfl, ?_⟩
    rw [List.length_map]
    by_cases a0 : (0 : Int) < (A.length : Int)
    · refine ifd a0 ⟨_, fun σ' H' z => z, ?_⟩
      -- rooms
      refine ⟨_, rfl, pa, rfl, ⟨_, SqL.of hA⟩, fun pr hpr => ?_⟩
      refine lc_map A (fun r => .ref r.1) (fun r => .int (Gw.room N st r.2)) hpr (SqL.of hA) (by rw [szl]; omega) (fun y hy H5 s5 Qt ht => ?_) (fun H5 s5 hr5 => ?_)
      · have yg : y.2 ∈ st.gs := (Gw.mem_act.mp (by rw [eA]; exact List.mem_map.mpr ⟨y, hy, rfl⟩)).1
        exact ⟨rfl, _, rfl, _, rfl, _, rfl, N, g, _, st, .ref y.1, u, y.2, rfl, G4.mono s5, o, fit, ⟨y.1, rfl, SqL.of (s5 _ _ (off_sub _ _ _ (hAr y hy)))⟩, yg, hu.mono (s4.trans s5), fun H6 s6 => ht _ s6⟩
      have e5 : (A.map fun r => V.int (Gw.room N st r.2)) = (A.map fun r => Gw.room N st r.2).map V.int := by rw [List.map_map]; rfl
      rw [e5] at hr5
      have rne : 0 < (A.map fun r => Gw.room N st r.2).length := by rw [List.length_map]; omega
      -- the edge
      refine ⟨_, rfl, g.x, g.dx, _, rfl, (G4.mono s5).insv, gf_no g (by decide +kernel) (by decide +kernel) (by decide +kernel) (by decide +kernel) (by decide +kernel), _, rfl, N, g, _, st, _, rfl, G4.mono s5, o, I, acR (off_mono s5), hes, fun H6 b s6 hb => ?_⟩
      have s46 := s5.trans s6
      have G6 := G4.mono s46
      have hr6 := s6 _ _ hr5
      have hA6 := s46 _ _ hA
      have hsx6 := s46 _ _ hsx
      have hsp6 := hsp.mono fun _ _ z => IsIs.mono (off_mono s46) z
      have mm : ∀ {m : Int}, m ∈ (A.map fun r => Gw.room N st r.2) → (∀ y ∈ (A.map fun r => Gw.room N st r.2), m ≤ y) → (0 ≤ m ∧ ∀ gr ∈ Gw.act N.root st, m ≤ Gw.room N st gr) := fun {m} h1 h2 => by
        refine ⟨?_, fun gr hgr => ?_⟩
        · obtain ⟨r, hr, rfl⟩ := List.mem_map.mp h1
          exact room_nn I (by rw [eA]; exact List.mem_map.mpr ⟨r, hr, rfl⟩)
        · rw [eA] at hgr
          obtain ⟨r, hr, rfl⟩ := List.mem_map.mp hgr
          exact h2 _ (List.mem_map.mpr ⟨r, hr, rfl⟩)
      have g4s : ∀ b ∈ g.four, b ∈ ps :: g.four := fun b hb => List.mem_cons_of_mem _ hb
      have freshL : ∀ b ∈ ps :: g.four, H b = none := fun b hb => by
        rcases List.mem_cons.mp hb with e | hb
        · rw [e]; exact none_of s1 hps
        · exact none_of s0 (fresh b hb)
      have sH : ∀ {Ha Hb : Hp}, Same H Ha → Same (off (ps :: g.four) Ha) (off (ps :: g.four) Hb) → Same H Hb := fun s1 s2 b u e => by
        have m : b ∉ ps :: g.four := fun m => by rw [freshL b m] at e; cases e
        have q := s2 b u (by rw [off_out m]; exact s1 _ _ e)
        rwa [off_out m] at q
      have gfn : ∀ {m : Str}, ¬ m = "edges" → ¬ m = "groups" → ¬ m = "depths" → ¬ m = "heights" → ¬ m = "chosen" → (gf g).lookup m = none := fun a b c d e => gf_no g a b c d e
      -- what comes behind both branches
      apply with_cont (S := fun H8 => ∃ st2 : Gw.St, Same (off (ps :: g.four) H4) (off (ps :: g.four) H8) ∧ Gr K CG N g (ps :: g.four) H8 st2 ∧ (∃ sx2, H8 ps = some (.lst sx2) ∧ Paired (IsIs K (off (ps :: g.four) H8)) sx2 st2.sp) ∧ Gw.Step N st st2)
      · intro again
        apply with_goal (S := ∀ m, m ∈ (A.map fun r => Gw.room N st r.2) → (∀ y ∈ (A.map fun r => Gw.room N st r.2), m ≤ y) → Gw.May N st m)
        · intro stop
          refine ⟨_, rfl, rfl, _, rfl, ?_⟩
          rcases id hb with ⟨e, z⟩ | ⟨p, k, t, e, z1, z2, z3⟩
          · exact ifd e (stop fun m hm hmin => may_of I (mm hm hmin).1 (mm hm hmin).2 fun j hj t' ht' => absurd ht' (z j hj t'))
          · refine ifnd (by rw [e]; intro z; cases z) ⟨_, rfl, pr, _, rfl, SqL.of hr6, rne, fun m hm hmin => ?_⟩
            refine ⟨_, rfl, p, _, 0, _, e, rfl, SqT.of z1, atI_nat (j := 0) rfl, _, _, rfl, rfl, _, rfl, ?_⟩
            by_cases c : m ≤ t
            · exact ifd c (stop fun m' hm' hmin' => may_of I (mm hm' hmin').1 (mm hm' hmin').2 fun j hj t' ht' => by
                have := z3 j hj t' ht'
                have := hmin' m hm
                omega)
            · refine ifnd c ?_
              have may : Gw.May N st t := may_of I (left_nn I z2) (fun gr hgr => by have := (mm hm hmin).2 gr hgr; omega) z3
              refine ⟨_, rfl, g.x, g.dx, _, rfl, G6.insv, gfn (by decide +kernel) (by decide +kernel) (by decide +kernel) (by decide +kernel) (by decide +kernel), _, rfl, _, rfl, p, _, 0, _, e, rfl, SqT.of z1, atI_nat (j := 0) rfl, N, g, _, st, .ref pa, t, rfl, G6, o, fit, acL (off_mono s46), fun H7 s7 G7 => ?_⟩
              have pt := G6.tup_out z1
              have z7 : H7 p = some (.tup [.int t, .int k]) := by
                have q := s7 _ _ ((off_out pt).trans z1)
                rwa [off_out pt] at q
              obtain ⟨hE, one, h1, two, h2, hu1, hv2, ne, rp, ht⟩ := z2
              refine ⟨_, rfl, g.x, g.dx, _, rfl, G7.insv, gfn (by decide +kernel) (by decide +kernel) (by decide +kernel) (by decide +kernel) (by decide +kernel), _, rfl, p, _, 1, _, e, rfl, SqT.of z7, atI_nat (j := 1) rfl, N, g, _, st.grow N.root t, k, one, two, rfl, G7, o, Gw.Inv.grow o I may, hE, h1, h2, ne, hu1, hv2, fun H8 new s8 perm asc G8 => ?_⟩
              have s78 := four_L g4s (s7.trans s8)
              have s48 := (off_mono (L := ps :: g.four) s46).trans s78
              have sp8 : H8 ps = some (.lst sx) := by
                have q := (s7.trans s8) _ _ ((off_out ps4).trans hsx6)
                rwa [off_out ps4] at q
              refine again H8 ⟨_, s48, G8, ⟨sx, sp8, hsp6.mono fun _ _ z => z.mono s78⟩, .join st t k one two new may hE h1 h2 ne hu1 hv2 ?_ ht perm asc⟩
              unfold Gw.rate at rp
              by_cases a : one ∈ Gw.act N.root st
              · exact .inl a
              · refine .inr (Classical.byContradiction fun b => ?_)
                rw [if_neg a, if_neg b] at rp
                omega
        · intro may
          refine ⟨_, rfl, g.x, g.dx, _, rfl, G6.insv, gfn (by decide +kernel) (by decide +kernel) (by decide +kernel) (by decide +kernel) (by decide +kernel), _, rfl, _, rfl, pr, _, rfl, SqL.of hr6, rne, fun m hm hmin => ?_⟩
          refine ⟨N, g, _, st, .ref pa, m, rfl, G6, o, fit, acL (off_mono s46), fun H7 s7 G7 => ?_⟩
          have k7 : ∀ {b u}, H6 b = some u → b ∉ g.four → H7 b = some u := fun {b u} hb nb => by
            have q := s7 _ _ ((off_out nb).trans hb)
            rwa [off_out nb] at q
          have prn : pr ∉ g.four := fun m => by
            obtain ⟨u, e⟩ := G4.tr pr (g4s _ m)
            rw [hpr] at e; cases e
          have hsx7 := k7 hsx6 ps4
          have hr7 := k7 hr6 prn
          have hA7 := k7 hA6 fun m => pan (g4s _ m)
          obtain ⟨j, j1, j2⟩ := first_idx hm
          obtain ⟨y, hy, ey⟩ : ∃ y, A[j]? = some y ∧ Gw.room N st y.2 = m := by
            rw [List.getElem?_map] at j1
            obtain ⟨y, hy, e⟩ := Option.map_eq_some_iff.mp j1
            exact ⟨y, hy, e⟩
          have yA : y ∈ A := List.mem_of_getElem? hy
          have jl := (List.getElem?_eq_some_iff.mp hy).1
          refine ⟨_, rfl, .inl ⟨rfl, _, SqL.of hsx7⟩, _, rfl, _, rfl, .inl ⟨rfl, _, SqL.of hr7⟩, _, rfl, pr, _, rfl, SqL.of hr7, rne, fun m2 hm2 hmin2 => ?_⟩
          have em : m2 = m := Int.le_antisymm (hmin2 m hm) (hmin m2 hm2)
          subst em
          refine ⟨pr, _, _, j, .int m2, rfl, rfl, SqL.of hr7, rfl, flat_ints _, by rw [List.getElem?_map, j1]; rfl, beq_self_eq_true m2, fun i z' hi hz' => ?_, ?_⟩
          · rw [List.getElem?_map] at hz'
            obtain ⟨z, hz, rfl⟩ := Option.map_eq_some_iff.mp hz'
            exact beq_false_of_ne (j2 i z hi hz)
          refine ⟨pa, _, _, .ref y.1, rfl, rfl, SqL.of hA7, atI_nat (by rw [List.getElem?_map, hy]; rfl), ps, _, _, rfl, rfl, hsx7, ?_, ?_⟩
          · have := fit.sp_len o
            rw [hsp.length, szl]; omega
          have s67 := four_L g4s s7
          have s48 := (off_mono (L := ps :: g.four) s46).trans s67
          have e8 : off (ps :: g.four) (upd H7 ps (.lst (sx ++ [.ref y.1]))) = off (ps :: g.four) H7 := off_put List.mem_cons_self
          refine again _ ⟨(st.grow N.root m2).stop y.2, by rw [e8]; exact s48, ?_, ⟨sx ++ [.ref y.1], upd_same, ?_⟩, .stop st m2 y.2 (may m2 hm2 hmin2) (by rw [eA]; exact List.mem_map.mpr ⟨y, yA, rfl⟩) ey.symm⟩
          · exact (G7.put List.mem_cons_self ps4).spAny _
          · rw [e8]
            exact Paired.app (hsp6.mono fun _ _ z => z.mono s67) (.cons ⟨y.1, rfl, SqL.of (s48 _ _ (hAr y yA))⟩ .nil)
      · rintro H8 ⟨st2, s48, G8, hps8, step⟩
        obtain ⟨fit2, mlt⟩ := step.fit o fit
        have m0 := Gw.mu_nn st2
        obtain ⟨sx2, hsx8, hsp8⟩ := hps8
        obtain ⟨R8, hg8, eR8, hR8, rl8⟩ := actLc G8 fit2.I
        refine ⟨_, rfl, g.x, CG, g.dx, _, _, rfl, G8.insv, T.clG, T.gGroups, gf_groups g, g.lg, rfl, ⟨_, SqL.of hg8⟩, fun D8 hD8 => ?_⟩
        have hsp8' : IsL K H8 (IsIs K H8) (.ref ps) st2.sp := ⟨ps, sx2, rfl, SqL.of hsx8, hsp8.mono fun _ _ z => z.mono (off_sub _)⟩
        refine lc_read R8 (fun r => .ref r.1) (fun r => .ref r.1) (fun r => Gw.isAct N.root st2.sp r.2) hD8 (SqL.of hg8) (by rw [szl]; omega) (fun y hy H9 s9 Qt Qf ht hf => ?_) (fun H9 s9 hD9 => ?_)
        · refine ⟨rfl, _, rfl, _, rfl, _, rfl, .ref y.1, .ref ps, N.root, y.2, st2.sp, rfl, ⟨_, rfl, SqL.of (s9 _ _ (off_sub _ _ _ (hR8 y hy)))⟩, hsp8'.mono s9 (fun _ _ z => z.mono s9), _, rfl, ?_⟩
          by_cases c : Gw.isAct N.root st2.sp y.2 = true
          · rw [c]; exact iteT ⟨_, rfl, ht c _ (Same.refl _)⟩
          · rw [Bool.not_eq_true] at c; rw [c]; exact iteF (hf c _ (Same.refl _))
        have D8n : D8 ∉ ps :: g.four := fun m => by
          obtain ⟨u, e⟩ := G8.tr D8 m
          rw [hD8] at e; cases e
        refine ⟨(Gw.mu st2).toNat, by omega, sH s4 (s48.trans (off_mono s9)), st2, D8, _, _, _, rfl, ⟨G8.mono s9, ps4, ⟨sx2, s9 _ _ hsx8, hsp8.mono fun _ _ z => z.mono (off_mono s9)⟩, act_new eR8 (fun r hr => off_mono s9 _ _ (hR8 r hr)) D8n hD9, star.snoc step, fit2⟩, rfl⟩
    · refine ifnd a0 ⟨_, rfl, _, rfl, by show 2 ≤ sizeLine; rw [szl]; decide, fun p hp => ?_⟩
      have s5 := Same.new hp (o := .tup [.ref g.x, .ref ps])
      have nil : A = [] := List.length_eq_zero_iff.mp (by omega)
      have hsp5 := hsp.mono fun _ _ z => IsIs.mono ((off_sub _).trans s5) z
      exact q _ p g ps st (s4.trans s5) upd_same ((G4.less (fun b hb => hb) fun b hb => List.mem_cons_of_mem _ hb).mono s5) ⟨ps, sx, rfl, SqL.of (s5 _ _ hsx), hsp5⟩ star fit (by rw [eA, nil]; rfl)
end
end K5

namespace K5
open PySem PySem.Spec PyProof.Rows L2
/-- an edge that touches S -/
def touB (N : Gw.Net) (S : List Int) (k : Int) : Bool := decide ((N.ed k).1 ∈ S) || decide ((N.ed k).2.1 ∈ S)
def outB (N : Gw.Net) (S : List Int) (k : Int) : Bool := cutB (N.ed k).1 (N.ed k).2.1 S
theorem out_ct (N : Gw.Net) (S : List Int) (k : Int) : (if outB N S k = true then (1 : Int) else 0) = N.ct k S := by
  unfold outB cutB Gw.Net.ct Gw.cut
  by_cases a : (N.ed k).1 ∈ S <;> by_cases b : (N.ed k).2.1 ∈ S <;> simp [a, b]
theorem out_tou (N : Gw.Net) (S : List Int) (k : Int) (h : outB N S k = true) : touB N S k = true := by
  unfold outB cutB at h
  unfold touB
  by_cases a : (N.ed k).1 ∈ S <;> by_cases b : (N.ed k).2.1 ∈ S <;> simp [a, b] at h ⊢
theorem out_len (N : Gw.Net) (S : List Int) : ∀ T : List Int, ((((T.filter (touB N S)).filter (outB N S)).length : Nat) : Int) = Gw.dT N T S
  | [] => rfl
  | k :: T => by
    have ih := out_len N S T
    have e : Gw.dT N (k :: T) S = N.ct k S + Gw.dT N T S := by unfold Gw.dT; rw [List.map_cons, List.sum_cons]
    have c := out_ct N S k
    by_cases h : outB N S k = true
    · rw [if_pos h] at c
      rw [List.filter_cons_of_pos (out_tou N S k h), List.filter_cons_of_pos h, List.length_cons, e]; omega
    · rw [if_neg h] at c
      by_cases t : touB N S k = true
      · rw [List.filter_cons_of_pos t, List.filter_cons_of_neg h, e]; omega
      · rw [List.filter_cons_of_neg t, e]; omega
/-- what is cut off at S -/
def gone (N : Gw.Net) (T S : List Int) : List Int := if Gw.dT N T S = 1 then T.filter (touB N S) else []
theorem gone_nil {N : Gw.Net} {T S : List Int} : (gone N T S).length = 0 ↔ Gw.dT N T S ≠ 1 := by
  unfold gone
  by_cases h : Gw.dT N T S = 1
  · rw [if_pos h]
    refine ⟨fun e => ?_, fun e => absurd h e⟩
    have q := out_len N S T
    rw [List.length_eq_zero_iff.mp e] at q
    rw [← q] at h
    have z : ((0 : Nat) : Int) = 1 := h
    omega
  · rw [if_neg h]
    exact ⟨fun _ => h, fun _ => rfl⟩
section
variable {P : Program} {w : World} {K : PySem.W.Frag} {mg : Str → Option Value} {base : Heap} {CN CG : Addr}
abbrev s_hanging : Stmt := top 43
theorem sc_hanging : FnScope ["network", "tree", "group", "edges", "inner", "number", "out"] ["network", "tree", "group"] (C8.fnScope s_hanging) := C8.fnScope_by (by decide +kernel)

def spHanging (K : PySem.W.Frag) (CN : Addr) : Sp := fun vs H Q _ => ∃ (N : Gw.Net) (v t u : V) (C S : List Int), vs = [v, t, u] ∧ NetAt K H CN N.n N.es v ∧ IsIs K H t C ∧ IsIs K H u S ∧ (∀ k ∈ C, N.isE k) ∧ C.length ≤ 1000 ∧
  ∀ H' p, Same H H' → H' p = some (.lst ((gone N C S).map V.int)) → Q (.ref p) H'
theorem ok_hanging (F : DefAt K mg "hanging" s_hanging ["network", "tree", "group"]) (T : Txt K mg CN CG) (m_edges : C8.Met P w K mg base 1 CN "edges" (spEdges K CN) []) : C8.Cal P w K mg base 2 "hanging" (spHanging K CN) [] := by
  refine cal F sc_hanging (fun vs H Q E h => ?_) (fun f cdv A outer s H vs Q E hr h => ?_)
  · obtain ⟨_, _, _, _, _, _, rfl, _⟩ := h; rfl
  · obtain ⟨N, v, t, u, C, S, rfl, hN, ⟨ta, rfl, hta⟩, ⟨sa, rfl, hsa⟩, hE, hcl, q⟩ := h
    have nd := sc_hanging.nd
    refine ⟨_, (pss_cons (ps_set (i := 3) nd rfl (Or.inr rfl) (C8.pe_mt0 m_edges hr (by decide) (pv 0)))
      (pss_cons (ps_setLc (i := 4) (own := [("number", 5)]) rfl nd rfl rfl (sw_true rfl rfl rfl (by decide +kernel)) (pi_l K (pv 1)) (blkOk_by (by kernel_rfl)) (fun _ _ _ _ _ => (pg_name (i := 5) nd rfl (Or.inl rfl))) (fun _ _ _ _ _ => (pts_one (PW.pt (pw_or (pt_cmpR (inS K) (pe_ix (ixt K) (pe_ix (ixl K) (pv 3) (pv 5) (fun _ _ => rfl)) pe_int (fun _ _ => rfl)) (pv 2) (by rfl)) (pw_or1 (pt_cmpR (inS K) (pe_ix (ixt K) (pe_ix (ixl K) (pv 3) (pv 5) (fun _ _ => rfl)) pe_int (fun _ _ => rfl)) (pv 2) (by rfl))))))) (fun _ _ _ _ _ => (pv 5)))
      (pss_cons (ps_setLc (i := 6) (own := [("number", 5)]) rfl nd rfl rfl (sw_true rfl rfl rfl (by decide +kernel)) (pi_l K (pv 4)) (blkOk_by (by kernel_rfl)) (fun _ _ _ _ _ => (pg_name (i := 5) nd rfl (Or.inl rfl))) (fun _ _ _ _ _ => (pts_one (pt_cmpR op_ne (pe_cmpR (inS K) (pe_ix (ixt K) (pe_ix (ixl K) (pv 3) (pv 5) (fun _ _ => rfl)) pe_int (fun _ _ => rfl)) (pv 2) (by rfl)) (pe_cmpR (inS K) (pe_ix (ixt K) (pe_ix (ixl K) (pv 3) (pv 5) (fun _ _ => rfl)) pe_int (fun _ _ => rfl)) (pv 2) (by rfl)) (nomark _)))) (fun _ _ _ _ _ => (pv 5)))
      (pss_one (ps_ret (pe_ifExp (pt_cmpR op_eq (pe_callB (lenS K) (by rfl) T.len (by decide +kernel) (pa_cons (pv 6) pa_nil)) pe_int (nomark _)) (pv 4) (pe_lst pa_nil))))))), ?_⟩
    obtain ⟨p, dx, le0, xs0, rfl, n1, n2, n3⟩ := id hN
    refine ⟨_, rfl, p, dx, _, rfl, n1, nf_no _ _ (by decide +kernel) (by decide +kernel), _, N.n, N.es, rfl, hN, fun le xs hle hpe => ?_⟩
    have s1 : Same H (upd H le (.lst xs)) := Same.new hle
    have hle1 : (upd H le (.lst xs)) le = some (.lst xs) := upd_same
    have hpe1 := hpe.mono fun _ _ z => IsEd.mono s1 z
    generalize upd H le (.lst xs) = H1 at s1 hle1 hpe1 ⊢
    refine ⟨_, rfl, ta, rfl, ⟨_, SqL.mono s1 hta⟩, fun D hD => ?_⟩
    refine lc_read C V.int V.int (touB N S) hD (SqL.mono s1 hta) (by rw [szl]; omega) (fun y hy H2 s2 Qt Qf ht hf => ?_) (fun H2 s2 hD2 => ?_)
    · have s12 := s1.trans s2
      obtain ⟨t2, e2, ht2⟩ := es_at (hpe1.mono fun _ _ z => IsEd.mono s2 z) (hE y hy)
      have hs2 := SqL.mono s12 hsa
      refine ⟨rfl, _, rfl, _, rfl, le, _, _, _, rfl, rfl, SqL.of (s2 _ _ hle1), e2, t2, _, 0, _, rfl, rfl, ht2, atI_nat (j := 0) rfl, _, rfl, sa, _, rfl, .inl hs2, rfl, flat_ints _, _, rfl, ?_⟩
      rw [if_neg Bool.false_ne_true, inV_ints]
      by_cases a : (N.ed y).1 ∈ S
      · exact ifd a ⟨_, rfl, ht (by unfold touB; rw [decide_eq_true a, Bool.true_or]) _ (Same.refl _)⟩
      · refine ifnd a ⟨_, rfl, _, rfl, le, _, _, _, rfl, rfl, SqL.of (s2 _ _ hle1), e2, t2, _, 1, _, rfl, rfl, ht2, atI_nat (j := 1) rfl, _, rfl, sa, _, rfl, .inl hs2, rfl, flat_ints _, _, rfl, ?_⟩
        rw [if_neg Bool.false_ne_true, inV_ints]
        by_cases b : (N.ed y).2.1 ∈ S
        · exact ifd b ⟨_, rfl, ht (by unfold touB; rw [decide_eq_true b, Bool.or_true]) _ (Same.refl _)⟩
        · exact ifnd b (hf (by unfold touB; rw [decide_eq_false a, decide_eq_false b]; rfl) _ (Same.refl _))
    have hD2' : SqL K H2 D ((C.filter (touB N S)).map V.int) := SqL.of hD2
    have s12 := s1.trans s2
    have fl : (C.filter (touB N S)).length ≤ C.length := List.length_filter_le ..
    refine ⟨_, rfl, D, rfl, ⟨_, hD2'⟩, fun D3 hD3 => ?_⟩
    refine lc_read (C.filter (touB N S)) V.int V.int (outB N S) hD3 hD2' (by rw [szl]; omega) (fun y hy H3 s3 Qt Qf ht hf => ?_) (fun H3 s3 hD4 => ?_)
    · have s13 := s12.trans s3
      obtain ⟨t2, e2, ht2⟩ := es_at (hpe1.mono fun _ _ z => IsEd.mono (s2.trans s3) z) (hE y (List.mem_filter.mp hy).1)
      have hs2 := SqL.mono s13 hsa
      have hl3 := SqL.of (K := K) ((s2.trans s3) _ _ hle1)
      refine ⟨rfl, _, rfl, _, rfl, le, _, _, _, rfl, rfl, hl3, e2, t2, _, 0, _, rfl, rfl, ht2, atI_nat (j := 0) rfl, _, rfl, sa, _, rfl, .inl hs2, rfl, flat_ints _, ?_⟩
      rw [if_neg Bool.false_ne_true, inV_ints]
      refine ⟨_, rfl, _, rfl, le, _, _, _, rfl, rfl, hl3, e2, t2, _, 1, _, rfl, rfl, ht2, atI_nat (j := 1) rfl, _, rfl, sa, _, rfl, .inl hs2, rfl, flat_ints _, ?_⟩
      rw [if_neg Bool.false_ne_true, inV_ints]
      refine ⟨rfl, _, rfl, ?_⟩
      rw [ne_bl]
      have c : (decide ((N.ed y).1 ∈ S) != decide ((N.ed y).2.1 ∈ S)) = outB N S y := rfl
      rw [c]
      by_cases h : outB N S y = true
      · rw [h]; exact iteT ⟨_, rfl, ht h _ (Same.refl _)⟩
      · rw [Bool.not_eq_true] at h; rw [h]; exact iteF (hf h _ (Same.refl _))
    · refine ⟨_, rfl, D3, _, rfl, .inl (SqL.of hD4), ?_⟩
      rw [List.length_map, out_len]
      have s123 := s12.trans s3
      refine ⟨rfl, _, rfl, ?_⟩
      by_cases c : Gw.dT N C S = 1
      · refine ifd (congrArg V.int c) ⟨_, rfl, q _ D s123 ?_⟩
        unfold gone
        rw [if_pos c]
        exact s3 _ _ hD2
      · refine ifnd (fun z => c (V.int.inj z)) ⟨by show 0 ≤ sizeLine; omega, fun pn hpn => q _ pn (s123.trans (Same.new hpn)) ?_⟩
        unfold gone
        rw [if_neg c]
        exact upd_same
end
end K5

namespace K5
open PySem PySem.Spec PyProof.Rows L2
/-- what quick_choice tells -/
structure QkOk (N : Gw.Net) (C : List Int) (M : List Mo) : Prop where
  mo : MosOk N.n M
  bd : ∀ m ∈ M, m.2.2 ≤ 2 ^ 18 ∧ m.2.1 < 2 ^ 250
  len : M.length ≤ 2 * N.n
  due : DueP N C M
  least : ∀ D : List Int, (∀ k ∈ D, N.isE k) → (Gw.fsum (M.map (·.2))).1 ≤ costC N D * (Gw.fsum (M.map (·.2))).2 ∧ (2 ≤ N.n → ((N.n : Int) - 1) * costC N C ≤ (2 * (N.n : Int) - 3) * costC N D)
theorem filt_mem {α : Type} {p : α → Bool} {l : List α} {a : α} : a ∈ l.filter p ↔ a ∈ l ∧ p a = true := List.mem_filter
/-- a cut at S -/
theorem cut_tree {N : Gw.Net} {f : Gw.St} {C S : List Int} (I : Gw.Inv N f) (t : Gw.Tree N f C) (hS : S ∈ f.sp) (h : ¬ (gone N C S).length = 0) : Gw.Tree N f (C.filter fun k => !decide (k ∈ gone N C S)) ∧ (C.filter fun k => !decide (k ∈ gone N C S)).length < C.length := by
  have one : Gw.dT N C S = 1 := Classical.byContradiction fun z => h (gone_nil.mpr z)
  have eg : gone N C S = C.filter (touB N S) := by unfold gone; rw [if_pos one]
  have mg : ∀ k, k ∈ gone N C S ↔ k ∈ C ∧ ((N.ed k).1 ∈ S ∨ (N.ed k).2.1 ∈ S) := fun k => by
    rw [eg, List.mem_filter]
    unfold touB
    rw [Bool.or_eq_true, decide_eq_true_iff, decide_eq_true_iff]
  constructor
  · refine t.cut hS (I.srt S hS) (I.srng S hS) one (fun k => ?_) (t.nT.sublist List.filter_sublist)
    rw [List.mem_filter]
    have := mg k
    constructor
    · rintro ⟨a, b⟩
      have b' : k ∉ gone N C S := by simpa using b
      exact ⟨a, fun z => b' (this.mpr ⟨a, .inl z⟩), fun z => b' (this.mpr ⟨a, .inr z⟩)⟩
    · rintro ⟨a, b, c⟩
      refine ⟨a, ?_⟩
      have : k ∉ gone N C S := fun z => ((this.mp z).2.elim b c)
      simp [this]
  · obtain ⟨k, hk⟩ : ∃ k, k ∈ gone N C S := List.exists_mem_of_length_pos (Nat.pos_of_ne_zero h)
    refine List.length_filter_lt_length_iff_exists.mpr ⟨k, ((mg k).mp hk).1, ?_⟩
    simp [hk]
section
variable {P : Program} {w : World} {K : PySem.W.Frag} {mg : Str → Option Value} {base : Heap} {CN CG : Addr}
abbrev s_quick_choice : Stmt := top 44
theorem sc_quick_choice : FnScope ["network", "root", "prizes", "growth", "stopped", "found", "tree", "number", "moved", "group", "gone"] ["network", "root", "prizes"] (C8.fnScope s_quick_choice) := C8.fnScope_by (by decide +kernel)

def spQuick (K : PySem.W.Frag) (CN : Addr) : Sp := fun vs H Q _ => ∃ (N : Gw.Net) (v u : V), vs = [v, .int N.root, u] ∧ NetAt K H CN N.n N.es v ∧ N.Ok ∧ IsIs K H u N.pz ∧ N.es.length ≤ 200 ∧ N.n ≤ 9 ∧
  ∀ H' p pt pm C xs M, Same H H' → H' p = some (.tup [.ref pt, .ref pm]) → H p = none → H pt = none → H pm = none → H' pt = some (.lst (C.map V.int)) → H' pm = some (.lst xs) → Paired (IsMo K (off [pt, pm] H')) xs M → pt ≠ pm → QkOk N C M → Q (.ref p) H'
theorem ok_quick (F : DefAt K mg "quick_choice" s_quick_choice ["network", "root", "prizes"]) (T : Txt K mg CN CG) (c_check_prizes : C8.Cal P w K mg base 2 "check_prizes" (spCheckPrizes K CN) []) (c_grown : C8.Cal P w K mg base 4 "grown" (spGrown K CN CG) []) (c_reached : C8.Cal P w K mg base 2 "reached" (spReached K CN) [])
    (c_hanging : C8.Cal P w K mg base 2 "hanging" (spHanging K CN) []) (m_moats : C8.Met P w K mg base 3 CG "moats" (spMoats K CG) []) : C8.Cal P w K mg base 5 "quick_choice" (spQuick K CN) [] := by
  refine cal F sc_quick_choice (fun vs H Q E h => ?_) (fun f cdv A outer s H vs Q E hr h => ?_)
  · obtain ⟨_, _, _, rfl, _⟩ := h; rfl
  · obtain ⟨N, v, u, rfl, hN, o, hu, hes, h9, q⟩ := h
    have nd := sc_quick_choice.nd
    refine ⟨_, (pss_cons (ps_expr (C8.pe_c c_check_prizes hr (by decide) (by rfl) (pa_cons (pv 0) (pa_cons (pv 1) (pa_cons (pv 2) pa_nil)))))
      (pss_cons (ps_asg (C8.pe_c c_grown hr (by decide) (by rfl) (pa_cons (pv 0) (pa_cons (pv 1) (pa_cons (pv 2) pa_nil)))) (pg_t K 2 rfl (pgs_cons (pg_name (i := 3) nd rfl (Or.inr rfl)) (pgs_cons (pg_name (i := 4) nd rfl (Or.inl rfl)) pgs_nil))))
      (pss_cons (ps_set (i := 5) nd rfl (Or.inr rfl) (C8.pe_c c_reached hr (by decide) (by rfl) (pa_cons (pv 0) (pa_cons (pe_f K (pv 3)) (pa_cons (pv 1) (pa_cons pe_bl pa_nil))))))
      (pss_cons (ps_setLc (i := 6) (own := [("number", 7)]) rfl nd rfl rfl (sw_true rfl rfl rfl (by decide +kernel)) (pi_l K (pe_f K (pv 3))) (blkOk_by (by kernel_rfl)) (fun _ _ _ _ _ => (pg_name (i := 7) nd rfl (Or.inl rfl))) (fun _ _ _ _ _ => (pts_one (pt_cmpR (inS K) (pe_ix (ixt K) (pe_ix (ixl K) (pe_f K (pv 3)) (pv 7) (fun _ _ => rfl)) pe_int (fun _ _ => rfl)) (pv 5) (by rfl)))) (fun _ _ _ _ _ => (pv 7)))
      (pss_cons (ps_set (i := 8) nd rfl (Or.inl rfl) pe_bl)
      (pss_cons (ps_while PassesOwn.never (pt_val (pv 8)) (pss_cons (ps_set (i := 8) nd rfl (Or.inl rfl) pe_bl)
      (pss_one (ps_for PassesOwn.never rfl (pi_l K (pv 4)) (pg_name (i := 9) nd rfl (Or.inl rfl)) (pss_cons (ps_set (i := 10) nd rfl (Or.inr rfl) (C8.pe_c c_hanging hr (by decide) (by rfl) (pa_cons (pv 0) (pa_cons (pv 6) (pa_cons (pv 9) pa_nil)))))
      (pss_one (ps_if (pt_cmpR op_gt (pe_callB (lenS K) (by rfl) T.len (by decide +kernel) (pa_cons (pv 10) pa_nil)) pe_int (nomark _)) (pss_cons (ps_setLc (i := 6) (own := [("number", 7)]) rfl nd rfl rfl (sw_true rfl rfl rfl (by decide +kernel)) (pi_l K (pv 6)) (blkOk_by (by kernel_rfl)) (fun _ _ _ _ _ => (pg_name (i := 7) nd rfl (Or.inl rfl))) (fun _ _ _ _ _ => (pts_one (pt_cmpR (ninS K) (pv 7) (pv 10) (by rfl)))) (fun _ _ _ _ _ => (pv 7)))
      (pss_one (ps_set (i := 8) nd rfl (Or.inl rfl) pe_bl))) pss_nil)))))))
      (pss_one (ps_ret (pe_tup (pa_cons (pe_callB (crSorted K) (by rfl) T.sorted (by decide +kernel) (pa_cons (pv 6) pa_nil)) (pa_cons (C8.pe_mt0 m_moats hr (by decide) (pv 3)) pa_nil))))))))))), ?_⟩
    have n9 := o.n9
    refine ⟨_, rfl, _, rfl, _, rfl, v, u, N.n, N.es, N.root, N.pz, rfl, hN, hu, o.root, ⟨o.plen, o.pnn⟩, n9, ?_⟩
    refine ⟨_, rfl, _, rfl, _, rfl, N, v, u, rfl, hN, o, hu, hes, fun H1 pr g ps st s1 hpr G hsp star fit act0 => ?_⟩
    refine ⟨pr, _, rfl, SqT.of hpr, rfl, _, _, rfl, _, _, rfl, rfl, ?_⟩
    have I := fit.I
    have chl : st.ch.length ≤ 40 := by have := I.len; omega
    have hch1 := G.ch
    refine ⟨_, rfl, _, rfl, g.x, CG, g.dx, _, _, rfl, G.insv, T.clG, T.gChosen, gf_chosen g, _, rfl, v, _, N, st.ch, rfl, hN.mono s1, o, ⟨g.lc, rfl, SqL.of hch1⟩, I.cE, fun H2 pf Fd s2 hpf hFd fl hR => ?_⟩
    have G2 := G.mono s2
    obtain ⟨ex, hle, hpe⟩ := G2.ed
    have hch2 := G2.ch
    refine ⟨_, rfl, g.x, CG, g.dx, _, _, rfl, G2.insv, T.clG, T.gChosen, gf_chosen g, g.lc, rfl, ⟨_, SqL.of hch2⟩, fun D hD => ?_⟩
    refine lc_read st.ch V.int V.int (fun k => decide ((N.ed k).1 ∈ Fd)) hD (SqL.of hch2) (by rw [szl]; omega) (fun y hy H3 s3 Qt Qf ht hf => ?_) (fun H3 s3 hD3 => ?_)
    · obtain ⟨t2, e2, ht2⟩ := es_at (hpe.mono fun _ _ z => IsEd.mono (Same.trans (off_sub _) s3) z) (I.cE y hy)
      refine ⟨rfl, _, rfl, g.x, CG, g.dx, _, _, rfl, (G2.mono s3).insv, T.clG, T.gEdges, gf_edges g, _, rfl, g.le, _, _, _, rfl, rfl, SqL.of (s3 _ _ (off_sub _ _ _ hle)), e2, t2, _, 0, _, rfl, rfl, ht2, atI_nat (j := 0) rfl, _, rfl, pf, _, rfl, .inl (SqL.of (s3 _ _ hFd)), rfl, flat_ints _, _, rfl, ?_⟩
      rw [if_neg Bool.false_ne_true, inV_ints]
      by_cases c : (N.ed y).1 ∈ Fd
      · exact ifd c ⟨_, rfl, ht (decide_eq_true c) _ (Same.refl _)⟩
      · exact ifnd c (hf (decide_eq_false c) _ (Same.refl _))
    have T0 : Gw.Tree N st (st.ch.filter fun k => decide ((N.ed k).1 ∈ Fd)) := Gw.Tree.first o I act0 hR (fun k => by rw [List.mem_filter, decide_eq_true_iff]) (I.cnd.sublist List.filter_sublist)
    have tl : ∀ {C : List Int}, Gw.Tree N st C → (∀ k ∈ C, N.isE k) ∧ C.length ≤ 40 := fun {C} t => ⟨fun k hk => I.cE k (t.hT k hk), Nat.le_trans (Gw.len_le t.nT t.hT) chl⟩
    obtain ⟨_, sx, e, hsx, hsp⟩ := hsp
    cases e
    have sx1 : sx.length = st.sp.length := hsp.length
    refine ⟨fun m σ H' => Same H2 H' ∧ ∃ (pt : Addr) (C : List Int) (b : Bool) (o7 o9 o10 : Option V), σ = [some v, some (.int N.root), some u, some (.ref g.x), some (.ref ps), some (.ref pf), some (.ref pt), o7, some (.bl b), o9, o10] ∧ H' pt = some (.lst (C.map V.int)) ∧ Gw.Tree N st C ∧ (b = false → ∀ S ∈ st.sp, Gw.dT N C S ≠ 1) ∧ m = 2 * C.length + if b = true then 1 else 0,
      ⟨_, s3, D, _, true, _, _, _, rfl, hD3, T0, (fun z => by cases z), rfl⟩, ?_⟩
    rintro m σ H4 ⟨s4, pt, C, b, o7, o9, o10, rfl, hC, tC, hb, rfl⟩
    refine ⟨_, rfl, _, rfl, ?_⟩
    cases b with
    | true =>
      refine iteT ⟨_, fun σ' H' z => z, ?_⟩
      refine ⟨_, rfl, ps, rfl, ⟨_, SqL.mono (s2.trans s4) hsx⟩, ?_⟩
      refine for_list (K := K) (a := ps) (xs := sx) (fun i σ H' => Same H2 H' ∧ ∃ (pt : Addr) (C1 : List Int) (b : Bool) (o7 o9 o10 : Option V), σ = [some v, some (.int N.root), some u, some (.ref g.x), some (.ref ps), some (.ref pf), some (.ref pt), o7, some (.bl b), o9, o10] ∧ H' pt = some (.lst (C1.map V.int)) ∧ Gw.Tree N st C1 ∧ (b = false → C1 = C ∧ ∀ S ∈ st.sp.take i, Gw.dT N C S ≠ 1) ∧ (b = true → C1.length < C.length)) ?_ (fun i σ H' _ h => SqL.mono (s2.trans h.1) hsx) ?_ ?_
      · exact ⟨s4, pt, C, false, _, _, _, rfl, hC, tC, fun _ => ⟨rfl, fun S hS => by rw [List.take_zero] at hS; cases hS⟩, fun z => by cases z⟩
      · rintro i x σ H5 hx ⟨s5, pt1, C1, b, o7, o9, o10, rfl, hC1, tC1, hb0, hb1⟩
        obtain ⟨S, hS, hv⟩ := Paired.at hsp hx
        have Sm : S ∈ st.sp := List.mem_of_getElem? hS
        have htk : st.sp.take (i + 1) = st.sp.take i ++ [S] := by rw [List.take_add_one, hS]; rfl
        have s15 := s2.trans s5
        obtain ⟨hE1, l1⟩ := tl tC1
        refine ⟨_, rfl, _, rfl, _, rfl, N, v, .ref pt1, x, C1, S, rfl, hN.mono (s1.trans s15), ⟨pt1, rfl, SqL.of hC1⟩, hv.mono s15, hE1, by omega, fun H6 pg s6 hpg => ?_⟩
        refine ⟨_, rfl, pg, _, rfl, .inl (SqL.of hpg), _, _, rfl, rfl, _, rfl, ?_⟩
        rw [List.length_map]
        by_cases c : (gone N C1 S).length = 0
        · refine ifnd (by omega) ⟨s5.trans s6, pt1, C1, b, _, _, _, rfl, s6 _ _ hC1, tC1, fun z => ?_, hb1⟩
          obtain ⟨e1, e2⟩ := hb0 z
          refine ⟨e1, fun S' hS' => ?_⟩
          rw [htk] at hS'
          rcases List.mem_append.mp hS' with y | y
          · exact e2 S' y
          · rw [List.mem_singleton.mp y, ← e1]; exact gone_nil.mp c
        · refine ifd (by omega) ⟨_, rfl, pt1, rfl, ⟨_, SqL.of (s6 _ _ hC1)⟩, fun D2 hD2 => ?_⟩
          obtain ⟨t2, lt2⟩ := cut_tree I tC1 Sm c
          refine lc_read C1 V.int V.int (fun k => !decide (k ∈ gone N C1 S)) hD2 (SqL.of (s6 _ _ hC1)) (by rw [szl]; omega) (fun y hy H7 s7 Qt Qf ht hf => ?_) (fun H7 s7 hD7 => ?_)
          · refine ⟨rfl, _, rfl, _, rfl, pg, _, rfl, .inl (SqL.of (s7 _ _ hpg)), rfl, flat_ints _, _, rfl, ?_⟩
            rw [if_pos rfl, inV_ints]
            by_cases c2 : y ∈ gone N C1 S
            · exact ifnt c2 (hf (by rw [decide_eq_true c2]; rfl) _ (Same.refl _))
            · exact ifnf c2 ⟨_, rfl, ht (by rw [decide_eq_false c2]; rfl) _ (Same.refl _)⟩
          · refine ⟨(s5.trans s6).trans s7, D2, _, true, _, _, _, rfl, hD7, t2, (fun z => by cases z), fun _ => ?_⟩
            have le1 : C1.length ≤ C.length := by
              cases b with
              | true => exact Nat.le_of_lt (hb1 rfl)
              | false => rw [(hb0 rfl).1]; exact Nat.le_refl _
            omega
      · rintro σ H5 ⟨s5, pt1, C1, b, o7, o9, o10, rfl, hC1, tC1, hb0, hb1⟩
        rw [sx1, List.take_length] at hb0
        refine ⟨_, ?_, s5, pt1, C1, b, _, _, _, rfl, hC1, tC1, fun z => ?_, rfl⟩
        · cases b with
          | true => have := hb1 rfl; rw [if_pos rfl]; omega
          | false => rw [(hb0 rfl).1, if_neg Bool.false_ne_true]; simp
        · obtain ⟨e1, e2⟩ := hb0 z
          rw [e1]; exact e2
    | false =>
      refine iteF ?_
      have h1 := hb rfl
      have s14 := s2.trans s4
      refine ⟨_, rfl, pt, C, rfl, SqL.of hC, fun C' pc perm srt hpc => ?_⟩
      have s5 : Same H4 (upd H4 pc (.lst (C'.map V.int))) := Same.new hpc
      have hpc5 : (upd H4 pc (.lst (C'.map V.int))) pc = some (.lst (C'.map V.int)) := upd_same
      generalize upd H4 pc (.lst (C'.map V.int)) = H5 at s5 hpc5 ⊢
      have s15 := s14.trans s5
      have G5 := G.mono s15
      refine ⟨_, rfl, g.x, g.dx, _, rfl, G5.insv, gf_no g (by decide +kernel) (by decide +kernel) (by decide +kernel) (by decide +kernel) (by decide +kernel), N, g, _, st, rfl, G5, o, fit, fun H6 pm xs kv s6 hpm hpm6 S hM => ⟨by show 2 ≤ sizeLine; rw [szl]; decide, fun p hp => ?_⟩⟩
      have s7 := s6.trans (Same.new hp (o := .tup [.ref pc, .ref pm]))
      have t2 := tC.perm perm
      have d1 : ∀ X ∈ st.sp, Gw.dT N C' X ≠ 1 := fun X hX => by rw [Gw.dT_perm perm]; exact h1 X hX
      obtain ⟨mo, bd⟩ := end_mos o h9 fit S
      have npm : pc ≠ pm := ne_of_none hpc5 hpm
      refine q _ p pc pm C' xs (kv.map Gw.frac) (s1.trans (s15.trans s7)) upd_same (none_of (s1.trans (s15.trans s6)) hp) (none_of (s1.trans s14) hpc) (none_of (s1.trans s15) hpm) ?_ ?_ ?_ npm ⟨mo, bd, ?_, end_due o star fit S t2 d1 (lt_of_sorted perm tC.nT srt), fun D hD => ⟨end_le o fit S hD, fun n2 => end_least o star fit t2 d1 n2 hD⟩⟩
      · exact s7 _ _ hpc5
      · rw [upd_ne (ne_of_none hpm6 hp)]; exact hpm6
      · refine hM.mono fun _ _ z => z.mono fun b u e => ?_
        by_cases c : b ∈ [pm]
        · rw [off_in c] at e; cases e
        · rw [off_out c] at e
          have c2 : b ∉ [pc, pm] := fun z => by
            rcases List.mem_cons.mp z with y | y
            · rw [y, newer_old hpc5] at e; cases e
            · exact c y
          rw [off_out c2]
          exact Same.new hp _ _ (newer_sub _ _ _ _ e)
      · rw [List.length_map]; exact end_len o fit S
end
end K5

namespace K5
open PySem PySem.Spec PyProof.Rows L2
/-! ### the law's own call: nothing is being shown when it begins -/
section
variable {P : Program} {w : World} {K : PySem.W.Frag} {mg : Str → Option Value} {base : Heap}
/-- what the law's def promises, where the caller stands at the outside -/
def LawBody (P : Program) (w : World) (K : PySem.W.Frag) (mg : Str → Option Value) (base : Heap) (N : List Str) (x : Str) (st : Stmt) (f : Addr) : Prop :=
  ∀ (cdv : Value) (sh : Shared) (H : Hp) (a : Addr) (ns : List Int) (Q : VK) (E : XK), Room 30 (callerA.deeper (envOfC x (C8.fnScope st) sh.heap.objs.size f cdv)) → SqL K H a (ns.map V.int) → ns.length ≤ 63 → (∀ H', Q (.bl true) H') →
    ∃ t, PSs (cxOf C8.CX0 P w K mg base N x (C8.fnScope st) f cdv callerA [] sh H E).nox (C8.fnBody st) t ∧ t { nx := fun _ H' => Q .non H', rt := Q } (start N [.ref a]) H
theorem room_caller : Room 31 callerA := ⟨rfl, by decide, by decide⟩
theorem run_here {x : Str} {st : Stmt} {f : Addr} {fd : FuncData} {N : List Str} {p : Str} (F : C8.Fun K x x st f fd) (S : FnScope N [p] (C8.fnScope st)) (B : LawBody P w K mg base N x st f)
    {sh : Shared} {H : Hp} {a : Addr} {ns : List Int} (e0 : Env0 P w K mg base callerA [] sh H) (hb : BindsTo sh fd ⟨[.ref a], []⟩ [(p, .ref a)]) (hs : SqL K H a (ns.map V.int)) (hl : ns.length ≤ 63) :
    codeAny (model P w) callerA (.call (.ref f) ⟨[.ref a], []⟩) (CR C8.CX0 [] P w H sh (fun v _ => v = .bl true) fun _ _ _ => False) sh := by
  obtain ⟨oc, od, dV, kV, doc, pm, an, cdv, ct, osl, rfl, lk, hcd⟩ := F.ex
  have kin : K.In sh.heap := e0.mod.kin.keeps (fun b ob q => (e0.bs b ob q).1)
  have nol : sh.heap.NoLimit := e0.mod.nolimit.keeps (fun b ob q => (e0.bs b ob q).1)
  have kinds : ∀ y ∈ [(p, Value.ref a)], (C8.fnScope st).names.lookup y.1 = some .local ∨ ((C8.fnScope st).names.lookup y.1 = some .cell ∧ ((cellsFrom (sh.heap.objs.size + 1) (C8.fnScope st).names []).lookup y.1).isSome = true) := by
    intro y hy
    rw [List.mem_singleton.mp hy]
    exact (S.par p (List.mem_singleton.mpr rfl)).imp id fun c => ⟨c, PySem.W.cellsFrom_some _ _ _ (.inl c)⟩
  have B2 := hb
  refine codeAny_call_function (Room.depth room_caller) (kin _ _ lk) rfl S.co S.gen rfl (PySem.W.codeRec_of kin hcd) (B2 _ _ _ _ ?_)
  refine wpAny_newFunctionEnv_cells S.kind kinds (fun en hen sh1 ic => ?_)
  subst hen
  refine ⟨nol.keeps ic.toInCall.keep, codeAny_func ?_⟩
  obtain ⟨t, ht, hq⟩ := B cdv sh H a ns (fun v _ => v = .bl true) (fun _ _ _ => False) (Room.deeper room_caller _) hs hl (fun _ => rfl)
  have inv := inv_start (ps := [p]) (us := [.ref a]) (vs := [.ref a]) (E := fun _ _ _ => False) (CX := C8.CX0) S rfl e0 rfl (.cons rfl .nil) ic
  refine wpAny_mono (ht.nox.run [] sh1 _ H _ inv hq) ?_ (fun _ _ z => z)
  intro fl sh2 hfl
  cases fl with
  | ret u => exact let ⟨v, _, H', J, rv, q⟩ := hfl; ⟨v, H', J.os, J.bare, J.base, J.hok, rv, q⟩
  | next => exact let ⟨_, H', J, q⟩ := hfl; ⟨V.non, H', J.os, J.bare, J.base, J.hok, rfl, q⟩
  | brk => exact (let ⟨_, _, _, q⟩ := hfl; (show False from q).elim)
  | cont => exact (let ⟨_, _, _, q⟩ := hfl; (show False from q).elim)
/-- the law called at the heap behind the top, the script at a -/
theorem law_here {x : Str} {st : Stmt} {f a : Addr} {fd : FuncData} {N : List Str} {p : Str} {mb : Str → Option Value} {s₁ : Shared} {vs : List Value} {ns : List Int} (F : C8.Fun K x x st f fd) (S : FnScope N [p] (C8.fnScope st)) (B : ∀ base, K.In base → base.Ns mainGlobals mg → LawBody P w K mg base N x st f)
    (hbind : ∀ (s : Shared) (u : Value), BindsTo s fd ⟨[u], []⟩ [(p, u)]) (kin : K.In s₁.heap) (nsG : s₁.heap.Ns mainGlobals mg) (nsB : s₁.heap.Ns builtinsNs mb) (boot : ∀ y : Str, y ≠ "__name__" → mb y = bootBuiltins y) (nol : s₁.heap.NoLimit) (gens : s₁.gens = #[])
    (ha : s₁.heap.get? a = some { cls := .type "list", data := .seq vs.toArray }) (hi : IntsAre vs ns) (hl : ns.length ≤ 63) :
    codeAny (model P w) callerA (.call (.ref f) ⟨[.ref a], []⟩) (fun r s' => r = .ok (.ret (.bool true)) ∧ OldK s₁.heap s'.heap ∧ s'.os = s₁.os ∧ AllBare s'.gens) s₁ := by
  have big : ns.length ≤ sizeLine := by rw [szl]; omega
  have main : ∀ H : Hp, Only H → SqL K H a (ns.map V.int) → HOk P w H s₁.heap → (∀ b, H b ≠ none → b = a ∧ K.lookup a = none) →
      codeAny (model P w) callerA (.call (.ref f) ⟨[.ref a], []⟩) (fun r s' => r = .ok (.ret (.bool true)) ∧ OldK s₁.heap s'.heap ∧ s'.os = s₁.os ∧ AllBare s'.gens) s₁ := by
    intro H only hs hok at_a
    have none_at : ∀ {b : Addr}, b ≠ a → H b = none := fun {b} nb => Classical.byContradiction fun z => nb (at_a b z).1
    have not_a : ∀ {b : Addr} {ob : Obj}, s₁.heap.get? b = some ob → (∀ xs n, ob.data ≠ .seq xs n) → b ≠ a := fun {b ob} e nd z => by
      subst z
      rw [ha] at e
      exact nd _ _ (congrArg Obj.data (Option.some.inj e)).symm
    have old : ∀ {b : Addr} {m : Str → Option Value}, s₁.heap.Ns b m → (hidT s₁.heap H).Ns b m := fun {b m} z => by
      obtain ⟨ob, es, ep, e, d, r⟩ := z
      refine ⟨ob, es, ep, hidT_get e (none_at (not_a e fun xs n q => ?_)), d, r⟩
      rw [d] at q; cases q
    have kin2 : K.In (hidT s₁.heap H) := fun b ob e => hidT_get (kin b ob e) (Classical.byContradiction fun z => by
      obtain ⟨z1, z2⟩ := at_a b z
      subst z1
      rw [z2] at e; cases e)
    have md : Mod K mg (hidT s₁.heap H) := ⟨kin2, old nsG, ⟨mb, old nsB, boot⟩, by obtain ⟨mc, c1, c2⟩ := nol; exact ⟨mc, old c1, c2⟩⟩
    have e0 : Env0 P w K mg (hidT s₁.heap H) callerA [] s₁ H := ⟨rfl, md, fun b ob e => of_hidT e, Nat.le_of_eq (hidT_size _ _), trivial, fun b hb => (List.not_mem_nil hb).elim, hok, .of_eq gens⟩
    refine codeAny_mono (run_here F S (B _ kin2 (old nsG)) e0 (hbind s₁ (.ref a)) hs hl) ?_
    intro r s' hr
    match r, hr with
    | .error _, hr => exact (show False from hr).elim
    | .ok .next, hr => exact (show False from hr).elim
    | .ok .brk, hr => exact (show False from hr).elim
    | .ok .cont, hr => exact (show False from hr).elim
    | .ok (.ret u), hr =>
      obtain ⟨v, H', os, bare, un, hok', rv, hv⟩ := hr
      have hv2 : v = .bl true := hv
      rw [hv2] at rv
      have hu : u = Value.bool true := rv
      refine ⟨by rw [hu], .of_keep fun b ob e => ?_, os, bare⟩
      rcases only b with z | ⟨ob2, xs, z⟩
      · exact un.keep b ob e z (fun q => (List.not_mem_nil q).elim) (List.not_mem_nil)
      · obtain ⟨g1, _⟩ := hok b _ z
        obtain ⟨g2, _⟩ := hok' b _ (un.frzs b ob2 _ z)
        rw [g1] at e
        rw [← e]; exact g2
  have rel := vals_ints hi
  have len := hi.length
  by_cases hk : K.lookup a = none
  · refine main (fun b => if b = a then some (.frz { cls := .type "list", data := .seq vs.toArray } (.lst (ns.map V.int))) else none) (fun b => ?_) (.inl (.inr ⟨_, if_pos rfl⟩)) (fun b u z => ?_) (fun b z => ⟨Classical.byContradiction fun nb => z (if_neg nb), hk⟩)
    · by_cases nb : b = a
      · exact .inr ⟨_, _, if_pos nb⟩
      · exact .inl (if_neg nb)
    · by_cases nb : b = a
      · subst nb
        have z2 := (if_pos rfl).symm.trans z
        cases z2
        exact ⟨ha, by rw [List.length_map]; exact big, vs, _, rel, ha⟩
      · have z2 := (if_neg nb).symm.trans z
        cases z2
  · obtain ⟨ob, hob⟩ := Option.ne_none_iff_exists'.mp hk
    have e := kin a ob hob
    rw [ha] at e
    cases e
    exact main (fun _ => none) (fun _ => .inl rfl) (.inr ⟨_, vs.toArray, _, hob, rfl, rfl, rfl, by rw [List.size_toArray, len]; exact big, by simpa using rel⟩) (fun b u z => by cases (show (none : Option HO) = some u from z)) (fun b z => absurd rfl z)
end
end K5

namespace K5
open PySem PySem.Spec PyProof.Rows L2
theorem cut_all {xs : List V} (h : xs.length ≤ 63) : cutV xs none (some 63) = xs := by
  unfold cutV
  rw [HT.sIx_none, show (63 : Int) = ((63 : Nat) : Int) from rfl, HT.sIx_nat, List.drop_zero, Nat.min_eq_right h, Nat.sub_zero, List.take_length]
theorem cut_neg (xs : List V) : cutV xs none (some (-1)) = xs.take (xs.length - 1) := by
  unfold cutV
  have e : HT.sIx xs.length xs.length (some (-1)) = xs.length - 1 := by
    show (if (-1 : Int) < 0 then ((-1 : Int) + (xs.length : Int)).toNat else min (-1 : Int).toNat xs.length) = _
    rw [if_pos (by decide)]; omega
  rw [e, HT.sIx_none, List.drop_zero, Nat.sub_zero]
theorem cut_one (xs : List V) : cutV xs (some 1) none = xs.drop 1 := by
  unfold cutV
  rw [HT.sIx_none, show (1 : Int) = ((1 : Nat) : Int) from rfl, HT.sIx_nat]
  by_cases h : 1 ≤ xs.length
  · rw [Nat.min_eq_left h, List.take_of_length_le (by rw [List.length_drop]; exact Nat.le_refl _)]
  · have e : xs = [] := List.length_eq_zero_iff.mp (by omega)
    subst e; rfl
theorem take_ints (l : List Int) (n : Nat) : (l.map V.int).take n = (l.take n).map V.int := List.map_take.symm
theorem drop_ints (l : List Int) (n : Nat) : (l.map V.int).drop n = (l.drop n).map V.int := List.map_drop.symm
theorem pow18 : (10 : Int) ^ (18 : Int).toNat = 1000000000000000000 := by decide
theorem num_mod (x : Int) : 0 ≤ x % 65536 ∧ x % 65536 < 65536 := ⟨Int.emod_nonneg _ (by decide), Int.emod_lt_of_pos _ (by decide)⟩
section
variable {P : Program} {w : World} {K : PySem.W.Frag} {mg : Str → Option Value} {base : Heap} {CN CG : Addr}
/-- drawn numbers -/
structure NumOk (l : List Int) : Prop where
  len : l.length = 90
  rng : ∀ x ∈ l, 0 ≤ x ∧ x < 65536
theorem NumOk.at_ {l : List Int} (h : NumOk l) {i : Int} (h0 : 0 ≤ i) (h1 : i < 90) : atI (l.map V.int) i = some (.int (l.getD i.toNat 0)) ∧ 0 ≤ l.getD i.toNat 0 ∧ l.getD i.toNat 0 < 65536 := by
  have lt : i.toNat < l.length := by rw [h.len]; omega
  refine ⟨atI_lt h0 (by rw [h.len]; exact h1), ?_⟩
  rw [Gw.getD_lt lt]
  exact h.rng _ (List.getElem_mem lt)
abbrev s_law_numbers : Stmt := top 47
theorem sc_law_numbers : FnScope ["_law_script", "_law_many", "_law_rest", "_law_cell", "_law_mixed", "_law_numbers_here", "_law_k", "_law_at"] ["_law_script", "_law_many"] (C8.fnScope s_law_numbers) := C8.fnScope_by (by decide +kernel)

def spNumbers (K : PySem.W.Frag) : Sp := fun vs H Q _ => ∃ (a : Addr) (ns : List Int), vs = [.ref a, .int 90] ∧ SqL K H a (ns.map V.int) ∧ ns.length ≤ 63 ∧
  ∀ H' p l, Same H H' → H' p = some (.lst (l.map V.int)) → NumOk l → Q (.ref p) H'
theorem ok_numbers (F : DefAt K mg "_law_numbers" s_law_numbers ["_law_script", "_law_many"]) (T : Txt K mg CN CG) : C8.Cal P w K mg base 1 "_law_numbers" (spNumbers K) [] := by
  refine cal F sc_law_numbers (fun vs H Q E h => ?_) (fun f cdv A outer s H vs Q E hr h => ?_)
  · obtain ⟨_, _, rfl, _⟩ := h; rfl
  · obtain ⟨a, ns, rfl, hs, hl, q⟩ := h
    have nd := sc_law_numbers.nd
    refine ⟨_, (pss_cons (ps_set (i := 2) nd rfl (Or.inl rfl) (pe_op op_cat (pe_lc (own := [("_law_cell", 3)]) rfl nd (pi_l K (pe_slice (slL K) (pv 0) po_none (po_some pe_int))) (blkOk_by (by kernel_rfl)) (fun _ _ _ _ _ => (pg_name (i := 3) nd rfl (Or.inl rfl))) (fun _ _ _ _ _ => pts_nil) (fun _ _ _ _ _ => (pe_callB call_abs (by rfl) T.abs (by decide +kernel) (pa_cons (pv 3) pa_nil)))) (pe_lst (pa_cons pe_int pa_nil))))
      (C8.pss_cut (ps_if (pt_cmpR op_gt (pe_callB (lenS K) (by rfl) T.len (by decide +kernel) (pa_cons (pv 0) pa_nil)) pe_int (nomark _)) (pss_one (ps_set (i := 2) nd rfl (Or.inl rfl) (pe_slice (slL K) (pv 2) po_none (po_some (pe_un un_neg pe_int))))) pss_nil)
      (pss_cons (ps_setLc (i := 4) (own := [("_law_cell", 3)]) rfl nd rfl rfl (sw_true rfl rfl rfl (by decide +kernel)) (pi_l K (pv 2)) (blkOk_by (by kernel_rfl)) (fun _ _ _ _ _ => (pg_name (i := 3) nd rfl (Or.inl rfl))) (fun _ _ _ _ _ => pts_nil) (fun _ _ _ _ _ => (pe_op op_mod (pe_callTy call_int1 (by rfl) T.int (by decide +kernel) (pa_cons (pe_op op_add (pe_op op_mul (pv 3) pe_int) pe_int) pa_nil)) pe_int)))
      (pss_cons (ps_set (i := 5) nd rfl (Or.inl rfl) (pe_lst pa_nil))
      (pss_cons (ps_for PassesOwn.never rfl (pi_range1 (by rfl) T.range (pa_cons (pv 1) pa_nil)) (pg_name (i := 6) nd rfl (Or.inl rfl)) (pss_cons (ps_set (i := 7) nd rfl (Or.inl rfl) (pe_op op_mod (pe_callTy call_int1 (by rfl) T.int (by decide +kernel) (pa_cons (pv 6) pa_nil)) (pe_callB (lenS K) (by rfl) T.len (by decide +kernel) (pa_cons (pv 2) pa_nil))))
      (pss_one (ps_if (pt_cmpR op_ge (pe_ix (ixl K) (pv 2) (pv 7) (fun _ _ => rfl)) (pe_op op_pow pe_int pe_int) (nomark _)) (pss_cons (ps_expr (pe_bm PySem.F.plainAttrs_list PySem.F.slot_list_append PySem.F.type_list_append mt_append (pv 5) (pa_cons (pe_op op_mod (pe_callTy call_int1 (by rfl) T.int (by decide +kernel) (pa_cons (pe_ix (ixl K) (pv 2) (pv 7) (fun _ _ => rfl)) pa_nil)) pe_int) pa_nil)))
      (pss_one (ps_asg (pe_op op_fdiv (pe_ix (ixl K) (pv 2) (pv 7) (fun _ _ => rfl)) pe_int) (pg_sub (pv 2) (pv 7) set_list)))) (pss_cons (ps_asg (pe_op op_mod (pe_callTy call_int1 (by rfl) T.int (by decide +kernel) (pa_cons (pe_op op_add (pe_op op_add (pe_op op_mul (pe_ix (ixl K) (pv 4) (pv 7) (fun _ _ => rfl)) pe_int) pe_int) (pe_op op_mul pe_int (pv 6))) pa_nil)) pe_int) (pg_sub (pv 4) (pv 7) set_list))
      (pss_one (ps_expr (pe_bm PySem.F.plainAttrs_list PySem.F.slot_list_append PySem.F.type_list_append mt_append (pv 5) (pa_cons (pe_op op_mod (pe_callTy call_int1 (by rfl) T.int (by decide +kernel) (pa_cons (pe_op op_add (pe_ix (ixl K) (pv 2) (pv 7) (fun _ _ => rfl)) (pe_op op_fdiv (pe_ix (ixl K) (pv 4) (pv 7) (fun _ _ => rfl)) pe_int)) pa_nil)) pe_int) pa_nil)))))))))
      (pss_one (ps_ret (pv 5)))))))), ?_⟩
    have nl : (ns.map V.int).length = ns.length := List.length_map ..
    refine ⟨_, rfl, _, rfl, a, _, rfl, hs, fun sl hsl => ?_⟩
    rw [cut_all (by rw [nl]; exact hl)]
    have s1 : Same H (upd H sl (.lst (ns.map V.int))) := Same.new hsl
    have hsl1 : (upd H sl (.lst (ns.map V.int))) sl = some (.lst (ns.map V.int)) := upd_same
    generalize upd H sl (.lst (ns.map V.int)) = H1 at s1 hsl1 ⊢
    refine ⟨sl, rfl, ⟨_, SqL.of hsl1⟩, fun D hD => ?_⟩
    refine lc_map ns V.int (fun x => .int (if x < 0 then -x else x)) hD (SqL.of hsl1) (by rw [szl]; omega) (fun y hy H2 s2 Qt ht => ?_) (fun H2 s2 hD2 => ?_)
    · exact ⟨rfl, _, rfl, _, rfl, ht _ (Same.refl _)⟩
    have e2 : (ns.map fun x => V.int (if x < 0 then -x else x)) = (ns.map fun x => if x < 0 then -x else x).map V.int := by rw [List.map_map]; rfl
    rw [e2] at hD2
    refine ⟨by show 1 ≤ sizeLine; rw [szl]; decide, fun q1 hq1 => ?_⟩
    have s3 : Same H2 (upd H2 q1 (.lst [V.int 0])) := Same.new hq1
    refine ⟨D, q1, _, _, rfl, rfl, s3 _ _ hD2, upd_same, by rw [List.length_map, List.length_map, szl]; show _ + 1 ≤ _; omega, fun pr hpr => ?_⟩
    have e3 : (ns.map fun x => if x < 0 then -x else x).map V.int ++ [V.int 0] = ((ns.map fun x => if x < 0 then -x else x) ++ [0]).map V.int := by rw [List.map_append]; rfl
    rw [e3]
    have s4 := ((s1.trans s2).trans s3).trans (Same.new hpr (o := .lst (((ns.map fun x => if x < 0 then -x else x) ++ [0]).map V.int)))
    have hpr4 : (upd (upd H2 q1 (.lst [V.int 0])) pr (.lst (((ns.map fun x => if x < 0 then -x else x) ++ [0]).map V.int))) pr = some (.lst (((ns.map fun x => if x < 0 then -x else x) ++ [0]).map V.int)) := upd_same
    generalize upd (upd H2 q1 (.lst [V.int 0])) pr (.lst (((ns.map fun x => if x < 0 then -x else x) ++ [0]).map V.int)) = H4 at s4 hpr4 ⊢
    have ql : ((ns.map fun x => if x < 0 then -x else x) ++ [0]).length = ns.length + 1 := by rw [List.length_append, List.length_map]; rfl
    generalize (ns.map fun x => if x < 0 then -x else x) ++ [0] = rest at hpr4 ql ⊢
    refine ⟨fun σ' H' => Same H H' ∧ ∃ (pr : Addr) (rest : List Int) (o3 o4 o5 o6 o7 : Option V), σ' = [some (.ref a), some (.int 90), some (.ref pr), o3, o4, o5, o6, o7] ∧ H pr = none ∧ H' pr = some (.lst (rest.map V.int)) ∧ 1 ≤ rest.length ∧ rest.length ≤ 64, ?_, ?_⟩
    · refine ⟨_, rfl, a, _, rfl, .inl (SqL.mono s4 hs), _, _, rfl, rfl, _, rfl, ?_⟩
      rw [nl]
      by_cases c : (0 : Int) < (ns.length : Int)
      · refine ifd c ⟨_, rfl, _, rfl, _, rfl, pr, _, rfl, SqL.of hpr4, fun p2 hp2 => ?_⟩
        rw [cut_neg, take_ints, List.length_map]
        exact ⟨s4.trans (Same.new hp2), p2, rest.take (rest.length - 1), _, _, _, _, _, rfl, none_of s4 hp2, upd_same, by rw [List.length_take]; omega, by rw [List.length_take]; omega⟩
      · exact ifnd c ⟨s4, pr, rest, _, _, _, _, _, rfl, none_of ((s1.trans s2).trans s3) hpr, hpr4, by omega, by omega⟩
    · rintro σ' H5 ⟨s5, pr, rest, o3, o4, o5, o6, o7, rfl, hpr0, hpr5, r1, r2⟩
      refine ⟨_, rfl, pr, rfl, ⟨_, SqL.of hpr5⟩, fun pm hpm => ?_⟩
      refine lc_map rest V.int (fun x => .int ((x * 48271 + 11) % 2147483647)) hpm (SqL.of hpr5) (by rw [szl]; omega) (fun y hy H6 s6 Qt ht => ?_) (fun H6 s6 hm6 => ?_)
      · exact ⟨rfl, _, rfl, _, _, rfl, rfl, .inr ⟨by decide, by decide⟩, _, _, rfl, rfl, .inl ⟨_, rfl, _, _, rfl, rfl, (by show (0 : Int) < 2147483647; decide), ht _ (Same.refl _)⟩⟩
      have e6 : (rest.map fun x => V.int ((x * 48271 + 11) % 2147483647)) = (rest.map fun x => (x * 48271 + 11) % 2147483647).map V.int := by rw [List.map_map]; rfl
      rw [e6] at hm6
      refine ⟨by show 0 ≤ sizeLine; omega, fun pn hpn => ?_⟩
      have s56 := s5.trans s6
      have nrm : pr ≠ pm := ne_of_none hpr5 hpm
      have nrn : pr ≠ pn := ne_of_none (s6 _ _ hpr5) hpn
      have nmn : pm ≠ pn := ne_of_none hm6 hpn
      have s7 := s56.trans (Same.new hpn (o := .lst []))
      refine ⟨_, rfl, _, rfl, by omega, by omega, ?_⟩
      refine for_rng (n := 90) (fun i σ H' => Same H H' ∧ ∃ (r m l : List Int) (o3 o6 o7 : Option V), σ = [some (.ref a), some (.int 90), some (.ref pr), o3, some (.ref pm), some (.ref pn), o6, o7] ∧ H' pr = some (.lst (r.map V.int)) ∧ H' pm = some (.lst (m.map V.int)) ∧ H' pn = some (.lst (l.map V.int)) ∧ r.length = rest.length ∧ m.length = rest.length ∧ l.length = i ∧ ∀ x ∈ l, 0 ≤ x ∧ x < 65536)
        ⟨s7, rest, _, [], _, _, _, rfl, by rw [upd_ne nrn]; exact s6 _ _ hpr5, by rw [upd_ne nmn]; exact hm6, upd_same, rfl, List.length_map .., rfl, fun x hx => by cases hx⟩ ?_ ?_
      · rintro i σ H7 hi ⟨s7, r, m, l, o3, o6, o7, rfl, hr7, hm7, hl7, rl, ml, ll, lr⟩
        have at0 : 0 ≤ (i : Int) % ((r.map V.int).length : Int) := Int.emod_nonneg _ (by rw [List.length_map]; omega)
        have at1 : (i : Int) % ((r.map V.int).length : Int) < r.length := by
          have := Int.emod_lt_of_pos (i : Int) (b := ((r.map V.int).length : Int)) (by rw [List.length_map]; omega)
          rwa [List.length_map] at this ⊢
        refine ⟨_, rfl, .inl ⟨_, rfl, _, rfl, pr, _, rfl, .inl (SqL.of hr7), _, _, rfl, rfl, by show (0 : Int) < _; rw [List.length_map]; omega, ?_⟩⟩
        dsimp only
        have er := atI_lt at0 at1
        have em := atI_lt (xs := m) at0 (by omega)
        generalize (i : Int) % ((r.map V.int).length : Int) = k at at0 at1 er em ⊢
        have kl : k.toNat < r.length := by omega
        have ix : ∀ l : List Int, l.length = r.length → ixN (l.map V.int).length k = some k.toNat := fun l h => by
          unfold ixN
          rw [List.length_map, if_pos at0, if_pos (by omega)]
        have n0 : H pm = none := none_of s5 hpm
        have n1 : H pn = none := none_of s56 hpn
        have lapp : ∀ x : Int, 0 ≤ x → x < 65536 → (l ++ [x]).length = i + 1 ∧ ∀ y ∈ l ++ [x], 0 ≤ y ∧ y < 65536 := fun x h1 h2 => by
          refine ⟨by rw [List.length_append, ll]; rfl, fun y hy => ?_⟩
          rcases List.mem_append.mp hy with z | z
          · exact lr y z
          · rw [List.mem_singleton.mp z]; exact ⟨h1, h2⟩
        have ea : ∀ x : Int, l.map V.int ++ [V.int x] = (l ++ [x]).map V.int := fun x => by rw [List.map_append]; rfl
        refine ⟨_, rfl, _, rfl, pr, _, _, _, rfl, rfl, SqL.of hr7, er, _, _, rfl, rfl, ⟨by decide, by decide, by decide⟩, _, _, rfl, rfl, _, rfl, ?_⟩
        by_cases c : (10 : Int) ^ (18 : Int).toNat ≤ r.getD k.toNat 0
        · refine ifd c ⟨_, rfl, .inl ⟨rfl, _, SqL.of hl7⟩, _, rfl, _, rfl, pr, _, _, _, rfl, rfl, SqL.of hr7, er, .inl ⟨_, rfl, _, _, rfl, rfl, (by show (0 : Int) < 65536; decide), pn, _, _, rfl, rfl, hl7, by rw [List.length_map, szl]; omega, ?_⟩⟩
          have nm := num_mod (r.getD k.toNat 0)
          dsimp only
          rw [ea]
          have h8r : (upd H7 pn (.lst ((l ++ [r.getD k.toNat 0 % 65536]).map V.int))) pr = some (.lst (r.map V.int)) := by rw [upd_ne nrn]; exact hr7
          refine ⟨_, rfl, _, rfl, pr, _, _, _, rfl, rfl, SqL.of h8r, er, _, _, rfl, rfl, ⟨by decide, by decide⟩, _, rfl, _, rfl, pr, _, _, _, rfl, rfl, h8r, ix r rfl, ?_⟩
          obtain ⟨z1, z2⟩ := lapp _ nm.1 nm.2
          refine ⟨Same.put (Same.put s7 n1) hpr0, r.set k.toNat (r.getD k.toNat 0 / 65536), m, _, _, _, _, rfl, by rw [upd_same, List.map_set], by rw [upd_ne nrm.symm, upd_ne nmn]; exact hm7, by rw [upd_ne nrn.symm, upd_same], by rw [List.length_set]; exact rl, ml, z1, z2⟩
        · refine ifnd c ⟨_, rfl, _, rfl, pm, _, _, _, rfl, rfl, SqL.of hm7, em, _, _, rfl, rfl, .inr ⟨by decide, by decide⟩, _, _, rfl, rfl, _, rfl, _, _, rfl, rfl, .inl ⟨by decide, by decide⟩, _, _, rfl, rfl, .inl ⟨_, rfl, _, _, rfl, rfl, (by show (0 : Int) < 2147483647; decide), _, rfl, _, rfl, pm, _, _, _, rfl, rfl, hm7, ix m (by omega), ?_⟩⟩
          dsimp only
          rw [← List.map_set]
          generalize hm' : m.set k.toNat ((m.getD k.toNat 0 * 16807 + 12345 + 7919 * (i : Int)) % 2147483647) = m'
          have ml' : m'.length = m.length := by rw [← hm', List.length_set]
          have em' := atI_lt (xs := m') at0 (by omega)
          have h8r : (upd H7 pm (.lst (m'.map V.int))) pr = some (.lst (r.map V.int)) := by rw [upd_ne nrm]; exact hr7
          have h8n : (upd H7 pm (.lst (m'.map V.int))) pn = some (.lst (l.map V.int)) := by rw [upd_ne nmn.symm]; exact hl7
          have s8 := Same.put s7 n0 (o := .lst (m'.map V.int))
          refine ⟨_, rfl, .inl ⟨rfl, _, SqL.of h8n⟩, _, rfl, _, rfl, pr, _, _, _, rfl, rfl, SqL.of h8r, er, _, rfl, _, rfl, pm, _, _, _, rfl, rfl, SqL.of upd_same, em', _, _, rfl, rfl, ⟨by decide, by decide⟩, _, _, rfl, rfl, .inl ⟨_, rfl, _, _, rfl, rfl, (by show (0 : Int) < 65536; decide), pn, _, _, rfl, rfl, h8n, by rw [List.length_map, szl]; omega, ?_⟩⟩
          dsimp only
          rw [ea]
          have nm := num_mod (r.getD k.toNat 0 + m'.getD k.toNat 0 / 5)
          obtain ⟨z1, z2⟩ := lapp _ nm.1 nm.2
          exact ⟨Same.put s8 n1, r, m', _, _, _, _, rfl, by rw [upd_ne nrn]; exact h8r, by rw [upd_ne nmn, upd_same], upd_same, rl, by omega, z1, z2⟩
      · rintro σ H7 ⟨s7, r, m, l, o3, o6, o7, rfl, hr7, hm7, hl7, rl, ml, ll, lr⟩
        exact ⟨_, rfl, q H7 pn l s7 hl7 ⟨ll, lr⟩⟩
end
end K5

namespace K5
open PySem PySem.Spec PyProof.Rows L2
theorem draw_price {t w : Int} (t0 : 0 ≤ t) (t1 : t < 65536) (a b c d : Int) (ha : 0 ≤ a ∧ a ≤ 1048576) (hb : 0 ≤ b ∧ b ≤ 1048576) (hc : 0 ≤ c ∧ c ≤ 1048576) (hd : 0 ≤ d ∧ d ≤ 1048576) :
    ∃ x, atI [V.int a, V.int b, V.int c, V.int d] (w % 4) = some (.int x) ∧ 0 ≤ x ∧ x ≤ 1048576 := by
  have j0 : 0 ≤ w % 4 := Int.emod_nonneg _ (by decide)
  have j1 : w % 4 < 4 := Int.emod_lt_of_pos _ (by decide)
  generalize w % 4 = j at j0 j1 ⊢
  have : j = 0 ∨ j = 1 ∨ j = 2 ∨ j = 3 := by omega
  rcases this with rfl | rfl | rfl | rfl
  · exact ⟨a, atI_nat (j := 0) rfl, ha⟩
  · exact ⟨b, atI_nat (j := 1) rfl, hb⟩
  · exact ⟨c, atI_nat (j := 2) rfl, hc⟩
  · exact ⟨d, atI_nat (j := 3) rfl, hd⟩
theorem mod_bd (x m : Int) (h0 : 0 < m) (h1 : m ≤ 1000) : 0 ≤ x % m ∧ x % m ≤ 1048576 := ⟨Int.emod_nonneg _ (by omega), by have := Int.emod_lt_of_pos x h0; omega⟩
theorem min_bd {t : Int} (t0 : 0 ≤ t) (t1 : t < 65536) : 0 ≤ (if 17 * t < 1048576 then 17 * t else 1048576) ∧ (if 17 * t < 1048576 then 17 * t else 1048576) ≤ 1048576 := by split <;> omega
theorem other_end {d n : Int} (h : 1 < n) : (d % n + 1 + d / n % (n - 1)) % n ≠ d % n := by
  have u0 := Int.emod_nonneg d (b := n) (by omega)
  have r0 := Int.emod_nonneg (d / n) (b := n - 1) (by omega)
  have r1 := Int.emod_lt_of_pos (d / n) (b := n - 1) (by omega)
  generalize d / n % (n - 1) = r at r0 r1 ⊢
  generalize d % n = u at u0 ⊢
  intro e
  have q := Int.emod_add_mul_ediv (u + 1 + r) n
  rw [e] at q
  generalize (u + 1 + r) / n = k at q
  rcases Int.lt_or_le 0 k with c | c
  · have := Int.mul_le_mul_of_nonneg_left (show 1 ≤ k by omega) (show 0 ≤ n by omega)
    omega
  · have := Int.mul_le_mul_of_nonneg_left c (show 0 ≤ n by omega)
    omega
section
variable {P : Program} {w : World} {K : PySem.W.Frag} {mg : Str → Option Value} {base : Heap} {CN CG : Addr}
abbrev s_law_edges : Stmt := top 48
theorem sc_law_edges : FnScope ["_law_numbers_here", "_law_at", "_law_size", "_law_many", "_law_edges_here", "_law_k", "_law_drawn", "_law_other", "_law_u", "_law_v"] ["_law_numbers_here", "_law_at", "_law_size", "_law_many"] (C8.fnScope s_law_edges) := C8.fnScope_by (by decide +kernel)

def spEdgesL (K : PySem.W.Frag) : Sp := fun vs H Q _ => ∃ (p : Addr) (l : List Int) (n : Nat) (m : Int), vs = [.ref p, .int 10, .int n, .int m] ∧ SqL K H p (l.map V.int) ∧ NumOk l ∧ (1 ≤ n ∧ n ≤ 9) ∧ (0 ≤ m ∧ m < 15) ∧
  ∀ H' q xs es, Same H H' → H q = none → H' q = some (.lst xs) → Paired (IsEd K (off [q] H')) xs es → es.length ≤ 14 → (∀ e ∈ es, EdOk n e) → Q (.ref q) H'
theorem ok_edgesL (F : DefAt K mg "_law_edges" s_law_edges ["_law_numbers_here", "_law_at", "_law_size", "_law_many"]) (T : Txt K mg CN CG) : C8.Cal P w K mg base 1 "_law_edges" (spEdgesL K) [] := by
  refine cal F sc_law_edges (fun vs H Q E h => ?_) (fun f cdv A outer s H vs Q E hr h => ?_)
  · obtain ⟨_, _, _, _, rfl, _⟩ := h; rfl
  · obtain ⟨p, l, n, m, rfl, hp, hn, ⟨n1, n9⟩, ⟨m0, m1⟩, q⟩ := h
    have nd := sc_law_edges.nd
    refine ⟨_, (pss_cons (ps_set (i := 4) nd rfl (Or.inl rfl) (pe_lst pa_nil))
      (pss_cons (ps_for PassesOwn.never rfl (pi_range1 (by rfl) T.range (pa_cons (pe_op op_mul (pv 3) (pe_callTy call_int1 (by rfl) T.int (by decide +kernel) (pa_cons (pe_cmpR op_gt (pv 2) pe_int (nomark _)) pa_nil))) pa_nil)) (pg_name (i := 5) nd rfl (Or.inl rfl)) (pss_cons (ps_set (i := 6) nd rfl (Or.inl rfl) (pe_callTy call_int1 (by rfl) T.int (by decide +kernel) (pa_cons (pe_ix (ixl K) (pv 0) (pe_op op_add (pe_op op_add (pv 1) pe_int) (pe_op op_mul pe_int (pv 5))) (fun _ _ => rfl)) pa_nil)))
      (pss_cons (ps_set (i := 7) nd rfl (Or.inl rfl) (pe_callTy call_int1 (by rfl) T.int (by decide +kernel) (pa_cons (pe_ix (ixl K) (pv 0) (pe_op op_add (pe_op op_add (pv 1) pe_int) (pe_op op_mul pe_int (pv 5))) (fun _ _ => rfl)) pa_nil)))
      (pss_cons (ps_set (i := 8) nd rfl (Or.inl rfl) (pe_op op_mod (pe_callTy call_int1 (by rfl) T.int (by decide +kernel) (pa_cons (pv 6) pa_nil)) (pv 2)))
      (pss_cons (ps_set (i := 9) nd rfl (Or.inl rfl) (pe_op op_mod (pe_callTy call_int1 (by rfl) T.int (by decide +kernel) (pa_cons (pe_op op_add (pe_op op_add (pv 8) pe_int) (pe_op op_mod (pe_op op_fdiv (pv 6) (pv 2)) (pe_op op_sub (pv 2) pe_int))) pa_nil)) (pv 2)))
      (pss_one (ps_expr (pe_bm PySem.F.plainAttrs_list PySem.F.slot_list_append PySem.F.type_list_append mt_append (pv 4) (pa_cons (pe_tup (pa_cons (pv 8) (pa_cons (pv 9) (pa_cons (pe_ix (ixl K) (pe_lst (pa_cons (pe_op op_mod (pe_callTy call_int1 (by rfl) T.int (by decide +kernel) (pa_cons (pv 7) pa_nil)) pe_int) (pa_cons (pe_op op_mod (pe_callTy call_int1 (by rfl) T.int (by decide +kernel) (pa_cons (pv 7) pa_nil)) pe_int) (pa_cons (pe_op op_mod (pe_callTy call_int1 (by rfl) T.int (by decide +kernel) (pa_cons (pv 7) pa_nil)) pe_int) (pa_cons (pe_callB (call_min2 rfl) (by rfl) T.min (by decide +kernel) (pa_cons pe_int (pa_cons (pe_op op_mul pe_int (pv 7)) pa_nil))) pa_nil))))) (pe_op op_mod (pe_callTy call_int1 (by rfl) T.int (by decide +kernel) (pa_cons (pe_ix (ixl K) (pv 0) (pv 1) (fun _ _ => rfl)) pa_nil)) pe_int) (fun _ _ => rfl)) pa_nil)))) pa_nil)))))))))
      (pss_one (ps_ret (pv 4))))), ?_⟩
    refine ⟨by show 0 ≤ sizeLine; omega, fun pq hpq => ?_⟩
    have s1 : Same H (upd H pq (.lst [])) := Same.new hpq
    refine ⟨_, rfl, _, rfl, _, _, rfl, rfl, .inr ⟨_, rfl, _, _, rfl, rfl, .inl ⟨by omega, by omega⟩, ?_⟩⟩
    obtain ⟨c, ec, c1, c2⟩ : ∃ c : Nat, m * (if decide ((1 : Int) < (n : Int)) = true then 1 else 0) = (c : Int) ∧ c ≤ 14 ∧ (0 < c → 1 < n) := by
      by_cases h : (1 : Int) < (n : Int)
      · rw [if_pos (decide_eq_true h)]
        exact ⟨m.toNat, by omega, by omega, fun _ => by omega⟩
      · rw [if_neg (by rw [decide_eq_false h]; exact Bool.false_ne_true)]
        exact ⟨0, by omega, by omega, fun z => by omega⟩
    refine ⟨(c : Int), congrArg (fun z => [V.int z]) ec, by omega, by omega, ?_⟩
    refine for_rng (n := c) (fun i σ H' => Same H H' ∧ ∃ (xs : List V) (es : List Ed) (o5 o6 o7 o8 o9 : Option V), σ = [some (.ref p), some (.int 10), some (.int n), some (.int m), some (.ref pq), o5, o6, o7, o8, o9] ∧ H' pq = some (.lst xs) ∧ Paired (IsEd K (off [pq] H')) xs es ∧ es.length = i ∧ ∀ e ∈ es, EdOk n e)
      ⟨s1, [], [], _, _, _, _, _, rfl, upd_same, .nil, rfl, fun e he => by cases he⟩ ?_ ?_
    · rintro i σ H' hi ⟨s2, xs, es, o5, o6, o7, o8, o9, rfl, hx, hps, el, eo⟩
      have n2 := c2 (by omega)
      have hp2 := SqL.mono s2 hp
      have a1 := hn.at_ (i := 10 + 1 + 2 * (i : Int)) (by omega) (by omega)
      have a2 := hn.at_ (i := 10 + 2 + 2 * (i : Int)) (by omega) (by omega)
      have a3 := hn.at_ (i := 10) (by decide) (by decide)
      refine ⟨_, rfl, _, rfl, _, _, rfl, rfl, _, rfl, _, _, rfl, rfl, .inl ⟨by decide, by decide⟩, _, _, rfl, rfl, p, _, _, _, rfl, rfl, hp2, a1.1, .inl ⟨_, rfl, ?_⟩⟩
      refine ⟨_, rfl, _, rfl, _, _, rfl, rfl, _, rfl, _, _, rfl, rfl, .inl ⟨by decide, by decide⟩, _, _, rfl, rfl, p, _, _, _, rfl, rfl, hp2, a2.1, .inl ⟨_, rfl, ?_⟩⟩
      obtain ⟨_, d0, d1⟩ := a1
      obtain ⟨_, t0, t1⟩ := a2
      obtain ⟨e3, w0, w1⟩ := a3
      generalize l.getD (10 + 1 + 2 * (i : Int)).toNat 0 = d at d0 d1 ⊢
      generalize l.getD (10 + 2 + 2 * (i : Int)).toNat 0 = t at t0 t1 ⊢
      have np : (0 : Int) < (n : Int) := by omega
      refine ⟨_, rfl, .inl ⟨_, rfl, _, rfl, _, _, rfl, rfl, np, ?_⟩⟩
      refine ⟨_, rfl, _, _, rfl, rfl, _, rfl, _, rfl, _, _, rfl, rfl, ⟨np, by omega⟩, _, rfl, _, _, rfl, rfl, _, _, rfl, rfl, (by show (0 : Int) < (n : Int) - 1; omega), _, _, rfl, rfl, .inl ⟨_, rfl, _, rfl, _, _, rfl, rfl, np, ?_⟩⟩
      refine ⟨_, rfl, .inl ⟨rfl, _, SqL.of hx⟩, _, rfl, _, rfl, _, rfl, .inl ⟨_, rfl, _, _, rfl, rfl, (by show (0 : Int) < 2; decide), _, rfl, .inl ⟨_, rfl, _, _, rfl, rfl, (by show (0 : Int) < 4; decide), _, rfl, .inl ⟨_, rfl, _, _, rfl, rfl, (by show (0 : Int) < 10; decide), ?_⟩⟩⟩⟩
      refine ⟨_, rfl, _, _, rfl, rfl, .inl ⟨by decide, by decide⟩, _, _, rfl, by show 4 ≤ sizeLine; rw [szl]; decide, fun pl hpl => ?_⟩
      have s3 := s2.trans (Same.new hpl (o := .lst [V.int (t % 2), V.int (t % 4), V.int (t % 10), V.int (if 17 * t < 1048576 then 17 * t else 1048576)]))
      obtain ⟨x, ex, x0, x1⟩ := draw_price (w := l.getD (10 : Int).toNat 0) t0 t1 (t % 2) (t % 4) (t % 10) _ (mod_bd _ _ (by decide) (by decide)) (mod_bd _ _ (by decide) (by decide)) (mod_bd _ _ (by decide) (by decide)) (min_bd t0 t1)
      refine ⟨_, rfl, _, rfl, p, _, _, _, rfl, rfl, SqL.mono s3 hp, e3, .inl ⟨_, rfl, _, _, rfl, rfl, (by show (0 : Int) < 4; decide), pl, _, _, _, rfl, rfl, SqL.of upd_same, ex, by show 3 ≤ sizeLine; rw [szl]; decide, fun pt hpt => ?_⟩⟩
      have hx3 : (upd H' pl (.lst [V.int (t % 2), V.int (t % 4), V.int (t % 10), V.int (if 17 * t < 1048576 then 17 * t else 1048576)])) pq = some (.lst xs) := Same.new hpl _ _ hx
      have sA : Same H' (upd (upd H' pl (.lst [V.int (t % 2), V.int (t % 4), V.int (t % 10), V.int (if 17 * t < 1048576 then 17 * t else 1048576)])) pt (.tup [.int (d % n), .int ((d % n + 1 + d / n % (n - 1)) % n), .int x])) := (Same.new hpl).trans (Same.new hpt)
      have npt : pt ∉ [pq] := new_out hpt hx3
      have ht : (upd (upd H' pl (.lst [V.int (t % 2), V.int (t % 4), V.int (t % 10), V.int (if 17 * t < 1048576 then 17 * t else 1048576)])) pt (.tup [.int (d % n), .int ((d % n + 1 + d / n % (n - 1)) % n), .int x])) pt = some (.tup [.int (d % n), .int ((d % n + 1 + d / n % (n - 1)) % n), .int x]) := upd_same
      have xl : xs.length ≤ 14 := by rw [hps.length]; omega
      refine ⟨pq, _, _, rfl, rfl, sA _ _ hx, by rw [szl]; omega, ?_⟩
      refine ⟨Same.put (s2.trans sA) hpq, xs ++ [.ref pt], es ++ [(d % n, (d % n + 1 + d / n % (n - 1)) % n, x)], _, _, _, _, _, rfl, upd_same, ?_, by rw [List.length_append, el]; rfl, fun e he => ?_⟩
      · rw [off_put (List.mem_singleton.mpr rfl)]
        exact Paired.app (hps.mono fun _ _ z => z.mono (off_mono sA)) (.cons ⟨pt, rfl, SqT.of ((off_out npt).trans ht)⟩ .nil)
      · rcases List.mem_append.mp he with z | z
        · exact eo e z
        · rw [List.mem_singleton.mp z]
          exact ⟨⟨Int.emod_nonneg _ (by omega), Int.emod_lt_of_pos _ np⟩, ⟨Int.emod_nonneg _ (by omega), Int.emod_lt_of_pos _ np⟩, (other_end (by omega)).symm, x0, x1⟩
    · rintro σ H' ⟨s2, xs, es, o5, o6, o7, o8, o9, rfl, hx, hps, el, eo⟩
      exact ⟨_, rfl, q H' pq xs es s2 hpq hx hps (by omega) eo⟩
end
end K5

namespace K5
open PySem PySem.Spec PyProof.Rows L2
theorem cut_ints (l : List Int) (lo hi : Option Int) : ∃ l' : List Int, cutV (l.map V.int) lo hi = l'.map V.int := by
  unfold cutV
  rw [drop_ints, take_ints]
  exact ⟨_, rfl⟩
theorem mul_bit {x : Int} (b : Bool) (h : 0 ≤ x ∧ x ≤ 1048576) : 0 ≤ x * (if b = true then 1 else 0) ∧ x * (if b = true then 1 else 0) ≤ 1048576 := by
  cases b with
  | true => rw [if_pos rfl, Int.mul_one]; exact h
  | false => rw [if_neg Bool.false_ne_true, Int.mul_zero]; omega
section
variable {P : Program} {w : World} {K : PySem.W.Frag} {mg : Str → Option Value} {base : Heap} {CN CG : Addr}
abbrev s_law_prizes : Stmt := top 57
theorem sc_law_prizes : FnScope ["_law_numbers_here", "_law_at", "_law_size", "_law_root", "_law_most", "_law_prizes_here", "_law_vertex", "_law_drawn", "_law_kept"] ["_law_numbers_here", "_law_at", "_law_size", "_law_root", "_law_most"] (C8.fnScope s_law_prizes) := C8.fnScope_by (by decide +kernel)

def spPrizesL (K : PySem.W.Frag) : Sp := fun vs H Q _ => ∃ (p : Addr) (l : List Int) (n : Nat) (r : Int), vs = [.ref p, .int 45, .int n, .int r, .int 9] ∧ SqL K H p (l.map V.int) ∧ NumOk l ∧ (1 ≤ n ∧ n ≤ 9) ∧
  ∀ H' q pz, Same H H' → H q = none → H' q = some (.lst (pz.map V.int)) → PzOk n pz → Q (.ref q) H'
theorem ok_prizesL (F : DefAt K mg "_law_prizes" s_law_prizes ["_law_numbers_here", "_law_at", "_law_size", "_law_root", "_law_most"]) (T : Txt K mg CN CG) : C8.Cal P w K mg base 1 "_law_prizes" (spPrizesL K) [] := by
  refine cal F sc_law_prizes (fun vs H Q E h => ?_) (fun f cdv A outer s H vs Q E hr h => ?_)
  · obtain ⟨_, _, _, _, rfl, _⟩ := h; rfl
  · obtain ⟨p, l, n, r, rfl, hp, hn, ⟨n1, n9⟩, q⟩ := h
    have nd := sc_law_prizes.nd
    refine ⟨_, (pss_cons (ps_set (i := 5) nd rfl (Or.inr rfl) (pe_lst pa_nil))
      (pss_cons (ps_for PassesOwn.never rfl (pi_range1 (by rfl) T.range (pa_cons (pv 2) pa_nil)) (pg_name (i := 6) nd rfl (Or.inl rfl)) (pss_cons (ps_set (i := 7) nd rfl (Or.inl rfl) (pe_callTy call_int1 (by rfl) T.int (by decide +kernel) (pa_cons (pe_ix (ixl K) (pv 0) (pe_op op_add (pe_op op_add (pv 1) pe_int) (pv 6)) (fun _ _ => rfl)) pa_nil)))
      (pss_one (ps_expr (pe_bm PySem.F.plainAttrs_list PySem.F.slot_list_append PySem.F.type_list_append mt_append (pv 5) (pa_cons (pe_op op_mul (pe_ix (ixl K) (pe_lst (pa_cons (pe_op op_mod (pv 7) pe_int) (pa_cons (pe_op op_mod (pv 7) pe_int) (pa_cons (pe_op op_mod (pv 7) pe_int) (pa_cons (pe_callB (call_min2 rfl) (by rfl) T.min (by decide +kernel) (pa_cons pe_int (pa_cons (pe_op op_mul pe_int (pv 7)) pa_nil))) pa_nil))))) (pe_op op_mod (pe_callTy call_int1 (by rfl) T.int (by decide +kernel) (pa_cons (pe_ix (ixl K) (pv 0) (pv 1) (fun _ _ => rfl)) pa_nil)) pe_int) (fun _ _ => rfl)) (pe_callTy call_int1 (by rfl) T.int (by decide +kernel) (pa_cons (pe_cmpR op_gt (pe_op op_mod (pe_op op_fdiv (pv 7) pe_int) pe_int) pe_int (nomark _)) pa_nil))) pa_nil))))))
      (pss_cons (ps_set (i := 8) nd rfl (Or.inr rfl) (pe_slice (slL K) (pe_lc (own := [("_law_vertex", 6)]) rfl nd (pi_range1 (by rfl) T.range (pa_cons (pv 2) pa_nil)) (blkOk_by (by kernel_rfl)) (fun _ _ _ _ _ => (pg_name (i := 6) nd rfl (Or.inl rfl))) (fun _ _ _ _ _ => (pts_one (PW.pt (pw_and (pt_cmpR op_ne (pv 6) (pv 3) (nomark _)) (pw_and1 (pt_cmpR op_gt (pe_ix (ixl K) (pv 5) (pv 6) (fun _ _ => rfl)) pe_int (nomark _))))))) (fun _ _ _ _ _ => (pv 6))) po_none (po_some (pv 4))))
      (pss_one (ps_ret (pe_lc (own := [("_law_vertex", 6)]) rfl nd (pi_range1 (by rfl) T.range (pa_cons (pv 2) pa_nil)) (blkOk_by (by kernel_rfl)) (fun _ _ _ _ _ => (pg_name (i := 6) nd rfl (Or.inl rfl))) (fun _ _ _ _ _ => pts_nil) (fun _ _ _ _ _ => (pe_op op_mul (pe_ix (ixl K) (pv 5) (pv 6) (fun _ _ => rfl)) (pe_callTy call_int1 (by rfl) T.int (by decide +kernel) (pa_cons (pe_or (pe_cmpR (inS K) (pv 6) (pv 8) (by rfl)) (pe_one (pe_cmpR op_eq (pv 6) (pv 3) (nomark _)))) pa_nil)))))))))), ?_⟩
    refine ⟨by show 0 ≤ sizeLine; omega, fun pq hpq => ?_⟩
    have s1 : Same H (upd H pq (.lst [])) := Same.new hpq
    refine ⟨_, rfl, _, rfl, by omega, by omega, ?_⟩
    refine for_rng (n := n) (fun i σ H' => Same H H' ∧ ∃ (pz : List Int) (o6 o7 o8 : Option V), σ = [some (.ref p), some (.int 45), some (.int n), some (.int r), some (.int 9), some (.ref pq), o6, o7, o8] ∧ H' pq = some (.lst (pz.map V.int)) ∧ pz.length = i ∧ ∀ x ∈ pz, 0 ≤ x ∧ x ≤ 1048576)
      ⟨s1, [], _, _, _, rfl, upd_same, rfl, fun x hx => by cases hx⟩ ?_ ?_
    · rintro i σ H' hi ⟨s2, pz, o6, o7, o8, rfl, hx, pl, po⟩
      have hp2 := SqL.mono s2 hp
      have a1 := hn.at_ (i := 45 + 1 + (i : Int)) (by omega) (by omega)
      have a3 := hn.at_ (i := 45) (by decide) (by decide)
      refine ⟨_, rfl, _, rfl, _, _, rfl, rfl, _, rfl, _, _, rfl, rfl, p, _, _, _, rfl, rfl, hp2, a1.1, .inl ⟨_, rfl, ?_⟩⟩
      obtain ⟨_, d0, d1⟩ := a1
      obtain ⟨e3, w0, w1⟩ := a3
      generalize l.getD (45 + 1 + (i : Int)).toNat 0 = d at d0 d1 ⊢
      refine ⟨_, rfl, .inl ⟨rfl, _, SqL.of hx⟩, _, rfl, _, _, rfl, rfl, (by show (0 : Int) < 3; decide), _, rfl, _, _, rfl, rfl, (by show (0 : Int) < 10; decide), _, rfl, _, _, rfl, rfl, (by show (0 : Int) < 30; decide), ?_⟩
      refine ⟨_, rfl, _, _, rfl, rfl, .inl ⟨by decide, by decide⟩, _, _, rfl, by show 4 ≤ sizeLine; rw [szl]; decide, fun pl' hpl => ?_⟩
      have sA : Same H' (upd H' pl' (.lst [V.int (d % 3), V.int (d % 10), V.int (d % 30), V.int (if 17 * d < 1048576 then 17 * d else 1048576)])) := Same.new hpl
      obtain ⟨x, ex, x0, x1⟩ := draw_price (w := l.getD (45 : Int).toNat 0) d0 d1 (d % 3) (d % 10) (d % 30) _ (mod_bd _ _ (by decide) (by decide)) (mod_bd _ _ (by decide) (by decide)) (mod_bd _ _ (by decide) (by decide)) (min_bd d0 d1)
      refine ⟨_, rfl, _, rfl, p, _, _, _, rfl, rfl, SqL.mono (s2.trans sA) hp, e3, .inl ⟨_, rfl, _, _, rfl, rfl, (by show (0 : Int) < 4; decide), pl', _, _, _, rfl, rfl, SqL.of upd_same, ex, ?_⟩⟩
      refine ⟨_, rfl, _, _, rfl, rfl, ⟨by decide, by decide⟩, _, _, rfl, rfl, (by show (0 : Int) < 3; decide), _, _, rfl, rfl, .inr ⟨_, rfl, _, _, rfl, rfl, .inl ⟨by omega, by omega⟩, ?_⟩⟩
      have xb := mul_bit (decide ((0 : Int) < d / 64 % 3)) ⟨x0, x1⟩
      have ea : ∀ y : Int, pz.map V.int ++ [V.int y] = (pz ++ [y]).map V.int := fun y => by rw [List.map_append]; rfl
      refine ⟨pq, _, _, rfl, rfl, sA _ _ hx, by rw [List.length_map, szl]; omega, ?_⟩
      refine ⟨Same.put (s2.trans sA) hpq, pz ++ [x * (if decide ((0 : Int) < d / 64 % 3) = true then 1 else 0)], _, _, _, rfl, by rw [← ea]; exact upd_same, by rw [List.length_append, pl]; rfl, fun y hy => ?_⟩
      rcases List.mem_append.mp hy with z | z
      · exact po y z
      · rw [List.mem_singleton.mp z]; exact xb
    · rintro σ H1 ⟨s2, pz, o6, o7, o8, rfl, hx, pl, po⟩
      refine ⟨_, rfl, _, rfl, by omega, by omega, fun D hD => ?_⟩
      rw [Int.toNat_natCast]
      have pa : ∀ {i : Nat}, i < n → atI (pz.map V.int) (i : Int) = some (.int (pz.getD i 0)) := fun {i} h => by
        have := atI_lt (xs := pz) (i := (i : Int)) (by omega) (by omega)
        rwa [Int.toNat_natCast] at this
      refine lc_readR n (fun v => .int v) (fun v => !decide (v = r) && decide (0 < pz.getD v.toNat 0)) hD (by rw [szl]; omega) (fun i hi H3 s3 Qt Qf ht hf => ?_) (fun H3 s3 hD3 => ?_)
      · refine ⟨rfl, _, rfl, _, rfl, rfl, _, rfl, ?_⟩
        by_cases c : (i : Int) = r
        · refine ifnt (congrArg V.int c) (hf (by rw [decide_eq_true c]; rfl) _ (Same.refl _))
        · refine ifnf (fun z => c (V.int.inj z)) ⟨_, rfl, _, rfl, pq, _, _, _, rfl, rfl, SqL.of (s3 _ _ hx), pa hi, _, _, rfl, rfl, _, rfl, ?_⟩
          by_cases c2 : 0 < pz.getD i 0
          · exact ifd c2 ⟨_, rfl, ht (by rw [decide_eq_false c, Int.toNat_natCast, decide_eq_true c2]; rfl) _ (Same.refl _)⟩
          · exact ifnd c2 (hf (by rw [decide_eq_false c, Int.toNat_natCast, decide_eq_false c2]; rfl) _ (Same.refl _))
      · refine ⟨_, rfl, _, rfl, D, _, rfl, SqL.of hD3, fun pk hpk => ?_⟩
        obtain ⟨kl, ek⟩ := cut_ints ((List.range n).map (fun i : Nat => (i : Int)) |>.filter fun v => !decide (v = r) && decide (0 < pz.getD v.toNat 0)) none (some 9)
        rw [ek]
        have s4 := s3.trans (Same.new hpk (o := .lst (kl.map V.int)))
        have hk4 : (upd H3 pk (.lst (kl.map V.int))) pk = some (.lst (kl.map V.int)) := upd_same
        generalize upd H3 pk (.lst (kl.map V.int)) = H4 at s4 hk4 ⊢
        refine ⟨_, rfl, _, rfl, by omega, by omega, fun D2 hD2 => ?_⟩
        rw [Int.toNat_natCast]
        refine lc_mapR n (fun v => .int (pz.getD v.toNat 0 * (if (decide (v ∈ kl) || decide (v = r)) = true then 1 else 0))) hD2 (by rw [szl]; omega) (fun i hi H5 s5 Qt ht => ?_) (fun H5 s5 hD5 => ?_)
        · have pb := po (pz.getD i 0) (by rw [Gw.getD_lt (by omega)]; exact List.getElem_mem _)
          refine ⟨rfl, _, rfl, _, rfl, pq, _, _, _, rfl, rfl, SqL.of ((s4.trans s5) _ _ hx), pa hi, _, rfl, _, rfl, pk, _, rfl, .inl (SqL.of (s5 _ _ hk4)), rfl, flat_ints _, ?_⟩
          rw [if_neg Bool.false_ne_true, inV_ints]
          have fin := ht _ (Same.refl H5)
          rw [Int.toNat_natCast] at fin
          by_cases c : (i : Int) ∈ kl
          · rw [decide_eq_true c] at fin ⊢
            exact ⟨true, rfl, .inr ⟨_, rfl, _, _, rfl, rfl, .inl ⟨by omega, by omega⟩, fin⟩⟩
          · rw [decide_eq_false c] at fin ⊢
            refine ⟨false, rfl, _, rfl, _, rfl, rfl, .inr ⟨_, rfl, _, _, rfl, rfl, .inl ⟨by omega, by omega⟩, ?_⟩⟩
            have e : decide (V.int (i : Int) = V.int r) = decide ((i : Int) = r) := by
              by_cases z : (i : Int) = r
              · rw [decide_eq_true z, decide_eq_true (congrArg V.int z)]
              · rw [decide_eq_false z, decide_eq_false fun y => z (V.int.inj y)]
            dsimp only
            rw [e]
            exact fin
        · have e3 : (((List.range n).map fun i : Nat => (i : Int)).map fun v => V.int (pz.getD v.toNat 0 * (if (decide (v ∈ kl) || decide (v = r)) = true then 1 else 0))) = (((List.range n).map fun i : Nat => (i : Int)).map fun v => pz.getD v.toNat 0 * (if (decide (v ∈ kl) || decide (v = r)) = true then 1 else 0)).map V.int := by rw [List.map_map (g := V.int)]; rfl
          rw [e3] at hD5
          refine q H5 D2 _ ((s2.trans s4).trans s5) (none_of (s2.trans s4) hD2) hD5 ⟨by rw [List.length_map, List.length_map, List.length_range], fun x hx => ?_⟩
          obtain ⟨v, hv, rfl⟩ := List.mem_map.mp hx
          obtain ⟨i, hi, rfl⟩ := List.mem_map.mp hv
          have hi := List.mem_range.mp hi
          exact mul_bit _ (po _ (by rw [Int.toNat_natCast, Gw.getD_lt (by omega)]; exact List.getElem_mem _))
end
end K5

namespace K5
open PySem PySem.Spec PyProof.Rows L2
def IsLab (K : PySem.W.Frag) (H : Hp) (v : V) (b : Int × Int × List Int) : Prop := ∃ t c, v = .ref t ∧ SqT K H t [.int b.1, .int b.2.1, .ref c] ∧ SqL K H c (b.2.2.map V.int)
theorem IsLab.mono {K : PySem.W.Frag} {H H' : Hp} (s : Same H H') {v b} (h : IsLab K H v b) : IsLab K H' v b := let ⟨t, c, e, q, r⟩ := h; ⟨t, c, e, SqT.mono s q, SqL.mono s r⟩
theorem IsLab.dp {K : PySem.W.Frag} {H : Hp} {v b} (h : IsLab K H v b) : Dp K H v (encLab b) := by
  obtain ⟨t, c, rfl, q, r⟩ := h
  exact .tup q (.cons (.int _) (.cons (.int _) (.cons (.lst r (dp_ints _)) .nil)))
section
variable {P : Program} {w : World} {K : PySem.W.Frag} {mg : Str → Option Value} {base : Heap} {CN CG : Addr}
abbrev s_law_choices : Stmt := top 59
theorem sc_law_choices : FnScope ["_law_edges_here", "_law_root", "_law_prizes_here", "_law_labels", "_law_number", "_law_chosen", "_law_k"] ["_law_edges_here", "_law_root", "_law_prizes_here"] (C8.fnScope s_law_choices) := C8.fnScope_by (by decide +kernel)

def spChoices (K : PySem.W.Frag) : Sp := fun vs H Q _ => ∃ (v u : V) (N : Gw.Net), vs = [v, .int N.root, u] ∧ IsL K H (IsEd K H) v N.es ∧ N.Ok ∧ IsIs K H u N.pz ∧ N.es.length < 9 ∧
  ∀ H' q x xs b, Same H H' → H' q = some (.lst (x :: xs)) → IsLab K H' x b → b.1 = costC N b.2.2 → (∀ k ∈ b.2.2, N.isE k) → (∀ c ∈ b.2.2, 0 ≤ c) → b.2.2.length ≤ 10 → AscP N.es.length b.2.2 → Q (.ref q) H'
theorem ok_choices (F : DefAt K mg "_law_choices" s_law_choices ["_law_edges_here", "_law_root", "_law_prizes_here"]) (T : Txt K mg CN CG) (c_law_cost : C8.Cal P w K mg base 2 "_law_cost" (spLawCost K) []) : C8.Cal P w K mg base 3 "_law_choices" (spChoices K) [] := by
  refine cal F sc_law_choices (fun vs H Q E h => ?_) (fun f cdv A outer s H vs Q E hr h => ?_)
  · obtain ⟨_, _, _, rfl, _⟩ := h; rfl
  · obtain ⟨v, u, N, rfl, he, o, hu, h9, q⟩ := h
    have nd := sc_law_choices.nd
    refine ⟨_, (pss_cons (ps_set (i := 3) nd rfl (Or.inl rfl) (pe_lst pa_nil))
      (pss_cons (ps_for PassesOwn.never rfl (pi_range1 (by rfl) T.range (pa_cons (pe_op op_shl pe_int (pe_callB (lenS K) (by rfl) T.len (by decide +kernel) (pa_cons (pv 0) pa_nil))) pa_nil)) (pg_name (i := 4) nd rfl (Or.inr rfl)) (pss_cons (ps_setLc (i := 5) (own := [("_law_k", 6)]) rfl nd rfl rfl (sw_true rfl rfl rfl (by decide +kernel)) (pi_range1 (by rfl) T.range (pa_cons (pe_callB (lenS K) (by rfl) T.len (by decide +kernel) (pa_cons (pv 0) pa_nil)) pa_nil)) (blkOk_by (by kernel_rfl)) (fun _ _ _ _ _ => (pg_name (i := 6) nd rfl (Or.inl rfl))) (fun _ _ _ _ _ => (pts_one (pt_cmpR op_eq (pe_op op_and (pe_op op_shr (pv 4) (pv 6)) pe_int) pe_int (nomark _)))) (fun _ _ _ _ _ => (pv 6)))
      (pss_one (ps_expr (pe_bm PySem.F.plainAttrs_list PySem.F.slot_list_append PySem.F.type_list_append mt_append (pv 3) (pa_cons (pe_tup (pa_cons (C8.pe_c c_law_cost hr (by decide) (by rfl) (pa_cons (pv 0) (pa_cons (pv 1) (pa_cons (pv 2) (pa_cons (pv 5) pa_nil))))) (pa_cons (pe_callB (lenS K) (by rfl) T.len (by decide +kernel) (pa_cons (pv 5) pa_nil)) (pa_cons (pv 5) pa_nil)))) pa_nil))))))
      (pss_one (ps_ret (pe_callB (crSortedLab K hr.units) (by rfl) T.sorted (by decide +kernel) (pa_cons (pv 3) pa_nil)))))), ?_⟩
    obtain ⟨le, exs, rfl, hle, hpe⟩ := id he
    have xl := hpe.length
    refine ⟨by show 0 ≤ sizeLine; omega, fun pl hpl => ?_⟩
    have s1 : Same H (upd H pl (.lst [])) := Same.new hpl
    have p2 : (2 : Nat) ^ exs.length ≤ 2 ^ 8 := Nat.pow_le_pow_right (by decide) (by omega)
    have p8 : (2 : Nat) ^ 8 = 256 := by decide
    have ec : (1 : Int) * 2 ^ ((exs.length : Int)).toNat = ((2 ^ exs.length : Nat) : Int) := by rw [Int.toNat_natCast, Int.one_mul, Int.natCast_pow]; rfl
    have hpos : 0 < (2 : Nat) ^ exs.length := Nat.pow_pos (by decide)
    generalize (2 : Nat) ^ exs.length = M at p2 ec hpos
    refine ⟨_, rfl, le, _, rfl, .inl (SqL.mono s1 hle), _, _, rfl, rfl, ⟨by omega, by omega, by decide⟩, (M : Int), congrArg (fun z => [V.int z]) ec, by omega, by omega, ?_⟩
    refine for_rng (n := M) (fun i σ H' => Same H H' ∧ ∃ (xs : List V) (bs : List (Int × Int × List Int)) (o4 o5 o6 : Option V), σ = [some (.ref le), some (.int N.root), some u, some (.ref pl), o4, o5, o6] ∧ H' pl = some (.lst xs) ∧ Paired (IsLab K (off [pl] H')) xs bs ∧ bs.length = i ∧ ∀ b ∈ bs, b.1 = costC N b.2.2 ∧ AscP N.es.length b.2.2 ∧ b.2.2.length ≤ 10)
      ⟨s1, [], [], _, _, _, rfl, upd_same, .nil, rfl, fun b hb => by cases hb⟩ ?_ ?_
    · rintro i σ H' hi ⟨s2, xs, bs, o4, o5, o6, rfl, hx, hps, bl, bo⟩
      refine ⟨_, rfl, le, _, rfl, .inl (SqL.mono s2 hle), _, rfl, by omega, by omega, fun D hD => ?_⟩
      rw [Int.toNat_natCast, xl]
      refine lc_readR N.es.length (fun v => .int v) (fun v => decide (V.int (Builtin.bitAnd ((i : Int) / 2 ^ v.toNat) 1) = V.int 1)) hD (by rw [szl]; omega) (fun k hk H3 s3 Qt Qf ht hf => ?_) (fun H3 s3 hD3 => ?_)
      · refine ⟨rfl, _, rfl, _, rfl, _, _, rfl, rfl, (by show (0 : Int) ≤ (k : Int); omega), _, _, rfl, rfl, rfl, _, rfl, ?_⟩
        by_cases c : V.int (Builtin.bitAnd ((i : Int) / 2 ^ (k : Int).toNat) 1) = V.int 1
        · exact ifd c ⟨_, rfl, ht (decide_eq_true c) _ (Same.refl _)⟩
        · exact ifnd c (hf (decide_eq_false c) _ (Same.refl _))
      · obtain ⟨C, hC, asc⟩ : ∃ C : List Int, (((List.range N.es.length).map fun i : Nat => (i : Int)).filter fun v => decide (V.int (Builtin.bitAnd ((i : Int) / 2 ^ v.toNat) 1) = V.int 1)) = C ∧ AscP N.es.length C := by
          refine ⟨_, rfl, AscP.of ?_ fun k hk => ?_⟩
          · refine List.Pairwise.sublist List.filter_sublist (List.pairwise_map.mpr ?_)
            exact List.pairwise_lt_range.imp fun h => by omega
          · obtain ⟨j, hj, rfl⟩ := List.mem_map.mp (List.mem_filter.mp hk).1
            have := List.mem_range.mp hj
            omega
        have hD3' : H3 D = some (.lst (C.map V.int)) := by rw [hD3, ← hC]
        have cl := asc_len asc
        have s23 := s2.trans s3
        refine ⟨_, rfl, .inl ⟨rfl, _, SqL.of (s3 _ _ hx)⟩, _, rfl, _, rfl, _, rfl, _, rfl, .ref le, u, .ref D, N, C, rfl, he.mono s23 (fun _ _ z => z.mono s23), o, hu.mono s23, ⟨D, rfl, SqL.of hD3'⟩, isE_of asc, by omega, fun H4 s4 => ?_⟩
        refine ⟨_, rfl, D, _, rfl, .inl (SqL.of (s4 _ _ hD3')), _, rfl, by show 3 ≤ sizeLine; rw [szl]; decide, fun pt hpt => ?_⟩
        have s34 := s3.trans s4
        have hx4 := s34 _ _ hx
        have s5 := s34.trans (Same.new hpt (o := .tup [.int (costC N C), .int ((C.map V.int).length : Nat), .ref D]))
        have Dl : D ∉ [pl] := new_out hD hx
        have pn : pt ∉ [pl] := new_out hpt hx4
        have lx : xs.length < sizeLine := by rw [hps.length, bl, szl]; omega
        refine ⟨pl, _, _, rfl, rfl, s5 _ _ hx, lx, ?_⟩
        refine ⟨Same.put (s2.trans s5) hpl, xs ++ [.ref pt], bs ++ [(costC N C, (((C.map V.int).length : Nat) : Int), C)], _, _, _, rfl, upd_same, ?_, by rw [List.length_append, bl]; rfl, fun b hb => ?_⟩
        · rw [off_put (List.mem_singleton.mpr rfl)]
          refine Paired.app (hps.mono fun _ _ z => z.mono (off_mono s5)) (.cons ⟨pt, D, rfl, SqT.of ?_, SqL.of ?_⟩ .nil)
          · rw [off_out pn, upd_same]
          · rw [off_out Dl]; exact Same.new hpt _ _ (s4 _ _ hD3')
        · rcases List.mem_append.mp hb with z | z
          · exact bo b z
          · rw [List.mem_singleton.mp z]; exact ⟨rfl, asc, by show C.length ≤ 10; omega⟩
    · rintro σ H' ⟨s2, xs, bs, o4, o5, o6, rfl, hx, hps, bl, bo⟩
      have hps' := hps.mono fun v b (z : IsLab K (off [pl] H') v b) => z.mono (off_sub _)
      refine ⟨_, rfl, pl, xs, bs, rfl, SqL.of hx, hps'.mono fun _ _ z => z.dp, fun ys p perm hp => ?_⟩
      have xlen : 0 < xs.length := by rw [hps.length, bl]; exact hpos
      cases ys with
      | nil => have := perm.length_eq; simp at this; omega
      | cons y ys =>
        have ym : y ∈ xs := perm.mem_iff.mp List.mem_cons_self
        obtain ⟨j, hj⟩ := List.getElem?_of_mem ym
        obtain ⟨b, hb, hl⟩ := Paired.at hps' hj
        obtain ⟨b1, b2, b3⟩ := bo b (List.mem_of_getElem? hb)
        exact q _ p y ys b (s2.trans (Same.new hp)) upd_same (hl.mono (Same.new hp)) b1 (isE_of b2) (fun c hc => (b2.mem c hc).1) b3 b2
end
end K5

namespace K5
open PySem PySem.Spec PyProof.Rows L2
/-- moats as the law changes them -/
structure ChOk (n : Nat) (M : List Mo) : Prop where
  mo : MosOk n M
  sm : ∀ m ∈ M, m.2.1 < 2 ^ 300 ∧ m.2.2 ≤ 2 ^ 200
theorem ChOk.sub {n : Nat} {M M' : List Mo} (h : ChOk n M) (l : M'.length ≤ 40) (s : ∀ m ∈ M', m ∈ M) : ChOk n M' :=
  ⟨⟨l, fun m hm => h.mo.set m (s m hm), fun m hm => h.mo.fr m (s m hm)⟩, fun m hm => h.sm m (s m hm)⟩
/-- a height one half or one more -/
theorem more_ok {f g : Int × Int} (h : Gw.FrOk f) (d : f.2 ≤ 2 ^ 18) (b : f.1 < 2 ^ 250) (hg : g = (1, 2) ∨ g = (1, 1)) : 0 ≤ (Gw.fadd f g).1 ∧ 0 < (Gw.fadd f g).2 ∧ (Gw.fadd f g).2 ≤ 2 ^ 200 ∧ Gw.FrOk (Gw.lowest (Gw.fadd f g).1 (Gw.fadd f g).2) := by
  have n0 := h.n0
  have d0 := h.d0
  have z1 : (2 : Int) ^ 18 = 262144 := by decide
  have z2 : (262144 : Int) * 2 ≤ 2 ^ 200 := by decide +kernel
  have z3 : (2 : Int) ^ 250 * 2 + 262144 < 2 ^ 300 := by decide +kernel
  have key : 0 < (Gw.fadd f g).1 ∧ (Gw.fadd f g).1 < 2 ^ 300 ∧ 0 < (Gw.fadd f g).2 ∧ (Gw.fadd f g).2 ≤ 2 ^ 200 := by
    unfold Gw.fadd
    rcases hg with rfl | rfl
    · show 0 < f.1 * 2 + 1 * f.2 ∧ f.1 * 2 + 1 * f.2 < _ ∧ 0 < f.2 * 2 ∧ f.2 * 2 ≤ _
      omega
    · show 0 < f.1 * 1 + 1 * f.2 ∧ f.1 * 1 + 1 * f.2 < _ ∧ 0 < f.2 * 1 ∧ f.2 * 1 ≤ _
      omega
  obtain ⟨k1, k2, k3, k4⟩ := key
  obtain ⟨l0, l1, l2⟩ := Gw.lowest_le (Int.le_of_lt k1) k3
  obtain ⟨e1, e2⟩ := Gw.lowest_mul (n := (Gw.fadd f g).1) (d := (Gw.fadd f g).2)
  have g0 := Gw.gcd_pos (n := (Gw.fadd f g).1) k3
  refine ⟨Int.le_of_lt k1, k3, k4, ⟨?_, by omega, ?_, by omega, Gw.lowest_gcd k3⟩⟩
  · rcases Int.lt_or_eq_of_le l0 with q | q
    · exact q
    · rw [← q, Int.zero_mul] at e1; omega
  · refine Classical.byContradiction fun q => ?_
    have := Int.mul_le_mul_of_nonneg_right (show (Gw.lowest (Gw.fadd f g).1 (Gw.fadd f g).2).2 ≤ 0 by omega) (Int.le_of_lt g0)
    omega
section
variable {P : Program} {w : World} {K : PySem.W.Frag} {mg : Str → Option Value} {base : Heap} {CN CG : Addr}
abbrev s_law_changed : Stmt := top 61
theorem sc_law_changed : FnScope ["_law_numbers_here", "_law_at", "_law_many", "_law_chosen", "_law_moats", "_law_way", "_law_drawn", "_law_rows", "_law_group", "_law_height", "_law_k"] ["_law_numbers_here", "_law_at", "_law_many", "_law_chosen", "_law_moats"] (C8.fnScope s_law_changed) := C8.fnScope_by (by decide +kernel)

def spChanged (K : PySem.W.Frag) : Sp := fun vs H Q _ => ∃ (p pt pm : Addr) (l : List Int) (at_ : Int) (n m : Nat) (C : List Int) (xs : List V) (M : List Mo), vs = [.ref p, .int at_, .int m, .ref pt, .ref pm] ∧ SqL K H p (l.map V.int) ∧ NumOk l ∧ (0 ≤ at_ ∧ at_ ≤ 88) ∧ m ≤ 14 ∧
  H pt = some (.lst (C.map V.int)) ∧ C.length ≤ 50 ∧ (∀ k ∈ C, -1 ≤ k ∧ k < 100) ∧ H pm = some (.lst xs) ∧ Paired (IsMo K H) xs M ∧ MosOk n M ∧ M.length ≤ 30 ∧ (∀ m ∈ M, m.2.2 ≤ 2 ^ 18 ∧ m.2.1 < 2 ^ 250) ∧
  ∀ H' q c x C' M', Same H H' → H' q = some (.tup [c, x]) → IsIs K H' c C' → IsL K H' (IsMo K H') x M' → C'.length ≤ 60 → (∀ k ∈ C', -1 ≤ k ∧ k < 100) → ChOk n M' → Q (.ref q) H'
theorem ok_changed (F : DefAt K mg "_law_changed" s_law_changed ["_law_numbers_here", "_law_at", "_law_many", "_law_chosen", "_law_moats"]) (T : Txt K mg CN CG) (c_law_plus : C8.Cal P w K mg base 1 "_law_plus" (spPlus K) []) (c_law_lowest : C8.Cal P w K mg base 1 "_law_lowest" (spLawLowest K) []) : C8.Cal P w K mg base 2 "_law_changed" (spChanged K) [] := by
  refine cal F sc_law_changed (fun vs H Q E h => ?_) (fun f cdv A outer s H vs Q E hr h => ?_)
  · obtain ⟨_, _, _, _, _, _, _, _, _, _, rfl, _⟩ := h; rfl
  · obtain ⟨p, pt, pm, l, at_, n, m, C, xs, M, rfl, hp, hn, ⟨at0, at1⟩, m14, ht, cl, cb, hm, hps, ok, ml, bd, q⟩ := h
    have nd := sc_law_changed.nd
    refine ⟨_, (pss_cons (ps_set (i := 5) nd rfl (Or.inl rfl) (pe_op op_mod (pe_callTy call_int1 (by rfl) T.int (by decide +kernel) (pa_cons (pe_ix (ixl K) (pv 0) (pv 1) (fun _ _ => rfl)) pa_nil)) pe_int))
      (pss_cons (ps_set (i := 6) nd rfl (Or.inr rfl) (pe_callTy call_int1 (by rfl) T.int (by decide +kernel) (pa_cons (pe_ix (ixl K) (pv 0) (pe_op op_add (pv 1) pe_int) (fun _ _ => rfl)) pa_nil)))
      (pss_cons (ps_setLc (i := 7) (own := [("_law_group", 8), ("_law_height", 9)]) rfl nd rfl rfl (sw_true rfl rfl rfl (by decide +kernel)) (pi_l K (pv 4)) (blkOk_by (by kernel_rfl)) (fun _ _ _ _ _ => (pg_t K 2 rfl (pgs_cons (pg_name (i := 8) nd rfl (Or.inl rfl)) (pgs_cons (pg_name (i := 9) nd rfl (Or.inl rfl)) pgs_nil)))) (fun _ _ _ _ _ => pts_nil) (fun _ _ _ _ _ => (pe_tup (pa_cons (pe_callTy (listOf K) (by rfl) T.list (by decide +kernel) (pa_cons (pv 8) pa_nil)) (pa_cons (pv 9) pa_nil)))))
      (pss_cons (ps_if (pt_cmpR op_eq (pv 5) pe_int (nomark _)) (pss_one (ps_ret (pe_tup (pa_cons (pv 3) (pa_cons (pe_slice (slL K) (pv 7) (po_some pe_int) po_none) pa_nil))))) pss_nil)
      (pss_cons (ps_if (pt_cmpR op_eq (pv 5) pe_int (nomark _)) (pss_one (ps_ret (pe_tup (pa_cons (pe_lc (own := [("_law_k", 10)]) rfl nd (pi_range1 (by rfl) T.range (pa_cons (pv 2) pa_nil)) (blkOk_by (by kernel_rfl)) (fun _ _ _ _ _ => (pg_name (i := 10) nd rfl (Or.inl rfl))) (fun _ _ _ _ _ => (pts_one (pt_cmpR op_eq (pe_op op_and (pe_op op_shr (pv 6) (pv 10)) pe_int) pe_int (nomark _)))) (fun _ _ _ _ _ => (pv 10))) (pa_cons (pv 7) pa_nil))))) pss_nil)
      (pss_cons (ps_if (pt_cmpR op_eq (pv 5) pe_int (nomark _)) (pss_one (ps_ret (pe_tup (pa_cons (pe_slice (slL K) (pv 3) po_none (po_some (pe_un un_neg pe_int))) (pa_cons (pv 7) pa_nil))))) pss_nil)
      (pss_cons (ps_if (pt_cmpR op_eq (pv 5) pe_int (nomark _)) (pss_one (ps_ret (pe_tup (pa_cons (pe_op op_cat (pv 3) (pe_lst (pa_cons (pe_op op_sub (pe_op op_mod (pe_callTy call_int1 (by rfl) T.int (by decide +kernel) (pa_cons (pv 6) pa_nil)) (pe_op op_add (pv 2) pe_int)) pe_int) pa_nil))) (pa_cons (pv 7) pa_nil))))) pss_nil)
      (C8.pss_cut (ps_if (PW.pt (pw_and (pt_cmpR op_eq (pv 5) pe_int (nomark _)) (pw_and1 (pt_cmpR op_gt (pe_callB (lenS K) (by rfl) T.len (by decide +kernel) (pa_cons (pv 7) pa_nil)) pe_int (nomark _))))) (pss_cons (ps_set (i := 10) nd rfl (Or.inl rfl) (pe_op op_mod (pe_callTy call_int1 (by rfl) T.int (by decide +kernel) (pa_cons (pv 6) pa_nil)) (pe_callB (lenS K) (by rfl) T.len (by decide +kernel) (pa_cons (pv 7) pa_nil))))
      (pss_one (ps_asg (pe_tup (pa_cons (pe_ix (ixt K) (pe_ix (ixl K) (pv 7) (pv 10) (fun _ _ => rfl)) pe_int (fun _ _ => rfl)) (pa_cons (C8.pe_c c_law_lowest hr (by decide) (by rfl) (pa_cons (C8.pe_c c_law_plus hr (by decide) (by rfl) (pa_cons (pe_ix (ixt K) (pe_ix (ixl K) (pv 7) (pv 10) (fun _ _ => rfl)) pe_int (fun _ _ => rfl)) (pa_cons (pe_ix (ixl K) (pe_lst (pa_cons (pe_tup (pa_cons pe_int (pa_cons pe_int pa_nil))) (pa_cons (pe_tup (pa_cons pe_int (pa_cons pe_int pa_nil))) pa_nil))) (pe_op op_mod (pe_op op_fdiv (pv 6) pe_int) pe_int) (fun _ _ => rfl)) pa_nil))) pa_nil)) pa_nil))) (pg_sub (pv 7) (pv 10) set_list)))) pss_nil)
      (pss_cons (ps_if (PW.pt (pw_and (pt_cmpR op_eq (pv 5) pe_int (nomark _)) (pw_and1 (pt_cmpR op_gt (pe_callB (lenS K) (by rfl) T.len (by decide +kernel) (pa_cons (pv 7) pa_nil)) pe_int (nomark _))))) (pss_one (ps_ret (pe_tup (pa_cons (pv 3) (pa_cons (pe_op op_cat (pv 7) (pe_lst (pa_cons (pe_ix (ixl K) (pv 7) (pe_op op_mod (pe_callTy call_int1 (by rfl) T.int (by decide +kernel) (pa_cons (pv 6) pa_nil)) (pe_callB (lenS K) (by rfl) T.len (by decide +kernel) (pa_cons (pv 7) pa_nil))) (fun _ _ => rfl)) pa_nil))) pa_nil))))) pss_nil)
      (pss_one (ps_ret (pe_tup (pa_cons (pv 3) (pa_cons (pv 7) pa_nil)))))))))))))), ?_⟩
    have a1 := hn.at_ (i := at_) (by omega) (by omega)
    have a2 := hn.at_ (i := at_ + 1) (by omega) (by omega)
    refine ⟨_, rfl, _, rfl, p, _, _, _, rfl, rfl, hp, a1.1, .inl ⟨_, rfl, _, _, rfl, rfl, (by show (0 : Int) < 6; decide), ?_⟩⟩
    refine ⟨_, rfl, _, rfl, _, _, rfl, rfl, p, _, _, _, rfl, rfl, hp, a2.1, .inl ⟨_, rfl, ?_⟩⟩
    obtain ⟨_, d0, d1⟩ := a2
    generalize l.getD (at_ + 1).toNat 0 = d at d0 d1 ⊢
    have ch0 : ChOk n M := ⟨ok, fun m hm => by
      have := bd m hm
      have z1 : (2 : Int) ^ 18 ≤ 2 ^ 200 := by decide +kernel
      have z2 : (2 : Int) ^ 250 < 2 ^ 300 := by decide +kernel
      omega⟩
    obtain ⟨L, rfl, rfl, hL⟩ := mos_rec hps
    have lz : L.length ≤ 30 := by rw [List.length_map] at ml; exact ml
    refine ⟨_, rfl, pm, rfl, ⟨_, SqL.of hm⟩, fun pr hpr => ?_⟩
    refine lc_new L (fun r => .ref r.a) (fun r H v => IsMo K H v r.m) (fun y H H' v sm z => z.mono sm) hpr (SqL.of hm) (by rw [szl]; omega) (fun y hy H2 s2 hacc Qt hq => ?_) (fun H2 rx s2 hr2 hrp => ?_)
    · obtain ⟨y1, ⟨ga, yg, y2⟩, y3⟩ := (hL y hy).mono s2
      refine ⟨y.a, _, rfl, y1, rfl, _, _, rfl, _, _, rfl, rfl, rfl, _, rfl, ga, _, congrArg (fun z => [z]) yg, .inl y2, fun l' hl' => ?_⟩
      obtain ⟨acc, hacc⟩ := hacc
      refine ⟨_, rfl, by show 2 ≤ sizeLine; rw [szl]; decide, fun pw hpw => ?_⟩
      have s3 : Same H2 (upd H2 l' (.lst (y.m.1.map V.int))) := Same.new hl'
      have s4 := s3.trans (Same.new hpw (o := .tup [.ref l', y.h]))
      refine hq _ _ s4 ⟨pw, .ref l', y.h, rfl, SqT.of ?_, ⟨l', rfl, SqL.of ?_⟩, (hL y hy).2.2.mono (Same.off (s2.trans s4) fun b hb => by rw [List.mem_singleton.mp hb]; exact hpr)⟩
      · rw [off_out (new_out hpw (s3 _ _ hacc)), upd_same]
      · have n1 : l' ≠ pw := ne_of_none upd_same hpw
        rw [off_out (new_out hl' hacc), upd_ne n1, upd_same]
    have rl : rx.length = L.length := hrp.length
    have hrp' : Paired (IsMo K (off [pr] H2)) rx (L.map (·.m)) := Paired.mp (f := fun r : MoR => r.m) (fun v b z => z) hrp
    clear hrp
    have ht2 := s2 _ _ ht
    -- the rows as they are
    have rows : ∀ {H' : Hp}, Same H2 H' → IsL K H' (IsMo K H') (.ref pr) (L.map (·.m)) := fun sm => ⟨pr, rx, rfl, SqL.of (sm _ _ hr2), hrp'.mono fun _ _ z => z.mono (Same.trans (off_sub _) sm)⟩
    have way0 : 0 ≤ l.getD at_.toNat 0 % 6 := Int.emod_nonneg _ (by decide)
    refine ⟨_, rfl, rfl, _, rfl, ?_⟩
    by_cases w0 : V.int (l.getD at_.toNat 0 % 6) = V.int 0
    · refine ifd w0 ⟨_, rfl, _, rfl, _, rfl, pr, _, rfl, SqL.of hr2, fun sl hsl => ⟨by show 2 ≤ sizeLine; rw [szl]; decide, fun pq hpq => ?_⟩⟩
      rw [cut_one] at hpq ⊢
      have s3 := (Same.new hsl (o := .lst (rx.drop 1))).trans (Same.new hpq (o := .tup [.ref pt, .ref sl]))
      refine q _ pq _ _ C ((L.map (·.m)).drop 1) (s2.trans s3) upd_same ⟨pt, rfl, SqL.of (s3 _ _ ht2)⟩ ⟨sl, rx.drop 1, rfl, SqL.of (Same.new hpq _ _ upd_same), Paired.dro 1 (hrp'.mono fun _ _ z => z.mono (Same.trans (off_sub _) s3))⟩ (by omega) cb (ch0.sub (by rw [List.length_drop]; omega) fun m hm => List.mem_of_mem_drop hm)
    refine ifnd w0 ⟨_, rfl, rfl, _, rfl, ?_⟩
    by_cases w1 : V.int (l.getD at_.toNat 0 % 6) = V.int 1
    · refine ifd w1 ⟨_, rfl, _, rfl, by omega, by omega, fun D hD => ?_⟩
      rw [Int.toNat_natCast]
      refine lc_readR m (fun v => .int v) (fun v => decide (V.int (Builtin.bitAnd (d / 2 ^ v.toNat) 1) = V.int 1)) hD (by rw [szl]; omega) (fun k hk H3 s3 Qt Qf ht hf => ?_) (fun H3 s3 hD3 => ?_)
      · refine ⟨rfl, _, rfl, _, rfl, _, _, rfl, rfl, (by show (0 : Int) ≤ (k : Int); omega), _, _, rfl, rfl, rfl, _, rfl, ?_⟩
        by_cases c : V.int (Builtin.bitAnd (d / 2 ^ (k : Int).toNat) 1) = V.int 1
        · exact ifd c ⟨_, rfl, ht (decide_eq_true c) _ (Same.refl _)⟩
        · exact ifnd c (hf (decide_eq_false c) _ (Same.refl _))
      · refine ⟨_, rfl, by show 2 ≤ sizeLine; rw [szl]; decide, fun pq hpq => ?_⟩
        have s4 := s3.trans (Same.new hpq (o := .tup [.ref D, .ref pr]))
        refine q _ pq _ _ _ _ (s2.trans s4) upd_same ⟨D, rfl, SqL.of (Same.new hpq _ _ hD3)⟩ (rows s4) ?_ (fun k hk => ?_) ch0
        · refine Nat.le_trans (List.length_filter_le ..) ?_
          rw [List.length_map, List.length_range]; omega
        · obtain ⟨i, hi, rfl⟩ := List.mem_map.mp (List.mem_filter.mp hk).1
          have := List.mem_range.mp hi
          omega
    refine ifnd w1 ⟨_, rfl, rfl, _, rfl, ?_⟩
    by_cases w2 : V.int (l.getD at_.toNat 0 % 6) = V.int 2
    · refine ifd w2 ⟨_, rfl, _, rfl, _, rfl, pt, _, rfl, SqL.of ht2, fun sl hsl => ⟨_, rfl, by show 2 ≤ sizeLine; rw [szl]; decide, fun pq hpq => ?_⟩⟩
      rw [cut_neg, take_ints] at hpq ⊢
      have s3 := (Same.new hsl (o := .lst ((C.take ((C.map V.int).length - 1)).map V.int))).trans (Same.new hpq (o := .tup [.ref sl, .ref pr]))
      refine q _ pq _ _ (C.take ((C.map V.int).length - 1)) _ (s2.trans s3) upd_same ⟨sl, rfl, SqL.of (Same.new hpq _ _ upd_same)⟩ (rows s3) (by rw [List.length_take]; omega) (fun k hk => cb k (List.mem_of_mem_take hk)) ch0
    refine ifnd w2 ⟨_, rfl, rfl, _, rfl, ?_⟩
    by_cases w3 : V.int (l.getD at_.toNat 0 % 6) = V.int 3
    · refine ifd w3 ⟨_, rfl, _, rfl, .inl ⟨_, rfl, _, rfl, _, _, rfl, rfl, _, _, rfl, rfl, (by show (0 : Int) < (m : Int) + 2; omega), _, _, rfl, rfl, by show 1 ≤ sizeLine; rw [szl]; decide, fun p1 hp1 => ?_⟩⟩
      have s3 : Same H2 (upd H2 p1 (.lst [V.int (d % ((m : Int) + 2) - 1)])) := Same.new hp1
      refine ⟨pt, p1, _, _, rfl, rfl, s3 _ _ ht2, upd_same, by rw [List.length_map, szl]; show _ + 1 ≤ _; omega, fun p2 hp2 => ⟨_, rfl, by show 2 ≤ sizeLine; rw [szl]; decide, fun pq hpq => ?_⟩⟩
      have ea : C.map V.int ++ [V.int (d % ((m : Int) + 2) - 1)] = (C ++ [d % ((m : Int) + 2) - 1]).map V.int := by rw [List.map_append]; rfl
      rw [ea] at hpq ⊢
      have s4 := s3.trans ((Same.new hp2 (o := .lst ((C ++ [d % ((m : Int) + 2) - 1]).map V.int))).trans (Same.new hpq (o := .tup [.ref p2, .ref pr])))
      refine q _ pq _ _ (C ++ [d % ((m : Int) + 2) - 1]) _ (s2.trans s4) upd_same ⟨p2, rfl, SqL.of (Same.new hpq _ _ upd_same)⟩ (rows s4) (by rw [List.length_append]; show _ + 1 ≤ _; omega) (fun k hk => ?_) ch0
      rcases List.mem_append.mp hk with z | z
      · exact cb k z
      · rw [List.mem_singleton.mp z]
        have e0 := Int.emod_nonneg d (b := (m : Int) + 2) (by omega)
        have e1 := Int.emod_lt_of_pos d (b := (m : Int) + 2) (by omega)
        omega
    refine ifnd w3 ?_
    have Ml : (L.map (·.m)).length = L.length := List.length_map ..
    refine ⟨fun σ' H' => Same H H' ∧ ∃ (ry : List V) (M2 : List Mo) (o8 o9 o10 : Option V), σ' = [some (.ref p), some (.int at_), some (.int m), some (.ref pt), some (.ref pm), some (.int (l.getD at_.toNat 0 % 6)), some (.int d), some (.ref pr), o8, o9, o10] ∧ H' pr = some (.lst ry) ∧ Paired (IsMo K (off [pr] H')) ry M2 ∧ ChOk n M2 ∧ M2.length ≤ 30, ?_, ?_⟩
    · have stay : ∀ o10, Same H H2 ∧ ∃ (ry : List V) (M2 : List Mo) (o8 o9 o10' : Option V), [some (V.ref p), some (.int at_), some (.int m), some (.ref pt), some (.ref pm), some (.int (l.getD at_.toNat 0 % 6)), some (.int d), some (.ref pr), none, none, o10] = [some (V.ref p), some (.int at_), some (.int m), some (.ref pt), some (.ref pm), some (.int (l.getD at_.toNat 0 % 6)), some (.int d), some (.ref pr), o8, o9, o10'] ∧ H2 pr = some (.lst ry) ∧ Paired (IsMo K (off [pr] H2)) ry M2 ∧ ChOk n M2 ∧ M2.length ≤ 30 :=
        fun o10 => ⟨s2, rx, L.map (·.m), _, _, _, rfl, hr2, hrp', ch0, by rw [Ml]; exact lz⟩
      refine ⟨_, rfl, rfl, _, rfl, ?_⟩
      by_cases w4 : V.int (l.getD at_.toNat 0 % 6) = V.int 4
      · refine ifd w4 ⟨_, rfl, pr, _, rfl, .inl (SqL.of hr2), _, _, rfl, rfl, _, rfl, ?_⟩
        by_cases c : (0 : Int) < (rx.length : Int)
        · refine ifd c ⟨_, rfl, .inl ⟨_, rfl, _, rfl, pr, _, rfl, .inl (SqL.of hr2), _, _, rfl, rfl, c, ?_⟩⟩
          have k0 := Int.emod_nonneg d (b := (rx.length : Int)) (by omega)
          have k1 := Int.emod_lt_of_pos d c
          have hj : (d % (rx.length : Int)).toNat < rx.length := by omega
          obtain ⟨mo, hmo, hv⟩ := Paired.at hrp' (List.getElem?_eq_getElem hj)
          obtain ⟨ta, tg, th, ev, q1, q2, q3⟩ := hv
          have mm : mo ∈ L.map (·.m) := List.mem_of_getElem? hmo
          have e1 : atI rx (d % (rx.length : Int)) = some (.ref ta) := atI_at k0 (by rw [List.getElem?_eq_getElem hj, ev])
          have q1' := SqT.mono (off_sub _) q1
          have q3' := q3.mono (off_sub _)
          refine ⟨_, rfl, _, rfl, pr, _, _, _, rfl, rfl, SqL.of hr2, e1, ta, _, 0, _, rfl, rfl, q1', atI_nat (j := 0) rfl, ?_⟩
          refine ⟨_, rfl, _, rfl, pr, _, _, _, rfl, rfl, SqL.of hr2, e1, ta, _, 1, _, rfl, rfl, q1', atI_nat (j := 1) rfl, ?_⟩
          refine ⟨by show 2 ≤ sizeLine; rw [szl]; decide, fun t1 h1 => ⟨by show 2 ≤ sizeLine; rw [szl]; decide, fun t2 h2 => ⟨by show 2 ≤ sizeLine; rw [szl]; decide, fun t3 h3 => ?_⟩⟩⟩
          have b1 : Same H2 (upd H2 t1 (.tup [.int 1, .int 2])) := Same.new h1
          have b2 := b1.trans (Same.new h2 (o := .tup [.int 1, .int 1]))
          have b3 := b2.trans (Same.new h3 (o := .lst [.ref t1, .ref t2]))
          obtain ⟨tq, g, e2, hg, fg⟩ : ∃ (tq : Addr) (g : Int × Int), atI [V.ref t1, V.ref t2] (d / 7 % 2) = some (.ref tq) ∧ (g = (1, 2) ∨ g = (1, 1)) ∧ IsFr K (upd (upd (upd H2 t1 (.tup [.int 1, .int 2])) t2 (.tup [.int 1, .int 1])) t3 (.lst [.ref t1, .ref t2])) (.ref tq) g := by
            have j0 : 0 ≤ d / 7 % 2 := Int.emod_nonneg _ (by decide)
            have j1 : d / 7 % 2 < 2 := Int.emod_lt_of_pos _ (by decide)
            generalize d / 7 % 2 = j at j0 j1 ⊢
            have : j = 0 ∨ j = 1 := by omega
            rcases this with rfl | rfl
            · exact ⟨t1, (1, 2), atI_nat (j := 0) rfl, .inl rfl, t1, rfl, SqT.of (Same.new h3 _ _ (Same.new h2 _ _ upd_same))⟩
            · exact ⟨t2, (1, 1), atI_nat (j := 1) rfl, .inr rfl, t2, rfl, SqT.of (Same.new h3 _ _ upd_same)⟩
          have h3u : (upd (upd (upd H2 t1 (.tup [.int 1, .int 2])) t2 (.tup [.int 1, .int 1])) t3 (.lst [.ref t1, .ref t2])) t3 = some (.lst [.ref t1, .ref t2]) := upd_same
          generalize upd (upd (upd H2 t1 (.tup [.int 1, .int 2])) t2 (.tup [.int 1, .int 1])) t3 (.lst [.ref t1, .ref t2]) = H3 at b3 fg h3u ⊢
          have fok := ok.fr mo mm
          obtain ⟨dn, nn⟩ := bd mo mm
          obtain ⟨r1, r2, r3, r4⟩ := more_ok fok dn nn hg
          have big : ∀ {i : Int}, 0 ≤ i → i < 2 ^ 300 → i.natAbs < 2 ^ 30000 := fun h0 h1 => pow_up (pow_nat h0 h1) (by decide)
          have z0 : (2 : Int) ^ 18 < 2 ^ 300 := by decide +kernel
          have z1 : (2 : Int) ^ 250 < 2 ^ 300 := by decide +kernel
          have z2 : (2 : Int) < 2 ^ 300 := by decide +kernel
          have f0 := fok.n0
          have f2 := fok.d0
          have gb : (0 ≤ g.1 ∧ g.1 < 2 ^ 300) ∧ (0 ≤ g.2 ∧ g.2 < 2 ^ 300) := by
            rcases hg with rfl | rfl
            · exact ⟨⟨by decide, by show (1 : Int) < _; omega⟩, ⟨by decide, by show (2 : Int) < _; omega⟩⟩
            · exact ⟨⟨by decide, by show (1 : Int) < _; omega⟩, ⟨by decide, by show (1 : Int) < _; omega⟩⟩
          refine ⟨_, rfl, _, _, rfl, rfl, ⟨by decide, by decide⟩, _, _, rfl, rfl, (by show (0 : Int) < 2; decide), t3, _, _, _, rfl, rfl, SqL.of h3u, e2, _, _, mo.2, g, rfl, q3'.mono b3, fg, big (by omega) (by omega), big (by omega) (by omega), big gb.1.1 gb.1.2, big gb.2.1 gb.2.2, fun p5 hp5 => ?_⟩
          refine ⟨_, _, rfl, ⟨p5, rfl, SqT.of upd_same⟩, r1, r2, r3, fun p6 hp6 => ⟨by show 2 ≤ sizeLine; rw [szl]; decide, fun p7 hp7 => ?_⟩⟩
          have b5 := b3.trans (Same.new hp5 (o := .tup [.int (Gw.fadd mo.2 g).1, .int (Gw.fadd mo.2 g).2]))
          have b6 := b5.trans (Same.new hp6 (o := .tup [.int (Gw.lowest (Gw.fadd mo.2 g).1 (Gw.fadd mo.2 g).2).1, .int (Gw.lowest (Gw.fadd mo.2 g).1 (Gw.fadd mo.2 g).2).2]))
          have b7 := b6.trans (Same.new hp7 (o := .tup [tg, .ref p6]))
          have n67 : p6 ≠ p7 := ne_of_none upd_same hp7
          refine ⟨_, rfl, _, rfl, pr, _, _, (d % (rx.length : Int)).toNat, rfl, rfl, b7 _ _ hr2, ?_, ?_⟩
          · unfold ixN
            show (if 0 ≤ d % (rx.length : Int) then (if d % (rx.length : Int) < (rx.length : Int) then some (d % (rx.length : Int)).toNat else none) else _) = _
            rw [if_pos k0, if_pos k1]
          · refine ⟨Same.put (s2.trans b7) hpr, rx.set (d % (rx.length : Int)).toNat (.ref p7), (L.map (·.m)).set (d % (rx.length : Int)).toNat (mo.1, Gw.lowest (Gw.fadd mo.2 g).1 (Gw.fadd mo.2 g).2), _, _, _, rfl, upd_same, ?_, ?_, by rw [List.length_set, Ml]; exact lz⟩
            · rw [off_put (List.mem_singleton.mpr rfl)]
              refine Paired.seti ⟨p7, tg, .ref p6, rfl, SqT.of ?_, q2.mono (off_mono b7), ⟨p6, rfl, SqT.of ?_⟩⟩ _ (hrp'.mono fun _ _ z => z.mono (off_mono b7))
              · rw [off_out (new_out hp7 (b6 _ _ hr2)), upd_same]
              · rw [off_out (new_out hp6 (b5 _ _ hr2)), upd_ne n67, upd_same]
            · have all : ∀ m ∈ (L.map (·.m)).set (d % (rx.length : Int)).toNat (mo.1, Gw.lowest (Gw.fadd mo.2 g).1 (Gw.fadd mo.2 g).2), m ∈ L.map (·.m) ∨ m = (mo.1, Gw.lowest (Gw.fadd mo.2 g).1 (Gw.fadd mo.2 g).2) := fun m hm => List.mem_or_eq_of_mem_set hm
              refine ⟨⟨by rw [List.length_set, Ml]; omega, fun m hm => ?_, fun m hm => ?_⟩, fun m hm => ?_⟩
              · rcases all m hm with z | z
                · exact ok.set m z
                · rw [z]; exact ok.set mo mm
              · rcases all m hm with z | z
                · exact ok.fr m z
                · rw [z]; exact r4
              · rcases all m hm with z | z
                · exact ch0.sm m z
                · rw [z]; exact ⟨r4.n1, r4.d1⟩
        · exact ifnd c (stay none)
      · exact ifnd w4 (stay none)
    · rintro σ' H5 ⟨s5, ry, M2, o8, o9, o10, rfl, hr5, hp5, ch5, ml5⟩
      have ryl : ry.length = M2.length := hp5.length
      refine ⟨_, rfl, rfl, _, rfl, ?_⟩
      have plain : ∀ {pq}, H5 pq = none → Q (.ref pq) (upd H5 pq (.tup [.ref pt, .ref pr])) := fun {pq} hpq => by
        have s6 := Same.new hpq (o := .tup [.ref pt, .ref pr])
        exact q _ pq _ _ C M2 (s5.trans s6) upd_same ⟨pt, rfl, SqL.of ((s5.trans s6) _ _ ht)⟩ ⟨pr, ry, rfl, SqL.of (s6 _ _ hr5), hp5.mono fun _ _ z => z.mono (Same.trans (off_sub _) s6)⟩ (by omega) cb ch5
      by_cases w5 : V.int (l.getD at_.toNat 0 % 6) = V.int 5
      · refine ifd w5 ⟨_, rfl, pr, _, rfl, .inl (SqL.of hr5), _, _, rfl, rfl, _, rfl, ?_⟩
        by_cases c : (0 : Int) < (ry.length : Int)
        · have k0 := Int.emod_nonneg d (b := (ry.length : Int)) (by omega)
          have k1 := Int.emod_lt_of_pos d c
          have hj : (d % (ry.length : Int)).toNat < ry.length := by omega
          obtain ⟨mo, hmo, hv⟩ := Paired.at hp5 (List.getElem?_eq_getElem hj)
          have e1 : atI ry (d % (ry.length : Int)) = some ry[(d % (ry.length : Int)).toNat] := atI_at k0 (List.getElem?_eq_getElem hj)
          refine ifd c ⟨_, rfl, _, rfl, _, rfl, _, rfl, .inl ⟨_, rfl, _, rfl, pr, _, rfl, .inl (SqL.of hr5), _, _, rfl, rfl, c, pr, _, _, _, rfl, rfl, SqL.of hr5, e1, by show 1 ≤ sizeLine; rw [szl]; decide, fun p1 hp1 => ?_⟩⟩
          have b1 := Same.new hp1 (o := .lst [ry[(d % (ry.length : Int)).toNat]])
          refine ⟨pr, p1, _, _, rfl, rfl, b1 _ _ hr5, upd_same, by rw [szl]; show _ + 1 ≤ _; omega, fun p2 hp2 => ⟨by show 2 ≤ sizeLine; rw [szl]; decide, fun pq hpq => ?_⟩⟩
          have b3 := b1.trans ((Same.new hp2 (o := .lst (ry ++ [ry[(d % (ry.length : Int)).toNat]]))).trans (Same.new hpq (o := .tup [.ref pt, .ref p2])))
          have up : Same (off [pr] H5) _ := Same.trans (off_sub [pr]) b3
          refine q _ pq _ _ C (M2 ++ [mo]) (s5.trans b3) upd_same ⟨pt, rfl, SqL.of ((s5.trans b3) _ _ ht)⟩ ⟨p2, _, rfl, SqL.of (Same.new hpq _ _ upd_same), Paired.app (hp5.mono fun _ _ z => z.mono up) (.cons (hv.mono up) .nil)⟩ (by omega) cb (ch5.sub (by rw [List.length_append]; show _ + 1 ≤ _; omega) fun m hm => ?_)
          rcases List.mem_append.mp hm with z | z
          · exact z
          · rw [List.mem_singleton.mp z]; exact List.mem_of_getElem? hmo
        · exact ifnd c ⟨_, rfl, _, rfl, by show 2 ≤ sizeLine; rw [szl]; decide, fun pq hpq => plain hpq⟩
      · exact ifnd w5 ⟨_, rfl, _, rfl, by show 2 ≤ sizeLine; rw [szl]; decide, fun pq hpq => plain hpq⟩
end
end K5

namespace K5
open PySem PySem.Spec PyProof.Rows L2
/-! ### what repr asks -/
structure Gd (d : PyData) (c : Nat) : Prop where
  sh : d.leavesShort 101 = true
  ok : d.showable = true
  nd : d.hasDict = false
  wt : d.weight ≤ c
theorem gd_int {i : Int} {k : Nat} (hk : k ≤ 320) (h : i.natAbs < 2 ^ k) : Gd (.int i) k := by
  have h2 : i.natAbs < 2 ^ 320 := Nat.lt_of_lt_of_le h (Nat.pow_le_pow_right (by decide) hk)
  have h3 : (2 : Nat) ^ 320 < 10 ^ 100 := by decide +kernel
  refine ⟨?_, ?_, rfl, ?_⟩
  · show decide ((PyData.shown (.int i)).length ≤ 101) = true
    refine decide_eq_true ?_
    have e := int_text_length_le10 (k := 100) (by decide) (Nat.lt_trans h2 h3)
    show (Str.ofString (toString i)).length ≤ 101
    rw [PySem.ofString_length]; exact e
  · show decide (i.natAbs.log2 < 1920) = true
    refine decide_eq_true ?_
    by_cases z : i.natAbs = 0
    · rw [z]; decide
    · exact (Nat.log2_lt z).mpr (Nat.lt_of_lt_of_le h2 (Nat.pow_le_pow_right (by decide) (by decide)))
  · show (if i == 0 then 0 else i.natAbs.log2 + 1) ≤ k
    by_cases z : i = 0
    · subst z; exact Nat.zero_le _
    · rw [if_neg (by simpa using z)]
      exact (Nat.log2_lt (by omega)).mpr h
structure GdA (ds : List PyData) (c : Nat) : Prop where
  sh : PyData.leavesShortAll 101 ds = true
  ok : PyData.showableAll ds = true
  nd : PyData.hasDictAll ds = false
  wt : PyData.weightAll ds ≤ c
theorem GdA.nil : GdA [] 0 := ⟨by simp [PyData.leavesShortAll], by simp [PyData.showableAll], by simp [PyData.hasDictAll], by simp [PyData.weightAll]⟩
theorem GdA.cons {d : PyData} {ds : List PyData} {a b : Nat} (h : Gd d a) (t : GdA ds b) : GdA (d :: ds) (a + 1 + b) :=
  ⟨by simp [PyData.leavesShortAll, h.sh, t.sh], by simp [PyData.showableAll, h.ok, t.ok], by simp [PyData.hasDictAll, h.nd, t.nd], by have := h.wt; have := t.wt; simp only [PyData.weightAll]; omega⟩
theorem GdA.mp {β : Type} {enc : β → PyData} {c : Nat} : ∀ {l : List β}, (∀ b ∈ l, Gd (enc b) c) → GdA (l.map enc) (l.length * (c + 1))
  | [], _ => by rw [List.map_nil, List.length_nil, Nat.zero_mul]; exact .nil
  | b :: l, h => by
    have q := GdA.cons (h b List.mem_cons_self) (GdA.mp fun x hx => h x (List.mem_cons_of_mem _ hx))
    rw [List.map_cons, List.length_cons, Nat.add_mul, Nat.one_mul, Nat.add_comm]
    exact q
theorem gd_list {ds : List PyData} {c : Nat} (h : GdA ds c) : Gd (.list ds) c := ⟨by simp only [PyData.leavesShort]; exact h.sh, by simp only [PyData.showable]; exact h.ok, by simp only [PyData.hasDict]; exact h.nd, by simp only [PyData.weight]; exact h.wt⟩
theorem gd_tup {ds : List PyData} {c : Nat} (h : GdA ds c) : Gd (.tuple ds) c := ⟨by simp only [PyData.leavesShort]; exact h.sh, by simp only [PyData.showable]; exact h.ok, by simp only [PyData.hasDict]; exact h.nd, by simp only [PyData.weight]; exact h.wt⟩
theorem Gd.up {d : PyData} {a b : Nat} (h : Gd d a) (l : a ≤ b) : Gd d b := ⟨h.sh, h.ok, h.nd, Nat.le_trans h.wt l⟩
theorem gd_is {l : List Int} {k n : Nat} (hk : k ≤ 320) (h : ∀ x ∈ l, x.natAbs < 2 ^ k) (hn : l.length ≤ n) : Gd (encIs l) (n * (k + 1)) :=
  (gd_list (GdA.mp fun x hx => gd_int hk (h x hx))).up (Nat.mul_le_mul_right _ hn)
theorem gd_mo {n : Nat} {m : Mo} (h9 : n ≤ 9) (s : SetOk n m.1) (b : Gw.FrOk m.2) : Gd (encMo m) 750 := by
  have l := set_len s.2.1 s.2.2
  have g1 : Gd (encIs m.1) (9 * (10 + 1)) := gd_is (by decide) (fun x hx => by
    have := s.2.2 x hx
    have e : (2 : Nat) ^ 10 = 1024 := by decide
    omega) (by omega)
  have b1 := b.n0
  have b2 := b.n1
  have b3 := b.d0
  have b4 := b.d1
  have z : (2 : Int) ^ 200 < 2 ^ 300 := by decide +kernel
  have g2 : Gd (encFr m.2) (300 + 1 + (300 + 1 + 0)) := gd_tup (.cons (gd_int (by decide) (pow_nat (Int.le_of_lt b1) b2)) (.cons (gd_int (by decide) (pow_nat (Int.le_of_lt b3) (by omega))) .nil))
  exact (gd_tup (.cons g1 (.cons g2 .nil))).up (by decide)
/-- the law's pair, as data -/
def encOne (pz C : List Int) (M : List Mo) : PyData := .tuple [encIs pz, .tuple [encIs C, .list (M.map encMo)]]
theorem one_ok {n : Nat} {pz C : List Int} {M : List Mo} (h9 : n ≤ 9) (hp : PzOk n pz) (hc : C.length ≤ 60) (cb : ∀ k ∈ C, -1 ≤ k ∧ k < 100) (ch : ChOk n M) :
    (encOne pz C M).showable = true ∧ (encOne pz C M).hasDict = false ∧ (encOne pz C M).depth ≤ 40 ∧ (encOne pz C M).shown.length ≤ sizeLine := by
  have g1 : Gd (encIs pz) (9 * (21 + 1)) := gd_is (by decide) (fun x hx => price_nat (hp.2 x hx).1 (hp.2 x hx).2) (by rw [hp.1]; exact h9)
  have g2 : Gd (encIs C) (60 * (10 + 1)) := gd_is (by decide) (fun x hx => by
    have := cb x hx
    have e : (2 : Nat) ^ 10 = 1024 := by decide
    omega) hc
  have g3 : Gd (.list (M.map encMo)) (40 * (750 + 1)) := (gd_list (GdA.mp fun m hm => gd_mo h9 (ch.mo.set m hm) (ch.mo.fr m hm))).up (Nat.mul_le_mul_right _ ch.mo.len)
  have g : Gd (encOne pz C M) 32000 := (gd_tup (.cons g1 (.cons (gd_tup (.cons g2 (.cons g3 .nil))) .nil))).up (by decide)
  refine ⟨g.ok, g.nd, ?_, ?_⟩
  · have a := dep_is pz
    have b := dep_is C
    have c := dep_all (enc := encMo) dep_mo M
    simp only [encOne, PyData.depth, PyData.depthAll]
    omega
  · have q := PyData.shown_le 101 (by decide) _ g.sh
    have w := g.wt
    have := Nat.mul_le_mul_left (101 + 2) w
    rw [szl]
    omega
end K5

namespace K5
open PySem PySem.Spec PyProof.Rows L2
theorem eqv_ints_is (l : List Int) : (!PyData.eqv (encIs l) (encIs l)) = false := by rw [eqv_is, decide_eq_true rfl]; rfl
section
variable {P : Program} {w : World} {K : PySem.W.Frag} {mg : Str → Option Value} {base : Heap} {CN CG : Addr}
abbrev s_law : Stmt := top 62
theorem sc_law : FnScope ["_law_script", "_law_numbers_here", "_law_size", "_law_edges_here", "_law_root", "_law_prizes_here", "_law_network", "_law_kept", "_law_told", "_law_least", "_law_most", "_law_group", "_law_height", "_law_one", "_law_turn", "_law_before", "_law_answer", "_law_again"] ["_law_script"] (C8.fnScope s_law) := C8.fnScope_by (by decide +kernel)

theorem law_body {f : Addr} (T : Txt K mg CN CG) (c_law_numbers : C8.Cal P w K mg base 1 "_law_numbers" (spNumbers K) []) (c_law_edges : C8.Cal P w K mg base 1 "_law_edges" (spEdgesL K) []) (c_law_prizes : C8.Cal P w K mg base 1 "_law_prizes" (spPrizesL K) []) (k_Network : C8.Mak P w K mg base 2 "Network" CN (spNetInit K CN) [])
    (c_quick_choice : C8.Cal P w K mg base 5 "quick_choice" (spQuick K CN) []) (m_edges : C8.Met P w K mg base 1 CN "edges" (spEdges K CN) []) (c_law_due : C8.Cal P w K mg base 5 "_law_due" (spDue K) []) (c_law_choices : C8.Cal P w K mg base 3 "_law_choices" (spChoices K) [])
    (c_law_sum : C8.Cal P w K mg base 2 "_law_sum" (spLawSum K) []) (c_law_cost : C8.Cal P w K mg base 2 "_law_cost" (spLawCost K) []) (c_check_quick_choice : C8.Cal P w K mg base 6 "check_quick_choice" (spCheckQuick K CN) []) (c_law_changed : C8.Cal P w K mg base 2 "_law_changed" (spChanged K) []) :
    LawBody P w K mg base ["_law_script", "_law_numbers_here", "_law_size", "_law_edges_here", "_law_root", "_law_prizes_here", "_law_network", "_law_kept", "_law_told", "_law_least", "_law_most", "_law_group", "_law_height", "_law_one", "_law_turn", "_law_before", "_law_answer", "_law_again"] "law" s_law f := by
  intro cdv s H a ns Q E hr hs hl q
  have nd := sc_law.nd
  have hg : (callerA.deeper (envOfC "law" (C8.fnScope s_law) s.heap.objs.size f cdv)).guards = some [] := rfl
  refine ⟨_, (pss_cons (ps_set (i := 1) nd rfl (Or.inl rfl) (C8.pe_c c_law_numbers hr (by decide) (by rfl) (pa_cons (pv 0) (pa_cons pe_int pa_nil))))
      (C8.pss_cut (ps_set (i := 2) nd rfl (Or.inl rfl) (pe_op op_add pe_int (pe_op op_mod (pe_callTy call_int1 (by rfl) T.int (by decide +kernel) (pa_cons (pe_ix (ixl K) (pv 1) pe_int (fun _ _ => rfl)) pa_nil)) pe_int)))
      (pss_cons (ps_set (i := 3) nd rfl (Or.inl rfl) (C8.pe_c c_law_edges hr (by decide) (by rfl) (pa_cons (pv 1) (pa_cons pe_int (pa_cons (pv 2) (pa_cons (pe_op op_mod (pe_callTy call_int1 (by rfl) T.int (by decide +kernel) (pa_cons (pe_ix (ixl K) (pv 1) pe_int (fun _ _ => rfl)) pa_nil)) pe_int) pa_nil))))))
      (C8.pss_cut (ps_set (i := 4) nd rfl (Or.inl rfl) (pe_op op_mod (pe_callTy call_int1 (by rfl) T.int (by decide +kernel) (pa_cons (pe_ix (ixl K) (pv 1) pe_int (fun _ _ => rfl)) pa_nil)) (pv 2)))
      (pss_cons (ps_set (i := 5) nd rfl (Or.inl rfl) (C8.pe_c c_law_prizes hr (by decide) (by rfl) (pa_cons (pv 1) (pa_cons pe_int (pa_cons (pv 2) (pa_cons (pv 4) (pa_cons pe_int pa_nil)))))))
      (pss_cons (ps_set (i := 6) nd rfl (Or.inl rfl) (C8.pe_mk k_Network hr (by decide) (by rfl) (pa_cons (pv 2) (pa_cons (pv 3) pa_nil))))
      (pss_cons (ps_set (i := 7) nd rfl (Or.inl rfl) (pe_callTy (listOf K) (by rfl) T.list (by decide +kernel) (pa_cons (pv 5) pa_nil)))
      (pss_cons (ps_set (i := 8) nd rfl (Or.inl rfl) (C8.pe_c c_quick_choice hr (by decide) (by rfl) (pa_cons (pv 6) (pa_cons (pv 4) (pa_cons (pv 5) pa_nil)))))
      (pss_cons (ps_if (PW.pt (pw_or (pt_cmpR (neD K hr.units) (pv 5) (pv 7) (nomark _)) (pw_or (pt_cmpR (neD K hr.units) (C8.pe_mt0 m_edges hr (by decide) (pv 6)) (pv 3) (nomark _)) (pw_or1 (pt_not (pt_val (pe_callB (crIsi K) (by rfl) T.isinstance (by decide +kernel) (pa_cons (pv 8) (pa_cons (pe_bltn (v := .ty "tuple") (by rfl) T.tuple (by decide +kernel) rfl) pa_nil))))))))) (pss_one (ps_ret pe_bl)) pss_nil)
      (pss_cons (ps_if (pt_not (pt_val (C8.pe_c c_law_due hr (by decide) (by rfl) (pa_cons (pv 2) (pa_cons (pv 3) (pa_cons (pv 4) (pa_cons (pv 5) (pa_cons (pe_ix (ixt K) (pv 8) pe_int (fun _ _ => rfl)) (pa_cons (pe_ix (ixt K) (pv 8) pe_int (fun _ _ => rfl)) pa_nil))))))))) (pss_one (ps_ret pe_bl)) pss_nil)
      (C8.pss_cut (ps_if (pt_cmpR op_lt (pe_callB (lenS K) (by rfl) T.len (by decide +kernel) (pa_cons (pv 3) pa_nil)) pe_int (nomark _)) (pss_cons (ps_set (i := 9) nd rfl (Or.inl rfl) (pe_ix (ixt K) (pe_ix (ixl K) (C8.pe_c c_law_choices hr (by decide) (by rfl) (pa_cons (pv 3) (pa_cons (pv 4) (pa_cons (pv 5) pa_nil)))) pe_int (fun _ _ => rfl)) pe_int (fun _ _ => rfl)))
      (pss_cons (ps_set (i := 10) nd rfl (Or.inl rfl) (C8.pe_c c_law_sum hr (by decide) (by rfl) (pa_cons (pe_lc (own := [("_law_group", 11), ("_law_height", 12)]) rfl nd (pi_l K (pe_ix (ixt K) (pv 8) pe_int (fun _ _ => rfl))) (blkOk_by (by kernel_rfl)) (fun _ _ _ _ _ => (pg_t K 2 rfl (pgs_cons (pg_name (i := 11) nd rfl (Or.inl rfl)) (pgs_cons (pg_name (i := 12) nd rfl (Or.inl rfl)) pgs_nil)))) (fun _ _ _ _ _ => pts_nil) (fun _ _ _ _ _ => (pv 12))) pa_nil)))
      (pss_cons (ps_if (pt_cmpR op_gt (pe_ix (ixt K) (pv 10) pe_int (fun _ _ => rfl)) (pe_op op_mulX (pv 9) (pe_ix (ixt K) (pv 10) pe_int (fun _ _ => rfl))) (nomark _)) (pss_one (ps_ret pe_bl)) pss_nil)
      (pss_one (ps_if (PW.pt (pw_and (pt_cmpR op_gt (pv 2) pe_int (nomark _)) (pw_and1 (pt_cmpR op_gt (pe_op op_mul (pe_op op_sub (pv 2) pe_int) (C8.pe_c c_law_cost hr (by decide) (by rfl) (pa_cons (pv 3) (pa_cons (pv 4) (pa_cons (pv 5) (pa_cons (pe_ix (ixt K) (pv 8) pe_int (fun _ _ => rfl)) pa_nil)))))) (pe_op op_mul (pe_op op_sub (pe_op op_mul pe_int (pv 2)) pe_int) (pv 9)) (nomark _))))) (pss_one (ps_ret pe_bl)) pss_nil))))) pss_nil)
      (pss_cons (ps_set (i := 13) nd rfl (Or.inl rfl) (pe_tup (pa_cons (pe_ix (ixt K) (pv 8) pe_int (fun _ _ => rfl)) (pa_cons (pe_ix (ixt K) (pv 8) pe_int (fun _ _ => rfl)) pa_nil))))
      (pss_cons (ps_for PassesOwn.never rfl (pi_range1 (by rfl) T.range (pa_cons pe_int pa_nil)) (pg_name (i := 14) nd rfl (Or.inl rfl)) (pss_cons (ps_set (i := 15) nd rfl (Or.inl rfl) (pe_callB (crRepr K hg hr.units) (by rfl) T.repr (by decide +kernel) (pa_cons (pe_tup (pa_cons (pv 5) (pa_cons (pv 13) pa_nil))) pa_nil)))
      (pss_cons (ps_set (i := 16) nd rfl (Or.inl rfl) (C8.pe_c c_check_quick_choice hr (by decide) (by rfl) (pa_cons (pv 6) (pa_cons (pv 4) (pa_cons (pv 5) (pa_cons (pe_ix (ixt K) (pv 13) pe_int (fun _ _ => rfl)) (pa_cons (pe_ix (ixt K) (pv 13) pe_int (fun _ _ => rfl)) pa_nil)))))))
      (pss_cons (ps_if (PW.pt (pw_or (pt_not (pt_val (pe_callB (crIsi K) (by rfl) T.isinstance (by decide +kernel) (pa_cons (pv 16) (pa_cons (pe_bltn (v := .ty "bool") (by rfl) T.bool (by decide +kernel) rfl) pa_nil))))) (pw_or1 (pt_cmpR op_ne (pv 16) (C8.pe_c c_law_due hr (by decide) (by rfl) (pa_cons (pv 2) (pa_cons (pv 3) (pa_cons (pv 4) (pa_cons (pv 5) (pa_cons (pe_ix (ixt K) (pv 13) pe_int (fun _ _ => rfl)) (pa_cons (pe_ix (ixt K) (pv 13) pe_int (fun _ _ => rfl)) pa_nil))))))) (nomark _))))) (pss_one (ps_ret pe_bl)) pss_nil)
      (pss_cons (ps_if (pt_cmpR op_ne (pe_callB (crRepr K hg hr.units) (by rfl) T.repr (by decide +kernel) (pa_cons (pe_tup (pa_cons (pv 5) (pa_cons (pv 13) pa_nil))) pa_nil)) (pv 15) (nomark _)) (pss_one (ps_ret pe_bl)) pss_nil)
      (pss_one (ps_set (i := 13) nd rfl (Or.inl rfl) (C8.pe_c c_law_changed hr (by decide) (by rfl) (pa_cons (pv 1) (pa_cons (pe_op op_add pe_int (pe_op op_mul pe_int (pv 14))) (pa_cons (pe_callB (lenS K) (by rfl) T.len (by decide +kernel) (pa_cons (pv 3) pa_nil)) (pa_cons (pe_ix (ixt K) (pv 8) pe_int (fun _ _ => rfl)) (pa_cons (pe_ix (ixt K) (pv 8) pe_int (fun _ _ => rfl)) pa_nil)))))))))))))
      (pss_cons (ps_expr (pe_bm PySem.F.plainAttrs_list PySem.F.slot_list_append PySem.F.type_list_append mt_append (pe_ix (ixt K) (pv 8) pe_int (fun _ _ => rfl)) (pa_cons pe_int pa_nil)))
      (pss_cons (ps_expr (pe_bm PySem.F.plainAttrs_list PySem.F.slot_list_append PySem.F.type_list_append mt_append (pe_ix (ixt K) (pv 8) pe_int (fun _ _ => rfl)) (pa_cons (pe_tup (pa_cons (pe_lst (pa_cons pe_int pa_nil)) (pa_cons (pe_tup (pa_cons pe_int (pa_cons pe_int pa_nil))) pa_nil))) pa_nil)))
      (pss_cons (ps_set (i := 17) nd rfl (Or.inl rfl) (C8.pe_c c_quick_choice hr (by decide) (by rfl) (pa_cons (pv 6) (pa_cons (pv 4) (pa_cons (pv 5) pa_nil)))))
      (pss_one (ps_ret (C8.pe_c c_law_due hr (by decide) (by rfl) (pa_cons (pv 2) (pa_cons (pv 3) (pa_cons (pv 4) (pa_cons (pv 5) (pa_cons (pe_ix (ixt K) (pv 17) pe_int (fun _ _ => rfl)) (pa_cons (pe_ix (ixt K) (pv 17) pe_int (fun _ _ => rfl)) pa_nil))))))))))))))))))))))))), ?_⟩
  refine ⟨_, rfl, a, ns, rfl, hs, hl, fun H1 pn l s1 hn nok => ?_⟩
  have a0 := nok.at_ (i := 0) (by decide) (by decide)
  have a1 := nok.at_ (i := 1) (by decide) (by decide)
  have a2 := nok.at_ (i := 2) (by decide) (by decide)
  obtain ⟨n, en, n1, n9⟩ : ∃ n : Nat, 1 + l.getD (0 : Int).toNat 0 % 9 = (n : Int) ∧ 1 ≤ n ∧ n ≤ 9 := by
    have e0 := Int.emod_nonneg (l.getD (0 : Int).toNat 0) (b := 9) (by decide)
    have e1 := Int.emod_lt_of_pos (l.getD (0 : Int).toNat 0) (b := 9) (by decide)
    exact ⟨(1 + l.getD (0 : Int).toNat 0 % 9).toNat, by omega, by omega, by omega⟩
  refine ⟨fun σ' H' => H' = H1 ∧ σ' = [some (.ref a), some (.ref pn), some (.int n), none, none, none, none, none, none, none, none, none, none, none, none, none, none, none], ?_, ?_⟩
  · refine ⟨_, rfl, pn, _, _, _, rfl, rfl, SqL.of hn, a0.1, .inl ⟨_, rfl, _, _, rfl, rfl, (by show (0 : Int) < 9; decide), _, _, rfl, rfl, rfl, ?_⟩⟩
    rw [← en]
    rfl
  rintro σ' H1' ⟨rfl, rfl⟩
  -- edges
  have m0 := Int.emod_nonneg (l.getD (1 : Int).toNat 0) (b := 15) (by decide)
  have m1 := Int.emod_lt_of_pos (l.getD (1 : Int).toNat 0) (b := 15) (by decide)
  refine ⟨_, rfl, _, rfl, _, rfl, pn, _, _, _, rfl, rfl, SqL.of hn, a1.1, .inl ⟨_, rfl, _, _, rfl, rfl, (by show (0 : Int) < 15; decide), pn, l, n, _, rfl, SqL.of hn, nok, ⟨n1, n9⟩, ⟨m0, m1⟩, fun H2 pe xs es s2 _ hpe hps el eo => ?_⟩⟩
  have hn2 := s2 _ _ hn
  have np : (0 : Int) < (n : Int) := by omega
  have r0 := Int.emod_nonneg (l.getD (2 : Int).toNat 0) (b := (n : Int)) (by omega)
  have r1 := Int.emod_lt_of_pos (l.getD (2 : Int).toNat 0) np
  refine ⟨fun σ' H' => H' = H2 ∧ σ' = [some (.ref a), some (.ref pn), some (.int n), some (.ref pe), some (.int (l.getD (2 : Int).toNat 0 % (n : Int))), none, none, none, none, none, none, none, none, none, none, none, none, none], ?_, ?_⟩
  · exact ⟨_, rfl, pn, _, _, _, rfl, rfl, SqL.of hn2, a2.1, .inl ⟨_, rfl, _, rfl, _, _, rfl, rfl, np, rfl, rfl⟩⟩
  rintro σ' H2' ⟨rfl, rfl⟩
  generalize l.getD (2 : Int).toNat 0 % (n : Int) = r at r0 r1 ⊢
  refine ⟨_, rfl, _, rfl, _, rfl, pn, l, n, _, rfl, SqL.of hn2, nok, ⟨n1, n9⟩, fun H3 pp pz s3 _ hpz pok => ?_⟩
  -- the network
  obtain ⟨N, eN1, eN2, eN3, eN4⟩ : ∃ N : Gw.Net, N.n = n ∧ N.es = es ∧ N.root = r ∧ N.pz = pz := ⟨⟨n, es, r, pz⟩, rfl, rfl, rfl, rfl⟩
  subst eN1 eN2 eN3 eN4
  have o : N.Ok := ⟨n1, by omega, ⟨r0, r1⟩, eo, pok.1, pok.2⟩
  have hes3 : IsL K H3 (IsEd K H3) (.ref pe) N.es := ⟨pe, xs, rfl, SqL.of (s3 _ _ hpe), hps.mono fun _ _ z => z.mono (Same.trans (off_sub [pe]) s3)⟩
  refine ⟨_, rfl, _, rfl, fun x dx hx hdx nx => ?_⟩
  have s4 : Same H3 (upd (upd H3 dx (.own x)) x (.ins CN dx [])) := (Same.new hdx).trans (Same.new (by rw [upd_ne nx.symm]; exact hx))
  refine ⟨x, dx, N.n, .ref pe, N.es, rfl, upd_same, hes3.mono s4 (fun _ _ z => z.mono s4), ⟨n1, by omega⟩, by omega, eo, fun H5 keep fresh => ⟨rfl, ?_⟩⟩
  obtain ⟨le, xs5, _, h5a, h5b, h5c⟩ := fresh
  have s5 : Same H3 H5 := fun b u e => keep b u (s4 _ _ e) (ne_of_none e hx)
  have es5 : Paired (IsEd K H5) xs5 N.es := by
    refine Paired.mono (fun v e z => ?_) h5c
    refine (IsEd.offx upd_same z).mono fun b u e => ?_
    have nb : b ∉ [x] := fun m => by rw [off_in m] at e; cases e
    rw [off_out nb] at e
    exact keep b u e fun z => nb (List.mem_singleton.mpr z)
  have hN5 : NetAt K H5 CN N.n N.es (.ref x) := ⟨x, dx, le, xs5, rfl, h5a, h5b, es5⟩
  have hpz5 := s5 _ _ hpz
  refine ⟨_, rfl, pp, _, rfl, .inl (SqL.of hpz5), fun pk hpk => ?_⟩
  have s6 : Same H5 (upd H5 pk (.lst (N.pz.map V.int))) := Same.new hpk
  have hpk6 : (upd H5 pk (.lst (N.pz.map V.int))) pk = some (.lst (N.pz.map V.int)) := upd_same
  generalize upd H5 pk (.lst (N.pz.map V.int)) = H6 at s6 hpk6 ⊢
  have hN6 := hN5.mono s6
  have hu6 : IsIs K H6 (.ref pp) N.pz := ⟨pp, rfl, SqL.of (s6 _ _ hpz5)⟩
  have he6 : IsL K H6 (IsEd K H6) (.ref pe) N.es := hes3.mono (s5.trans s6) fun _ _ z => z.mono (s5.trans s6)
  have hn6 : H6 pn = some (.lst (l.map V.int)) := s6 _ _ (s5 _ _ (s3 _ _ hn2))
  clear hpz5 hN5 es5 h5a h5b h5c keep s5 s6 s4 hes3 hx hdx nx
  refine ⟨_, rfl, _, rfl, _, rfl, N, .ref x, .ref pp, rfl, hN6, o, hu6, by omega, n9, fun H7 p pt pm C mx M s7 hp7 p0 pt0 pm0 hpt hpm hM nptm qk => ?_⟩
  have hk7 : IsIs K H7 (.ref pk) N.pz := ⟨pk, rfl, SqL.of (s7 _ _ hpk6)⟩
  have hu7 := hu6.mono s7
  have hN7 := hN6.mono s7
  have he7 := he6.mono s7 fun _ _ z => z.mono s7
  have hM7 : IsL K H7 (IsMo K H7) (.ref pm) M := ⟨pm, mx, rfl, SqL.of hpm, hM.mono fun _ _ z => z.mono (off_sub _)⟩
  have hC7 : IsIs K H7 (.ref pt) C := ⟨pt, rfl, SqL.of hpt⟩
  have ascC : AscP N.es.length C := qk.due.2.1
  have cl : C.length ≤ 14 := Nat.le_trans (asc_len ascC) el
  -- what is handed in stays
  refine ⟨_, rfl, _, rfl, encIs N.pz, encIs N.pz, hu7.dp, hk7.dp, sh_is _, sh_is _, ?_⟩
  rw [eqv_ints_is]
  refine ⟨_, rfl, iteF ?_⟩
  obtain ⟨px, dx7, le7, xs7, e7, g1, g2, g3⟩ := id hN7
  cases e7
  refine ⟨_, rfl, x, dx7, _, rfl, g1, nf_no _ _ (by decide +kernel) (by decide +kernel), .ref x, N.n, N.es, rfl, hN7, fun q1 xs1 hq1 hp1 => ?_⟩
  have s8 : Same H7 (upd H7 q1 (.lst xs1)) := Same.new hq1
  have hl8 : IsL K (upd H7 q1 (.lst xs1)) (IsEd K (upd H7 q1 (.lst xs1))) (.ref q1) N.es := ⟨q1, xs1, rfl, SqL.of upd_same, hp1.mono fun _ _ z => z.mono s8⟩
  generalize upd H7 q1 (.lst xs1) = H8 at s8 hl8 ⊢
  have he8 := he7.mono s8 fun _ _ z => z.mono s8
  have hp8 := s8 _ _ hp7
  refine ⟨_, rfl, .list (N.es.map encEd), .list (N.es.map encEd), hl8.dp (enc := encEd) (fun _ _ z => z.dp), he8.dp (enc := encEd) (fun _ _ z => z.dp), sh_list lay_ed dep_ed (by decide) _, sh_list lay_ed dep_ed (by decide) _, ?_⟩
  rw [eqv_list eqv_ed, decide_eq_true rfl]
  refine ⟨_, rfl, iteF ?_⟩
  refine ⟨_, rfl, .ref p, .ty "tuple", .type "tuple", .type "tuple", true, rfl, .ty _, .base (.tup hp8), if_pos (by rfl), _, rfl, iteF ?_⟩
  -- it is due
  have hu8 := hu7.mono s8
  have hN8 := hN7.mono s8
  have hM8 : IsL K H8 (IsMo K H8) (.ref pm) M := hM7.mono s8 fun _ _ z => z.mono s8
  have hC8 := hC7.mono s8
  refine ⟨_, rfl, _, rfl, _, rfl, _, rfl, _, rfl, p, _, 0, _, rfl, rfl, SqT.of hp8, atI_nat (j := 0) rfl, _, rfl, p, _, 1, _, rfl, rfl, SqT.of hp8, atI_nat (j := 1) rfl, .ref pe, .ref pp, .ref pt, .ref pm, N, C, M, rfl, he8, o, hu8, hC8, by omega, hM8, qk.mo, by omega, fun H9 s9 => ⟨_, rfl, ?_⟩⟩
  rw [dec_t qk.due]
  refine iteF ?_
  have s79 := s8.trans s9
  have tail9 : ∀ (H' : Hp), Same H7 H' → IsL K H' (IsEd K H') (.ref pe) N.es ∧ IsIs K H' (.ref pp) N.pz ∧ IsIs K H' (.ref pt) C ∧ IsL K H' (IsMo K H') (.ref pm) M ∧ NetAt K H' CN N.n N.es (.ref x) ∧ SqT K H' p [.ref pt, .ref pm] := fun H' sm =>
    ⟨he7.mono sm fun _ _ z => z.mono sm, hu7.mono sm, hC7.mono sm, hM7.mono sm fun _ _ z => z.mono sm, hN7.mono sm, SqT.of (sm _ _ hp7)⟩
  refine ⟨fun σ' H' => Same H7 H' ∧ ∃ o9 o10 o11 o12 o13 o14 o15 o16 o17, σ' = [some (.ref a), some (.ref pn), some (.int N.n), some (.ref pe), some (.int N.root), some (.ref pp), some (.ref x), some (.ref pk), some (.ref p), o9, o10, o11, o12, o13, o14, o15, o16, o17], ?_, ?_⟩
  · obtain ⟨t1, t2, t3, t4, t5, t6⟩ := tail9 H9 s79
    obtain ⟨pe', exs, ee, hle, hpe9⟩ := id t1
    cases ee
    refine ⟨_, rfl, pe, _, rfl, .inl hle, _, _, rfl, rfl, _, rfl, ?_⟩
    rw [hpe9.length]
    by_cases h9 : (N.es.length : Int) < 9
    · refine ifd h9 ⟨_, rfl, _, rfl, _, rfl, .ref pe, .ref pp, N, rfl, t1, o, t2, by omega, fun H10 q2 x2 xs2 b s10 hq2 hlab b1 b2 b3 b4 b5 => ?_⟩
      obtain ⟨lt, lc, le2, lq, lr⟩ := hlab
      refine ⟨q2, _, _, _, rfl, rfl, SqL.of hq2, atI_nat (j := 0) rfl, lt, _, 0, _, le2, rfl, lq, atI_nat (j := 0) rfl, ?_⟩
      have s7A := s79.trans s10
      obtain ⟨u1, u2, u3, u4, u5, u6⟩ := tail9 H10 s7A
      obtain ⟨pm', mxs, em, hms, hmp⟩ := id u4
      cases em
      obtain ⟨L, rfl, eM, hL⟩ := mos_rec hmp
      have lz : L.length ≤ 40 := by have := qk.mo.len; rw [eM, List.length_map] at this; exact this
      have fok : FrsOk (M.map (·.2)) := ⟨by rw [List.length_map]; exact qk.mo.len, fun y hy => by
        obtain ⟨m, hm, rfl⟩ := List.mem_map.mp hy
        exact qk.mo.fr m hm⟩
      refine ⟨_, rfl, p, _, 1, _, rfl, rfl, u6, atI_nat (j := 1) rfl, pm, rfl, ⟨_, hms⟩, fun D hD => ?_⟩
      refine lc_map L (fun r => V.ref r.a) (fun r => r.h) hD hms (by rw [szl]; omega) (fun y hy H2 s2 Qt ht => ?_) (fun H11 s11 hD11 => ?_)
      · exact ⟨y.a, _, rfl, SqT.mono s2 (hL y hy).1, rfl, _, _, rfl, _, _, rfl, rfl, rfl, _, rfl, ht _ (Same.refl _)⟩
      have fr := mos_frs_all fun r hr => (hL r hr).mono s11
      rw [← eM] at fr
      refine ⟨_, M.map (·.2), rfl, ⟨D, _, rfl, SqL.of hD11, fr⟩, fok, fun H12 pf s12 hpf => ?_⟩
      have s7C := (s7A.trans s11).trans s12
      obtain ⟨c1, c2, c3, c4⟩ := fsum_small fok.ok (by have := fok.len; omega)
      obtain ⟨d0, d1⟩ := cost_bd o b5 (by omega)
      obtain ⟨k1, k2⟩ := qk.least b.2.2 b2
      rw [← b1] at k1 k2 d0 d1
      refine ⟨_, rfl, pf, _, 0, _, rfl, rfl, SqT.of hpf, atI_nat (j := 0) rfl, _, rfl, _, rfl, pf, _, 1, _, rfl, rfl, SqT.of hpf, atI_nat (j := 1) rfl, _, _, rfl, rfl, mulx_ok (pow_nat d0 d1) (pow_nat (Int.le_of_lt c3) c4) (by decide), _, _, rfl, rfl, _, rfl, ifnd (by omega) ?_⟩
      refine ⟨_, rfl, _, _, rfl, rfl, _, rfl, ?_⟩
      by_cases h1 : (1 : Int) < (N.n : Int)
      · obtain ⟨w1, w2, w3, w4, w5, w6⟩ := tail9 H12 s7C
        have k3 := k2 (by omega)
        obtain ⟨f0, f1⟩ := cost_bd o ascC (by omega)
        have e40 : (2 : Int) ^ 40 = 1099511627776 := by decide
        have e64 : (2 : Int) ^ 64 = 18446744073709551616 := by decide
        refine ifd h1 ⟨_, rfl, _, _, rfl, rfl, _, rfl, _, rfl, _, rfl, _, rfl, p, _, 0, _, rfl, rfl, w6, atI_nat (j := 0) rfl, .ref pe, .ref pp, .ref pt, N, C, rfl, w1, o, w2, w3, isE_of ascC, by omega, fun H13 s13 => ?_⟩
        refine ⟨_, _, rfl, rfl, .inl ⟨by omega, by omega⟩, _, rfl, _, _, rfl, rfl, .inl ⟨by decide, by decide⟩, _, _, rfl, rfl, _, rfl, _, _, rfl, rfl, .inl ⟨by omega, by omega⟩, _, _, rfl, rfl, _, rfl, ifnd (by omega) ?_⟩
        exact ⟨s7C.trans s13, _, _, _, _, _, _, _, _, _, rfl⟩
      · exact ifnd h1 ⟨s7C, _, _, _, _, _, _, _, _, _, rfl⟩
    · exact ifnd h9 ⟨s79, _, _, _, _, _, _, _, _, _, rfl⟩
  rintro σ' H10 ⟨s10, o9, o10, o11, o12, o13, o14, o15, o16, o17, rfl⟩
  obtain ⟨_, _, _, _, _, v6⟩ := tail9 H10 s10
  refine ⟨_, rfl, p, _, 0, _, rfl, rfl, v6, atI_nat (j := 0) rfl, _, rfl, p, _, 1, _, rfl, rfl, v6, atI_nat (j := 1) rfl, by show 2 ≤ sizeLine; rw [szl]; decide, fun po hpo => ?_⟩
  have ch0 : ChOk N.n M := ⟨qk.mo, fun m hm => by
    have := qk.bd m hm
    have z1 : (2 : Int) ^ 18 ≤ 2 ^ 200 := by decide +kernel
    have z2 : (2 : Int) ^ 250 < 2 ^ 300 := by decide +kernel
    omega⟩
  have cb0 : ∀ k ∈ C, -1 ≤ k ∧ k < 100 := fun k hk => by have := ascC.mem k hk; omega
  refine ⟨_, rfl, by decide, by decide, ?_⟩
  refine for_rng (n := 7) (fun i σ H' => Same H7 H' ∧ ∃ (po : Addr) (c mv : V) (C' : List Int) (M' : List Mo) (o9 o10 o11 o12 o14 o15 o16 o17 : Option V), σ = [some (.ref a), some (.ref pn), some (.int N.n), some (.ref pe), some (.int N.root), some (.ref pp), some (.ref x), some (.ref pk), some (.ref p), o9, o10, o11, o12, some (.ref po), o14, o15, o16, o17] ∧
    H' po = some (.tup [c, mv]) ∧ IsIs K H' c C' ∧ IsL K H' (IsMo K H') mv M' ∧ C'.length ≤ 60 ∧ (∀ k ∈ C', -1 ≤ k ∧ k < 100) ∧ ChOk N.n M') ?_ ?_ ?_
  · have s11 := s10.trans (Same.new hpo (o := .tup [.ref pt, .ref pm]))
    obtain ⟨t1, t2, t3, t4, t5, t6⟩ := tail9 _ s11
    exact ⟨s11, po, _, _, C, M, _, _, _, _, _, _, _, _, rfl, upd_same, t3, t4, by omega, cb0, ch0⟩
  · rintro i σ H11 hi ⟨s11, po, c, mv, C', M', o9, o10, o11, o12, o14, o15, o16, o17, rfl, hpo, hc, hm, cl', cb', ch'⟩
    obtain ⟨k1, k2, k3, k4⟩ := one_ok (pz := N.pz) n9 ⟨o.plen, o.pnn⟩ cl' cb' ch'
    have dat : ∀ {H' : Hp} {t : Addr}, Same H11 H' → H' t = some (.tup [.ref pp, .ref po]) → Dp K H' (.ref t) (encOne N.pz C' M') := fun {H' t} sm ht =>
      .tup (SqT.of ht) (.cons (tail9 _ (s11.trans sm)).2.1.dp (.cons (.tup (SqT.of (sm _ _ hpo)) (.cons (hc.mono sm).dp (.cons (IsL.dp (enc := encMo) (fun _ _ z => z.dp) (hm.mono sm fun _ _ z => z.mono sm)) .nil))) .nil))
    refine ⟨_, rfl, _, rfl, by show 2 ≤ sizeLine; rw [szl]; decide, fun t ht => ?_⟩
    have s12 : Same H11 (upd H11 t (.tup [.ref pp, .ref po])) := Same.new ht
    refine ⟨t, encOne N.pz C' M', rfl, dat s12 upd_same, k1, k2, k3, k4, ?_⟩
    generalize upd H11 t (.tup [.ref pp, .ref po]) = H12 at s12 ⊢
    obtain ⟨t1, t2, t3, t4, t5, t6⟩ := tail9 H12 (s11.trans s12)
    have hpo12 := SqT.of (K := K) (s12 _ _ hpo)
    refine ⟨_, rfl, _, rfl, _, rfl, _, rfl, po, _, 0, _, rfl, rfl, hpo12, atI_nat (j := 0) rfl, _, rfl, po, _, 1, _, rfl, rfl, hpo12, atI_nat (j := 1) rfl, .ref x, .ref pp, c, mv, N, C', M', rfl, t5, o, t2, hc.mono s12, by omega, hm.mono s12 (fun _ _ z => z.mono s12), ch'.mo, by omega, fun H13 s13 => ?_⟩
    have s113 := s12.trans s13
    obtain ⟨u1, u2, u3, u4, u5, u6⟩ := tail9 H13 (s11.trans s113)
    have hpo13 := SqT.of (K := K) (s113 _ _ hpo)
    refine ⟨_, rfl, .bl _, .ty "bool", .type "bool", .type "bool", true, rfl, .ty _, .base (.bl _), if_pos (by rfl), _, rfl, iteF ?_⟩
    refine ⟨_, rfl, _, rfl, _, rfl, _, rfl, _, rfl, _, rfl, po, _, 0, _, rfl, rfl, hpo13, atI_nat (j := 0) rfl, _, rfl, po, _, 1, _, rfl, rfl, hpo13, atI_nat (j := 1) rfl, .ref pe, .ref pp, c, mv, N, C', M', rfl, u1, o, u2, hc.mono s113, by omega, hm.mono s113 (fun _ _ z => z.mono s113), ch'.mo, by omega, fun H14 s14 => ?_⟩
    refine ⟨rfl, _, rfl, ifnt rfl ?_⟩
    have s114 := s113.trans s14
    refine ⟨_, rfl, _, rfl, by show 2 ≤ sizeLine; rw [szl]; decide, fun t' ht' => ?_⟩
    have s15 := s114.trans (Same.new ht' (o := .tup [.ref pp, .ref po]))
    refine ⟨t', encOne N.pz C' M', rfl, dat s15 upd_same, k1, k2, k3, k4, _, rfl, rfl, _, rfl, ifnt rfl ?_⟩
    generalize upd H14 t' (.tup [.ref pp, .ref po]) = H15 at s15 ⊢
    have s715 := s11.trans s15
    obtain ⟨w1, w2, w3, w4, w5, w6⟩ := tail9 H15 s715
    obtain ⟨pe', exs, ee, hle, hpe9⟩ := id w1
    cases ee
    have exl := hpe9.length
    have ml := qk.len
    refine ⟨_, rfl, _, rfl, _, _, rfl, rfl, .inl ⟨by decide, by decide⟩, _, _, rfl, rfl, _, rfl, pe, _, rfl, .inl hle, _, rfl, p, _, 0, _, rfl, rfl, w6, atI_nat (j := 0) rfl, _, rfl, p, _, 1, _, rfl, rfl, w6, atI_nat (j := 1) rfl,
      pn, pt, pm, l, _, N.n, _, C, mx, M, rfl, ?_, nok, ⟨?_, ?_⟩, by omega, s715 _ _ hpt, by omega, cb0, s715 _ _ hpm, (hM.mono fun _ _ z => z.mono (Same.trans (off_sub _) s715)), qk.mo, by omega, qk.bd, fun H16 q2 c2 mv2 C2 M2 s16 hq2 hc2 hm2 cl2 cb2 ch2 => ?_⟩
    · exact SqL.of (s715 _ _ (s7 _ _ hn6))
    · show (0 : Int) ≤ 60 + 4 * (i : Int); omega
    · show 60 + 4 * (i : Int) ≤ 88; omega
    · exact ⟨s715.trans s16, q2, c2, mv2, C2, M2, _, _, _, _, _, _, _, _, rfl, hq2, hc2, hm2, cl2, cb2, ch2⟩
  · rintro σ H11 ⟨s11, po, c, mv, C', M', o9, o10, o11, o12, o14, o15, o16, o17, rfl, hpo, hc, hm, cl', cb', ch'⟩
    clear hpo hc hm cl' cb' ch'
    obtain ⟨t1, t2, t3, t4, t5, t6⟩ := tail9 H11 s11
    have hpt11 := s11 _ _ hpt
    have hpm11 := s11 _ _ hpm
    have s611 := s7.trans s11
    have mxl : mx.length ≤ 40 := by rw [hM.length]; exact qk.mo.len
    refine ⟨_, rfl, p, _, 0, _, rfl, rfl, t6, atI_nat (j := 0) rfl, .inl ⟨rfl, _, SqL.of hpt11⟩, pt, _, _, rfl, rfl, hpt11, by rw [List.length_map, szl]; omega, ?_⟩
    have s612 := Same.put s611 pt0 (o := .lst (C.map V.int ++ [V.int 0]))
    have ptp : p ≠ pt := ne_of (s11 _ _ hp7) hpt11 (by intro z; cases z)
    have hp12 : (upd H11 pt (.lst (C.map V.int ++ [V.int 0]))) p = some (.tup [.ref pt, .ref pm]) := by rw [upd_ne ptp]; exact s11 _ _ hp7
    have hpm12 : (upd H11 pt (.lst (C.map V.int ++ [V.int 0]))) pm = some (.lst mx) := by rw [upd_ne nptm.symm]; exact hpm11
    generalize upd H11 pt (.lst (C.map V.int ++ [V.int 0])) = H12 at s612 hp12 hpm12 ⊢
    refine ⟨_, rfl, p, _, 1, _, rfl, rfl, SqT.of hp12, atI_nat (j := 1) rfl, .inl ⟨rfl, _, SqL.of hpm12⟩, by show 1 ≤ sizeLine; rw [szl]; decide, fun pl hpl => ⟨by show 2 ≤ sizeLine; rw [szl]; decide, fun pf hpf => ⟨by show 2 ≤ sizeLine; rw [szl]; decide, fun pw hpw => ?_⟩⟩⟩
    have sB := ((Same.new hpl (o := .lst [V.int 0])).trans (Same.new hpf (o := .tup [.int 1, .int 1]))).trans (Same.new hpw (o := .tup [.ref pl, .ref pf]))
    refine ⟨pm, _, _, rfl, rfl, sB _ _ hpm12, by rw [szl]; omega, ?_⟩
    have s613 := Same.put (s612.trans sB) pm0 (o := .lst (mx ++ [.ref pw]))
    generalize upd (upd (upd (upd H12 pl (.lst [V.int 0])) pf (.tup [.int 1, .int 1])) pw (.tup [.ref pl, .ref pf])) pm (.lst (mx ++ [.ref pw])) = H13 at s613 ⊢
    refine ⟨_, rfl, _, rfl, _, rfl, N, .ref x, .ref pp, rfl, hN6.mono s613, o, hu6.mono s613, by omega, n9, fun H14 p' pt' pm' C2 mx2 M2 s14 hp14 _ _ _ hpt14 hpm14 hM14 _ qk2 => ?_⟩
    have s614 := s613.trans s14
    have asc2 : AscP N.es.length C2 := qk2.due.2.1
    have cl2 : C2.length ≤ 14 := Nat.le_trans (asc_len asc2) el
    refine ⟨_, rfl, _, rfl, _, rfl, _, rfl, _, rfl, p', _, 0, _, rfl, rfl, SqT.of hp14, atI_nat (j := 0) rfl, _, rfl, p', _, 1, _, rfl, rfl, SqT.of hp14, atI_nat (j := 1) rfl, .ref pe, .ref pp, .ref pt', .ref pm', N, C2, M2, rfl, he6.mono s614 (fun _ _ z => z.mono s614), o, hu6.mono s614, ⟨pt', rfl, SqL.of hpt14⟩, by omega,
      ⟨pm', mx2, rfl, SqL.of hpm14, hM14.mono fun _ _ z => z.mono (off_sub _)⟩, qk2.mo, by omega, fun H15 s15 => ?_⟩
    rw [dec_t qk2.due]
    exact q H15
end
end K5

namespace K5
open PySem PySem.Spec PyProof.Rows L2
/-- how a def takes its arguments: all of them, by their places -/
def HB (x qual : Str) (st : Stmt) (ps : List Str) : Prop := ∀ (kV doc pm : Value) (an : Option Addr) (cdv ct : Value) (us : List Value), us.length = ps.length →
  bindArgs (PySem.W.fnOf x qual (C8.fnArgs st) (C8.fnBody st) (C8.fnScope st) .none kV doc pm an cdv ct) ⟨us, []⟩ = pure (ps.zip us)
section
variable {K : PySem.W.Frag} {mg : Str → Option Value} {h : Heap} {x qual : Str} {st : Stmt} {ps : List Str} {f C : Addr} {oc kV dc pm cd ct : Value} {od an : Option Addr} {sl : Array (Option Value)}
theorem def_mk (b : HB x x st ps) (X : K.In h) (G : h.Ns mainGlobals mg) (a : PySem.W.nsIn K mainGlobals x = some (some (.ref f))) (l : K.lookup f = some ⟨oc, od, .func (PySem.W.fnOf x x (C8.fnArgs st) (C8.fnBody st) (C8.fnScope st) .none kV dc pm an cd ct), sl⟩)
    (c : PySem.W.codeIn K cd x = true) (k : PySem.W.keepIn K (.ref f) = true) : DefAt K mg x st ps :=
  have F : C8.Fun K x x st f _ := ⟨_, _, .none, _, _, _, _, _, _, _, rfl, l, c⟩
  ⟨f, _, ⟨F, PySem.W.mg_of X G a, k⟩, F.binds rfl b⟩
theorem met_mk (b : HB x qual st ps) (a : PySem.W.findIn K (.ref C) x = some (some (.ref f))) (i : PySem.W.isFn K (.ref f) = true) (l : K.lookup f = some ⟨oc, od, .func (PySem.W.fnOf x qual (C8.fnArgs st) (C8.fnBody st) (C8.fnScope st) .none kV dc pm an cd ct), sl⟩)
    (c : PySem.W.codeIn K cd qual = true) (k : PySem.W.keepIn K (.ref f) = true) : MetAt K C x qual st ps :=
  have F : C8.Fun K x qual st f _ := ⟨_, _, .none, _, _, _, _, _, _, _, rfl, l, c⟩
  ⟨f, _, F, F.binds rfl b, ⟨a, i, k⟩⟩
theorem mak_mk {y : Str} (b : HB "__init__" qual st ps) (X : K.In h) (G : h.Ns mainGlobals mg) (g : PySem.W.nsIn K mainGlobals y = some (some (.ref C))) (mk : PySem.W.makesIn K C = true) (kc : PySem.W.keepIn K (.ref C) = true) (a : PySem.W.findIn K (.ref C) "__init__" = some (some (.ref f)))
    (l : K.lookup f = some ⟨oc, od, .func (PySem.W.fnOf "__init__" qual (C8.fnArgs st) (C8.fnBody st) (C8.fnScope st) .none kV dc pm an cd ct), sl⟩) (c : PySem.W.codeIn K cd qual = true) (i : PySem.W.isFn K (.ref f) = true) : ∃ fI, Mk K C fI ∧ mg y = some (.ref C) ∧ ∃ fd, C8.Fun K "__init__" qual st fI fd ∧ Binds K fd ps [] :=
  have F : C8.Fun K "__init__" qual st f _ := ⟨_, _, .none, _, _, _, _, _, _, _, rfl, l, c⟩
  ⟨f, ⟨mk, a, i, kc⟩, PySem.W.mg_of X G g, _, F, F.binds rfl b⟩
theorem cls_mk (pg : PySem.W.plainGet K C Str.empty = true) (hd : PySem.W.hasDictIn K C = true) (po : PySem.W.plainOver K C = true) (sa : PySem.W.findIn K (.ref C) "__setattr__" = some (some (.builtin "object.__setattr__"))) : Cls K C := ⟨pg, hd, po, sa⟩
end
theorem hb_c_common_divisor : HB "common_divisor" "common_divisor" s_common_divisor ["a", "b"] := fun _ _ _ _ _ _ us hl => match us, hl with | [_, _], _ => rfl
theorem hb_c_lowest : HB "lowest" "lowest" s_lowest ["numerator", "denominator"] := fun _ _ _ _ _ _ us hl => match us, hl with | [_, _], _ => rfl
theorem hb_c_is_fraction : HB "is_fraction" "is_fraction" s_is_fraction ["value"] := fun _ _ _ _ _ _ us hl => match us, hl with | [_], _ => rfl
theorem hb_c_sum_of : HB "sum_of" "sum_of" s_sum_of ["fractions"] := fun _ _ _ _ _ _ us hl => match us, hl with | [_], _ => rfl
theorem hb_c_at_most : HB "at_most" "at_most" s_at_most ["fraction", "number"] := fun _ _ _ _ _ _ us hl => match us, hl with | [_, _], _ => rfl
theorem hb_c_check_edge : HB "check_edge" "check_edge" s_check_edge ["size", "edge", "number"] := fun _ _ _ _ _ _ us hl => match us, hl with | [_, _, _], _ => rfl
theorem hb_m_size : HB "size" "Network.size" s_Network_size ["self"] := fun _ _ _ _ _ _ us hl => match us, hl with | [_], _ => rfl
theorem hb_m_edges : HB "edges" "Network.edges" s_Network_edges ["self"] := fun _ _ _ _ _ _ us hl => match us, hl with | [_], _ => rfl
theorem hb_m_check_vertex : HB "check_vertex" "Network.check_vertex" s_Network_check_vertex ["self", "vertex"] := fun _ _ _ _ _ _ us hl => match us, hl with | [_, _], _ => rfl
theorem hb_k_Network : HB "__init__" "Network.__init__" s_Network___init__ ["self", "size", "edges"] := fun _ _ _ _ _ _ us hl => match us, hl with | [_, _, _], _ => rfl
theorem hb_c_is_ascending : HB "is_ascending" "is_ascending" s_is_ascending ["network", "numbers"] := fun _ _ _ _ _ _ us hl => match us, hl with | [_, _], _ => rfl
theorem hb_c_price_of : HB "price_of" "price_of" s_price_of ["network", "numbers"] := fun _ _ _ _ _ _ us hl => match us, hl with | [_, _], _ => rfl
theorem hb_c_check_prizes : HB "check_prizes" "check_prizes" s_check_prizes ["network", "root", "prizes"] := fun _ _ _ _ _ _ us hl => match us, hl with | [_, _, _], _ => rfl
theorem hb_c_check_choice_list : HB "check_choice_list" "check_choice_list" s_check_choice_list ["network", "choice"] := fun _ _ _ _ _ _ us hl => match us, hl with | [_, _], _ => rfl
theorem hb_c_reached : HB "reached" "reached" s_reached ["network", "numbers", "start", "arcs"] := fun _ _ _ _ _ _ us hl => match us, hl with | [_, _, _, _], _ => rfl
theorem hb_c_cost : HB "cost" "cost" s_cost ["network", "root", "prizes", "choice"] := fun _ _ _ _ _ _ us hl => match us, hl with | [_, _, _, _], _ => rfl
theorem hb_c_is_part : HB "is_part" "is_part" s_is_part ["one", "two"] := fun _ _ _ _ _ _ us hl => match us, hl with | [_, _], _ => rfl
theorem hb_c_total : HB "total" "total" s_total ["moats"] := fun _ _ _ _ _ _ us hl => match us, hl with | [_], _ => rfl
theorem hb_c_are_sets : HB "are_sets" "are_sets" s_are_sets ["network", "moats"] := fun _ _ _ _ _ _ us hl => match us, hl with | [_, _], _ => rfl
theorem hb_c_are_paid : HB "are_paid" "are_paid" s_are_paid ["network", "moats"] := fun _ _ _ _ _ _ us hl => match us, hl with | [_, _], _ => rfl
theorem hb_c_are_nested : HB "are_nested" "are_nested" s_are_nested ["moats"] := fun _ _ _ _ _ _ us hl => match us, hl with | [_], _ => rfl
theorem hb_c_are_good_for_prizes : HB "are_good_for_prizes" "are_good_for_prizes" s_are_good_for_prizes ["network", "root", "prizes", "moats"] := fun _ _ _ _ _ _ us hl => match us, hl with | [_, _, _, _], _ => rfl
theorem hb_c_check_quick_choice : HB "check_quick_choice" "check_quick_choice" s_check_quick_choice ["network", "root", "prizes", "choice", "moats"] := fun _ _ _ _ _ _ us hl => match us, hl with | [_, _, _, _, _], _ => rfl
theorem hb_c_law_plus : HB "_law_plus" "_law_plus" s_law_plus ["_law_one", "_law_two"] := fun _ _ _ _ _ _ us hl => match us, hl with | [_, _], _ => rfl
theorem hb_c_law_sum : HB "_law_sum" "_law_sum" s_law_sum ["_law_heights"] := fun _ _ _ _ _ _ us hl => match us, hl with | [_], _ => rfl
theorem hb_c_law_lowest : HB "_law_lowest" "_law_lowest" s_law_lowest ["_law_height"] := fun _ _ _ _ _ _ us hl => match us, hl with | [_], _ => rfl
theorem hb_c_law_is_height : HB "_law_is_height" "_law_is_height" s_law_is_height ["_law_height"] := fun _ _ _ _ _ _ us hl => match us, hl with | [_], _ => rfl
theorem hb_c_law_are_sets : HB "_law_are_sets" "_law_are_sets" s_law_are_sets ["_law_size", "_law_moats"] := fun _ _ _ _ _ _ us hl => match us, hl with | [_, _], _ => rfl
theorem hb_c_law_are_paid : HB "_law_are_paid" "_law_are_paid" s_law_are_paid ["_law_edges_here", "_law_moats"] := fun _ _ _ _ _ _ us hl => match us, hl with | [_, _], _ => rfl
theorem hb_c_law_reach : HB "_law_reach" "_law_reach" s_law_reach ["_law_edges_here", "_law_chosen", "_law_start", "_law_arcs"] := fun _ _ _ _ _ _ us hl => match us, hl with | [_, _, _, _], _ => rfl
theorem hb_c_law_good : HB "_law_good" "_law_good" s_law_good ["_law_size", "_law_edges_here", "_law_root", "_law_prizes_here", "_law_moats"] := fun _ _ _ _ _ _ us hl => match us, hl with | [_, _, _, _, _], _ => rfl
theorem hb_c_law_cost : HB "_law_cost" "_law_cost" s_law_cost ["_law_edges_here", "_law_root", "_law_prizes_here", "_law_chosen"] := fun _ _ _ _ _ _ us hl => match us, hl with | [_, _, _, _], _ => rfl
theorem hb_c_law_due : HB "_law_due" "_law_due" s_law_due ["_law_size", "_law_edges_here", "_law_root", "_law_prizes_here", "_law_chosen", "_law_moats"] := fun _ _ _ _ _ _ us hl => match us, hl with | [_, _, _, _, _, _], _ => rfl
theorem hb_m_group_of : HB "group_of" "Growth.group_of" s_Growth_group_of ["self", "vertex"] := fun _ _ _ _ _ _ us hl => match us, hl with | [_, _], _ => rfl
theorem hb_c_is_active : HB "is_active" "is_active" s_is_active ["group", "root", "stopped"] := fun _ _ _ _ _ _ us hl => match us, hl with | [_, _, _], _ => rfl
theorem hb_k_Growth : HB "__init__" "Growth.__init__" s_Growth___init__ ["self", "network"] := fun _ _ _ _ _ _ us hl => match us, hl with | [_, _], _ => rfl
theorem hb_c_room_of : HB "room_of" "room_of" s_room_of ["growth", "group", "prizes"] := fun _ _ _ _ _ _ us hl => match us, hl with | [_, _, _], _ => rfl
theorem hb_m_next_edge : HB "next_edge" "Growth.next_edge" s_Growth_next_edge ["self", "active"] := fun _ _ _ _ _ _ us hl => match us, hl with | [_, _], _ => rfl
theorem hb_m_grow : HB "grow" "Growth.grow" s_Growth_grow ["self", "active", "time"] := fun _ _ _ _ _ _ us hl => match us, hl with | [_, _, _], _ => rfl
theorem hb_m_join : HB "join" "Growth.join" s_Growth_join ["self", "number"] := fun _ _ _ _ _ _ us hl => match us, hl with | [_, _], _ => rfl
theorem hb_m_moats : HB "moats" "Growth.moats" s_Growth_moats ["self"] := fun _ _ _ _ _ _ us hl => match us, hl with | [_], _ => rfl
theorem hb_c_grown : HB "grown" "grown" s_grown ["network", "root", "prizes"] := fun _ _ _ _ _ _ us hl => match us, hl with | [_, _, _], _ => rfl
theorem hb_c_hanging : HB "hanging" "hanging" s_hanging ["network", "tree", "group"] := fun _ _ _ _ _ _ us hl => match us, hl with | [_, _, _], _ => rfl
theorem hb_c_quick_choice : HB "quick_choice" "quick_choice" s_quick_choice ["network", "root", "prizes"] := fun _ _ _ _ _ _ us hl => match us, hl with | [_, _, _], _ => rfl
theorem hb_c_law_numbers : HB "_law_numbers" "_law_numbers" s_law_numbers ["_law_script", "_law_many"] := fun _ _ _ _ _ _ us hl => match us, hl with | [_, _], _ => rfl
theorem hb_c_law_edges : HB "_law_edges" "_law_edges" s_law_edges ["_law_numbers_here", "_law_at", "_law_size", "_law_many"] := fun _ _ _ _ _ _ us hl => match us, hl with | [_, _, _, _], _ => rfl
theorem hb_c_law_prizes : HB "_law_prizes" "_law_prizes" s_law_prizes ["_law_numbers_here", "_law_at", "_law_size", "_law_root", "_law_most"] := fun _ _ _ _ _ _ us hl => match us, hl with | [_, _, _, _, _], _ => rfl
theorem hb_c_law_choices : HB "_law_choices" "_law_choices" s_law_choices ["_law_edges_here", "_law_root", "_law_prizes_here"] := fun _ _ _ _ _ _ us hl => match us, hl with | [_, _, _], _ => rfl
theorem hb_c_law_changed : HB "_law_changed" "_law_changed" s_law_changed ["_law_numbers_here", "_law_at", "_law_many", "_law_chosen", "_law_moats"] := fun _ _ _ _ _ _ us hl => match us, hl with | [_, _, _, _, _], _ => rfl
theorem hb_law : HB "law" "law" s_law ["_law_script"] := fun _ _ _ _ _ _ us hl => match us, hl with | [_], _ => rfl
theorem law_all {P : Program} {w : World} {K : PySem.W.Frag} {mg : Str → Option Value} {base : Heap} {CN CG f : Addr} (T : Txt K mg CN CG) (F_c_common_divisor : DefAt K mg "common_divisor" s_common_divisor ["a", "b"]) (F_c_lowest : DefAt K mg "lowest" s_lowest ["numerator", "denominator"]) (F_c_is_fraction : DefAt K mg "is_fraction" s_is_fraction ["value"]) (F_c_sum_of : DefAt K mg "sum_of" s_sum_of ["fractions"]) (F_c_at_most : DefAt K mg "at_most" s_at_most ["fraction", "number"]) (F_c_check_edge : DefAt K mg "check_edge" s_check_edge ["size", "edge", "number"]) (F_m_size : MetAt K CN "size" "Network.size" s_Network_size ["self"]) (F_m_edges : MetAt K CN "edges" "Network.edges" s_Network_edges ["self"]) (F_m_check_vertex : MetAt K CN "check_vertex" "Network.check_vertex" s_Network_check_vertex ["self", "vertex"]) (F_k_Network : ∃ fI, Mk K CN fI ∧ mg "Network" = some (.ref CN) ∧ ∃ fd, C8.Fun K "__init__" "Network.__init__" s_Network___init__ fI fd ∧ Binds K fd ["self", "size", "edges"] []) (F_c_is_ascending : DefAt K mg "is_ascending" s_is_ascending ["network", "numbers"]) (F_c_price_of : DefAt K mg "price_of" s_price_of ["network", "numbers"]) (F_c_check_prizes : DefAt K mg "check_prizes" s_check_prizes ["network", "root", "prizes"]) (F_c_check_choice_list : DefAt K mg "check_choice_list" s_check_choice_list ["network", "choice"]) (F_c_reached : DefAt K mg "reached" s_reached ["network", "numbers", "start", "arcs"]) (F_c_cost : DefAt K mg "cost" s_cost ["network", "root", "prizes", "choice"]) (F_c_is_part : DefAt K mg "is_part" s_is_part ["one", "two"]) (F_c_total : DefAt K mg "total" s_total ["moats"]) (F_c_are_sets : DefAt K mg "are_sets" s_are_sets ["network", "moats"]) (F_c_are_paid : DefAt K mg "are_paid" s_are_paid ["network", "moats"]) (F_c_are_nested : DefAt K mg "are_nested" s_are_nested ["moats"]) (F_c_are_good_for_prizes : DefAt K mg "are_good_for_prizes" s_are_good_for_prizes ["network", "root", "prizes", "moats"]) (F_c_check_quick_choice : DefAt K mg "check_quick_choice" s_check_quick_choice ["network", "root", "prizes", "choice", "moats"]) (F_c_law_plus : DefAt K mg "_law_plus" s_law_plus ["_law_one", "_law_two"]) (F_c_law_sum : DefAt K mg "_law_sum" s_law_sum ["_law_heights"]) (F_c_law_lowest : DefAt K mg "_law_lowest" s_law_lowest ["_law_height"]) (F_c_law_is_height : DefAt K mg "_law_is_height" s_law_is_height ["_law_height"]) (F_c_law_are_sets : DefAt K mg "_law_are_sets" s_law_are_sets ["_law_size", "_law_moats"]) (F_c_law_are_paid : DefAt K mg "_law_are_paid" s_law_are_paid ["_law_edges_here", "_law_moats"]) (F_c_law_reach : DefAt K mg "_law_reach" s_law_reach ["_law_edges_here", "_law_chosen", "_law_start", "_law_arcs"]) (F_c_law_good : DefAt K mg "_law_good" s_law_good ["_law_size", "_law_edges_here", "_law_root", "_law_prizes_here", "_law_moats"]) (F_c_law_cost : DefAt K mg "_law_cost" s_law_cost ["_law_edges_here", "_law_root", "_law_prizes_here", "_law_chosen"]) (F_c_law_due : DefAt K mg "_law_due" s_law_due ["_law_size", "_law_edges_here", "_law_root", "_law_prizes_here", "_law_chosen", "_law_moats"]) (F_m_group_of : MetAt K CG "group_of" "Growth.group_of" s_Growth_group_of ["self", "vertex"]) (F_c_is_active : DefAt K mg "is_active" s_is_active ["group", "root", "stopped"]) (F_k_Growth : ∃ fI, Mk K CG fI ∧ mg "Growth" = some (.ref CG) ∧ ∃ fd, C8.Fun K "__init__" "Growth.__init__" s_Growth___init__ fI fd ∧ Binds K fd ["self", "network"] []) (F_c_room_of : DefAt K mg "room_of" s_room_of ["growth", "group", "prizes"]) (F_m_next_edge : MetAt K CG "next_edge" "Growth.next_edge" s_Growth_next_edge ["self", "active"]) (F_m_grow : MetAt K CG "grow" "Growth.grow" s_Growth_grow ["self", "active", "time"]) (F_m_join : MetAt K CG "join" "Growth.join" s_Growth_join ["self", "number"]) (F_m_moats : MetAt K CG "moats" "Growth.moats" s_Growth_moats ["self"]) (F_c_grown : DefAt K mg "grown" s_grown ["network", "root", "prizes"]) (F_c_hanging : DefAt K mg "hanging" s_hanging ["network", "tree", "group"]) (F_c_quick_choice : DefAt K mg "quick_choice" s_quick_choice ["network", "root", "prizes"]) (F_c_law_numbers : DefAt K mg "_law_numbers" s_law_numbers ["_law_script", "_law_many"]) (F_c_law_edges : DefAt K mg "_law_edges" s_law_edges ["_law_numbers_here", "_law_at", "_law_size", "_law_many"]) (F_c_law_prizes : DefAt K mg "_law_prizes" s_law_prizes ["_law_numbers_here", "_law_at", "_law_size", "_law_root", "_law_most"]) (F_c_law_choices : DefAt K mg "_law_choices" s_law_choices ["_law_edges_here", "_law_root", "_law_prizes_here"]) (F_c_law_changed : DefAt K mg "_law_changed" s_law_changed ["_law_numbers_here", "_law_at", "_law_many", "_law_chosen", "_law_moats"]) : LawBody P w K mg base ["_law_script", "_law_numbers_here", "_law_size", "_law_edges_here", "_law_root", "_law_prizes_here", "_law_network", "_law_kept", "_law_told", "_law_least", "_law_most", "_law_group", "_law_height", "_law_one", "_law_turn", "_law_before", "_law_answer", "_law_again"] "law" s_law f := by
  have c_common_divisor := ok_gcd (P := P) (w := w) (base := base) F_c_common_divisor T
  have c_lowest := ok_lowest (P := P) (w := w) (base := base) F_c_lowest T c_common_divisor
  have c_is_fraction := ok_isFrac (P := P) (w := w) (base := base) F_c_is_fraction T c_common_divisor
  have c_sum_of := ok_sumOf (P := P) (w := w) (base := base) F_c_sum_of T c_lowest
  have c_at_most := ok_atMost (P := P) (w := w) (base := base) F_c_at_most T
  have c_check_edge := ok_checkEdge (P := P) (w := w) (base := base) F_c_check_edge T
  have m_size := ok_size (P := P) (w := w) (base := base) F_m_size T
  have m_edges := ok_edges (P := P) (w := w) (base := base) F_m_edges T
  have m_check_vertex := ok_checkVertex (P := P) (w := w) (base := base) F_m_check_vertex T
  have k_Network := ok_netInit (P := P) (w := w) (base := base) F_k_Network T c_check_edge
  have c_is_ascending := ok_asc (P := P) (w := w) (base := base) F_c_is_ascending T m_edges
  have c_price_of := ok_priceOf (P := P) (w := w) (base := base) F_c_price_of T m_edges
  have c_check_prizes := ok_checkPrizes (P := P) (w := w) (base := base) F_c_check_prizes T m_size m_check_vertex
  have c_check_choice_list := ok_checkChoice (P := P) (w := w) (base := base) F_c_check_choice_list T m_edges
  have c_reached := ok_reached (P := P) (w := w) (base := base) F_c_reached T m_edges
  have c_cost := ok_cost (P := P) (w := w) (base := base) F_c_cost T c_check_prizes c_check_choice_list c_reached c_price_of
  have c_is_part := ok_isPart (P := P) (w := w) (base := base) F_c_is_part T
  have c_total := ok_total (P := P) (w := w) (base := base) F_c_total T c_sum_of
  have c_are_sets := ok_areSets (P := P) (w := w) (base := base) F_c_are_sets T m_size c_is_fraction
  have c_are_paid := ok_arePaid (P := P) (w := w) (base := base) F_c_are_paid T m_edges c_sum_of c_at_most
  have c_are_nested := ok_areNested (P := P) (w := w) (base := base) F_c_are_nested T c_is_part
  have c_are_good_for_prizes := ok_areGood (P := P) (w := w) (base := base) F_c_are_good_for_prizes T c_check_prizes c_are_sets c_are_nested c_are_paid c_is_part c_sum_of c_at_most
  have c_check_quick_choice := ok_checkQuick (P := P) (w := w) (base := base) F_c_check_quick_choice T c_are_good_for_prizes c_is_ascending m_size c_total c_cost
  have c_law_plus := ok_plus (P := P) (w := w) (base := base) F_c_law_plus T
  have c_law_sum := ok_lawSum (P := P) (w := w) (base := base) F_c_law_sum T c_law_plus
  have c_law_lowest := ok_lawLowest (P := P) (w := w) (base := base) F_c_law_lowest T
  have c_law_is_height := ok_isHeight (P := P) (w := w) (base := base) F_c_law_is_height T c_law_lowest
  have c_law_are_sets := ok_lawSets (P := P) (w := w) (base := base) F_c_law_are_sets T c_law_is_height
  have c_law_are_paid := ok_lawPaid (P := P) (w := w) (base := base) F_c_law_are_paid T c_law_sum
  have c_law_reach := ok_lawReach (P := P) (w := w) (base := base) F_c_law_reach T
  have c_law_good := ok_lawGood (P := P) (w := w) (base := base) F_c_law_good T c_law_are_sets c_law_are_paid c_law_sum
  have c_law_cost := ok_lawCost (P := P) (w := w) (base := base) F_c_law_cost T c_law_reach
  have c_law_due := ok_due (P := P) (w := w) (base := base) F_c_law_due T c_law_good c_law_sum c_law_cost
  have m_group_of := ok_groupOf (P := P) (w := w) (base := base) F_m_group_of T
  have c_is_active := ok_isActive (P := P) (w := w) (base := base) F_c_is_active T
  have k_Growth := ok_grInit (P := P) (w := w) (base := base) F_k_Growth T m_edges m_size
  have c_room_of := ok_roomOf (P := P) (w := w) (base := base) F_c_room_of T
  have m_next_edge := ok_nextEdge (P := P) (w := w) (base := base) F_m_next_edge T m_group_of
  have m_grow := ok_grow (P := P) (w := w) (base := base) F_m_grow T
  have m_join := ok_join (P := P) (w := w) (base := base) F_m_join T m_group_of
  have m_moats := ok_moats (P := P) (w := w) (base := base) F_m_moats T c_lowest
  have c_grown := ok_grown (P := P) (w := w) (base := base) F_c_grown T k_Growth c_is_active c_room_of m_next_edge m_grow m_join
  have c_hanging := ok_hanging (P := P) (w := w) (base := base) F_c_hanging T m_edges
  have c_quick_choice := ok_quick (P := P) (w := w) (base := base) F_c_quick_choice T c_check_prizes c_grown c_reached c_hanging m_moats
  have c_law_numbers := ok_numbers (P := P) (w := w) (base := base) F_c_law_numbers T
  have c_law_edges := ok_edgesL (P := P) (w := w) (base := base) F_c_law_edges T
  have c_law_prizes := ok_prizesL (P := P) (w := w) (base := base) F_c_law_prizes T
  have c_law_choices := ok_choices (P := P) (w := w) (base := base) F_c_law_choices T c_law_cost
  have c_law_changed := ok_changed (P := P) (w := w) (base := base) F_c_law_changed T c_law_plus c_law_lowest
  exact law_body T c_law_numbers c_law_edges c_law_prizes k_Network c_quick_choice m_edges c_law_due c_law_choices c_law_sum c_law_cost c_check_quick_choice c_law_changed
theorem walk_here {l : PySem.W.OpenLaw} {q : Program} {loose : List Str} {lv : List (Str × PySem.W.WData)} {YP : World → Heap → Prop} {d : DefRec} {K : Params → PySem.W.Frag} (hn : l.most = some 63) (hdf : d.params.defaults = []) (hY : ∀ (w : World) (h : Heap), YP w h → (K w.params).In h)
    (F : ∀ (w : World) (mg : Str → Option Value) (fa : Addr) (h : Heap), (K w.params).In h → h.Ns mainGlobals mg → PySem.W.LooseAre lv mg h → mg d.name = some (.ref fa) →
      ∃ fd, C8.Fun (K w.params) "law" "law" s_law fa fd ∧ (∀ (s : Shared) (u : Value), BindsTo s fd ⟨[u], []⟩ [("_law_script", u)]) ∧ ∀ base, (K w.params).In base → base.Ns mainGlobals mg → LawBody l.prog w (K w.params) mg base ["_law_script", "_law_numbers_here", "_law_size", "_law_edges_here", "_law_root", "_law_prizes_here", "_law_network", "_law_kept", "_law_told", "_law_least", "_law_most", "_law_group", "_law_height", "_law_one", "_law_turn", "_law_before", "_law_answer", "_law_again"] "law" s_law fa) :
    PySem.W.WalkO q loose (PySem.W.XL q lv) YP l.row.toRowW d [] (fun f vs => PySem.call f vs) := by
  refine Att.attach_call hn hdf ?_
  intro w _ s₁ mg mb fa _ _ _ _ a vs ns G Y _ _ _ hmg hobj hints hlen gens
  have kin := hY w _ Y
  obtain ⟨fd, fn, bd, body⟩ := F w mg fa _ kin G.T.g G.X.2 hmg
  exact law_here fn sc_law body bd kin G.T.g G.T.b G.T.builtins G.T.nolimit gens hobj hints hlen
theorem loose_int {lv : List (Str × PySem.W.WData)} {mg : Str → Option Value} {h : Heap} (V : PySem.W.LooseAre lv mg h) {x : Str} {i : Int} (m : (x, PySem.W.WData.int i) ∈ lv) : ∃ u, mg x = some u ∧ RelV (.int i) u := by
  obtain ⟨v, hv, r⟩ := V.val _ m
  cases r with
  | int _ t => exact ⟨_, hv, t, rfl⟩
theorem const_int {K : PySem.W.Frag} {mg : Str → Option Value} {h : Heap} (X : K.In h) (G : h.Ns mainGlobals mg) {x : Str} {i : Int} {t : Nat} (a : PySem.W.nsIn K mainGlobals x = some (some (.int i t))) : ∃ u, mg x = some u ∧ RelV (.int i) u := ⟨_, PySem.W.mg_of X G a, t, rfl⟩
theorem final {P : Program} {w : World} {K : PySem.W.Frag} {mg : Str → Option Value} {h : Heap} {CN CG fa : Addr} {tV tE : Nat} {f_c_common_divisor : Addr} {oc_c_common_divisor kV_c_common_divisor dc_c_common_divisor pm_c_common_divisor cd_c_common_divisor ct_c_common_divisor : Value} {od_c_common_divisor an_c_common_divisor : Option Addr} {sl_c_common_divisor : Array (Option Value)} {f_c_lowest : Addr} {oc_c_lowest kV_c_lowest dc_c_lowest pm_c_lowest cd_c_lowest ct_c_lowest : Value} {od_c_lowest an_c_lowest : Option Addr} {sl_c_lowest : Array (Option Value)} {f_c_is_fraction : Addr} {oc_c_is_fraction kV_c_is_fraction dc_c_is_fraction pm_c_is_fraction cd_c_is_fraction ct_c_is_fraction : Value} {od_c_is_fraction an_c_is_fraction : Option Addr} {sl_c_is_fraction : Array (Option Value)} {f_c_sum_of : Addr} {oc_c_sum_of kV_c_sum_of dc_c_sum_of pm_c_sum_of cd_c_sum_of ct_c_sum_of : Value} {od_c_sum_of an_c_sum_of : Option Addr} {sl_c_sum_of : Array (Option Value)} {f_c_at_most : Addr} {oc_c_at_most kV_c_at_most dc_c_at_most pm_c_at_most cd_c_at_most ct_c_at_most : Value} {od_c_at_most an_c_at_most : Option Addr} {sl_c_at_most : Array (Option Value)} {f_c_check_edge : Addr} {oc_c_check_edge kV_c_check_edge dc_c_check_edge pm_c_check_edge cd_c_check_edge ct_c_check_edge : Value} {od_c_check_edge an_c_check_edge : Option Addr} {sl_c_check_edge : Array (Option Value)} {f_m_size : Addr} {oc_m_size kV_m_size dc_m_size pm_m_size cd_m_size ct_m_size : Value} {od_m_size an_m_size : Option Addr} {sl_m_size : Array (Option Value)} {f_m_edges : Addr} {oc_m_edges kV_m_edges dc_m_edges pm_m_edges cd_m_edges ct_m_edges : Value} {od_m_edges an_m_edges : Option Addr} {sl_m_edges : Array (Option Value)} {f_m_check_vertex : Addr} {oc_m_check_vertex kV_m_check_vertex dc_m_check_vertex pm_m_check_vertex cd_m_check_vertex ct_m_check_vertex : Value} {od_m_check_vertex an_m_check_vertex : Option Addr} {sl_m_check_vertex : Array (Option Value)} {f_k_Network : Addr} {oc_k_Network kV_k_Network dc_k_Network pm_k_Network cd_k_Network ct_k_Network : Value} {od_k_Network an_k_Network : Option Addr} {sl_k_Network : Array (Option Value)} {f_c_is_ascending : Addr} {oc_c_is_ascending kV_c_is_ascending dc_c_is_ascending pm_c_is_ascending cd_c_is_ascending ct_c_is_ascending : Value} {od_c_is_ascending an_c_is_ascending : Option Addr} {sl_c_is_ascending : Array (Option Value)} {f_c_price_of : Addr} {oc_c_price_of kV_c_price_of dc_c_price_of pm_c_price_of cd_c_price_of ct_c_price_of : Value} {od_c_price_of an_c_price_of : Option Addr} {sl_c_price_of : Array (Option Value)} {f_c_check_prizes : Addr} {oc_c_check_prizes kV_c_check_prizes dc_c_check_prizes pm_c_check_prizes cd_c_check_prizes ct_c_check_prizes : Value} {od_c_check_prizes an_c_check_prizes : Option Addr} {sl_c_check_prizes : Array (Option Value)} {f_c_check_choice_list : Addr} {oc_c_check_choice_list kV_c_check_choice_list dc_c_check_choice_list pm_c_check_choice_list cd_c_check_choice_list ct_c_check_choice_list : Value} {od_c_check_choice_list an_c_check_choice_list : Option Addr} {sl_c_check_choice_list : Array (Option Value)} {f_c_reached : Addr} {oc_c_reached kV_c_reached dc_c_reached pm_c_reached cd_c_reached ct_c_reached : Value} {od_c_reached an_c_reached : Option Addr} {sl_c_reached : Array (Option Value)} {f_c_cost : Addr} {oc_c_cost kV_c_cost dc_c_cost pm_c_cost cd_c_cost ct_c_cost : Value} {od_c_cost an_c_cost : Option Addr} {sl_c_cost : Array (Option Value)} {f_c_is_part : Addr} {oc_c_is_part kV_c_is_part dc_c_is_part pm_c_is_part cd_c_is_part ct_c_is_part : Value} {od_c_is_part an_c_is_part : Option Addr} {sl_c_is_part : Array (Option Value)} {f_c_total : Addr} {oc_c_total kV_c_total dc_c_total pm_c_total cd_c_total ct_c_total : Value} {od_c_total an_c_total : Option Addr} {sl_c_total : Array (Option Value)} {f_c_are_sets : Addr} {oc_c_are_sets kV_c_are_sets dc_c_are_sets pm_c_are_sets cd_c_are_sets ct_c_are_sets : Value} {od_c_are_sets an_c_are_sets : Option Addr} {sl_c_are_sets : Array (Option Value)} {f_c_are_paid : Addr} {oc_c_are_paid kV_c_are_paid dc_c_are_paid pm_c_are_paid cd_c_are_paid ct_c_are_paid : Value} {od_c_are_paid an_c_are_paid : Option Addr} {sl_c_are_paid : Array (Option Value)} {f_c_are_nested : Addr} {oc_c_are_nested kV_c_are_nested dc_c_are_nested pm_c_are_nested cd_c_are_nested ct_c_are_nested : Value} {od_c_are_nested an_c_are_nested : Option Addr} {sl_c_are_nested : Array (Option Value)} {f_c_are_good_for_prizes : Addr} {oc_c_are_good_for_prizes kV_c_are_good_for_prizes dc_c_are_good_for_prizes pm_c_are_good_for_prizes cd_c_are_good_for_prizes ct_c_are_good_for_prizes : Value} {od_c_are_good_for_prizes an_c_are_good_for_prizes : Option Addr} {sl_c_are_good_for_prizes : Array (Option Value)} {f_c_check_quick_choice : Addr} {oc_c_check_quick_choice kV_c_check_quick_choice dc_c_check_quick_choice pm_c_check_quick_choice cd_c_check_quick_choice ct_c_check_quick_choice : Value} {od_c_check_quick_choice an_c_check_quick_choice : Option Addr} {sl_c_check_quick_choice : Array (Option Value)} {f_c_law_plus : Addr} {oc_c_law_plus kV_c_law_plus dc_c_law_plus pm_c_law_plus cd_c_law_plus ct_c_law_plus : Value} {od_c_law_plus an_c_law_plus : Option Addr} {sl_c_law_plus : Array (Option Value)} {f_c_law_sum : Addr} {oc_c_law_sum kV_c_law_sum dc_c_law_sum pm_c_law_sum cd_c_law_sum ct_c_law_sum : Value} {od_c_law_sum an_c_law_sum : Option Addr} {sl_c_law_sum : Array (Option Value)} {f_c_law_lowest : Addr} {oc_c_law_lowest kV_c_law_lowest dc_c_law_lowest pm_c_law_lowest cd_c_law_lowest ct_c_law_lowest : Value} {od_c_law_lowest an_c_law_lowest : Option Addr} {sl_c_law_lowest : Array (Option Value)} {f_c_law_is_height : Addr} {oc_c_law_is_height kV_c_law_is_height dc_c_law_is_height pm_c_law_is_height cd_c_law_is_height ct_c_law_is_height : Value} {od_c_law_is_height an_c_law_is_height : Option Addr} {sl_c_law_is_height : Array (Option Value)} {f_c_law_are_sets : Addr} {oc_c_law_are_sets kV_c_law_are_sets dc_c_law_are_sets pm_c_law_are_sets cd_c_law_are_sets ct_c_law_are_sets : Value} {od_c_law_are_sets an_c_law_are_sets : Option Addr} {sl_c_law_are_sets : Array (Option Value)} {f_c_law_are_paid : Addr} {oc_c_law_are_paid kV_c_law_are_paid dc_c_law_are_paid pm_c_law_are_paid cd_c_law_are_paid ct_c_law_are_paid : Value} {od_c_law_are_paid an_c_law_are_paid : Option Addr} {sl_c_law_are_paid : Array (Option Value)} {f_c_law_reach : Addr} {oc_c_law_reach kV_c_law_reach dc_c_law_reach pm_c_law_reach cd_c_law_reach ct_c_law_reach : Value} {od_c_law_reach an_c_law_reach : Option Addr} {sl_c_law_reach : Array (Option Value)} {f_c_law_good : Addr} {oc_c_law_good kV_c_law_good dc_c_law_good pm_c_law_good cd_c_law_good ct_c_law_good : Value} {od_c_law_good an_c_law_good : Option Addr} {sl_c_law_good : Array (Option Value)} {f_c_law_cost : Addr} {oc_c_law_cost kV_c_law_cost dc_c_law_cost pm_c_law_cost cd_c_law_cost ct_c_law_cost : Value} {od_c_law_cost an_c_law_cost : Option Addr} {sl_c_law_cost : Array (Option Value)} {f_c_law_due : Addr} {oc_c_law_due kV_c_law_due dc_c_law_due pm_c_law_due cd_c_law_due ct_c_law_due : Value} {od_c_law_due an_c_law_due : Option Addr} {sl_c_law_due : Array (Option Value)} {f_m_group_of : Addr} {oc_m_group_of kV_m_group_of dc_m_group_of pm_m_group_of cd_m_group_of ct_m_group_of : Value} {od_m_group_of an_m_group_of : Option Addr} {sl_m_group_of : Array (Option Value)} {f_c_is_active : Addr} {oc_c_is_active kV_c_is_active dc_c_is_active pm_c_is_active cd_c_is_active ct_c_is_active : Value} {od_c_is_active an_c_is_active : Option Addr} {sl_c_is_active : Array (Option Value)} {f_k_Growth : Addr} {oc_k_Growth kV_k_Growth dc_k_Growth pm_k_Growth cd_k_Growth ct_k_Growth : Value} {od_k_Growth an_k_Growth : Option Addr} {sl_k_Growth : Array (Option Value)} {f_c_room_of : Addr} {oc_c_room_of kV_c_room_of dc_c_room_of pm_c_room_of cd_c_room_of ct_c_room_of : Value} {od_c_room_of an_c_room_of : Option Addr} {sl_c_room_of : Array (Option Value)} {f_m_next_edge : Addr} {oc_m_next_edge kV_m_next_edge dc_m_next_edge pm_m_next_edge cd_m_next_edge ct_m_next_edge : Value} {od_m_next_edge an_m_next_edge : Option Addr} {sl_m_next_edge : Array (Option Value)} {f_m_grow : Addr} {oc_m_grow kV_m_grow dc_m_grow pm_m_grow cd_m_grow ct_m_grow : Value} {od_m_grow an_m_grow : Option Addr} {sl_m_grow : Array (Option Value)} {f_m_join : Addr} {oc_m_join kV_m_join dc_m_join pm_m_join cd_m_join ct_m_join : Value} {od_m_join an_m_join : Option Addr} {sl_m_join : Array (Option Value)} {f_m_moats : Addr} {oc_m_moats kV_m_moats dc_m_moats pm_m_moats cd_m_moats ct_m_moats : Value} {od_m_moats an_m_moats : Option Addr} {sl_m_moats : Array (Option Value)} {f_c_grown : Addr} {oc_c_grown kV_c_grown dc_c_grown pm_c_grown cd_c_grown ct_c_grown : Value} {od_c_grown an_c_grown : Option Addr} {sl_c_grown : Array (Option Value)} {f_c_hanging : Addr} {oc_c_hanging kV_c_hanging dc_c_hanging pm_c_hanging cd_c_hanging ct_c_hanging : Value} {od_c_hanging an_c_hanging : Option Addr} {sl_c_hanging : Array (Option Value)} {f_c_quick_choice : Addr} {oc_c_quick_choice kV_c_quick_choice dc_c_quick_choice pm_c_quick_choice cd_c_quick_choice ct_c_quick_choice : Value} {od_c_quick_choice an_c_quick_choice : Option Addr} {sl_c_quick_choice : Array (Option Value)} {f_c_law_numbers : Addr} {oc_c_law_numbers kV_c_law_numbers dc_c_law_numbers pm_c_law_numbers cd_c_law_numbers ct_c_law_numbers : Value} {od_c_law_numbers an_c_law_numbers : Option Addr} {sl_c_law_numbers : Array (Option Value)} {f_c_law_edges : Addr} {oc_c_law_edges kV_c_law_edges dc_c_law_edges pm_c_law_edges cd_c_law_edges ct_c_law_edges : Value} {od_c_law_edges an_c_law_edges : Option Addr} {sl_c_law_edges : Array (Option Value)} {f_c_law_prizes : Addr} {oc_c_law_prizes kV_c_law_prizes dc_c_law_prizes pm_c_law_prizes cd_c_law_prizes ct_c_law_prizes : Value} {od_c_law_prizes an_c_law_prizes : Option Addr} {sl_c_law_prizes : Array (Option Value)} {f_c_law_choices : Addr} {oc_c_law_choices kV_c_law_choices dc_c_law_choices pm_c_law_choices cd_c_law_choices ct_c_law_choices : Value} {od_c_law_choices an_c_law_choices : Option Addr} {sl_c_law_choices : Array (Option Value)} {f_c_law_changed : Addr} {oc_c_law_changed kV_c_law_changed dc_c_law_changed pm_c_law_changed cd_c_law_changed ct_c_law_changed : Value} {od_c_law_changed an_c_law_changed : Option Addr} {sl_c_law_changed : Array (Option Value)} {f_law : Addr} {oc_law kV_law dc_law pm_law cd_law ct_law : Value} {od_law an_law : Option Addr} {sl_law : Array (Option Value)} (X : K.In h) (G : h.Ns mainGlobals mg) (V : PySem.W.LooseAre [("MOST_PRICE", PySem.W.WData.int 1048576), ("UNIT", PySem.W.WData.int 1606938044258990275541962092341162602522202993782792835301376)] mg h) (hfa : mg "law" = some (.ref fa))
    (gCN : PySem.W.nsIn K mainGlobals "Network" = some (some (.ref CN)))
    (mkCN : PySem.W.makesIn K CN = true)
    (kcCN : PySem.W.keepIn K (.ref CN) = true)
    (pgCN : PySem.W.plainGet K CN Str.empty = true)
    (hdCN : PySem.W.hasDictIn K CN = true)
    (poCN : PySem.W.plainOver K CN = true)
    (saCN : PySem.W.findIn K (.ref CN) "__setattr__" = some (some (.builtin "object.__setattr__")))
    (gCG : PySem.W.nsIn K mainGlobals "Growth" = some (some (.ref CG)))
    (mkCG : PySem.W.makesIn K CG = true)
    (kcCG : PySem.W.keepIn K (.ref CG) = true)
    (pgCG : PySem.W.plainGet K CG Str.empty = true)
    (hdCG : PySem.W.hasDictIn K CG = true)
    (poCG : PySem.W.plainOver K CG = true)
    (saCG : PySem.W.findIn K (.ref CG) "__setattr__" = some (some (.builtin "object.__setattr__")))
    (nCN_size : PySem.W.findIn K (.ref CN) "_size" = some none)
    (nCN_edges : PySem.W.findIn K (.ref CN) "_edges" = some none)
    (nCGedges : PySem.W.findIn K (.ref CG) "edges" = some none)
    (nCGgroups : PySem.W.findIn K (.ref CG) "groups" = some none)
    (nCGdepths : PySem.W.findIn K (.ref CG) "depths" = some none)
    (nCGheights : PySem.W.findIn K (.ref CG) "heights" = some none)
    (nCGchosen : PySem.W.findIn K (.ref CG) "chosen" = some none)
    (z_len : PySem.W.nsIn K mainGlobals "len" = some none)
    (z_range : PySem.W.nsIn K mainGlobals "range" = some none)
    (z_list : PySem.W.nsIn K mainGlobals "list" = some none)
    (z_tuple : PySem.W.nsIn K mainGlobals "tuple" = some none)
    (z_int : PySem.W.nsIn K mainGlobals "int" = some none)
    (z_bool : PySem.W.nsIn K mainGlobals "bool" = some none)
    (z_abs : PySem.W.nsIn K mainGlobals "abs" = some none)
    (z_sum : PySem.W.nsIn K mainGlobals "sum" = some none)
    (z_min : PySem.W.nsIn K mainGlobals "min" = some none)
    (z_max : PySem.W.nsIn K mainGlobals "max" = some none)
    (z_all : PySem.W.nsIn K mainGlobals "all" = some none)
    (z_any : PySem.W.nsIn K mainGlobals "any" = some none)
    (z_sorted : PySem.W.nsIn K mainGlobals "sorted" = some none)
    (z_repr : PySem.W.nsIn K mainGlobals "repr" = some none)
    (z_isinstance : PySem.W.nsIn K mainGlobals "isinstance" = some none)
    (mv : PySem.W.nsIn K mainGlobals "MOST_VERTICES" = some (some (.int 40 tV)))
    (me : PySem.W.nsIn K mainGlobals "MOST_EDGES" = some (some (.int 200 tE)))
    (a_c_common_divisor : PySem.W.nsIn K mainGlobals "common_divisor" = some (some (.ref f_c_common_divisor)))
    (l_c_common_divisor : K.lookup f_c_common_divisor = some ⟨oc_c_common_divisor, od_c_common_divisor, .func (PySem.W.fnOf "common_divisor" "common_divisor" (C8.fnArgs s_common_divisor) (C8.fnBody s_common_divisor) (C8.fnScope s_common_divisor) .none kV_c_common_divisor dc_c_common_divisor pm_c_common_divisor an_c_common_divisor cd_c_common_divisor ct_c_common_divisor), sl_c_common_divisor⟩)
    (c_c_common_divisor : PySem.W.codeIn K cd_c_common_divisor "common_divisor" = true)
    (k_c_common_divisor : PySem.W.keepIn K (.ref f_c_common_divisor) = true)
    (a_c_lowest : PySem.W.nsIn K mainGlobals "lowest" = some (some (.ref f_c_lowest)))
    (l_c_lowest : K.lookup f_c_lowest = some ⟨oc_c_lowest, od_c_lowest, .func (PySem.W.fnOf "lowest" "lowest" (C8.fnArgs s_lowest) (C8.fnBody s_lowest) (C8.fnScope s_lowest) .none kV_c_lowest dc_c_lowest pm_c_lowest an_c_lowest cd_c_lowest ct_c_lowest), sl_c_lowest⟩)
    (c_c_lowest : PySem.W.codeIn K cd_c_lowest "lowest" = true)
    (k_c_lowest : PySem.W.keepIn K (.ref f_c_lowest) = true)
    (a_c_is_fraction : PySem.W.nsIn K mainGlobals "is_fraction" = some (some (.ref f_c_is_fraction)))
    (l_c_is_fraction : K.lookup f_c_is_fraction = some ⟨oc_c_is_fraction, od_c_is_fraction, .func (PySem.W.fnOf "is_fraction" "is_fraction" (C8.fnArgs s_is_fraction) (C8.fnBody s_is_fraction) (C8.fnScope s_is_fraction) .none kV_c_is_fraction dc_c_is_fraction pm_c_is_fraction an_c_is_fraction cd_c_is_fraction ct_c_is_fraction), sl_c_is_fraction⟩)
    (c_c_is_fraction : PySem.W.codeIn K cd_c_is_fraction "is_fraction" = true)
    (k_c_is_fraction : PySem.W.keepIn K (.ref f_c_is_fraction) = true)
    (a_c_sum_of : PySem.W.nsIn K mainGlobals "sum_of" = some (some (.ref f_c_sum_of)))
    (l_c_sum_of : K.lookup f_c_sum_of = some ⟨oc_c_sum_of, od_c_sum_of, .func (PySem.W.fnOf "sum_of" "sum_of" (C8.fnArgs s_sum_of) (C8.fnBody s_sum_of) (C8.fnScope s_sum_of) .none kV_c_sum_of dc_c_sum_of pm_c_sum_of an_c_sum_of cd_c_sum_of ct_c_sum_of), sl_c_sum_of⟩)
    (c_c_sum_of : PySem.W.codeIn K cd_c_sum_of "sum_of" = true)
    (k_c_sum_of : PySem.W.keepIn K (.ref f_c_sum_of) = true)
    (a_c_at_most : PySem.W.nsIn K mainGlobals "at_most" = some (some (.ref f_c_at_most)))
    (l_c_at_most : K.lookup f_c_at_most = some ⟨oc_c_at_most, od_c_at_most, .func (PySem.W.fnOf "at_most" "at_most" (C8.fnArgs s_at_most) (C8.fnBody s_at_most) (C8.fnScope s_at_most) .none kV_c_at_most dc_c_at_most pm_c_at_most an_c_at_most cd_c_at_most ct_c_at_most), sl_c_at_most⟩)
    (c_c_at_most : PySem.W.codeIn K cd_c_at_most "at_most" = true)
    (k_c_at_most : PySem.W.keepIn K (.ref f_c_at_most) = true)
    (a_c_check_edge : PySem.W.nsIn K mainGlobals "check_edge" = some (some (.ref f_c_check_edge)))
    (l_c_check_edge : K.lookup f_c_check_edge = some ⟨oc_c_check_edge, od_c_check_edge, .func (PySem.W.fnOf "check_edge" "check_edge" (C8.fnArgs s_check_edge) (C8.fnBody s_check_edge) (C8.fnScope s_check_edge) .none kV_c_check_edge dc_c_check_edge pm_c_check_edge an_c_check_edge cd_c_check_edge ct_c_check_edge), sl_c_check_edge⟩)
    (c_c_check_edge : PySem.W.codeIn K cd_c_check_edge "check_edge" = true)
    (k_c_check_edge : PySem.W.keepIn K (.ref f_c_check_edge) = true)
    (a_m_size : PySem.W.findIn K (.ref CN) "size" = some (some (.ref f_m_size)))
    (i_m_size : PySem.W.isFn K (.ref f_m_size) = true)
    (l_m_size : K.lookup f_m_size = some ⟨oc_m_size, od_m_size, .func (PySem.W.fnOf "size" "Network.size" (C8.fnArgs s_Network_size) (C8.fnBody s_Network_size) (C8.fnScope s_Network_size) .none kV_m_size dc_m_size pm_m_size an_m_size cd_m_size ct_m_size), sl_m_size⟩)
    (c_m_size : PySem.W.codeIn K cd_m_size "Network.size" = true)
    (k_m_size : PySem.W.keepIn K (.ref f_m_size) = true)
    (a_m_edges : PySem.W.findIn K (.ref CN) "edges" = some (some (.ref f_m_edges)))
    (i_m_edges : PySem.W.isFn K (.ref f_m_edges) = true)
    (l_m_edges : K.lookup f_m_edges = some ⟨oc_m_edges, od_m_edges, .func (PySem.W.fnOf "edges" "Network.edges" (C8.fnArgs s_Network_edges) (C8.fnBody s_Network_edges) (C8.fnScope s_Network_edges) .none kV_m_edges dc_m_edges pm_m_edges an_m_edges cd_m_edges ct_m_edges), sl_m_edges⟩)
    (c_m_edges : PySem.W.codeIn K cd_m_edges "Network.edges" = true)
    (k_m_edges : PySem.W.keepIn K (.ref f_m_edges) = true)
    (a_m_check_vertex : PySem.W.findIn K (.ref CN) "check_vertex" = some (some (.ref f_m_check_vertex)))
    (i_m_check_vertex : PySem.W.isFn K (.ref f_m_check_vertex) = true)
    (l_m_check_vertex : K.lookup f_m_check_vertex = some ⟨oc_m_check_vertex, od_m_check_vertex, .func (PySem.W.fnOf "check_vertex" "Network.check_vertex" (C8.fnArgs s_Network_check_vertex) (C8.fnBody s_Network_check_vertex) (C8.fnScope s_Network_check_vertex) .none kV_m_check_vertex dc_m_check_vertex pm_m_check_vertex an_m_check_vertex cd_m_check_vertex ct_m_check_vertex), sl_m_check_vertex⟩)
    (c_m_check_vertex : PySem.W.codeIn K cd_m_check_vertex "Network.check_vertex" = true)
    (k_m_check_vertex : PySem.W.keepIn K (.ref f_m_check_vertex) = true)
    (a_k_Network : PySem.W.findIn K (.ref CN) "__init__" = some (some (.ref f_k_Network)))
    (i_k_Network : PySem.W.isFn K (.ref f_k_Network) = true)
    (l_k_Network : K.lookup f_k_Network = some ⟨oc_k_Network, od_k_Network, .func (PySem.W.fnOf "__init__" "Network.__init__" (C8.fnArgs s_Network___init__) (C8.fnBody s_Network___init__) (C8.fnScope s_Network___init__) .none kV_k_Network dc_k_Network pm_k_Network an_k_Network cd_k_Network ct_k_Network), sl_k_Network⟩)
    (c_k_Network : PySem.W.codeIn K cd_k_Network "Network.__init__" = true)
    (a_c_is_ascending : PySem.W.nsIn K mainGlobals "is_ascending" = some (some (.ref f_c_is_ascending)))
    (l_c_is_ascending : K.lookup f_c_is_ascending = some ⟨oc_c_is_ascending, od_c_is_ascending, .func (PySem.W.fnOf "is_ascending" "is_ascending" (C8.fnArgs s_is_ascending) (C8.fnBody s_is_ascending) (C8.fnScope s_is_ascending) .none kV_c_is_ascending dc_c_is_ascending pm_c_is_ascending an_c_is_ascending cd_c_is_ascending ct_c_is_ascending), sl_c_is_ascending⟩)
    (c_c_is_ascending : PySem.W.codeIn K cd_c_is_ascending "is_ascending" = true)
    (k_c_is_ascending : PySem.W.keepIn K (.ref f_c_is_ascending) = true)
    (a_c_price_of : PySem.W.nsIn K mainGlobals "price_of" = some (some (.ref f_c_price_of)))
    (l_c_price_of : K.lookup f_c_price_of = some ⟨oc_c_price_of, od_c_price_of, .func (PySem.W.fnOf "price_of" "price_of" (C8.fnArgs s_price_of) (C8.fnBody s_price_of) (C8.fnScope s_price_of) .none kV_c_price_of dc_c_price_of pm_c_price_of an_c_price_of cd_c_price_of ct_c_price_of), sl_c_price_of⟩)
    (c_c_price_of : PySem.W.codeIn K cd_c_price_of "price_of" = true)
    (k_c_price_of : PySem.W.keepIn K (.ref f_c_price_of) = true)
    (a_c_check_prizes : PySem.W.nsIn K mainGlobals "check_prizes" = some (some (.ref f_c_check_prizes)))
    (l_c_check_prizes : K.lookup f_c_check_prizes = some ⟨oc_c_check_prizes, od_c_check_prizes, .func (PySem.W.fnOf "check_prizes" "check_prizes" (C8.fnArgs s_check_prizes) (C8.fnBody s_check_prizes) (C8.fnScope s_check_prizes) .none kV_c_check_prizes dc_c_check_prizes pm_c_check_prizes an_c_check_prizes cd_c_check_prizes ct_c_check_prizes), sl_c_check_prizes⟩)
    (c_c_check_prizes : PySem.W.codeIn K cd_c_check_prizes "check_prizes" = true)
    (k_c_check_prizes : PySem.W.keepIn K (.ref f_c_check_prizes) = true)
    (a_c_check_choice_list : PySem.W.nsIn K mainGlobals "check_choice_list" = some (some (.ref f_c_check_choice_list)))
    (l_c_check_choice_list : K.lookup f_c_check_choice_list = some ⟨oc_c_check_choice_list, od_c_check_choice_list, .func (PySem.W.fnOf "check_choice_list" "check_choice_list" (C8.fnArgs s_check_choice_list) (C8.fnBody s_check_choice_list) (C8.fnScope s_check_choice_list) .none kV_c_check_choice_list dc_c_check_choice_list pm_c_check_choice_list an_c_check_choice_list cd_c_check_choice_list ct_c_check_choice_list), sl_c_check_choice_list⟩)
    (c_c_check_choice_list : PySem.W.codeIn K cd_c_check_choice_list "check_choice_list" = true)
    (k_c_check_choice_list : PySem.W.keepIn K (.ref f_c_check_choice_list) = true)
    (a_c_reached : PySem.W.nsIn K mainGlobals "reached" = some (some (.ref f_c_reached)))
    (l_c_reached : K.lookup f_c_reached = some ⟨oc_c_reached, od_c_reached, .func (PySem.W.fnOf "reached" "reached" (C8.fnArgs s_reached) (C8.fnBody s_reached) (C8.fnScope s_reached) .none kV_c_reached dc_c_reached pm_c_reached an_c_reached cd_c_reached ct_c_reached), sl_c_reached⟩)
    (c_c_reached : PySem.W.codeIn K cd_c_reached "reached" = true)
    (k_c_reached : PySem.W.keepIn K (.ref f_c_reached) = true)
    (a_c_cost : PySem.W.nsIn K mainGlobals "cost" = some (some (.ref f_c_cost)))
    (l_c_cost : K.lookup f_c_cost = some ⟨oc_c_cost, od_c_cost, .func (PySem.W.fnOf "cost" "cost" (C8.fnArgs s_cost) (C8.fnBody s_cost) (C8.fnScope s_cost) .none kV_c_cost dc_c_cost pm_c_cost an_c_cost cd_c_cost ct_c_cost), sl_c_cost⟩)
    (c_c_cost : PySem.W.codeIn K cd_c_cost "cost" = true)
    (k_c_cost : PySem.W.keepIn K (.ref f_c_cost) = true)
    (a_c_is_part : PySem.W.nsIn K mainGlobals "is_part" = some (some (.ref f_c_is_part)))
    (l_c_is_part : K.lookup f_c_is_part = some ⟨oc_c_is_part, od_c_is_part, .func (PySem.W.fnOf "is_part" "is_part" (C8.fnArgs s_is_part) (C8.fnBody s_is_part) (C8.fnScope s_is_part) .none kV_c_is_part dc_c_is_part pm_c_is_part an_c_is_part cd_c_is_part ct_c_is_part), sl_c_is_part⟩)
    (c_c_is_part : PySem.W.codeIn K cd_c_is_part "is_part" = true)
    (k_c_is_part : PySem.W.keepIn K (.ref f_c_is_part) = true)
    (a_c_total : PySem.W.nsIn K mainGlobals "total" = some (some (.ref f_c_total)))
    (l_c_total : K.lookup f_c_total = some ⟨oc_c_total, od_c_total, .func (PySem.W.fnOf "total" "total" (C8.fnArgs s_total) (C8.fnBody s_total) (C8.fnScope s_total) .none kV_c_total dc_c_total pm_c_total an_c_total cd_c_total ct_c_total), sl_c_total⟩)
    (c_c_total : PySem.W.codeIn K cd_c_total "total" = true)
    (k_c_total : PySem.W.keepIn K (.ref f_c_total) = true)
    (a_c_are_sets : PySem.W.nsIn K mainGlobals "are_sets" = some (some (.ref f_c_are_sets)))
    (l_c_are_sets : K.lookup f_c_are_sets = some ⟨oc_c_are_sets, od_c_are_sets, .func (PySem.W.fnOf "are_sets" "are_sets" (C8.fnArgs s_are_sets) (C8.fnBody s_are_sets) (C8.fnScope s_are_sets) .none kV_c_are_sets dc_c_are_sets pm_c_are_sets an_c_are_sets cd_c_are_sets ct_c_are_sets), sl_c_are_sets⟩)
    (c_c_are_sets : PySem.W.codeIn K cd_c_are_sets "are_sets" = true)
    (k_c_are_sets : PySem.W.keepIn K (.ref f_c_are_sets) = true)
    (a_c_are_paid : PySem.W.nsIn K mainGlobals "are_paid" = some (some (.ref f_c_are_paid)))
    (l_c_are_paid : K.lookup f_c_are_paid = some ⟨oc_c_are_paid, od_c_are_paid, .func (PySem.W.fnOf "are_paid" "are_paid" (C8.fnArgs s_are_paid) (C8.fnBody s_are_paid) (C8.fnScope s_are_paid) .none kV_c_are_paid dc_c_are_paid pm_c_are_paid an_c_are_paid cd_c_are_paid ct_c_are_paid), sl_c_are_paid⟩)
    (c_c_are_paid : PySem.W.codeIn K cd_c_are_paid "are_paid" = true)
    (k_c_are_paid : PySem.W.keepIn K (.ref f_c_are_paid) = true)
    (a_c_are_nested : PySem.W.nsIn K mainGlobals "are_nested" = some (some (.ref f_c_are_nested)))
    (l_c_are_nested : K.lookup f_c_are_nested = some ⟨oc_c_are_nested, od_c_are_nested, .func (PySem.W.fnOf "are_nested" "are_nested" (C8.fnArgs s_are_nested) (C8.fnBody s_are_nested) (C8.fnScope s_are_nested) .none kV_c_are_nested dc_c_are_nested pm_c_are_nested an_c_are_nested cd_c_are_nested ct_c_are_nested), sl_c_are_nested⟩)
    (c_c_are_nested : PySem.W.codeIn K cd_c_are_nested "are_nested" = true)
    (k_c_are_nested : PySem.W.keepIn K (.ref f_c_are_nested) = true)
    (a_c_are_good_for_prizes : PySem.W.nsIn K mainGlobals "are_good_for_prizes" = some (some (.ref f_c_are_good_for_prizes)))
    (l_c_are_good_for_prizes : K.lookup f_c_are_good_for_prizes = some ⟨oc_c_are_good_for_prizes, od_c_are_good_for_prizes, .func (PySem.W.fnOf "are_good_for_prizes" "are_good_for_prizes" (C8.fnArgs s_are_good_for_prizes) (C8.fnBody s_are_good_for_prizes) (C8.fnScope s_are_good_for_prizes) .none kV_c_are_good_for_prizes dc_c_are_good_for_prizes pm_c_are_good_for_prizes an_c_are_good_for_prizes cd_c_are_good_for_prizes ct_c_are_good_for_prizes), sl_c_are_good_for_prizes⟩)
    (c_c_are_good_for_prizes : PySem.W.codeIn K cd_c_are_good_for_prizes "are_good_for_prizes" = true)
    (k_c_are_good_for_prizes : PySem.W.keepIn K (.ref f_c_are_good_for_prizes) = true)
    (a_c_check_quick_choice : PySem.W.nsIn K mainGlobals "check_quick_choice" = some (some (.ref f_c_check_quick_choice)))
    (l_c_check_quick_choice : K.lookup f_c_check_quick_choice = some ⟨oc_c_check_quick_choice, od_c_check_quick_choice, .func (PySem.W.fnOf "check_quick_choice" "check_quick_choice" (C8.fnArgs s_check_quick_choice) (C8.fnBody s_check_quick_choice) (C8.fnScope s_check_quick_choice) .none kV_c_check_quick_choice dc_c_check_quick_choice pm_c_check_quick_choice an_c_check_quick_choice cd_c_check_quick_choice ct_c_check_quick_choice), sl_c_check_quick_choice⟩)
    (c_c_check_quick_choice : PySem.W.codeIn K cd_c_check_quick_choice "check_quick_choice" = true)
    (k_c_check_quick_choice : PySem.W.keepIn K (.ref f_c_check_quick_choice) = true)
    (a_c_law_plus : PySem.W.nsIn K mainGlobals "_law_plus" = some (some (.ref f_c_law_plus)))
    (l_c_law_plus : K.lookup f_c_law_plus = some ⟨oc_c_law_plus, od_c_law_plus, .func (PySem.W.fnOf "_law_plus" "_law_plus" (C8.fnArgs s_law_plus) (C8.fnBody s_law_plus) (C8.fnScope s_law_plus) .none kV_c_law_plus dc_c_law_plus pm_c_law_plus an_c_law_plus cd_c_law_plus ct_c_law_plus), sl_c_law_plus⟩)
    (c_c_law_plus : PySem.W.codeIn K cd_c_law_plus "_law_plus" = true)
    (k_c_law_plus : PySem.W.keepIn K (.ref f_c_law_plus) = true)
    (a_c_law_sum : PySem.W.nsIn K mainGlobals "_law_sum" = some (some (.ref f_c_law_sum)))
    (l_c_law_sum : K.lookup f_c_law_sum = some ⟨oc_c_law_sum, od_c_law_sum, .func (PySem.W.fnOf "_law_sum" "_law_sum" (C8.fnArgs s_law_sum) (C8.fnBody s_law_sum) (C8.fnScope s_law_sum) .none kV_c_law_sum dc_c_law_sum pm_c_law_sum an_c_law_sum cd_c_law_sum ct_c_law_sum), sl_c_law_sum⟩)
    (c_c_law_sum : PySem.W.codeIn K cd_c_law_sum "_law_sum" = true)
    (k_c_law_sum : PySem.W.keepIn K (.ref f_c_law_sum) = true)
    (a_c_law_lowest : PySem.W.nsIn K mainGlobals "_law_lowest" = some (some (.ref f_c_law_lowest)))
    (l_c_law_lowest : K.lookup f_c_law_lowest = some ⟨oc_c_law_lowest, od_c_law_lowest, .func (PySem.W.fnOf "_law_lowest" "_law_lowest" (C8.fnArgs s_law_lowest) (C8.fnBody s_law_lowest) (C8.fnScope s_law_lowest) .none kV_c_law_lowest dc_c_law_lowest pm_c_law_lowest an_c_law_lowest cd_c_law_lowest ct_c_law_lowest), sl_c_law_lowest⟩)
    (c_c_law_lowest : PySem.W.codeIn K cd_c_law_lowest "_law_lowest" = true)
    (k_c_law_lowest : PySem.W.keepIn K (.ref f_c_law_lowest) = true)
    (a_c_law_is_height : PySem.W.nsIn K mainGlobals "_law_is_height" = some (some (.ref f_c_law_is_height)))
    (l_c_law_is_height : K.lookup f_c_law_is_height = some ⟨oc_c_law_is_height, od_c_law_is_height, .func (PySem.W.fnOf "_law_is_height" "_law_is_height" (C8.fnArgs s_law_is_height) (C8.fnBody s_law_is_height) (C8.fnScope s_law_is_height) .none kV_c_law_is_height dc_c_law_is_height pm_c_law_is_height an_c_law_is_height cd_c_law_is_height ct_c_law_is_height), sl_c_law_is_height⟩)
    (c_c_law_is_height : PySem.W.codeIn K cd_c_law_is_height "_law_is_height" = true)
    (k_c_law_is_height : PySem.W.keepIn K (.ref f_c_law_is_height) = true)
    (a_c_law_are_sets : PySem.W.nsIn K mainGlobals "_law_are_sets" = some (some (.ref f_c_law_are_sets)))
    (l_c_law_are_sets : K.lookup f_c_law_are_sets = some ⟨oc_c_law_are_sets, od_c_law_are_sets, .func (PySem.W.fnOf "_law_are_sets" "_law_are_sets" (C8.fnArgs s_law_are_sets) (C8.fnBody s_law_are_sets) (C8.fnScope s_law_are_sets) .none kV_c_law_are_sets dc_c_law_are_sets pm_c_law_are_sets an_c_law_are_sets cd_c_law_are_sets ct_c_law_are_sets), sl_c_law_are_sets⟩)
    (c_c_law_are_sets : PySem.W.codeIn K cd_c_law_are_sets "_law_are_sets" = true)
    (k_c_law_are_sets : PySem.W.keepIn K (.ref f_c_law_are_sets) = true)
    (a_c_law_are_paid : PySem.W.nsIn K mainGlobals "_law_are_paid" = some (some (.ref f_c_law_are_paid)))
    (l_c_law_are_paid : K.lookup f_c_law_are_paid = some ⟨oc_c_law_are_paid, od_c_law_are_paid, .func (PySem.W.fnOf "_law_are_paid" "_law_are_paid" (C8.fnArgs s_law_are_paid) (C8.fnBody s_law_are_paid) (C8.fnScope s_law_are_paid) .none kV_c_law_are_paid dc_c_law_are_paid pm_c_law_are_paid an_c_law_are_paid cd_c_law_are_paid ct_c_law_are_paid), sl_c_law_are_paid⟩)
    (c_c_law_are_paid : PySem.W.codeIn K cd_c_law_are_paid "_law_are_paid" = true)
    (k_c_law_are_paid : PySem.W.keepIn K (.ref f_c_law_are_paid) = true)
    (a_c_law_reach : PySem.W.nsIn K mainGlobals "_law_reach" = some (some (.ref f_c_law_reach)))
    (l_c_law_reach : K.lookup f_c_law_reach = some ⟨oc_c_law_reach, od_c_law_reach, .func (PySem.W.fnOf "_law_reach" "_law_reach" (C8.fnArgs s_law_reach) (C8.fnBody s_law_reach) (C8.fnScope s_law_reach) .none kV_c_law_reach dc_c_law_reach pm_c_law_reach an_c_law_reach cd_c_law_reach ct_c_law_reach), sl_c_law_reach⟩)
    (c_c_law_reach : PySem.W.codeIn K cd_c_law_reach "_law_reach" = true)
    (k_c_law_reach : PySem.W.keepIn K (.ref f_c_law_reach) = true)
    (a_c_law_good : PySem.W.nsIn K mainGlobals "_law_good" = some (some (.ref f_c_law_good)))
    (l_c_law_good : K.lookup f_c_law_good = some ⟨oc_c_law_good, od_c_law_good, .func (PySem.W.fnOf "_law_good" "_law_good" (C8.fnArgs s_law_good) (C8.fnBody s_law_good) (C8.fnScope s_law_good) .none kV_c_law_good dc_c_law_good pm_c_law_good an_c_law_good cd_c_law_good ct_c_law_good), sl_c_law_good⟩)
    (c_c_law_good : PySem.W.codeIn K cd_c_law_good "_law_good" = true)
    (k_c_law_good : PySem.W.keepIn K (.ref f_c_law_good) = true)
    (a_c_law_cost : PySem.W.nsIn K mainGlobals "_law_cost" = some (some (.ref f_c_law_cost)))
    (l_c_law_cost : K.lookup f_c_law_cost = some ⟨oc_c_law_cost, od_c_law_cost, .func (PySem.W.fnOf "_law_cost" "_law_cost" (C8.fnArgs s_law_cost) (C8.fnBody s_law_cost) (C8.fnScope s_law_cost) .none kV_c_law_cost dc_c_law_cost pm_c_law_cost an_c_law_cost cd_c_law_cost ct_c_law_cost), sl_c_law_cost⟩)
    (c_c_law_cost : PySem.W.codeIn K cd_c_law_cost "_law_cost" = true)
    (k_c_law_cost : PySem.W.keepIn K (.ref f_c_law_cost) = true)
    (a_c_law_due : PySem.W.nsIn K mainGlobals "_law_due" = some (some (.ref f_c_law_due)))
    (l_c_law_due : K.lookup f_c_law_due = some ⟨oc_c_law_due, od_c_law_due, .func (PySem.W.fnOf "_law_due" "_law_due" (C8.fnArgs s_law_due) (C8.fnBody s_law_due) (C8.fnScope s_law_due) .none kV_c_law_due dc_c_law_due pm_c_law_due an_c_law_due cd_c_law_due ct_c_law_due), sl_c_law_due⟩)
    (c_c_law_due : PySem.W.codeIn K cd_c_law_due "_law_due" = true)
    (k_c_law_due : PySem.W.keepIn K (.ref f_c_law_due) = true)
    (a_m_group_of : PySem.W.findIn K (.ref CG) "group_of" = some (some (.ref f_m_group_of)))
    (i_m_group_of : PySem.W.isFn K (.ref f_m_group_of) = true)
    (l_m_group_of : K.lookup f_m_group_of = some ⟨oc_m_group_of, od_m_group_of, .func (PySem.W.fnOf "group_of" "Growth.group_of" (C8.fnArgs s_Growth_group_of) (C8.fnBody s_Growth_group_of) (C8.fnScope s_Growth_group_of) .none kV_m_group_of dc_m_group_of pm_m_group_of an_m_group_of cd_m_group_of ct_m_group_of), sl_m_group_of⟩)
    (c_m_group_of : PySem.W.codeIn K cd_m_group_of "Growth.group_of" = true)
    (k_m_group_of : PySem.W.keepIn K (.ref f_m_group_of) = true)
    (a_c_is_active : PySem.W.nsIn K mainGlobals "is_active" = some (some (.ref f_c_is_active)))
    (l_c_is_active : K.lookup f_c_is_active = some ⟨oc_c_is_active, od_c_is_active, .func (PySem.W.fnOf "is_active" "is_active" (C8.fnArgs s_is_active) (C8.fnBody s_is_active) (C8.fnScope s_is_active) .none kV_c_is_active dc_c_is_active pm_c_is_active an_c_is_active cd_c_is_active ct_c_is_active), sl_c_is_active⟩)
    (c_c_is_active : PySem.W.codeIn K cd_c_is_active "is_active" = true)
    (k_c_is_active : PySem.W.keepIn K (.ref f_c_is_active) = true)
    (a_k_Growth : PySem.W.findIn K (.ref CG) "__init__" = some (some (.ref f_k_Growth)))
    (i_k_Growth : PySem.W.isFn K (.ref f_k_Growth) = true)
    (l_k_Growth : K.lookup f_k_Growth = some ⟨oc_k_Growth, od_k_Growth, .func (PySem.W.fnOf "__init__" "Growth.__init__" (C8.fnArgs s_Growth___init__) (C8.fnBody s_Growth___init__) (C8.fnScope s_Growth___init__) .none kV_k_Growth dc_k_Growth pm_k_Growth an_k_Growth cd_k_Growth ct_k_Growth), sl_k_Growth⟩)
    (c_k_Growth : PySem.W.codeIn K cd_k_Growth "Growth.__init__" = true)
    (a_c_room_of : PySem.W.nsIn K mainGlobals "room_of" = some (some (.ref f_c_room_of)))
    (l_c_room_of : K.lookup f_c_room_of = some ⟨oc_c_room_of, od_c_room_of, .func (PySem.W.fnOf "room_of" "room_of" (C8.fnArgs s_room_of) (C8.fnBody s_room_of) (C8.fnScope s_room_of) .none kV_c_room_of dc_c_room_of pm_c_room_of an_c_room_of cd_c_room_of ct_c_room_of), sl_c_room_of⟩)
    (c_c_room_of : PySem.W.codeIn K cd_c_room_of "room_of" = true)
    (k_c_room_of : PySem.W.keepIn K (.ref f_c_room_of) = true)
    (a_m_next_edge : PySem.W.findIn K (.ref CG) "next_edge" = some (some (.ref f_m_next_edge)))
    (i_m_next_edge : PySem.W.isFn K (.ref f_m_next_edge) = true)
    (l_m_next_edge : K.lookup f_m_next_edge = some ⟨oc_m_next_edge, od_m_next_edge, .func (PySem.W.fnOf "next_edge" "Growth.next_edge" (C8.fnArgs s_Growth_next_edge) (C8.fnBody s_Growth_next_edge) (C8.fnScope s_Growth_next_edge) .none kV_m_next_edge dc_m_next_edge pm_m_next_edge an_m_next_edge cd_m_next_edge ct_m_next_edge), sl_m_next_edge⟩)
    (c_m_next_edge : PySem.W.codeIn K cd_m_next_edge "Growth.next_edge" = true)
    (k_m_next_edge : PySem.W.keepIn K (.ref f_m_next_edge) = true)
    (a_m_grow : PySem.W.findIn K (.ref CG) "grow" = some (some (.ref f_m_grow)))
    (i_m_grow : PySem.W.isFn K (.ref f_m_grow) = true)
    (l_m_grow : K.lookup f_m_grow = some ⟨oc_m_grow, od_m_grow, .func (PySem.W.fnOf "grow" "Growth.grow" (C8.fnArgs s_Growth_grow) (C8.fnBody s_Growth_grow) (C8.fnScope s_Growth_grow) .none kV_m_grow dc_m_grow pm_m_grow an_m_grow cd_m_grow ct_m_grow), sl_m_grow⟩)
    (c_m_grow : PySem.W.codeIn K cd_m_grow "Growth.grow" = true)
    (k_m_grow : PySem.W.keepIn K (.ref f_m_grow) = true)
    (a_m_join : PySem.W.findIn K (.ref CG) "join" = some (some (.ref f_m_join)))
    (i_m_join : PySem.W.isFn K (.ref f_m_join) = true)
    (l_m_join : K.lookup f_m_join = some ⟨oc_m_join, od_m_join, .func (PySem.W.fnOf "join" "Growth.join" (C8.fnArgs s_Growth_join) (C8.fnBody s_Growth_join) (C8.fnScope s_Growth_join) .none kV_m_join dc_m_join pm_m_join an_m_join cd_m_join ct_m_join), sl_m_join⟩)
    (c_m_join : PySem.W.codeIn K cd_m_join "Growth.join" = true)
    (k_m_join : PySem.W.keepIn K (.ref f_m_join) = true)
    (a_m_moats : PySem.W.findIn K (.ref CG) "moats" = some (some (.ref f_m_moats)))
    (i_m_moats : PySem.W.isFn K (.ref f_m_moats) = true)
    (l_m_moats : K.lookup f_m_moats = some ⟨oc_m_moats, od_m_moats, .func (PySem.W.fnOf "moats" "Growth.moats" (C8.fnArgs s_Growth_moats) (C8.fnBody s_Growth_moats) (C8.fnScope s_Growth_moats) .none kV_m_moats dc_m_moats pm_m_moats an_m_moats cd_m_moats ct_m_moats), sl_m_moats⟩)
    (c_m_moats : PySem.W.codeIn K cd_m_moats "Growth.moats" = true)
    (k_m_moats : PySem.W.keepIn K (.ref f_m_moats) = true)
    (a_c_grown : PySem.W.nsIn K mainGlobals "grown" = some (some (.ref f_c_grown)))
    (l_c_grown : K.lookup f_c_grown = some ⟨oc_c_grown, od_c_grown, .func (PySem.W.fnOf "grown" "grown" (C8.fnArgs s_grown) (C8.fnBody s_grown) (C8.fnScope s_grown) .none kV_c_grown dc_c_grown pm_c_grown an_c_grown cd_c_grown ct_c_grown), sl_c_grown⟩)
    (c_c_grown : PySem.W.codeIn K cd_c_grown "grown" = true)
    (k_c_grown : PySem.W.keepIn K (.ref f_c_grown) = true)
    (a_c_hanging : PySem.W.nsIn K mainGlobals "hanging" = some (some (.ref f_c_hanging)))
    (l_c_hanging : K.lookup f_c_hanging = some ⟨oc_c_hanging, od_c_hanging, .func (PySem.W.fnOf "hanging" "hanging" (C8.fnArgs s_hanging) (C8.fnBody s_hanging) (C8.fnScope s_hanging) .none kV_c_hanging dc_c_hanging pm_c_hanging an_c_hanging cd_c_hanging ct_c_hanging), sl_c_hanging⟩)
    (c_c_hanging : PySem.W.codeIn K cd_c_hanging "hanging" = true)
    (k_c_hanging : PySem.W.keepIn K (.ref f_c_hanging) = true)
    (a_c_quick_choice : PySem.W.nsIn K mainGlobals "quick_choice" = some (some (.ref f_c_quick_choice)))
    (l_c_quick_choice : K.lookup f_c_quick_choice = some ⟨oc_c_quick_choice, od_c_quick_choice, .func (PySem.W.fnOf "quick_choice" "quick_choice" (C8.fnArgs s_quick_choice) (C8.fnBody s_quick_choice) (C8.fnScope s_quick_choice) .none kV_c_quick_choice dc_c_quick_choice pm_c_quick_choice an_c_quick_choice cd_c_quick_choice ct_c_quick_choice), sl_c_quick_choice⟩)
    (c_c_quick_choice : PySem.W.codeIn K cd_c_quick_choice "quick_choice" = true)
    (k_c_quick_choice : PySem.W.keepIn K (.ref f_c_quick_choice) = true)
    (a_c_law_numbers : PySem.W.nsIn K mainGlobals "_law_numbers" = some (some (.ref f_c_law_numbers)))
    (l_c_law_numbers : K.lookup f_c_law_numbers = some ⟨oc_c_law_numbers, od_c_law_numbers, .func (PySem.W.fnOf "_law_numbers" "_law_numbers" (C8.fnArgs s_law_numbers) (C8.fnBody s_law_numbers) (C8.fnScope s_law_numbers) .none kV_c_law_numbers dc_c_law_numbers pm_c_law_numbers an_c_law_numbers cd_c_law_numbers ct_c_law_numbers), sl_c_law_numbers⟩)
    (c_c_law_numbers : PySem.W.codeIn K cd_c_law_numbers "_law_numbers" = true)
    (k_c_law_numbers : PySem.W.keepIn K (.ref f_c_law_numbers) = true)
    (a_c_law_edges : PySem.W.nsIn K mainGlobals "_law_edges" = some (some (.ref f_c_law_edges)))
    (l_c_law_edges : K.lookup f_c_law_edges = some ⟨oc_c_law_edges, od_c_law_edges, .func (PySem.W.fnOf "_law_edges" "_law_edges" (C8.fnArgs s_law_edges) (C8.fnBody s_law_edges) (C8.fnScope s_law_edges) .none kV_c_law_edges dc_c_law_edges pm_c_law_edges an_c_law_edges cd_c_law_edges ct_c_law_edges), sl_c_law_edges⟩)
    (c_c_law_edges : PySem.W.codeIn K cd_c_law_edges "_law_edges" = true)
    (k_c_law_edges : PySem.W.keepIn K (.ref f_c_law_edges) = true)
    (a_c_law_prizes : PySem.W.nsIn K mainGlobals "_law_prizes" = some (some (.ref f_c_law_prizes)))
    (l_c_law_prizes : K.lookup f_c_law_prizes = some ⟨oc_c_law_prizes, od_c_law_prizes, .func (PySem.W.fnOf "_law_prizes" "_law_prizes" (C8.fnArgs s_law_prizes) (C8.fnBody s_law_prizes) (C8.fnScope s_law_prizes) .none kV_c_law_prizes dc_c_law_prizes pm_c_law_prizes an_c_law_prizes cd_c_law_prizes ct_c_law_prizes), sl_c_law_prizes⟩)
    (c_c_law_prizes : PySem.W.codeIn K cd_c_law_prizes "_law_prizes" = true)
    (k_c_law_prizes : PySem.W.keepIn K (.ref f_c_law_prizes) = true)
    (a_c_law_choices : PySem.W.nsIn K mainGlobals "_law_choices" = some (some (.ref f_c_law_choices)))
    (l_c_law_choices : K.lookup f_c_law_choices = some ⟨oc_c_law_choices, od_c_law_choices, .func (PySem.W.fnOf "_law_choices" "_law_choices" (C8.fnArgs s_law_choices) (C8.fnBody s_law_choices) (C8.fnScope s_law_choices) .none kV_c_law_choices dc_c_law_choices pm_c_law_choices an_c_law_choices cd_c_law_choices ct_c_law_choices), sl_c_law_choices⟩)
    (c_c_law_choices : PySem.W.codeIn K cd_c_law_choices "_law_choices" = true)
    (k_c_law_choices : PySem.W.keepIn K (.ref f_c_law_choices) = true)
    (a_c_law_changed : PySem.W.nsIn K mainGlobals "_law_changed" = some (some (.ref f_c_law_changed)))
    (l_c_law_changed : K.lookup f_c_law_changed = some ⟨oc_c_law_changed, od_c_law_changed, .func (PySem.W.fnOf "_law_changed" "_law_changed" (C8.fnArgs s_law_changed) (C8.fnBody s_law_changed) (C8.fnScope s_law_changed) .none kV_c_law_changed dc_c_law_changed pm_c_law_changed an_c_law_changed cd_c_law_changed ct_c_law_changed), sl_c_law_changed⟩)
    (c_c_law_changed : PySem.W.codeIn K cd_c_law_changed "_law_changed" = true)
    (k_c_law_changed : PySem.W.keepIn K (.ref f_c_law_changed) = true)
    (a_law : PySem.W.nsIn K mainGlobals "law" = some (some (.ref f_law)))
    (l_law : K.lookup f_law = some ⟨oc_law, od_law, .func (PySem.W.fnOf "law" "law" (C8.fnArgs s_law) (C8.fnBody s_law) (C8.fnScope s_law) .none kV_law dc_law pm_law an_law cd_law ct_law), sl_law⟩)
    (c_law : PySem.W.codeIn K cd_law "law" = true)
    (k_law : PySem.W.keepIn K (.ref f_law) = true) :
    ∃ fd, C8.Fun K "law" "law" s_law fa fd ∧ (∀ (s : Shared) (u : Value), BindsTo s fd ⟨[u], []⟩ [("_law_script", u)]) ∧ ∀ base, K.In base → base.Ns mainGlobals mg → LawBody P w K mg base ["_law_script", "_law_numbers_here", "_law_size", "_law_edges_here", "_law_root", "_law_prizes_here", "_law_network", "_law_kept", "_law_told", "_law_least", "_law_most", "_law_group", "_law_height", "_law_one", "_law_turn", "_law_before", "_law_answer", "_law_again"] "law" s_law fa := by
  have z := hfa.symm.trans (PySem.W.mg_of X G a_law)
  cases z
  have nn : ∀ {x : Str}, PySem.W.nsIn K mainGlobals x = some none → mg x = none := fun e => PySem.W.mg_none_of X G e
  have un : (1606938044258990275541962092341162602522202993782792835301376 : Int) = UN := by show _ = Gw.UN; unfold Gw.UN; decide +kernel
  have T : Txt K mg CN CG := {
    len := nn z_len
    range := nn z_range
    list := nn z_list
    tuple := nn z_tuple
    int := nn z_int
    bool := nn z_bool
    abs := nn z_abs
    sum := nn z_sum
    min := nn z_min
    max := nn z_max
    all := nn z_all
    any := nn z_any
    sorted := nn z_sorted
    repr := nn z_repr
    isinstance := nn z_isinstance
    UNIT := un ▸ loose_int V (.tail _ (.head _))
    MOST_PRICE := loose_int V (.head _)
    MOST_VERTICES := const_int X G mv
    MOST_EDGES := const_int X G me
    clN := cls_mk pgCN hdCN poCN saCN
    nSize := nCN_size
    nEdges := nCN_edges
    clG := cls_mk pgCG hdCG poCG saCG
    gEdges := nCGedges
    gGroups := nCGgroups
    gDepths := nCGdepths
    gHeights := nCGheights
    gChosen := nCGchosen }
  have Fl : C8.Fun K "law" "law" s_law fa _ := ⟨_, _, .none, _, _, _, _, _, _, _, rfl, l_law, c_law⟩
  refine ⟨_, Fl, fun s u => .of_eq (hb_law _ _ _ _ _ _ [u] rfl), fun base _ _ => ?_⟩
  exact law_all T (def_mk hb_c_common_divisor X G a_c_common_divisor l_c_common_divisor c_c_common_divisor k_c_common_divisor) (def_mk hb_c_lowest X G a_c_lowest l_c_lowest c_c_lowest k_c_lowest) (def_mk hb_c_is_fraction X G a_c_is_fraction l_c_is_fraction c_c_is_fraction k_c_is_fraction) (def_mk hb_c_sum_of X G a_c_sum_of l_c_sum_of c_c_sum_of k_c_sum_of) (def_mk hb_c_at_most X G a_c_at_most l_c_at_most c_c_at_most k_c_at_most) (def_mk hb_c_check_edge X G a_c_check_edge l_c_check_edge c_c_check_edge k_c_check_edge) (met_mk hb_m_size a_m_size i_m_size l_m_size c_m_size k_m_size) (met_mk hb_m_edges a_m_edges i_m_edges l_m_edges c_m_edges k_m_edges) (met_mk hb_m_check_vertex a_m_check_vertex i_m_check_vertex l_m_check_vertex c_m_check_vertex k_m_check_vertex) (mak_mk hb_k_Network X G gCN mkCN kcCN a_k_Network l_k_Network c_k_Network i_k_Network) (def_mk hb_c_is_ascending X G a_c_is_ascending l_c_is_ascending c_c_is_ascending k_c_is_ascending) (def_mk hb_c_price_of X G a_c_price_of l_c_price_of c_c_price_of k_c_price_of) (def_mk hb_c_check_prizes X G a_c_check_prizes l_c_check_prizes c_c_check_prizes k_c_check_prizes) (def_mk hb_c_check_choice_list X G a_c_check_choice_list l_c_check_choice_list c_c_check_choice_list k_c_check_choice_list) (def_mk hb_c_reached X G a_c_reached l_c_reached c_c_reached k_c_reached) (def_mk hb_c_cost X G a_c_cost l_c_cost c_c_cost k_c_cost) (def_mk hb_c_is_part X G a_c_is_part l_c_is_part c_c_is_part k_c_is_part) (def_mk hb_c_total X G a_c_total l_c_total c_c_total k_c_total) (def_mk hb_c_are_sets X G a_c_are_sets l_c_are_sets c_c_are_sets k_c_are_sets) (def_mk hb_c_are_paid X G a_c_are_paid l_c_are_paid c_c_are_paid k_c_are_paid) (def_mk hb_c_are_nested X G a_c_are_nested l_c_are_nested c_c_are_nested k_c_are_nested) (def_mk hb_c_are_good_for_prizes X G a_c_are_good_for_prizes l_c_are_good_for_prizes c_c_are_good_for_prizes k_c_are_good_for_prizes) (def_mk hb_c_check_quick_choice X G a_c_check_quick_choice l_c_check_quick_choice c_c_check_quick_choice k_c_check_quick_choice) (def_mk hb_c_law_plus X G a_c_law_plus l_c_law_plus c_c_law_plus k_c_law_plus) (def_mk hb_c_law_sum X G a_c_law_sum l_c_law_sum c_c_law_sum k_c_law_sum) (def_mk hb_c_law_lowest X G a_c_law_lowest l_c_law_lowest c_c_law_lowest k_c_law_lowest) (def_mk hb_c_law_is_height X G a_c_law_is_height l_c_law_is_height c_c_law_is_height k_c_law_is_height) (def_mk hb_c_law_are_sets X G a_c_law_are_sets l_c_law_are_sets c_c_law_are_sets k_c_law_are_sets) (def_mk hb_c_law_are_paid X G a_c_law_are_paid l_c_law_are_paid c_c_law_are_paid k_c_law_are_paid) (def_mk hb_c_law_reach X G a_c_law_reach l_c_law_reach c_c_law_reach k_c_law_reach) (def_mk hb_c_law_good X G a_c_law_good l_c_law_good c_c_law_good k_c_law_good) (def_mk hb_c_law_cost X G a_c_law_cost l_c_law_cost c_c_law_cost k_c_law_cost) (def_mk hb_c_law_due X G a_c_law_due l_c_law_due c_c_law_due k_c_law_due) (met_mk hb_m_group_of a_m_group_of i_m_group_of l_m_group_of c_m_group_of k_m_group_of) (def_mk hb_c_is_active X G a_c_is_active l_c_is_active c_c_is_active k_c_is_active) (mak_mk hb_k_Growth X G gCG mkCG kcCG a_k_Growth l_k_Growth c_k_Growth i_k_Growth) (def_mk hb_c_room_of X G a_c_room_of l_c_room_of c_c_room_of k_c_room_of) (met_mk hb_m_next_edge a_m_next_edge i_m_next_edge l_m_next_edge c_m_next_edge k_m_next_edge) (met_mk hb_m_grow a_m_grow i_m_grow l_m_grow c_m_grow k_m_grow) (met_mk hb_m_join a_m_join i_m_join l_m_join c_m_join k_m_join) (met_mk hb_m_moats a_m_moats i_m_moats l_m_moats c_m_moats k_m_moats) (def_mk hb_c_grown X G a_c_grown l_c_grown c_c_grown k_c_grown) (def_mk hb_c_hanging X G a_c_hanging l_c_hanging c_c_hanging k_c_hanging) (def_mk hb_c_quick_choice X G a_c_quick_choice l_c_quick_choice c_c_quick_choice k_c_quick_choice) (def_mk hb_c_law_numbers X G a_c_law_numbers l_c_law_numbers c_c_law_numbers k_c_law_numbers) (def_mk hb_c_law_edges X G a_c_law_edges l_c_law_edges c_c_law_edges k_c_law_edges) (def_mk hb_c_law_prizes X G a_c_law_prizes l_c_law_prizes c_c_law_prizes k_c_law_prizes) (def_mk hb_c_law_choices X G a_c_law_choices l_c_law_choices c_c_law_choices k_c_law_choices) (def_mk hb_c_law_changed X G a_c_law_changed l_c_law_changed c_c_law_changed k_c_law_changed)
end K5

open PySem PySem.W PyProof.Rows in
set_option maxRecDepth 100000 in
set_option maxHeartbeats 0 in
theorem PySem.Challenge.cw_trunkweb_k52_whole_quick_choices_holds : PySem.Challenge.rw_trunkweb_k52_whole_quick_choices.Holds := by
  w_on; o_law; k_head; (case hw => w_witness2)
  k_fill
  refine K5.walk_here (l := PySem.Challenge.rw_trunkweb_k52_whole_quick_choices) rfl rfl (fun w h Y => PySem.W.kIn_of Y) ?F
  case F =>
    intro w mg fa h KX G V hmg
    refine' K5.final KX G V hmg ?gCN ?mkCN ?kcCN ?pgCN ?hdCN ?poCN ?saCN ?gCG ?mkCG ?kcCG ?pgCG ?hdCG ?poCG ?saCG ?nCN_size ?nCN_edges ?nCGedges ?nCGgroups ?nCGdepths ?nCGheights ?nCGchosen ?z_len ?z_range ?z_list ?z_tuple ?z_int ?z_bool ?z_abs ?z_sum ?z_min ?z_max ?z_all ?z_any ?z_sorted ?z_repr ?z_isinstance ?mv ?me ?a_c_common_divisor ?l_c_common_divisor ?c_c_common_divisor ?k_c_common_divisor ?a_c_lowest ?l_c_lowest ?c_c_lowest ?k_c_lowest ?a_c_is_fraction ?l_c_is_fraction ?c_c_is_fraction ?k_c_is_fraction ?a_c_sum_of ?l_c_sum_of ?c_c_sum_of ?k_c_sum_of ?a_c_at_most ?l_c_at_most ?c_c_at_most ?k_c_at_most ?a_c_check_edge ?l_c_check_edge ?c_c_check_edge ?k_c_check_edge ?a_m_size ?i_m_size ?l_m_size ?c_m_size ?k_m_size ?a_m_edges ?i_m_edges ?l_m_edges ?c_m_edges ?k_m_edges ?a_m_check_vertex ?i_m_check_vertex ?l_m_check_vertex ?c_m_check_vertex ?k_m_check_vertex ?a_k_Network ?i_k_Network ?l_k_Network ?c_k_Network ?a_c_is_ascending ?l_c_is_ascending ?c_c_is_ascending ?k_c_is_ascending ?a_c_price_of ?l_c_price_of ?c_c_price_of ?k_c_price_of ?a_c_check_prizes ?l_c_check_prizes ?c_c_check_prizes ?k_c_check_prizes ?a_c_check_choice_list ?l_c_check_choice_list ?c_c_check_choice_list ?k_c_check_choice_list ?a_c_reached ?l_c_reached ?c_c_reached ?k_c_reached ?a_c_cost ?l_c_cost ?c_c_cost ?k_c_cost ?a_c_is_part ?l_c_is_part ?c_c_is_part ?k_c_is_part ?a_c_total ?l_c_total ?c_c_total ?k_c_total ?a_c_are_sets ?l_c_are_sets ?c_c_are_sets ?k_c_are_sets ?a_c_are_paid ?l_c_are_paid ?c_c_are_paid ?k_c_are_paid ?a_c_are_nested ?l_c_are_nested ?c_c_are_nested ?k_c_are_nested ?a_c_are_good_for_prizes ?l_c_are_good_for_prizes ?c_c_are_good_for_prizes ?k_c_are_good_for_prizes ?a_c_check_quick_choice ?l_c_check_quick_choice ?c_c_check_quick_choice ?k_c_check_quick_choice ?a_c_law_plus ?l_c_law_plus ?c_c_law_plus ?k_c_law_plus ?a_c_law_sum ?l_c_law_sum ?c_c_law_sum ?k_c_law_sum ?a_c_law_lowest ?l_c_law_lowest ?c_c_law_lowest ?k_c_law_lowest ?a_c_law_is_height ?l_c_law_is_height ?c_c_law_is_height ?k_c_law_is_height ?a_c_law_are_sets ?l_c_law_are_sets ?c_c_law_are_sets ?k_c_law_are_sets ?a_c_law_are_paid ?l_c_law_are_paid ?c_c_law_are_paid ?k_c_law_are_paid ?a_c_law_reach ?l_c_law_reach ?c_c_law_reach ?k_c_law_reach ?a_c_law_good ?l_c_law_good ?c_c_law_good ?k_c_law_good ?a_c_law_cost ?l_c_law_cost ?c_c_law_cost ?k_c_law_cost ?a_c_law_due ?l_c_law_due ?c_c_law_due ?k_c_law_due ?a_m_group_of ?i_m_group_of ?l_m_group_of ?c_m_group_of ?k_m_group_of ?a_c_is_active ?l_c_is_active ?c_c_is_active ?k_c_is_active ?a_k_Growth ?i_k_Growth ?l_k_Growth ?c_k_Growth ?a_c_room_of ?l_c_room_of ?c_c_room_of ?k_c_room_of ?a_m_next_edge ?i_m_next_edge ?l_m_next_edge ?c_m_next_edge ?k_m_next_edge ?a_m_grow ?i_m_grow ?l_m_grow ?c_m_grow ?k_m_grow ?a_m_join ?i_m_join ?l_m_join ?c_m_join ?k_m_join ?a_m_moats ?i_m_moats ?l_m_moats ?c_m_moats ?k_m_moats ?a_c_grown ?l_c_grown ?c_c_grown ?k_c_grown ?a_c_hanging ?l_c_hanging ?c_c_hanging ?k_c_hanging ?a_c_quick_choice ?l_c_quick_choice ?c_c_quick_choice ?k_c_quick_choice ?a_c_law_numbers ?l_c_law_numbers ?c_c_law_numbers ?k_c_law_numbers ?a_c_law_edges ?l_c_law_edges ?c_c_law_edges ?k_c_law_edges ?a_c_law_prizes ?l_c_law_prizes ?c_c_law_prizes ?k_c_law_prizes ?a_c_law_choices ?l_c_law_choices ?c_c_law_choices ?k_c_law_choices ?a_c_law_changed ?l_c_law_changed ?c_c_law_changed ?k_c_law_changed ?a_law ?l_law ?c_law ?k_law
    (case gCN => k_is)
    (case mkCN => k_is)
    (case kcCN => k_is)
    (case pgCN => k_is)
    (case hdCN => k_is)
    (case poCN => k_is)
    (case saCN => k_is)
    (case gCG => k_is)
    (case mkCG => k_is)
    (case kcCG => k_is)
    (case pgCG => k_is)
    (case hdCG => k_is)
    (case poCG => k_is)
    (case saCG => k_is)
    (case nCN_size => k_is)
    (case nCN_edges => k_is)
    (case nCGedges => k_is)
    (case nCGgroups => k_is)
    (case nCGdepths => k_is)
    (case nCGheights => k_is)
    (case nCGchosen => k_is)
    (case z_len => k_is)
    (case z_range => k_is)
    (case z_list => k_is)
    (case z_tuple => k_is)
    (case z_int => k_is)
    (case z_bool => k_is)
    (case z_abs => k_is)
    (case z_sum => k_is)
    (case z_min => k_is)
    (case z_max => k_is)
    (case z_all => k_is)
    (case z_any => k_is)
    (case z_sorted => k_is)
    (case z_repr => k_is)
    (case z_isinstance => k_is)
    (case mv => k_is)
    (case me => k_is)
    (case a_c_common_divisor => k_is)
    (case l_c_common_divisor => k_is)
    (case c_c_common_divisor => k_is)
    (case k_c_common_divisor => k_is)
    (case a_c_lowest => k_is)
    (case l_c_lowest => k_is)
    (case c_c_lowest => k_is)
    (case k_c_lowest => k_is)
    (case a_c_is_fraction => k_is)
    (case l_c_is_fraction => k_is)
    (case c_c_is_fraction => k_is)
    (case k_c_is_fraction => k_is)
    (case a_c_sum_of => k_is)
    (case l_c_sum_of => k_is)
    (case c_c_sum_of => k_is)
    (case k_c_sum_of => k_is)
    (case a_c_at_most => k_is)
    (case l_c_at_most => k_is)
    (case c_c_at_most => k_is)
    (case k_c_at_most => k_is)
    (case a_c_check_edge => k_is)
    (case l_c_check_edge => k_is)
    (case c_c_check_edge => k_is)
    (case k_c_check_edge => k_is)
    (case a_m_size => k_is)
    (case i_m_size => k_is)
    (case l_m_size => k_is)
    (case c_m_size => k_is)
    (case k_m_size => k_is)
    (case a_m_edges => k_is)
    (case i_m_edges => k_is)
    (case l_m_edges => k_is)
    (case c_m_edges => k_is)
    (case k_m_edges => k_is)
    (case a_m_check_vertex => k_is)
    (case i_m_check_vertex => k_is)
    (case l_m_check_vertex => k_is)
    (case c_m_check_vertex => k_is)
    (case k_m_check_vertex => k_is)
    (case a_k_Network => k_is)
    (case i_k_Network => k_is)
    (case l_k_Network => k_is)
    (case c_k_Network => k_is)
    (case a_c_is_ascending => k_is)
    (case l_c_is_ascending => k_is)
    (case c_c_is_ascending => k_is)
    (case k_c_is_ascending => k_is)
    (case a_c_price_of => k_is)
    (case l_c_price_of => k_is)
    (case c_c_price_of => k_is)
    (case k_c_price_of => k_is)
    (case a_c_check_prizes => k_is)
    (case l_c_check_prizes => k_is)
    (case c_c_check_prizes => k_is)
    (case k_c_check_prizes => k_is)
    (case a_c_check_choice_list => k_is)
    (case l_c_check_choice_list => k_is)
    (case c_c_check_choice_list => k_is)
    (case k_c_check_choice_list => k_is)
    (case a_c_reached => k_is)
    (case l_c_reached => k_is)
    (case c_c_reached => k_is)
    (case k_c_reached => k_is)
    (case a_c_cost => k_is)
    (case l_c_cost => k_is)
    (case c_c_cost => k_is)
    (case k_c_cost => k_is)
    (case a_c_is_part => k_is)
    (case l_c_is_part => k_is)
    (case c_c_is_part => k_is)
    (case k_c_is_part => k_is)
    (case a_c_total => k_is)
    (case l_c_total => k_is)
    (case c_c_total => k_is)
    (case k_c_total => k_is)
    (case a_c_are_sets => k_is)
    (case l_c_are_sets => k_is)
    (case c_c_are_sets => k_is)
    (case k_c_are_sets => k_is)
    (case a_c_are_paid => k_is)
    (case l_c_are_paid => k_is)
    (case c_c_are_paid => k_is)
    (case k_c_are_paid => k_is)
    (case a_c_are_nested => k_is)
    (case l_c_are_nested => k_is)
    (case c_c_are_nested => k_is)
    (case k_c_are_nested => k_is)
    (case a_c_are_good_for_prizes => k_is)
    (case l_c_are_good_for_prizes => k_is)
    (case c_c_are_good_for_prizes => k_is)
    (case k_c_are_good_for_prizes => k_is)
    (case a_c_check_quick_choice => k_is)
    (case l_c_check_quick_choice => k_is)
    (case c_c_check_quick_choice => k_is)
    (case k_c_check_quick_choice => k_is)
    (case a_c_law_plus => k_is)
    (case l_c_law_plus => k_is)
    (case c_c_law_plus => k_is)
    (case k_c_law_plus => k_is)
    (case a_c_law_sum => k_is)
    (case l_c_law_sum => k_is)
    (case c_c_law_sum => k_is)
    (case k_c_law_sum => k_is)
    (case a_c_law_lowest => k_is)
    (case l_c_law_lowest => k_is)
    (case c_c_law_lowest => k_is)
    (case k_c_law_lowest => k_is)
    (case a_c_law_is_height => k_is)
    (case l_c_law_is_height => k_is)
    (case c_c_law_is_height => k_is)
    (case k_c_law_is_height => k_is)
    (case a_c_law_are_sets => k_is)
    (case l_c_law_are_sets => k_is)
    (case c_c_law_are_sets => k_is)
    (case k_c_law_are_sets => k_is)
    (case a_c_law_are_paid => k_is)
    (case l_c_law_are_paid => k_is)
    (case c_c_law_are_paid => k_is)
    (case k_c_law_are_paid => k_is)
    (case a_c_law_reach => k_is)
    (case l_c_law_reach => k_is)
    (case c_c_law_reach => k_is)
    (case k_c_law_reach => k_is)
    (case a_c_law_good => k_is)
    (case l_c_law_good => k_is)
    (case c_c_law_good => k_is)
    (case k_c_law_good => k_is)
    (case a_c_law_cost => k_is)
    (case l_c_law_cost => k_is)
    (case c_c_law_cost => k_is)
    (case k_c_law_cost => k_is)
    (case a_c_law_due => k_is)
    (case l_c_law_due => k_is)
    (case c_c_law_due => k_is)
    (case k_c_law_due => k_is)
    (case a_m_group_of => k_is)
    (case i_m_group_of => k_is)
    (case l_m_group_of => k_is)
    (case c_m_group_of => k_is)
    (case k_m_group_of => k_is)
    (case a_c_is_active => k_is)
    (case l_c_is_active => k_is)
    (case c_c_is_active => k_is)
    (case k_c_is_active => k_is)
    (case a_k_Growth => k_is)
    (case i_k_Growth => k_is)
    (case l_k_Growth => k_is)
    (case c_k_Growth => k_is)
    (case a_c_room_of => k_is)
    (case l_c_room_of => k_is)
    (case c_c_room_of => k_is)
    (case k_c_room_of => k_is)
    (case a_m_next_edge => k_is)
    (case i_m_next_edge => k_is)
    (case l_m_next_edge => k_is)
    (case c_m_next_edge => k_is)
    (case k_m_next_edge => k_is)
    (case a_m_grow => k_is)
    (case i_m_grow => k_is)
    (case l_m_grow => k_is)
    (case c_m_grow => k_is)
    (case k_m_grow => k_is)
    (case a_m_join => k_is)
    (case i_m_join => k_is)
    (case l_m_join => k_is)
    (case c_m_join => k_is)
    (case k_m_join => k_is)
    (case a_m_moats => k_is)
    (case i_m_moats => k_is)
    (case l_m_moats => k_is)
    (case c_m_moats => k_is)
    (case k_m_moats => k_is)
    (case a_c_grown => k_is)
    (case l_c_grown => k_is)
    (case c_c_grown => k_is)
    (case k_c_grown => k_is)
    (case a_c_hanging => k_is)
    (case l_c_hanging => k_is)
    (case c_c_hanging => k_is)
    (case k_c_hanging => k_is)
    (case a_c_quick_choice => k_is)
    (case l_c_quick_choice => k_is)
    (case c_c_quick_choice => k_is)
    (case k_c_quick_choice => k_is)
    (case a_c_law_numbers => k_is)
    (case l_c_law_numbers => k_is)
    (case c_c_law_numbers => k_is)
    (case k_c_law_numbers => k_is)
    (case a_c_law_edges => k_is)
    (case l_c_law_edges => k_is)
    (case c_c_law_edges => k_is)
    (case k_c_law_edges => k_is)
    (case a_c_law_prizes => k_is)
    (case l_c_law_prizes => k_is)
    (case c_c_law_prizes => k_is)
    (case k_c_law_prizes => k_is)
    (case a_c_law_choices => k_is)
    (case l_c_law_choices => k_is)
    (case c_c_law_choices => k_is)
    (case k_c_law_choices => k_is)
    (case a_c_law_changed => k_is)
    (case l_c_law_changed => k_is)
    (case c_c_law_changed => k_is)
    (case k_c_law_changed => k_is)
    (case a_law => k_is)
    (case l_law => k_is)
    (case c_law => k_is)
    (case k_law => k_is)
