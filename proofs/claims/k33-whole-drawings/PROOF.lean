import PyProof.Rows.All
import Wide.All
import OpenK.AllK
import Wide.FinOn
import HandS.ForMost
import HandS.Defaults
import KE.KStateDown
import Lean
import HandS.More
import HandS.WordsExc
import HandS.Head0
import HandS.Head1
import HandS.Head2
import HandS.HeadEnd
import HandS.HeadHook1
import HandS.HeadHook2
import HandS.SortInts
import HandS.Deep
import HandS.Style
import KE.SortData
import KE.DataMinMax
import HandS.Evl
import PySem.Challenge.RW_besidesay_k33_whole_drawings
set_option Elab.async false
set_option linter.all false
set_option maxRecDepth 100000
set_option maxHeartbeats 4000000

-- part WdMath
namespace Wd
set_option autoImplicit false

/-! ## 1. A function walked along a list, and its cycles -/
def path {α : Type} (f : α → α) : α → List α → α → Prop
  | x, [], z => f x = z
  | x, y :: r, z => f x = y ∧ path f y r z
def Cyc {α : Type} (f : α → α) : List α → Prop
  | [] => False
  | x :: r => path f x r x

section
variable {α : Type} {f g h : α → α}
theorem path_app {y z : α} {s : List α} : ∀ {r : List α} {x : α}, path f x (r ++ y :: s) z ↔ path f x r y ∧ path f y s z
  | [], x => by simp [path]
  | w :: r, x => by
    show (f x = w ∧ path f w (r ++ y :: s) z) ↔ (f x = w ∧ path f w r y) ∧ path f y s z
    rw [path_app (r := r), and_assoc]
theorem cyc_rot {s t : List α} {x : α} (c : Cyc f (s ++ x :: t)) : Cyc f (x :: t ++ s) := by
  cases s with
  | nil => simpa using c
  | cons y s =>
    have c' : path f y (s ++ x :: t) y := c
    rw [path_app] at c'
    show path f x (t ++ y :: s) x
    rw [path_app]
    exact ⟨c'.2, c'.1⟩
theorem path_to {k : α → α} {z : α} : ∀ {r : List α} {x : α}, (∀ p, p ∈ x :: r → g p = k (f p)) → (∀ y, y ∈ r → k y = y) → path f x r z → path g x r (k z)
  | [], x, hk, hr, p => by
    have e : f x = z := p
    show g x = k z
    rw [hk x List.mem_cons_self, e]
  | y :: r, x, hk, hr, p => by
    obtain ⟨e, q⟩ := p
    refine ⟨?_, path_to (fun u hu => hk u (List.mem_cons_of_mem _ hu)) (fun u hu => hr u (List.mem_cons_of_mem _ hu)) q⟩
    rw [hk x List.mem_cons_self, e, hr y List.mem_cons_self]
theorem path_congr {z : α} {r : List α} {x : α} (hk : ∀ p, p ∈ x :: r → g p = f p) (p : path f x r z) : path g x r z :=
  path_to (k := id) hk (fun _ _ => rfl) p
theorem path_last {z : α} : ∀ {r : List α} {x : α}, path f x r z → ∃ l, l ∈ x :: r ∧ f l = z
  | [], x, p => ⟨x, List.mem_cons_self, p⟩
  | y :: r, x, p => by
    obtain ⟨l, hl, e⟩ := path_last p.2
    exact ⟨l, List.mem_cons_of_mem _ hl, e⟩
theorem path_unique {z : α} : ∀ {r s : List α} {x : α}, path f x r z → path f x s z → z ∉ r → z ∉ s → r = s
  | [], [], _, _, _, _, _ => rfl
  | [], y :: s, x, p, q, _, h2 => by
    have e : f x = z := p
    exact absurd (show z ∈ y :: s by rw [← e, q.1]; exact List.mem_cons_self) h2
  | y :: r, [], x, p, q, h1, _ => by
    have e : f x = z := q
    exact absurd (show z ∈ y :: r by rw [← e, p.1]; exact List.mem_cons_self) h1
  | y :: r, w :: s, x, p, q, h1, h2 => by
    have e : y = w := p.1.symm.trans q.1
    subst e
    rw [path_unique p.2 q.2 (fun m => h1 (List.mem_cons_of_mem _ m)) (fun m => h2 (List.mem_cons_of_mem _ m))]
theorem path_inv {z : α} : ∀ {r : List α} {x : α}, path g x r z → path h z r.reverse x → ∀ u, u ∈ x :: r → h (g u) = u
  | [], x, p, q, u, hu => by
    have e1 : g x = z := p
    have e2 : h z = x := q
    have e3 : u = x := by simpa using hu
    rw [e3, e1, e2]
  | y :: r, x, p, q, u, hu => by
    have q' : path h z (r.reverse ++ y :: []) x := by simpa using q
    rw [path_app] at q'
    obtain ⟨q1, q2⟩ := q'
    have e2 : h y = x := q2
    rcases List.mem_cons.mp hu with e | m
    · rw [e, p.1, e2]
    · exact path_inv p.2 q1 u m
theorem path_rev {z : α} : ∀ {r : List α} {x : α}, path g x r z → (∀ u, u ∈ x :: r → h (g u) = u) → path h z r.reverse x
  | [], x, p, q => by
    have e1 : g x = z := p
    show h z = x
    rw [← e1]
    exact q x List.mem_cons_self
  | y :: r, x, p, q => by
    rw [List.reverse_cons, path_app]
    refine ⟨path_rev p.2 fun u hu => q u (List.mem_cons_of_mem _ hu), ?_⟩
    show h y = x
    rw [← p.1]
    exact q x List.mem_cons_self
theorem path_map {β : Type} (m : α → β) (k : β → β) {z : α} : ∀ {r : List α} {x : α}, path f x r z → (∀ u, u ∈ x :: r → k (m u) = m (f u)) → path k (m x) (r.map m) (m z)
  | [], x, p, q => by
    have e1 : f x = z := p
    show k (m x) = m z
    rw [q x List.mem_cons_self, e1]
  | y :: r, x, p, q => by
    refine ⟨?_, path_map m k p.2 fun u hu => q u (List.mem_cons_of_mem _ hu)⟩
    rw [q x List.mem_cons_self, p.1]
theorem path_eq {z : α} : ∀ {r : List α} {x : α}, path g x r z → path h x r z → ∀ u, u ∈ x :: r → h u = g u
  | [], x, p, q, u, hu => by
    have e1 : g x = z := p
    have e2 : h x = z := q
    have e3 : u = x := by simpa using hu
    rw [e3, e1, e2]
  | y :: r, x, p, q, u, hu => by
    rcases List.mem_cons.mp hu with e | m
    · rw [e, p.1, q.1]
    · exact path_eq p.2 q.2 u m
theorem path_other [DecidableEq α] {z w : α} : ∀ {r : List α} {x : α}, path g x r z → path h x r w → z ∉ r → ∀ u, u ∈ x :: r → h u = if g u = z then w else g u
  | [], x, p, q, hz, u, hu => by
    have e1 : g x = z := p
    have e2 : h x = w := q
    have e3 : u = x := by simpa using hu
    rw [e3, if_pos e1, e2]
  | y :: r, x, p, q, hz, u, hu => by
    rcases List.mem_cons.mp hu with e | m
    · have ne : ¬ g u = z := fun q' => hz (by rw [← q', e, p.1]; exact List.mem_cons_self)
      rw [if_neg ne, e, p.1, q.1]
    · exact path_other p.2 q.2 (fun m' => hz (List.mem_cons_of_mem _ m')) u m
theorem cyc_ne {c : List α} (k : Cyc f c) : c ≠ [] := by
  rintro rfl
  exact k
theorem cyc_congr {c : List α} (hk : ∀ p, p ∈ c → g p = f p) (k : Cyc f c) : Cyc g c := by
  cases c with
  | nil => exact k
  | cons x r => exact path_congr hk k
theorem cyc_eq {c : List α} (k : Cyc g c) (l : Cyc h c) : ∀ u, u ∈ c → h u = g u := by
  cases c with
  | nil => exact absurd k id
  | cons x r => exact path_eq k l
/-- a cycle is closed under f -/
theorem path_in {z : α} : ∀ {r : List α} {x : α}, path f x r z → ∀ u, u ∈ x :: r → f u = z ∨ f u ∈ r
  | [], x, p, u, hu => by
    have e1 : f x = z := p
    have e3 : u = x := by simpa using hu
    rw [e3]
    exact .inl e1
  | y :: r, x, p, u, hu => by
    rcases List.mem_cons.mp hu with e | m
    · rw [e, p.1]
      exact .inr List.mem_cons_self
    · rcases path_in p.2 u m with e | e
      · exact .inl e
      · exact .inr (List.mem_cons_of_mem _ e)
theorem cyc_in {c : List α} (k : Cyc f c) {u : α} (hu : u ∈ c) : f u ∈ c := by
  cases c with
  | nil => exact absurd k id
  | cons x r =>
    rcases path_in k u hu with e | e
    · rw [e]
      exact List.mem_cons_self
    · exact List.mem_cons_of_mem _ e
/-- two cycles with a place in common are one but for where they begin -/
theorem cyc_meet {c d : List α} {x : α} (kc : Cyc f c) (kd : Cyc f d) (nc : c.Nodup) (nd : d.Nodup) (hc : x ∈ c) (hd : x ∈ d) :
    ∃ r s1 t1 s2 t2, c = s1 ++ x :: t1 ∧ d = s2 ++ x :: t2 ∧ t1 ++ s1 = r ∧ t2 ++ s2 = r := by
  obtain ⟨s1, t1, rfl⟩ := List.append_of_mem hc
  obtain ⟨s2, t2, rfl⟩ := List.append_of_mem hd
  have k1 : path f x (t1 ++ s1) x := cyc_rot kc
  have k2 : path f x (t2 ++ s2) x := cyc_rot kd
  have n1 : x ∉ t1 ++ s1 := by
    rw [List.nodup_append] at nc
    obtain ⟨_, n2, n3⟩ := nc
    rw [List.mem_append, not_or]
    exact ⟨(List.nodup_cons.mp n2).1, fun m => n3 x m x List.mem_cons_self rfl⟩
  have n2 : x ∉ t2 ++ s2 := by
    rw [List.nodup_append] at nd
    obtain ⟨_, n2, n3⟩ := nd
    rw [List.mem_append, not_or]
    exact ⟨(List.nodup_cons.mp n2).1, fun m => n3 x m x List.mem_cons_self rfl⟩
  exact ⟨t1 ++ s1, s1, t1, s2, t2, rfl, rfl, rfl, (path_unique k1 k2 n1 n2).symm⟩
theorem cyc_meet_mem {c d : List α} {x : α} (kc : Cyc f c) (kd : Cyc f d) (nc : c.Nodup) (nd : d.Nodup) (hc : x ∈ c) (hd : x ∈ d) (u : α) : u ∈ c ↔ u ∈ d := by
  obtain ⟨r, s1, t1, s2, t2, rfl, rfl, e1, e2⟩ := cyc_meet kc kd nc nd hc hd
  have a : u ∈ s1 ++ x :: t1 ↔ u = x ∨ u ∈ r := by rw [← e1]; simp only [List.mem_append, List.mem_cons]; constructor <;> intro h <;> rcases h with h | h | h <;> simp [h]
  have b : u ∈ s2 ++ x :: t2 ↔ u = x ∨ u ∈ r := by rw [← e2]; simp only [List.mem_append, List.mem_cons]; constructor <;> intro h <;> rcases h with h | h | h <;> simp [h]
  rw [a, b]
theorem cyc_meet_head {x : α} {r s : List α} (kc : Cyc f (x :: r)) (kd : Cyc f (x :: s)) (nc : (x :: r).Nodup) (nd : (x :: s).Nodup) : r = s :=
  path_unique (f := f) kc kd (List.nodup_cons.mp nc).1 (List.nodup_cons.mp nd).1
end

/-! ## 2. The next one round a list -/
def succ (l : List Int) (a : Int) : Int := l.getD ((l.idxOf a + 1) % l.length) 0
theorem succ_path : ∀ (r pre : List Int) (x : Int), (pre ++ x :: r).Nodup → path (succ (pre ++ x :: r)) x r ((pre ++ x :: r).headD 0)
  | [], pre, x, n => by
    have nx : x ∉ pre := fun m => (List.nodup_append.mp n).2.2 x m x List.mem_cons_self rfl
    show (pre ++ [x]).getD (((pre ++ [x]).idxOf x + 1) % (pre ++ [x]).length) 0 = (pre ++ [x]).headD 0
    rw [List.idxOf_append, if_neg nx, List.idxOf_cons_self, List.length_append, List.length_singleton]
    have e : (0 + pre.length + 1) % (pre.length + 1) = 0 := by rw [Nat.zero_add, Nat.mod_self]
    rw [e]
    cases pre <;> rfl
  | y :: r, pre, x, n => by
    have nx : x ∉ pre := fun m => (List.nodup_append.mp n).2.2 x m x List.mem_cons_self rfl
    refine ⟨?_, ?_⟩
    · show (pre ++ x :: y :: r).getD (((pre ++ x :: y :: r).idxOf x + 1) % (pre ++ x :: y :: r).length) 0 = y
      rw [List.idxOf_append, if_neg nx, List.idxOf_cons_self, List.length_append, List.length_cons, List.length_cons]
      have e : (0 + pre.length + 1) % (pre.length + (r.length + 1 + 1)) = pre.length + 1 := by
        rw [Nat.zero_add, Nat.mod_eq_of_lt (by omega)]
      rw [e, List.getD_eq_getElem?_getD, List.getElem?_append_right (by omega)]
      have e2 : pre.length + 1 - pre.length = 1 := by omega
      rw [e2]
      rfl
    · have e : pre ++ x :: y :: r = (pre ++ [x]) ++ y :: r := by simp
      have q := succ_path r (pre ++ [x]) y (by rw [← e]; exact n)
      rw [← e] at q
      exact q
theorem succ_cyc {l : List Int} (n : l.Nodup) (h : l ≠ []) : Cyc (succ l) l := by
  cases l with
  | nil => exact absurd rfl h
  | cons x r => exact succ_path r [] x n
theorem succ_mem {l : List Int} (n : l.Nodup) {a : Int} (h : a ∈ l) : succ l a ∈ l := cyc_in (succ_cyc n (List.ne_nil_of_mem h)) h
/-- a list turned round has the same next ones -/
theorem succ_rot {s t : List Int} {x : Int} (n : (s ++ x :: t).Nodup) : ∀ u, u ∈ s ++ x :: t → succ (s ++ x :: t) u = succ (x :: t ++ s) u := by
  have p : (s ++ x :: t).Perm (x :: t ++ s) := List.perm_append_comm
  have n2 : (x :: t ++ s).Nodup := p.nodup_iff.mp n
  intro u hu
  exact cyc_eq (succ_cyc n2 (by simp)) (cyc_rot (succ_cyc n (by simp))) u (p.mem_iff.mp hu)
theorem nd_rev {α : Type} {l : List α} : l.reverse.Nodup ↔ l.Nodup := (List.reverse_perm l).nodup_iff
theorem succ_rev {l : List Int} (n : l.Nodup) {u : Int} (h : u ∈ l) : succ l.reverse (succ l u) = u := by
  cases l with
  | nil => simp at h
  | cons x r =>
    have k1 : path (succ (x :: r)) x r x := succ_cyc n (by simp)
    have n2 : (r.reverse ++ x :: []).Nodup := by
      rw [← List.reverse_cons]
      exact nd_rev.mpr n
    have k2 : Cyc (succ (x :: r).reverse) (r.reverse ++ x :: []) := by
      rw [List.reverse_cons]
      exact succ_cyc n2 (by simp)
    have k3 : path (succ (x :: r).reverse) x (([] : List Int) ++ r.reverse) x := cyc_rot k2
    exact path_inv k1 k3 u h
theorem succ_rev' {l : List Int} (n : l.Nodup) {u : Int} (h : u ∈ l) : succ l (succ l.reverse u) = u := by
  have q := succ_rev (l := l.reverse) (nd_rev.mpr n) (u := u) (List.mem_reverse.mpr h)
  rw [List.reverse_reverse] at q
  exact q
theorem succ_inj {l : List Int} (n : l.Nodup) {u v : Int} (hu : u ∈ l) (hv : v ∈ l) (e : succ l u = succ l v) : u = v := by
  rw [← succ_rev n hu, ← succ_rev n hv, e]

/-- put in at a place -/
def ins (i : Nat) (b : Int) (l : List Int) : List Int := l.take i ++ b :: l.drop i
theorem ins_perm (i : Nat) (b : Int) (l : List Int) : (ins i b l).Perm (b :: l) := by
  unfold ins
  have e : b :: l = b :: (l.take i ++ l.drop i) := by rw [List.take_append_drop]
  rw [e]
  exact List.perm_middle
theorem ins_mem {i : Nat} {b : Int} {l : List Int} {u : Int} : u ∈ ins i b l ↔ u = b ∨ u ∈ l := by rw [(ins_perm i b l).mem_iff, List.mem_cons]
theorem ins_nodup {i : Nat} {b : Int} {l : List Int} (n : l.Nodup) (h : b ∉ l) : (ins i b l).Nodup := (ins_perm i b l).nodup_iff.mpr (List.nodup_cons.mpr ⟨h, n⟩)
theorem ins_length (i : Nat) (b : Int) (l : List Int) : (ins i b l).length = l.length + 1 := (ins_perm i b l).length_eq
/-- b put in right ahead of x (x at place i, or the first one where i is the length) -/
theorem ins_succ {i : Nat} {b x : Int} {l : List Int} (n : l.Nodup) (h : b ∉ l) (hx : l[i]? = some x ∨ (l.length ≤ i ∧ l.head? = some x)) :
    x ∈ l ∧ succ (ins i b l) b = x ∧ ∀ u, u ∈ l → succ (ins i b l) u = if succ l u = x then b else succ l u := by
  -- in both cases l is s ++ x :: t and the other list turned is x :: t ++ s ++ [b]
  obtain ⟨s, t, el, hsw⟩ : ∃ s t, l = s ++ x :: t ∧ ((ins i b l = s ++ b :: x :: t) ∨ (s = [] ∧ ins i b l = x :: t ++ [b])) := by
    rcases hx with hx | ⟨hi, hx⟩
    · obtain ⟨hl, e⟩ := List.getElem?_eq_some_iff.mp hx
      refine ⟨l.take i, l.drop (i + 1), ?_, .inl ?_⟩
      · rw [← e, ← List.drop_eq_getElem_cons hl, List.take_append_drop]
      · unfold ins
        rw [List.drop_eq_getElem_cons hl, e]
    · cases l with
      | nil => simp at hx
      | cons y r =>
        have e : y = x := by simpa using hx
        subst e
        refine ⟨[], r, rfl, .inr ⟨rfl, ?_⟩⟩
        unfold ins
        rw [List.take_of_length_le hi, List.drop_of_length_le hi]
  have n' := ins_nodup (i := i) n h
  have hxl : x ∈ l := by rw [el]; simp
  have kl : Cyc (succ l) (x :: t ++ s) := by
    have q := succ_cyc n (List.ne_nil_of_mem hxl)
    have q' : Cyc (succ l) (s ++ x :: t) := by rw [← el]; exact q
    exact cyc_rot q'
  have k2 : path (succ (ins i b l)) x ((t ++ s) ++ b :: []) x := by
    rcases hsw with e | ⟨e1, e2⟩
    · have q : Cyc (succ (ins i b l)) ((s ++ [b]) ++ x :: t) := by
        have q0 := succ_cyc n' (by rw [e]; simp)
        have e3 : ins i b l = (s ++ [b]) ++ x :: t := by rw [e]; simp
        rw [← e3]
        exact q0
      have q2 := cyc_rot q
      have e4 : x :: t ++ (s ++ [b]) = x :: ((t ++ s) ++ b :: []) := by simp
      rw [e4] at q2
      exact q2
    · have q0 := succ_cyc n' (by rw [e2]; simp)
      have e3 : ins i b l = x :: ((t ++ s) ++ b :: []) := by rw [e2, e1]; simp
      have q1 : Cyc (succ (ins i b l)) (x :: ((t ++ s) ++ b :: [])) := by rw [← e3]; exact q0
      exact q1
  rw [path_app] at k2
  obtain ⟨k3, k4⟩ := k2
  have nx : x ∉ t ++ s := by
    have p : (s ++ x :: t).Perm (x :: t ++ s) := List.perm_append_comm
    have n2 : (x :: (t ++ s)).Nodup := p.nodup_iff.mp (el ▸ n)
    exact (List.nodup_cons.mp n2).1
  refine ⟨hxl, k4, fun u hu => path_other kl k3 nx u ?_⟩
  rw [el] at hu
  have p : (s ++ x :: t).Perm (x :: t ++ s) := List.perm_append_comm
  exact p.mem_iff.mp hu

/-! ## 3. A set of places cut into cycles -/
structure Decomp {α : Type} (P : α → Prop) (f : α → α) (L : List (List α)) : Prop where
  nd : L.flatten.Nodup
  mem : ∀ p, p ∈ L.flatten ↔ P p
  cyc : ∀ c, c ∈ L → Cyc f c
section
variable {α : Type} {f g : α → α} {P : α → Prop} {L M : List (List α)}
theorem nd_part : ∀ {L : List (List α)}, L.flatten.Nodup → ∀ c, c ∈ L → c.Nodup
  | [], _, c, h => by simp at h
  | d :: L, n, c, h => by
    rw [List.flatten_cons, List.nodup_append] at n
    rcases List.mem_cons.mp h with e | m
    · rw [e]
      exact n.1
    · exact nd_part n.2.1 c m
theorem nd_one : ∀ {L : List (List α)}, L.flatten.Nodup → ∀ c d, c ∈ L → d ∈ L → ∀ x, x ∈ c → x ∈ d → c = d
  | [], _, c, d, h, _, _, _, _ => by simp at h
  | b :: L, n, c, d, hc, hd, x, xc, xd => by
    rw [List.flatten_cons, List.nodup_append] at n
    rcases List.mem_cons.mp hc with e | m
    · rcases List.mem_cons.mp hd with e' | m'
      · rw [e, e']
      · rw [e] at xc
        exact absurd rfl (n.2.2 x xc x (List.mem_flatten.mpr ⟨d, m', xd⟩))
    · rcases List.mem_cons.mp hd with e' | m'
      · rw [e'] at xd
        exact absurd rfl (n.2.2 x xd x (List.mem_flatten.mpr ⟨c, m, xc⟩))
      · exact nd_one n.2.1 c d m m' x xc xd
/-- parts that share nothing and are not empty differ -/
theorem nd_parts : ∀ {L : List (List α)}, L.flatten.Nodup → (∀ c, c ∈ L → c ≠ []) → L.Nodup
  | [], _, _ => List.nodup_nil
  | b :: L, n, h => by
    rw [List.flatten_cons, List.nodup_append] at n
    refine List.nodup_cons.mpr ⟨fun m => ?_, nd_parts n.2.1 fun c hc => h c (List.mem_cons_of_mem _ hc)⟩
    obtain ⟨x, hx⟩ := List.exists_mem_of_ne_nil _ (h b List.mem_cons_self)
    exact n.2.2 x hx x (List.mem_flatten.mpr ⟨b, m, hx⟩) rfl
theorem Decomp.in_ (d : Decomp P f L) {p : α} (h : P p) : ∃ c, c ∈ L ∧ p ∈ c := List.mem_flatten.mp ((d.mem p).mpr h)
theorem Decomp.of (d : Decomp P f L) {c : List α} {p : α} (hc : c ∈ L) (hp : p ∈ c) : P p := (d.mem p).mp (List.mem_flatten.mpr ⟨c, hc, hp⟩)
theorem Decomp.perm (d : Decomp P f L) (p : M.Perm L) : Decomp P f M where
  nd := p.flatten.nodup_iff.mpr d.nd
  mem := fun x => by rw [p.flatten.mem_iff, d.mem]
  cyc := fun c hc => d.cyc c (p.mem_iff.mp hc)
/-- a place is brought to the front -/
theorem front : ∀ {L : List (List α)} {x : α}, (∀ c, c ∈ L → Cyc f c) → x ∈ L.flatten →
    ∃ (c r : List α) (L1 : List (List α)), c ∈ L ∧ x ∈ c ∧ (∀ y, y ∈ c ↔ y ∈ x :: r) ∧ path f x r x ∧ (x :: r ++ L1.flatten).Perm L.flatten ∧ L1.length + 1 = L.length ∧ (∀ d, d ∈ L1 → Cyc f d)
  | L, x, k, h => by
    obtain ⟨c, hc, hx⟩ := List.mem_flatten.mp h
    obtain ⟨s, t, e⟩ := List.append_of_mem hx
    obtain ⟨A, B, eL⟩ := List.append_of_mem hc
    have p1 : (x :: (t ++ s)).Perm c := by
      rw [e]
      exact (List.perm_append_comm (l₁ := s) (l₂ := x :: t)).symm
    refine ⟨c, t ++ s, A ++ B, hc, hx, fun y => p1.mem_iff.symm, ?_, ?_, ?_, fun d hd => k d ?_⟩
    · exact cyc_rot (f := f) (e ▸ k c hc)
    · rw [eL]
      have q : (A ++ c :: B).Perm (c :: (A ++ B)) := List.perm_middle
      refine List.Perm.trans ?_ q.flatten.symm
      rw [List.flatten_cons]
      exact p1.append_right _
    · rw [eL]
      simp only [List.length_append, List.length_cons]
      omega
    · rw [eL]
      rcases List.mem_append.mp hd with m | m
      · exact List.mem_append_left _ m
      · exact List.mem_append_right _ (List.mem_cons_of_mem _ m)
end

/-! ## 4. Pairs in their order; the told faces -/
abbrev Pr := Int × Int
def plt (p q : Pr) : Prop := p.1 < q.1 ∨ (p.1 = q.1 ∧ p.2 < q.2)
def ple (p q : Pr) : Prop := p.1 < q.1 ∨ (p.1 = q.1 ∧ p.2 ≤ q.2)
instance (p q : Pr) : Decidable (plt p q) := inferInstanceAs (Decidable (_ ∨ _))
instance (p q : Pr) : Decidable (ple p q) := inferInstanceAs (Decidable (_ ∨ _))
theorem pr_ext {p q : Pr} (h1 : p.1 = q.1) (h2 : p.2 = q.2) : p = q := Prod.ext h1 h2
theorem ple_antisymm {p q : Pr} (h1 : ple p q) (h2 : ple q p) : p = q := by
  unfold ple at h1 h2
  exact pr_ext (by omega) (by omega)
theorem ple_trans {p q r : Pr} (h1 : ple p q) (h2 : ple q r) : ple p r := by
  unfold ple at *
  omega
theorem plt_trans {p q r : Pr} (h1 : plt p q) (h2 : plt q r) : plt p r := by
  unfold plt at *
  omega
theorem plt_irrefl {p : Pr} (h : plt p p) : False := by
  unfold plt at h
  omega
theorem plt_ple {p q : Pr} (h : plt p q) : ple p q := by
  unfold plt at h
  unfold ple
  omega
theorem ple_refl (p : Pr) : ple p p := by
  unfold ple
  omega
theorem ple_total (p q : Pr) : ple p q ∨ ple q p := by
  unfold ple
  omega
theorem plt_of {p q : Pr} (h : ple p q) (n : p ≠ q) : plt p q := by
  unfold ple at h
  unfold plt
  rcases h with h | ⟨h1, h2⟩
  · exact .inl h
  · refine .inr ⟨h1, ?_⟩
    have n2 : p.2 ≠ q.2 := fun e => n (pr_ext h1 e)
    omega
theorem not_plt {p q : Pr} : ¬ plt p q ↔ ple q p := by
  unfold plt ple
  omega
def hd (c : List Pr) : Pr := c.headD (0, 0)
theorem hd_mem {c : List Pr} (h : c ≠ []) : hd c ∈ c := by
  cases c with
  | nil => exact absurd rfl h
  | cons x r => exact List.mem_cons_self
/-- least at the front -/
def Least (c : List Pr) : Prop := ∀ y, y ∈ c → ple (hd c) y
structure IsFaces (P : Pr → Prop) (f : Pr → Pr) (L : List (List Pr)) : Prop where
  dec : Decomp P f L
  least : ∀ c, c ∈ L → Least c
  rise : (L.map hd).Pairwise plt
section
variable {P : Pr → Prop} {f : Pr → Pr} {L M : List (List Pr)}
/-- each cycle with its least one at the front is among the faces -/
theorem IsFaces.has (F : IsFaces P f L) {c : List Pr} (k : Cyc f c) (n : c.Nodup) (l : Least c) (hp : ∀ p, p ∈ c → P p) : c ∈ L := by
  have ne := cyc_ne k
  obtain ⟨d, hd1, hd2⟩ := F.dec.in_ (hp _ (hd_mem ne))
  have kd := F.dec.cyc d hd1
  have nd := nd_part F.dec.nd d hd1
  have mm := cyc_meet_mem k kd n nd (hd_mem ne) hd2
  have e : hd d = hd c := ple_antisymm (F.least d hd1 _ hd2) (l _ ((mm _).mpr (hd_mem (cyc_ne kd))))
  cases c with
  | nil => exact absurd rfl ne
  | cons x r =>
    cases d with
    | nil => exact absurd rfl (cyc_ne kd)
    | cons y s =>
      have e2 : y = x := e
      subst e2
      rw [cyc_meet_head k kd n nd]
      exact hd1
theorem rise_inj : ∀ {L : List (List Pr)}, (L.map hd).Pairwise plt → L.Pairwise (fun c d => plt (hd c) (hd d)) := fun h => List.pairwise_map.mp h
theorem IsFaces.unique (F : IsFaces P f L) (G : IsFaces P f M) : L = M := by
  have a : ∀ {L M : List (List Pr)}, IsFaces P f L → IsFaces P f M → ∀ c, c ∈ L → c ∈ M := fun F G c hc =>
    G.has (F.dec.cyc c hc) (nd_part F.dec.nd c hc) (F.least c hc) fun p hp => F.dec.of hc hp
  have pm : L.Perm M := (List.perm_ext_iff_of_nodup (nd_parts F.dec.nd fun c hc => cyc_ne (F.dec.cyc c hc)) (nd_parts G.dec.nd fun c hc => cyc_ne (G.dec.cyc c hc))).mpr fun c => ⟨a F G c, a G F c⟩
  exact List.Perm.eq_of_pairwise (le := fun c d => plt (hd c) (hd d)) (fun c d _ _ h1 h2 => (plt_irrefl (plt_trans h1 h2)).elim) (rise_inj F.rise) (rise_inj G.rise) pm

/-! ### turned to its least one -/
theorem least_in : ∀ {c : List Pr}, c ≠ [] → ∃ x, x ∈ c ∧ ∀ y, y ∈ c → ple x y
  | [], h => absurd rfl h
  | [x], _ => ⟨x, List.mem_cons_self, fun y hy => by rw [List.mem_singleton.mp hy]; exact ple_refl x⟩
  | x :: y :: r, _ => by
    obtain ⟨z, hz, h⟩ := least_in (c := y :: r) (by simp)
    rcases ple_total x z with q | q
    · refine ⟨x, List.mem_cons_self, fun w hw => ?_⟩
      rcases List.mem_cons.mp hw with e | m
      · rw [e]
        exact ple_refl x
      · exact ple_trans q (h w m)
    · refine ⟨z, List.mem_cons_of_mem _ hz, fun w hw => ?_⟩
      rcases List.mem_cons.mp hw with e | m
      · rw [e]
        exact q
      · exact h w m
theorem turn_least {c : List Pr} (k : Cyc f c) : ∃ d, Cyc f d ∧ d.Perm c ∧ Least d := by
  obtain ⟨x, hx, h⟩ := least_in (cyc_ne k)
  obtain ⟨s, t, rfl⟩ := List.append_of_mem hx
  have p : (x :: t ++ s).Perm (s ++ x :: t) := List.perm_append_comm
  exact ⟨x :: t ++ s, cyc_rot k, p, fun y hy => h y (p.mem_iff.mp hy)⟩
theorem turn_all : ∀ {L : List (List Pr)}, (∀ c, c ∈ L → Cyc f c) → ∃ M : List (List Pr), M.length = L.length ∧ M.flatten.Perm L.flatten ∧ (∀ c, c ∈ M → Cyc f c) ∧ ∀ c, c ∈ M → Least c
  | [], _ => ⟨[], rfl, List.Perm.refl _, fun c h => by simp at h, fun c h => by simp at h⟩
  | c :: L, k => by
    obtain ⟨d, d1, d2, d3⟩ := turn_least (k c List.mem_cons_self)
    obtain ⟨M, m1, m2, m3, m4⟩ := turn_all (L := L) fun c hc => k c (List.mem_cons_of_mem _ hc)
    refine ⟨d :: M, by rw [List.length_cons, List.length_cons, m1], ?_, fun e he => ?_, fun e he => ?_⟩
    · rw [List.flatten_cons, List.flatten_cons]
      exact d2.append m2
    · rcases List.mem_cons.mp he with q | q
      · rw [q]
        exact d1
      · exact m3 e q
    · rcases List.mem_cons.mp he with q | q
      · rw [q]
        exact d3
      · exact m4 e q
/-- in order by their heads, whatever the order is that sorts them -/
theorem faces_sorted (D : Decomp P f L) (hl : ∀ c, c ∈ L → Least c) (hs : L.Pairwise (fun c d => ple (hd c) (hd d))) : IsFaces P f L where
  dec := D
  least := hl
  rise := by
    have n : L.Nodup := nd_parts D.nd fun c hc => cyc_ne (D.cyc c hc)
    refine List.pairwise_map.mpr ?_
    have both : L.Pairwise (fun c d => ple (hd c) (hd d) ∧ c ≠ d) := hs.and n
    refine both.imp_of_mem fun {c d} hc hd' q => plt_of q.1 fun e => q.2 ?_
    exact nd_one D.nd c d hc hd' (hd c) (hd_mem (cyc_ne (D.cyc c hc))) (by rw [e]; exact hd_mem (cyc_ne (D.cyc d hd')))
def hle (c d : List Pr) : Bool := decide (ple (hd c) (hd d))
theorem exists_faces (D : Decomp P f L) : ∃ M, IsFaces P f M ∧ M.length = L.length := by
  obtain ⟨M, m1, m2, m3, m4⟩ := turn_all D.cyc
  have D2 : Decomp P f M := ⟨m2.nodup_iff.mpr D.nd, fun p => by rw [m2.mem_iff, D.mem], m3⟩
  have pm := List.mergeSort_perm M hle
  refine ⟨M.mergeSort hle, faces_sorted (D2.perm pm) (fun c hc => m4 c (pm.mem_iff.mp hc)) ?_, by rw [pm.length_eq, m1]⟩
  have q := List.pairwise_mergeSort (le := hle) (fun a b c h1 h2 => decide_eq_true (ple_trans (of_decide_eq_true h1) (of_decide_eq_true h2))) (fun a b => by
    rcases ple_total (hd a) (hd b) with h | h
    · rw [show hle a b = true from decide_eq_true h, Bool.true_or]
    · rw [show hle b a = true from decide_eq_true h, Bool.or_true]) M
  exact q.imp fun h => of_decide_eq_true h
/-- as many cycles, however they are told -/
theorem Decomp.same_length (D : Decomp P f L) (E : Decomp P f M) : L.length = M.length := by
  obtain ⟨A, a1, a2⟩ := exists_faces D
  obtain ⟨B, b1, b2⟩ := exists_faces E
  rw [← a2, ← b2, a1.unique b1]
end

/-! ## 5. A tie put in: two cycles become one, or one becomes two -/
section
variable {P P' : Pr → Prop} {f f' : Pr → Pr} {L : List (List Pr)} {one other ab ba : Pr}
structure Splice (P P' : Pr → Prop) (f f' : Pr → Pr) (one other ab ba : Pr) : Prop where
  p1 : P one
  p2 : P other
  ne : one ≠ other
  nab : ¬ P ab
  nba : ¬ P ba
  nn : ab ≠ ba
  mem : ∀ p, P' p ↔ p = ab ∨ p = ba ∨ P p
  old : ∀ p, P p → f' p = if f p = one then ab else if f p = other then ba else f p
  nab' : f' ab = other
  nba' : f' ba = one
def red (one other ab ba : Pr) (y : Pr) : Pr := if y = one then ab else if y = other then ba else y
theorem Splice.goes (S : Splice P P' f f' one other ab ba) {x z : Pr} {r : List Pr} (hp : ∀ p, p ∈ x :: r → P p) (h1 : one ∉ r) (h2 : other ∉ r) (k : path f x r z) : path f' x r (red one other ab ba z) :=
  path_to (k := red one other ab ba) (fun p hp' => S.old p (hp p hp')) (fun y hy => by
    unfold red
    rw [if_neg (fun e : y = one => h1 (e ▸ hy)), if_neg (fun e : y = other => h2 (e ▸ hy))]) k
theorem Splice.keeps (S : Splice P P' f f' one other ab ba) {c : List Pr} (hp : ∀ p, p ∈ c → P p) (h1 : one ∉ c) (h2 : other ∉ c) (k : Cyc f c) : Cyc f' c := by
  refine cyc_congr (fun p hp' => ?_) k
  have q := cyc_in k hp'
  rw [S.old p (hp p hp'), if_neg (fun e => h1 (by rw [← e]; exact q)), if_neg (fun e => h2 (by rw [← e]; exact q))]
theorem red1 : red one other ab ba one = ab := if_pos rfl
theorem red2 (h : one ≠ other) : red one other ab ba other = ba := by
  unfold red
  rw [if_neg (fun e => h e.symm), if_pos rfl]
/-- L with one at the front of its part -/
theorem Splice.split (S : Splice P P' f f' one other ab ba) (D : Decomp P f L) :
    ∃ L', Decomp P' f' L' ∧ ((∃ c, c ∈ L ∧ one ∈ c ∧ other ∈ c) → L'.length = L.length + 1) ∧ ((¬ ∃ c, c ∈ L ∧ one ∈ c ∧ other ∈ c) → L'.length + 1 = L.length) := by
  obtain ⟨c1, r1, L1, hc1, ho1, hm1, k1, pm1, ln1, kk1⟩ := front D.cyc ((D.mem one).mpr S.p1)
  have nd1 := pm1.nodup_iff.mpr D.nd
  have inP : ∀ p, p ∈ one :: r1 ++ L1.flatten → P p := fun p hp => (D.mem p).mp (pm1.mem_iff.mp hp)
  have hin : other ∈ one :: r1 ++ L1.flatten := pm1.mem_iff.mpr ((D.mem other).mpr S.p2)
  have noab : ab ∉ one :: r1 ++ L1.flatten := fun m => S.nab (inP _ m)
  have noba : ba ∉ one :: r1 ++ L1.flatten := fun m => S.nba (inP _ m)
  obtain ⟨n1, n2, n3⟩ := List.nodup_append.mp nd1
  have no1 : one ∉ r1 := (List.nodup_cons.mp n1).1
  have memP' : ∀ {M : List (List Pr)}, M.flatten.Perm (ab :: ba :: (one :: r1 ++ L1.flatten)) → M.flatten.Nodup ∧ ∀ p, p ∈ M.flatten ↔ P' p := fun {M} pm => by
    refine ⟨pm.nodup_iff.mpr ?_, fun p => ?_⟩
    · refine List.nodup_cons.mpr ⟨?_, List.nodup_cons.mpr ⟨noba, nd1⟩⟩
      rw [List.mem_cons, not_or]
      exact ⟨S.nn, noab⟩
    · rw [pm.mem_iff, S.mem, List.mem_cons, List.mem_cons, pm1.mem_iff, D.mem]
  rcases List.mem_append.mp hin with m | m
  · -- both in one cycle
    have mr : other ∈ r1 := (List.mem_cons.mp m).resolve_left fun e => S.ne e.symm
    obtain ⟨s, t, e⟩ := List.append_of_mem mr
    subst e
    rw [path_app] at k1
    obtain ⟨q1, q2⟩ := k1
    have nr : (s ++ other :: t).Nodup := (List.nodup_cons.mp n1).2
    obtain ⟨ns, nt, nst⟩ := List.nodup_append.mp nr
    have os : other ∉ s := fun h => nst other h other List.mem_cons_self rfl
    have ot : other ∉ t := (List.nodup_cons.mp nt).1
    have w1 : path f' one s ba := by
      have q := S.goes (fun p hp => inP p ?_) (fun h => no1 (List.mem_append_left _ h)) os q1
      · rw [red2 S.ne] at q
        exact q
      · rcases List.mem_cons.mp hp with e | h
        · rw [e]; simp
        · simp [h]
    have w2 : path f' other t ab := by
      have q := S.goes (fun p hp => inP p ?_) (fun h => no1 (List.mem_append_right _ (List.mem_cons_of_mem _ h))) ot q2
      · rw [red1] at q
        exact q
      · rcases List.mem_cons.mp hp with e | h
        · rw [e]; simp
        · simp [h]
    have pm : (((one :: s ++ [ba]) :: (other :: t ++ [ab]) :: L1).flatten).Perm (ab :: ba :: (one :: (s ++ other :: t) ++ L1.flatten)) := by
      rw [List.flatten_cons, List.flatten_cons]
      refine List.perm_iff_count.mpr fun x => ?_
      simp only [List.count_append, List.count_cons, List.count_nil]
      omega
    obtain ⟨a1, a2⟩ := memP' pm
    refine ⟨_, ⟨a1, a2, fun d hd' => ?_⟩, fun _ => ?_, fun h => absurd ⟨c1, hc1, ho1, (hm1 other).mpr m⟩ h⟩
    · rcases List.mem_cons.mp hd' with e | hd'
      · rw [e]
        exact path_app.mpr ⟨w1, S.nba'⟩
      · rcases List.mem_cons.mp hd' with e | hd'
        · rw [e]
          exact path_app.mpr ⟨w2, S.nab'⟩
        · have inn : ∀ p, p ∈ d → p ∈ L1.flatten := fun p hp => List.mem_flatten.mpr ⟨d, hd', hp⟩
          refine S.keeps (fun p hp => inP p (List.mem_append_right _ (inn p hp))) (fun h => n3 one List.mem_cons_self one (inn _ h) rfl) (fun h => n3 other m other (inn _ h) rfl) (kk1 d hd')
    · rw [List.length_cons, List.length_cons]
      omega
  · -- in two cycles
    obtain ⟨c2, r2, L2, hc2, ho2, hm2, k2, pm2, ln2, kk2⟩ := front kk1 m
    have nd2 := pm2.nodup_iff.mpr n2
    obtain ⟨m1, m2, m3⟩ := List.nodup_append.mp nd2
    have no2 : other ∉ r2 := (List.nodup_cons.mp m1).1
    have in1 : ∀ p, p ∈ other :: r2 → p ∈ L1.flatten := fun p hp => pm2.mem_iff.mp (List.mem_append_left _ hp)
    have in2 : ∀ p, p ∈ L2.flatten → p ∈ L1.flatten := fun p hp => pm2.mem_iff.mp (List.mem_append_right _ hp)
    have x1 : other ∉ one :: r1 := fun h => n3 other h other m rfl
    have x2 : one ∉ other :: r2 := fun h => n3 one List.mem_cons_self one (in1 _ h) rfl
    have w1 : path f' one r1 ab := by
      have q := S.goes (fun p hp => inP p (List.mem_append_left _ hp)) no1 (fun h => x1 (List.mem_cons_of_mem _ h)) k1
      rw [red1] at q
      exact q
    have w2 : path f' other r2 ba := by
      have q := S.goes (fun p hp => inP p (List.mem_append_right _ (in1 p hp))) (fun h => x2 (List.mem_cons_of_mem _ h)) no2 k2
      rw [red2 S.ne] at q
      exact q
    have pm : (((one :: r1 ++ ab :: (other :: r2 ++ [ba])) :: L2).flatten).Perm (ab :: ba :: (one :: r1 ++ L1.flatten)) := by
      rw [List.flatten_cons]
      have e : (ab :: ba :: (one :: r1 ++ (other :: r2 ++ L2.flatten))).Perm (ab :: ba :: (one :: r1 ++ L1.flatten)) := List.Perm.cons _ (List.Perm.cons _ (pm2.append_left _))
      refine List.Perm.trans ?_ e
      refine List.perm_iff_count.mpr fun x => ?_
      simp only [List.count_append, List.count_cons, List.count_nil]
      omega
    obtain ⟨a1, a2⟩ := memP' pm
    refine ⟨_, ⟨a1, a2, fun d hd' => ?_⟩, fun h => ?_, fun _ => ?_⟩
    · rcases List.mem_cons.mp hd' with e | hd'
      · rw [e]
        show path f' one (r1 ++ ab :: (other :: r2 ++ [ba])) one
        rw [path_app]
        refine ⟨w1, S.nab', ?_⟩
        show path f' other (r2 ++ ba :: []) one
        rw [path_app]
        exact ⟨w2, S.nba'⟩
      · have inn : ∀ p, p ∈ d → p ∈ L2.flatten := fun p hp => List.mem_flatten.mpr ⟨d, hd', hp⟩
        refine S.keeps (fun p hp => inP p (List.mem_append_right _ (in2 p (inn p hp)))) (fun h => n3 one List.mem_cons_self one (in2 _ (inn _ h)) rfl) (fun h => m3 other List.mem_cons_self other (inn _ h) rfl) (kk2 d hd')
    · obtain ⟨c, hc, h1, h2⟩ := h
      have e : c = c1 := nd_one D.nd c c1 hc hc1 one h1 ho1
      rw [e] at h2
      exact absurd ((hm1 other).mp h2) x1
    · rw [List.length_cons]
      omega
/-- a place with one tie alone is hung on: as many cycles -/
theorem leaf_cycles {uv vu : Pr} (D : Decomp P f L) (p1 : P one) (nab : ¬ P uv) (nba : ¬ P vu) (nn : uv ≠ vu) (mem : ∀ p, P' p ↔ p = uv ∨ p = vu ∨ P p) (old : ∀ p, P p → f' p = if f p = one then uv else f p) (g1 : f' uv = vu) (g2 : f' vu = one) :
    ∃ L', Decomp P' f' L' ∧ L'.length = L.length := by
  obtain ⟨c1, r1, L1, hc1, ho1, hm1, k1, pm1, ln1, kk1⟩ := front D.cyc ((D.mem one).mpr p1)
  have nd1 := pm1.nodup_iff.mpr D.nd
  have inP : ∀ p, p ∈ one :: r1 ++ L1.flatten → P p := fun p hp => (D.mem p).mp (pm1.mem_iff.mp hp)
  have noab : uv ∉ one :: r1 ++ L1.flatten := fun m => nab (inP _ m)
  have noba : vu ∉ one :: r1 ++ L1.flatten := fun m => nba (inP _ m)
  obtain ⟨n1, n2, n3⟩ := List.nodup_append.mp nd1
  have no1 : one ∉ r1 := (List.nodup_cons.mp n1).1
  have w1 : path f' one r1 uv := by
    have q := path_to (g := f') (k := fun y => if y = one then uv else y) (fun p hp => old p (inP p (List.mem_append_left _ hp))) (fun y hy => by
      show (if y = one then uv else y) = y
      rw [if_neg (fun e : y = one => no1 (e ▸ hy))]) k1
    have e : (if one = one then uv else one) = uv := if_pos rfl
    rw [e] at q
    exact q
  have pm : (((one :: r1 ++ uv :: [vu]) :: L1).flatten).Perm (uv :: vu :: (one :: r1 ++ L1.flatten)) := by
    rw [List.flatten_cons]
    refine List.perm_iff_count.mpr fun x => ?_
    simp only [List.count_append, List.count_cons, List.count_nil]
    omega
  refine ⟨_, ⟨pm.nodup_iff.mpr ?_, fun p => ?_, fun d hd' => ?_⟩, by rw [List.length_cons, ln1]⟩
  · refine List.nodup_cons.mpr ⟨?_, List.nodup_cons.mpr ⟨noba, nd1⟩⟩
    rw [List.mem_cons, not_or]
    exact ⟨nn, noab⟩
  · rw [pm.mem_iff, mem, List.mem_cons, List.mem_cons, pm1.mem_iff, D.mem]
  · rcases List.mem_cons.mp hd' with e | hd'
    · rw [e]
      show path f' one (r1 ++ uv :: [vu]) one
      rw [path_app]
      exact ⟨w1, g1, g2⟩
    · have inn : ∀ p, p ∈ d → p ∈ L1.flatten := fun p hp => List.mem_flatten.mpr ⟨d, hd', hp⟩
      refine cyc_congr (fun p hp => ?_) (kk1 d hd')
      rw [old p (inP p (List.mem_append_right _ (inn p hp))), if_neg]
      intro e
      have q := cyc_in (kk1 d hd') hp
      rw [e] at q
      exact n3 one List.mem_cons_self one (inn _ q) rfl
end

/-! ## 6. Webs: names and, of each, the neighbours in its order -/
abbrev Nb := Int → List Int
def nxt (nb : Nb) (p : Pr) : Pr := (p.2, succ (nb p.2) p.1)
def Dart (nb : Nb) (p : Pr) : Prop := p.2 ∈ nb p.1
structure Valid (ns : List Int) (nb : Nb) : Prop where
  nd : ns.Nodup
  out : ∀ a, a ∉ ns → nb a = []
  nbd : ∀ a, (nb a).Nodup
  irr : ∀ a, a ∉ nb a
  sym : ∀ a b, b ∈ nb a → a ∈ nb b
section
variable {ns : List Int} {nb : Nb}
theorem Valid.inn (V : Valid ns nb) {a b : Int} (h : b ∈ nb a) : a ∈ ns := by
  by_cases m : a ∈ ns
  · exact m
  · rw [V.out a m] at h
    simp at h
theorem Valid.inn2 (V : Valid ns nb) {a b : Int} (h : b ∈ nb a) : b ∈ ns := V.inn (V.sym a b h)
theorem Valid.short (V : Valid ns nb) (a : Int) : (nb a).length ≤ ns.length := (V.nbd a).length_le_of_subset fun _ hb => V.inn2 hb
theorem nxt_dart (V : Valid ns nb) {p : Pr} (h : Dart nb p) : Dart nb (nxt nb p) := succ_mem (V.nbd _) (V.sym _ _ h)
theorem nxt_inj (V : Valid ns nb) {p q : Pr} (h : Dart nb p) (h' : Dart nb q) (e : nxt nb p = nxt nb q) : p = q := by
  have e1 : p.2 = q.2 := congrArg Prod.fst e
  have e2 : succ (nb p.2) p.1 = succ (nb q.2) q.1 := congrArg Prod.snd e
  rw [← e1] at e2
  have h2 : q.1 ∈ nb p.2 := by
    rw [e1]
    exact V.sym _ _ h'
  exact pr_ext (succ_inj (V.nbd _) (V.sym _ _ h) h2 e2) e1
def darts (ns : List Int) (nb : Nb) : List Pr := ns.flatMap fun a => (nb a).map fun b => (a, b)
theorem mem_darts {p : Pr} : p ∈ darts ns nb ↔ p.1 ∈ ns ∧ p.2 ∈ nb p.1 := by
  unfold darts
  rw [List.mem_flatMap]
  constructor
  · rintro ⟨a, ha, hp⟩
    obtain ⟨b, hb, rfl⟩ := List.mem_map.mp hp
    exact ⟨ha, hb⟩
  · rintro ⟨h1, h2⟩
    exact ⟨p.1, h1, List.mem_map.mpr ⟨p.2, h2, rfl⟩⟩
theorem Valid.darts_mem (V : Valid ns nb) (p : Pr) : p ∈ darts ns nb ↔ Dart nb p := by
  rw [mem_darts]
  exact ⟨fun h => h.2, fun h => ⟨V.inn h, h⟩⟩
theorem darts_nd : ∀ {ns : List Int} {nb : Nb}, ns.Nodup → (∀ a, (nb a).Nodup) → (darts ns nb).Nodup
  | [], _, _, _ => List.nodup_nil
  | a :: ns, nb, h, k => by
    obtain ⟨h1, h2⟩ := List.nodup_cons.mp h
    show ((nb a).map (fun b => (a, b)) ++ darts ns nb).Nodup
    refine List.nodup_append.mpr ⟨?_, darts_nd h2 k, fun p hp q hq e => ?_⟩
    · exact List.Pairwise.map _ (fun x y (q : x ≠ y) e => q (congrArg Prod.snd e)) (k a)
    · obtain ⟨b, _, rfl⟩ := List.mem_map.mp hp
      subst e
      exact h1 (mem_darts.mp hq).1
def tcount (l : List Pr) : Nat := l.countP fun p => decide (p.1 < p.2)
def tc (ns : List Int) (nb : Nb) : Nat := tcount (darts ns nb)
theorem Valid.tc_eq (V : Valid ns nb) {l : List Pr} (n : l.Nodup) (h : ∀ p, p ∈ l ↔ Dart nb p) : tcount l = tc ns nb := by
  refine List.Perm.countP_eq _ ((List.perm_ext_iff_of_nodup n (darts_nd V.nd V.nbd)).mpr fun p => ?_)
  rw [h, V.darts_mem]

/-! ### a tie put in -/
def put (nb : Nb) (a : Int) (i : Nat) (b : Int) (j : Nat) : Nb := fun n => if n = a then ins i b (nb a) else if n = b then ins j a (nb b) else nb n
variable {a b : Int} {i j : Nat}
theorem put_a : put nb a i b j a = ins i b (nb a) := if_pos rfl
theorem put_b (h : a ≠ b) : put nb a i b j b = ins j a (nb b) := by
  unfold put
  rw [if_neg (fun e => h e.symm), if_pos rfl]
theorem put_n {n : Int} (h1 : n ≠ a) (h2 : n ≠ b) : put nb a i b j n = nb n := by
  unfold put
  rw [if_neg h1, if_neg h2]
theorem put_mem (h : a ≠ b) {n m : Int} : m ∈ put nb a i b j n ↔ (n = a ∧ m = b) ∨ (n = b ∧ m = a) ∨ m ∈ nb n := by
  by_cases h1 : n = a
  · subst h1
    rw [put_a, ins_mem]
    constructor
    · rintro (e | e)
      · exact .inl ⟨rfl, e⟩
      · exact .inr (.inr e)
    · rintro (e | e | e)
      · exact .inl e.2
      · exact absurd e.1 h
      · exact .inr e
  · by_cases h2 : n = b
    · subst h2
      rw [put_b h, ins_mem]
      constructor
      · rintro (e | e)
        · exact .inr (.inl ⟨rfl, e⟩)
        · exact .inr (.inr e)
      · rintro (e | e | e)
        · exact absurd e.1 h1
        · exact .inl e.2
        · exact .inr e
    · rw [put_n h1 h2]
      constructor
      · exact fun e => .inr (.inr e)
      · rintro (e | e | e)
        · exact absurd e.1 h1
        · exact absurd e.1 h2
        · exact e
theorem put_valid (V : Valid ns nb) (ha : a ∈ ns) (hb : b ∈ ns) (h : a ≠ b) (hn : b ∉ nb a) : Valid ns (put nb a i b j) where
  nd := V.nd
  out := fun n hn' => by
    rw [put_n (fun e : n = a => hn' (by rw [e]; exact ha)) (fun e : n = b => hn' (by rw [e]; exact hb))]
    exact V.out n hn'
  nbd := fun n => by
    by_cases h1 : n = a
    · subst h1
      rw [put_a]
      exact ins_nodup (V.nbd _) hn
    · by_cases h2 : n = b
      · subst h2
        rw [put_b h]
        exact ins_nodup (V.nbd _) fun m => hn (V.sym _ _ m)
      · rw [put_n h1 h2]
        exact V.nbd n
  irr := fun n m => by
    rw [put_mem h] at m
    rcases m with e | e | e
    · exact h (e.1.symm.trans e.2)
    · exact h (e.2.symm.trans e.1)
    · exact V.irr n e
  sym := fun n m k => by
    rw [put_mem h] at k ⊢
    rcases k with e | e | e
    · exact .inr (.inl ⟨e.2, e.1⟩)
    · exact .inl ⟨e.2, e.1⟩
    · exact .inr (.inr (V.sym _ _ e))
theorem put_dart (h : a ≠ b) (p : Pr) : Dart (put nb a i b j) p ↔ p = (a, b) ∨ p = (b, a) ∨ Dart nb p := by
  unfold Dart
  rw [put_mem h]
  constructor
  · rintro (e | e | e)
    · exact .inl (pr_ext e.1 e.2)
    · exact .inr (.inl (pr_ext e.1 e.2))
    · exact .inr (.inr e)
  · rintro (e | e | e)
    · rw [e]
      exact .inl ⟨rfl, rfl⟩
    · rw [e]
      exact .inr (.inl ⟨rfl, rfl⟩)
    · exact .inr (.inr e)
theorem put_tc (V : Valid ns nb) (ha : a ∈ ns) (hb : b ∈ ns) (h : a ≠ b) (hn : b ∉ nb a) : tc ns (put nb a i b j) = tc ns nb + 1 := by
  have V2 := put_valid (i := i) (j := j) V ha hb h hn
  have nd1 := darts_nd V.nd V.nbd
  have na : (a, b) ∉ darts ns nb := fun m => hn ((V.darts_mem _).mp m)
  have nba : (b, a) ∉ darts ns nb := fun m => hn (V.sym _ _ ((V.darts_mem _).mp m))
  have q := V2.tc_eq (l := (a, b) :: (b, a) :: darts ns nb) (List.nodup_cons.mpr ⟨by
    rw [List.mem_cons, not_or]
    exact ⟨fun e => h (congrArg Prod.fst e), na⟩, List.nodup_cons.mpr ⟨nba, nd1⟩⟩) fun p => by
    rw [put_dart h, List.mem_cons, List.mem_cons, V.darts_mem]
  rw [← q]
  unfold tc tcount
  rw [List.countP_cons, List.countP_cons]
  by_cases l : a < b
  · have l2 : ¬ b < a := by omega
    simp [l, l2]
  · have l2 : b < a := by omega
    simp [l, l2]
/-- the place i of a list is right ahead of x, round to the first one -/
def Ahead (l : List Int) (i : Nat) (x : Int) : Prop := l[i]? = some x ∨ (l.length ≤ i ∧ l.head? = some x)
theorem ahead_some {l : List Int} (h : l ≠ []) (i : Nat) : ∃ x, Ahead l i x := by
  by_cases hi : i < l.length
  · exact ⟨l[i], .inl (List.getElem?_eq_getElem hi)⟩
  · cases l with
    | nil => exact absurd rfl h
    | cons x r => exact ⟨x, .inr ⟨by omega, rfl⟩⟩
theorem ahead_mem {l : List Int} {i : Nat} {x : Int} (h : Ahead l i x) : x ∈ l := by
  rcases h with h | ⟨_, h⟩
  · exact List.mem_of_getElem? h
  · cases l with
    | nil => simp at h
    | cons y r =>
      have e : y = x := by simpa using h
      rw [e]
      exact List.mem_cons_self
theorem put_splice (V : Valid ns nb) (h : a ≠ b) (hn : b ∉ nb a) {x y : Int} (hx : Ahead (nb a) i x) (hy : Ahead (nb b) j y) :
    Splice (Dart nb) (Dart (put nb a i b j)) (nxt nb) (nxt (put nb a i b j)) (a, x) (b, y) (a, b) (b, a) := by
  have hn2 : a ∉ nb b := fun m => hn (V.sym _ _ m)
  obtain ⟨x1, x2, x3⟩ := ins_succ (i := i) (V.nbd a) hn hx
  obtain ⟨y1, y2, y3⟩ := ins_succ (i := j) (V.nbd b) hn2 hy
  refine ⟨x1, y1, fun e => h (congrArg Prod.fst e), hn, hn2, fun e => h (congrArg Prod.fst e), fun p => put_dart h p, fun p hp => ?_, ?_, ?_⟩
  · obtain ⟨u, v⟩ := p
    have hu : u ∈ nb v := V.sym _ _ hp
    show (v, succ (put nb a i b j v) u) = if (v, succ (nb v) u) = (a, x) then (a, b) else if (v, succ (nb v) u) = (b, y) then (b, a) else (v, succ (nb v) u)
    by_cases h1 : v = a
    · subst h1
      rw [put_a, x3 u hu]
      by_cases q : succ (nb v) u = x
      · rw [if_pos q, if_pos (by rw [q])]
      · rw [if_neg q, if_neg (fun e => q (congrArg Prod.snd e)), if_neg (fun e => h (congrArg Prod.fst e))]
    · by_cases h2 : v = b
      · subst h2
        rw [put_b h, y3 u hu, if_neg (fun e => h1 (congrArg Prod.fst e))]
        by_cases q : succ (nb v) u = y
        · rw [if_pos q, if_pos (by rw [q])]
        · rw [if_neg q, if_neg (fun e => q (congrArg Prod.snd e))]
      · rw [put_n h1 h2, if_neg (fun e => h1 (congrArg Prod.fst e)), if_neg (fun e => h2 (congrArg Prod.fst e))]
  · show (b, succ (put nb a i b j b) a) = (b, y)
    rw [put_b h, y2]
  · show (a, succ (put nb a i b j a) b) = (a, x)
    rw [put_a, x2]
theorem ins_nil (i : Nat) (b : Int) : ins i b [] = [b] := by
  unfold ins
  rw [List.take_nil, List.drop_nil, List.nil_append]
theorem succ_one (b : Int) : succ [b] b = b := by
  simp [succ, List.idxOf_cons_self]

/-! ### places less ties plus faces -/
/-- a web whose places all have ties, drawn: the number is two or less by an even one -/
structure Drawn (ns : List Int) (nb : Nb) : Prop where
  V : Valid ns nb
  full : ∀ a, a ∈ ns → nb a ≠ []
  num : ∃ (L : List (List Pr)) (k : Nat), Decomp (Dart nb) (nxt nb) L ∧ (ns.length : Int) - tc ns nb + L.length = 2 - 2 * (k : Int)
theorem Drawn.tie (W : Drawn ns nb) (ha : a ∈ ns) (hb : b ∈ ns) (h : a ≠ b) (hn : b ∉ nb a) (i j : Nat) : Drawn ns (put nb a i b j) := by
  obtain ⟨L, k, D, e⟩ := W.num
  obtain ⟨x, hx⟩ := ahead_some (W.full a ha) i
  obtain ⟨y, hy⟩ := ahead_some (W.full b hb) j
  obtain ⟨L', D', s1, s2⟩ := (put_splice W.V h hn hx hy).split D
  have t := put_tc (i := i) (j := j) W.V ha hb h hn
  refine ⟨put_valid W.V ha hb h hn, fun n hn' => ?_, ?_⟩
  · intro q
    obtain ⟨z, hz⟩ := List.exists_mem_of_ne_nil _ (W.full n hn')
    have m : z ∈ put nb a i b j n := (put_mem h).mpr (.inr (.inr hz))
    rw [q] at m
    simp at m
  · by_cases c : ∃ c, c ∈ L ∧ (a, x) ∈ c ∧ (b, y) ∈ c
    · have l := s1 c
      refine ⟨L', k, D', ?_⟩
      rw [t]
      omega
    · have l := s2 c
      refine ⟨L', k + 1, D', ?_⟩
      rw [t]
      omega
/-- a tree that grows: the first k names hang together, the others are bare -/
structure Grows (ns : List Int) (nb : Nb) (k : Nat) : Prop where
  V : Valid ns nb
  bare : ∀ (m : Nat) (n : Int), k ≤ m → ns[m]? = some n → nb n = []
  full : ∀ (m : Nat) (n : Int), m < k → 2 ≤ k → ns[m]? = some n → nb n ≠ []
  one : k ≤ 1 → ∀ n, nb n = []
  ties : tc ns nb + 1 = k
  num : ∃ L : List (List Pr), Decomp (Dart nb) (nxt nb) L ∧ L.length = if k ≤ 1 then 0 else 1
theorem grows_first (n : ns.Nodup) : Grows ns (fun _ => []) 1 where
  V := ⟨n, fun _ _ => rfl, fun _ => List.nodup_nil, fun a => by simp, fun a b h => by simp at h⟩
  bare := fun _ _ _ _ => rfl
  full := fun _ _ _ h => by omega
  one := fun _ _ => rfl
  ties := by
    have e : darts ns (fun _ => []) = [] := List.eq_nil_iff_forall_not_mem.mpr fun p hp => by
      have q := (mem_darts.mp hp).2
      simp at q
    unfold tc
    rw [e]
    rfl
  num := ⟨[], ⟨List.nodup_nil, fun p => by simp [Dart], fun c h => by simp at h⟩, rfl⟩
theorem nodup_get {l : List Int} (n : l.Nodup) {i j : Nat} {x : Int} (h1 : l[i]? = some x) (h2 : l[j]? = some x) : i = j := by
  obtain ⟨a1, e1⟩ := List.getElem?_eq_some_iff.mp h1
  obtain ⟨a2, e2⟩ := List.getElem?_eq_some_iff.mp h2
  exact (List.getElem_inj n).mp (e1.trans e2.symm)
/-- v, the name at place k, is tied to u, one of the names ahead of it -/
theorem Grows.step {k m : Nat} {u v : Int} (G : Grows ns nb k) (hk : 1 ≤ k) (hv : ns[k]? = some v) (hm : m < k) (hu : ns[m]? = some u) (i j : Nat) : Grows ns (put nb v i u j) (k + 1) := by
  have iv : v ∈ ns := List.mem_of_getElem? hv
  have iu : u ∈ ns := List.mem_of_getElem? hu
  have ne : v ≠ u := fun e => by
    rw [e] at hv
    have := nodup_get G.V.nd hv hu
    omega
  have ev : nb v = [] := G.bare k v (Nat.le_refl _) hv
  have hn : u ∉ nb v := by
    rw [ev]
    simp
  have V2 := put_valid (i := i) (j := j) G.V iv iu ne hn
  have pv : put nb v i u j v = [u] := by rw [put_a, ev, ins_nil]
  refine ⟨V2, fun m' n h1 h2 => ?_, fun m' n h1 _ h2 => ?_, fun h => by omega, ?_, ?_⟩
  · have n1 : n ≠ v := fun e => by
      rw [e] at h2
      have := nodup_get G.V.nd h2 hv
      omega
    have n2 : n ≠ u := fun e => by
      rw [e] at h2
      have := nodup_get G.V.nd h2 hu
      omega
    rw [put_n n1 n2]
    exact G.bare m' n (by omega) h2
  · by_cases n1 : n = v
    · rw [n1, pv]
      simp
    · by_cases n2 : n = u
      · rw [n2, put_b ne]
        unfold ins
        simp
      · rw [put_n n1 n2]
        have h3 : m' < k := by
          rcases Nat.lt_or_ge m' k with q | q
          · exact q
          · have e : m' = k := by omega
            rw [e, hv] at h2
            exact absurd (Option.some.inj h2).symm n1
        by_cases k2 : 2 ≤ k
        · exact G.full m' n h3 k2 h2
        · have e1 : m' = 0 := by omega
          have e2 : m = 0 := by omega
          rw [e1] at h2
          rw [e2, h2] at hu
          exact absurd (Option.some.inj hu) n2
  · rw [put_tc G.V iv iu ne hn, G.ties]
  · rw [if_neg (by omega)]
    have g1 : nxt (put nb v i u j) (u, v) = (v, u) := by
      show (v, succ (put nb v i u j v) u) = (v, u)
      rw [pv, succ_one]
    by_cases k2 : 2 ≤ k
    · obtain ⟨L, D, el⟩ := G.num
      rw [if_neg (by omega)] at el
      obtain ⟨y, hy⟩ := ahead_some (G.full m u hm k2 hu) j
      have hn2 : v ∉ nb u := fun q => hn (G.V.sym _ _ q)
      obtain ⟨y1, y2, y3⟩ := ins_succ (i := j) (G.V.nbd u) hn2 hy
      have old : ∀ p, Dart nb p → nxt (put nb v i u j) p = if nxt nb p = (u, y) then (u, v) else nxt nb p := fun p hp => by
        obtain ⟨s, t⟩ := p
        have hs : s ∈ nb t := G.V.sym _ _ hp
        have tv : t ≠ v := fun e => by
          rw [e, ev] at hs
          simp at hs
        show (t, succ (put nb v i u j t) s) = if (t, succ (nb t) s) = (u, y) then (u, v) else (t, succ (nb t) s)
        by_cases h2 : t = u
        · subst h2
          rw [put_b ne, y3 s hs]
          by_cases q : succ (nb t) s = y
          · rw [if_pos q, if_pos (by rw [q])]
          · rw [if_neg q, if_neg (fun e => q (congrArg Prod.snd e))]
        · rw [put_n tv h2, if_neg (fun e => h2 (congrArg Prod.fst e))]
      have g2 : nxt (put nb v i u j) (v, u) = (u, y) := by
        show (u, succ (put nb v i u j u) v) = (u, y)
        rw [put_b ne, y2]
      have mm : ∀ p, Dart (put nb v i u j) p ↔ p = (u, v) ∨ p = (v, u) ∨ Dart nb p := fun p => by
        rw [put_dart ne]
        exact ⟨fun q => by rcases q with q | q | q <;> simp [q], fun q => by rcases q with q | q | q <;> simp [q]⟩
      obtain ⟨L', D', e'⟩ := leaf_cycles (one := (u, y)) (uv := (u, v)) (vu := (v, u)) D y1 hn2 hn (fun e => ne (congrArg Prod.snd e)) mm old g1 g2
      exact ⟨L', D', by omega⟩
    · have all := G.one (by omega)
      refine ⟨[[(v, u), (u, v)]], ⟨?_, fun p => ?_, fun c hc => ?_⟩, rfl⟩
      · simp
        exact fun h => absurd h ne
      · rw [put_dart ne]
        have no : ¬ Dart nb p := fun q => by
          have q' : p.2 ∈ nb p.1 := q
          rw [all p.1] at q'
          simp at q'
        simp [no]
      · rw [List.mem_singleton.mp hc]
        refine ⟨?_, g1⟩
        show (u, succ (put nb v i u j u) v) = (u, v)
        rw [put_b ne, all u, ins_nil, succ_one]
theorem Grows.drawn (G : Grows ns nb ns.length) (h : 2 ≤ ns.length) : Drawn ns nb where
  V := G.V
  full := fun a ha => by
    obtain ⟨m, hm, e⟩ := List.mem_iff_getElem.mp ha
    exact G.full m a hm h (by rw [List.getElem?_eq_getElem hm, e])
  num := by
    obtain ⟨L, D, e⟩ := G.num
    rw [if_neg (by omega)] at e
    refine ⟨L, 0, D, ?_⟩
    have t := G.ties
    omega

/-! ### the other way about -/
def swp (p : Pr) : Pr := (p.2, p.1)
def bwd (c : List Pr) : List Pr := c.reverse.map swp
def rvs (nb : Nb) : Nb := fun n => (nb n).reverse
theorem rvs_valid (V : Valid ns nb) : Valid ns (rvs nb) where
  nd := V.nd
  out := fun a h => by
    show (nb a).reverse = []
    rw [V.out a h]
    rfl
  nbd := fun a => nd_rev.mpr (V.nbd a)
  irr := fun a h => V.irr a (List.mem_reverse.mp h)
  sym := fun a b h => List.mem_reverse.mpr (V.sym a b (List.mem_reverse.mp h))
theorem rvs_dart (V : Valid ns nb) (p : Pr) : Dart (rvs nb) (swp p) ↔ Dart nb p :=
  ⟨fun h => V.sym _ _ (List.mem_reverse.mp h), fun h => List.mem_reverse.mpr (V.sym _ _ h)⟩
theorem rvs_nxt (V : Valid ns nb) {p : Pr} (h : Dart nb p) : nxt (rvs nb) (swp (nxt nb p)) = swp p := by
  show (p.2, succ (nb p.2).reverse (succ (nb p.2) p.1)) = (p.2, p.1)
  rw [succ_rev (V.nbd _) (V.sym _ _ h)]
theorem bwd_cyc (V : Valid ns nb) {c : List Pr} (k : Cyc (nxt nb) c) (h : ∀ p, p ∈ c → Dart nb p) : Cyc (nxt (rvs nb)) (bwd c) := by
  cases c with
  | nil => exact k
  | cons x r =>
    have q := path_map swp (fun p => swp (nxt nb (swp p))) (x := x) (z := x) k (fun u _ => rfl)
    have q2 := path_rev (h := nxt (rvs nb)) q (fun u hu => by
      obtain ⟨v, hv, rfl⟩ : ∃ v, v ∈ x :: r ∧ swp v = u := by
        have hu' : u ∈ (x :: r).map swp := hu
        exact List.mem_map.mp hu'
      exact rvs_nxt V (h v hv))
    have e : bwd (x :: r) = (r.map swp).reverse ++ swp x :: [] := by
      unfold bwd
      rw [List.reverse_cons, List.map_append, List.map_reverse]
      rfl
    rw [e]
    have q3 : Cyc (nxt (rvs nb)) (([] : List Pr) ++ swp x :: (r.map swp).reverse) := q2
    cases hr : (r.map swp).reverse with
    | nil =>
      rw [hr] at q3
      exact q3
    | cons y s =>
      rw [hr] at q3
      have q4 : Cyc (nxt (rvs nb)) ([swp x] ++ y :: s) := q3
      exact cyc_rot q4
theorem bwd_mem {c : List Pr} {p : Pr} : p ∈ bwd c ↔ swp p ∈ c := by
  unfold bwd
  rw [List.mem_map]
  constructor
  · rintro ⟨q, hq, rfl⟩
    exact List.mem_reverse.mp hq
  · exact fun h => ⟨swp p, List.mem_reverse.mpr h, rfl⟩
theorem bwd_flat : ∀ {L : List (List Pr)}, ((L.map bwd).flatten).Perm (L.flatten.map swp)
  | [] => List.Perm.refl _
  | c :: L => by
    rw [List.map_cons, List.flatten_cons, List.flatten_cons, List.map_append]
    exact ((List.reverse_perm c).map swp).append bwd_flat
theorem bwd_decomp {L : List (List Pr)} (V : Valid ns nb) (D : Decomp (Dart nb) (nxt nb) L) : Decomp (Dart (rvs nb)) (nxt (rvs nb)) (L.map bwd) where
  nd := bwd_flat.nodup_iff.mpr (List.Pairwise.map _ (fun x y (q : x ≠ y) e => q (pr_ext (congrArg Prod.snd e) (congrArg Prod.fst e))) D.nd)
  mem := fun p => by
    rw [bwd_flat.mem_iff, List.mem_map]
    constructor
    · rintro ⟨q, hq, rfl⟩
      exact (rvs_dart V q).mpr ((D.mem q).mp hq)
    · exact fun h => ⟨swp p, (D.mem _).mpr ((rvs_dart V (swp p)).mp h), rfl⟩
  cyc := fun c hc => by
    obtain ⟨d, hd', rfl⟩ := List.mem_map.mp hc
    exact bwd_cyc V (D.cyc d hd') fun p hp => D.of hd' hp
end

/-! ## 7. What the program's loops tell -/
/-- a run of f that has not come back meets a new place -/
theorem run_new {α : Type} {f : α → α} {P : α → Prop} (inj : ∀ p q, P p → P q → f p = f q → p = q) {x z : α} {r : List α} (hp : ∀ p, p ∈ x :: r → P p) (n : (x :: r).Nodup) (k : path f x r z) (hz : z ≠ x) : z ∉ x :: r := by
  intro m
  rcases List.mem_cons.mp m with e | m
  · exact hz e
  · obtain ⟨s, t, rfl⟩ := List.append_of_mem m
    rw [path_app] at k
    obtain ⟨l1, m1, e1⟩ := path_last k.1
    obtain ⟨l2, m2, e2⟩ := path_last k.2
    have a1 : l1 ∈ x :: (s ++ z :: t) := by
      rcases List.mem_cons.mp m1 with e | e
      · rw [e]; simp
      · simp [e]
    have a2 : l2 ∈ x :: (s ++ z :: t) := by
      rcases List.mem_cons.mp m2 with e | e
      · rw [e]; simp
      · simp [e]
    have e : l1 = l2 := inj l1 l2 (hp _ a1) (hp _ a2) (e1.trans e2.symm)
    have n' : ((x :: s) ++ (z :: t)).Nodup := n
    exact (List.nodup_append.mp n').2.2 l1 m1 l2 m2 e
theorem path_snoc {α : Type} {f : α → α} {x z : α} {r : List α} (k : path f x r z) : path f x (r ++ [z]) (f z) := path_app.mpr ⟨k, rfl⟩
/-- the faces told so far: those that begin with a pair of pre -/
structure Upto (P : Pr → Prop) (f : Pr → Pr) (pre : List Pr) (L : List (List Pr)) : Prop where
  nd : L.flatten.Nodup
  inp : ∀ p, p ∈ L.flatten → P p
  cyc : ∀ c, c ∈ L → Cyc f c
  cov : ∀ p, p ∈ pre → p ∈ L.flatten
  hds : ∀ c, c ∈ L → hd c ∈ pre
  least : ∀ c, c ∈ L → Least c
  rise : (L.map hd).Pairwise plt
section
variable {P : Pr → Prop} {f : Pr → Pr} {pre rest D : List Pr} {L : List (List Pr)} {d : Pr}
theorem upto_nil : Upto P f [] [] where
  nd := List.nodup_nil
  inp := fun p h => by simp at h
  cyc := fun c h => by simp at h
  cov := fun p h => by simp at h
  hds := fun c h => by simp at h
  least := fun c h => by simp at h
  rise := List.Pairwise.nil
theorem Upto.skip (U : Upto P f pre L) (h : d ∈ L.flatten) : Upto P f (pre ++ [d]) L where
  nd := U.nd
  inp := U.inp
  cyc := U.cyc
  cov := fun p hp => by
    rcases List.mem_append.mp hp with m | m
    · exact U.cov p m
    · rw [List.mem_singleton.mp m]
      exact h
  hds := fun c hc => List.mem_append_left _ (U.hds c hc)
  least := U.least
  rise := U.rise
theorem Upto.new (U : Upto P f pre L) (eD : D = pre ++ d :: rest) (sD : D.Pairwise plt) (mD : ∀ p, P p → p ∈ D) (h : d ∉ L.flatten) {r : List Pr} (k : path f d r d) (n : (d :: r).Nodup) (hp : ∀ p, p ∈ d :: r → P p) : Upto P f (pre ++ [d]) (L ++ [d :: r]) := by
  have kc : Cyc f (d :: r) := k
  have apart : ∀ p, p ∈ L.flatten → p ∉ d :: r := fun p h1 h2 => by
    obtain ⟨c, hc, hpc⟩ := List.mem_flatten.mp h1
    exact h (List.mem_flatten.mpr ⟨c, hc, (cyc_meet_mem (U.cyc c hc) kc (nd_part U.nd c hc) n hpc h2 d).mpr List.mem_cons_self⟩)
  rw [eD] at sD
  obtain ⟨_, s2, s3⟩ := List.pairwise_append.mp sD
  obtain ⟨s4, _⟩ := List.pairwise_cons.mp s2
  refine ⟨?_, fun p hp' => ?_, fun c hc => ?_, fun p hp' => ?_, fun c hc => ?_, fun c hc => ?_, ?_⟩
  · rw [List.flatten_append]
    refine List.nodup_append.mpr ⟨U.nd, by simpa using n, fun a ha b hb e => ?_⟩
    subst e
    exact apart a ha (by simpa using hb)
  · rw [List.flatten_append] at hp'
    rcases List.mem_append.mp hp' with m | m
    · exact U.inp p m
    · exact hp p (by simpa using m)
  · rcases List.mem_append.mp hc with m | m
    · exact U.cyc c m
    · rw [List.mem_singleton.mp m]
      exact kc
  · rw [List.flatten_append]
    rcases List.mem_append.mp hp' with m | m
    · exact List.mem_append_left _ (U.cov p m)
    · rw [List.mem_singleton.mp m]
      simp
  · rcases List.mem_append.mp hc with m | m
    · exact List.mem_append_left _ (U.hds c m)
    · rw [List.mem_singleton.mp m]
      exact List.mem_append_right _ (List.mem_singleton.mpr rfl)
  · rcases List.mem_append.mp hc with m | m
    · exact U.least c m
    · rw [List.mem_singleton.mp m]
      intro y hy
      show ple d y
      have hy2 := mD y (hp y hy)
      rw [eD] at hy2
      rcases List.mem_append.mp hy2 with q | q
      · exact absurd hy (apart y (U.cov y q))
      · rcases List.mem_cons.mp q with e | q
        · rw [e]
          exact ple_refl d
        · exact plt_ple (s4 y q)
  · rw [List.map_append]
    refine List.pairwise_append.mpr ⟨U.rise, List.pairwise_singleton _ _, fun a ha b hb => ?_⟩
    obtain ⟨c, hc, rfl⟩ := List.mem_map.mp ha
    have e : b = d := List.mem_singleton.mp hb
    rw [e]
    exact s3 _ (U.hds c hc) d List.mem_cons_self
theorem Upto.all (U : Upto P f D L) (mD : ∀ p, P p → p ∈ D) : IsFaces P f L where
  dec := ⟨U.nd, fun p => ⟨U.inp p, fun h => U.cov p (mD p h)⟩, U.cyc⟩
  least := U.least
  rise := U.rise
end
/-- strictly rising from rising without the same twice -/
theorem darts_rise : ∀ {ns : List Int} {nb : Nb}, ns.Pairwise (· < ·) → (∀ a, (nb a).Pairwise (· < ·)) → (darts ns nb).Pairwise plt
  | [], _, _, _ => List.Pairwise.nil
  | a :: ns, nb, h, k => by
    obtain ⟨h1, h2⟩ := List.pairwise_cons.mp h
    show ((nb a).map (fun b => (a, b)) ++ darts ns nb).Pairwise plt
    refine List.pairwise_append.mpr ⟨?_, darts_rise h2 k, fun p hp q hq => ?_⟩
    · exact List.Pairwise.map _ (fun x y (q : x < y) => Or.inr ⟨rfl, q⟩) (k a)
    · obtain ⟨b, _, rfl⟩ := List.mem_map.mp hp
      exact Or.inl (h1 _ (mem_darts.mp hq).1)
theorem lt_of_le_nd {l : List Int} (h : l.Pairwise (· ≤ ·)) (n : l.Nodup) : l.Pairwise (· < ·) := by
  have q : l.Pairwise (fun a b => a ≤ b ∧ a ≠ b) := h.and n
  exact q.imp fun h => by omega
/-- two rising rows of the same pairs are one -/
theorem pr_sorted {l m : List Pr} (h1 : l.Pairwise ple) (h2 : m.Pairwise ple) (p : l.Perm m) : l = m :=
  List.Perm.eq_of_pairwise (le := ple) (fun a b _ _ q1 q2 => ple_antisymm q1 q2) h1 h2 p
/-- a face told the other way about, begun with its least one -/
def TurnedBack (c d : List Pr) : Prop := ∃ s x t, bwd c = s ++ x :: t ∧ d = x :: t ++ s ∧ ∀ y, y ∈ bwd c → ple x y
inductive All2 {α β : Type} (R : α → β → Prop) : List α → List β → Prop
  | nil : All2 R [] []
  | cons {a : α} {b : β} {as : List α} {bs : List β} : R a b → All2 R as bs → All2 R (a :: as) (b :: bs)
section
variable {ns : List Int} {nb : Nb}
theorem turned_flat : ∀ {L M : List (List Pr)}, All2 TurnedBack L M → M.flatten.Perm (L.map bwd).flatten
  | _, _, .nil => List.Perm.refl _
  | _, _, .cons (as := L) (bs := M) h t => by
    obtain ⟨s, x, u, e1, e2, _⟩ := h
    rw [List.map_cons, List.flatten_cons, List.flatten_cons, e1, e2]
    exact (List.perm_append_comm (l₁ := x :: u) (l₂ := s)).append (turned_flat t)
theorem turned_all : ∀ {L M : List (List Pr)}, All2 TurnedBack L M → (∀ c, c ∈ L → Cyc (nxt (rvs nb)) (bwd c)) → ∀ d, d ∈ M → Cyc (nxt (rvs nb)) d ∧ Least d
  | _, _, .nil, _, d, h => by simp at h
  | _, _, .cons (as := L) (bs := M) h t, k, d, hd' => by
    rcases List.mem_cons.mp hd' with e | m
    · obtain ⟨s, x, u, e1, e2, l⟩ := h
      have q := k _ List.mem_cons_self
      rw [e1] at q
      rw [e, e2]
      refine ⟨cyc_rot q, fun y hy => l y ?_⟩
      rw [e1]
      exact (List.perm_append_comm (l₁ := x :: u) (l₂ := s)).mem_iff.mp hy
    · exact turned_all t (fun c hc => k c (List.mem_cons_of_mem _ hc)) d m
/-- the faces of the web with all orders turned -/
theorem back_faces {L M M' : List (List Pr)} (V : Valid ns nb) (D : Decomp (Dart nb) (nxt nb) L) (t : All2 TurnedBack L M) (pm : M'.Perm M) (so : M'.Pairwise (fun c d => ple (hd c) (hd d))) : IsFaces (Dart (rvs nb)) (nxt (rvs nb)) M' := by
  have B := bwd_decomp V D
  have ta := turned_all t fun c hc => bwd_cyc V (D.cyc c hc) fun p hp => D.of hc hp
  have pf := pm.flatten.trans (turned_flat t)
  refine faces_sorted ⟨pf.nodup_iff.mpr B.nd, fun p => by rw [pf.mem_iff, B.mem], fun c hc => (ta c (pm.mem_iff.mp hc)).1⟩ (fun c hc => (ta c (pm.mem_iff.mp hc)).2) so
/-- what a tie put in at two drawn corners does to the faces -/
theorem tie_faces {a b x y : Int} {i j : Nat} {L M : List (List Pr)} {c1 c2 : List Pr} (V : Valid ns nb) (ha : a ∈ ns) (hb : b ∈ ns) (h : a ≠ b) (hn : b ∉ nb a) (hx : Ahead (nb a) i x) (hy : Ahead (nb b) j y)
    (F : IsFaces (Dart nb) (nxt nb) L) (G : IsFaces (Dart (put nb a i b j)) (nxt (put nb a i b j)) M) (h1 : c1 ∈ L) (o1 : (a, x) ∈ c1) (h2 : c2 ∈ L) (o2 : (b, y) ∈ c2) :
    (c1 = c2 → M.length = L.length + 1) ∧ (c1 ≠ c2 → M.length + 1 = L.length) ∧ ∀ c, c ∈ L → c ≠ c1 → c ≠ c2 → c ∈ M := by
  have S := put_splice V h hn hx hy
  obtain ⟨L', D', s1, s2⟩ := S.split F.dec
  have e := D'.same_length G.dec
  refine ⟨fun q => ?_, fun q => ?_, fun c hc n1 n2 => ?_⟩
  · subst q
    rw [← e]
    exact s1 ⟨c1, h1, o1, o2⟩
  · rw [← e]
    refine s2 fun ⟨c, hc, q1, q2⟩ => q ?_
    rw [nd_one F.dec.nd c1 c h1 hc _ o1 q1, nd_one F.dec.nd c2 c h2 hc _ o2 q2]
  · have m1 : (a, x) ∉ c := fun m => n1 (nd_one F.dec.nd c c1 hc h1 _ m o1)
    have m2 : (b, y) ∉ c := fun m => n2 (nd_one F.dec.nd c c2 hc h2 _ m o2)
    exact G.has (S.keeps (fun p hp => F.dec.of hc hp) m1 m2 (F.dec.cyc c hc)) (nd_part F.dec.nd c hc) (F.least c hc) fun p hp => (S.mem p).mpr (.inr (.inr (F.dec.of hc hp)))
/-- places less ties plus faces -/
theorem Drawn.faces {L : List (List Pr)} (W : Drawn ns nb) (F : IsFaces (Dart nb) (nxt nb) L) : ∃ k : Nat, (ns.length : Int) - tc ns nb + L.length = 2 - 2 * (k : Int) := by
  obtain ⟨M, k, D, e⟩ := W.num
  exact ⟨k, by rw [F.dec.same_length D]; exact e⟩
end
end Wd

-- part WdText
/-! ## The text: the defs of the top by their places -/
namespace Wd
open PySem L2
def topS (i : Nat) : Stmt := PySem.Challenge.pw_besidesay_k33_whole_drawings.main.body.getD i (.Pass ⟨0, 0, 0, 0⟩)
abbrev sNames : Stmt := topS 1
abbrev sTies : Stmt := topS 2
abbrev sNeigh : Stmt := topS 3
abbrev sBehind : Stmt := topS 5
abbrev sFace : Stmt := topS 6
abbrev sFaces : Stmt := topS 7
abbrev sBall : Stmt := topS 8
abbrev sCell : Stmt := topS 10
abbrev sPool : Stmt := topS 11
abbrev sTake : Stmt := topS 12
abbrev sLNames : Stmt := topS 13
abbrev sLink : Stmt := topS 14
abbrev sTold : Stmt := topS 15
abbrev sWeb : Stmt := topS 16
abbrev sCopy : Stmt := topS 17
abbrev sLTies : Stmt := topS 19
abbrev sPairs : Stmt := topS 20
abbrev sFlat : Stmt := topS 21
abbrev sWalked : Stmt := topS 22
abbrev sOther : Stmt := topS 23
abbrev sBack : Stmt := topS 24
abbrev sTied : Stmt := topS 25
abbrev sNext : Stmt := topS 26
abbrev sLaw : Stmt := topS 27
/-- a def as it stands behind the top, without defaults -/
abbrev FnP (K : PySem.W.Frag) (x : Str) (st : Stmt) (f : Addr) (fd : FuncData) : Prop := FunD K x x (defArgs st) (defBody st) (defScope st) [] [] f fd
end Wd
set_option maxHeartbeats 0

-- part WdHead
namespace Wd
open PySem PySem.Spec PyProof.Rows L2
/-! ## The head: what the top leaves, by names -/
def dd (x : Str) (st : Stmt) : He.DefD := ⟨(x, none), x, x, defArgs st, defBody st, defScope st, [], []⟩
def fnList : List He.DefD := [dd "names_of" sNames, dd "ties_of" sTies, dd "neighbours_of" sNeigh, dd "pair_behind" sBehind, dd "face_from" sFace, dd "faces_of" sFaces, dd "is_ball" sBall,
  dd "_law_cell_at" sCell, dd "_law_pool" sPool, dd "_law_take" sTake, dd "_law_names" sLNames, dd "_law_link" sLink, dd "_law_told" sTold, dd "_law_web" sWeb, dd "_law_copy" sCopy,
  dd "_law_ties" sLTies, dd "_law_pairs" sPairs, dd "_law_flat" sFlat, dd "_law_walked" sWalked, dd "_law_other_way" sOther, dd "_law_backward" sBack, dd "_law_tied" sTied, dd "_law_next" sNext, dd "law" sLaw]
def glos : List Str := ["names_of", "ties_of", "neighbours_of", "pair_behind", "face_from", "faces_of", "is_ball", "_law_cell_at", "_law_pool", "_law_take", "_law_names", "_law_link", "_law_told", "_law_web", "_law_copy",
  "_law_ties", "_law_pairs", "_law_flat", "_law_walked", "_law_other_way", "_law_backward", "_law_tied", "_law_next", "law"]
def frees : List Str := ["sorted", "len", "range", "dict", "list", "int", "max", "min"]
def faList : List He.Fa := glos.map He.Fa.glo ++ frees.map He.Fa.free
abbrev RR : PySem.W.OpenRow := PySem.W.OpenLaw.row PySem.Challenge.rw_besidesay_k33_whole_drawings
abbrev hkW : PySem.W.Hook := He.hookD 4 faList fnList
def obW (s : PySem.W.SharedT) : He.AlD := He.obsDG 4 faList fnList (HandSHeadRun.getT s)
theorem obW_eq (s : PySem.W.SharedT) : obW s = hkW.obs s.abs := He.obsDG_eq (HandSHeadRun.getT_eq s)
def loose : List Str := ["names_of", "ties_of", "neighbours_of", "pair_behind", "face_from", "faces_of", "is_ball", "_law_cell_at", "_law_pool", "_law_take", "_law_names", "_law_link", "_law_told", "_law_web", "_law_copy",
  "_law_view", "_law_ties", "_law_pairs", "_law_flat", "_law_walked", "_law_other_way", "_law_backward", "_law_tied", "_law_next"]
theorem runW (w : World) : HandSHeadRun.RunEq RR (PySem.W.view RR.prog [27]) hkW obW 4000 loose w := by
  intro os
  kernel_rfl
end Wd
set_option maxHeartbeats 4000000

-- part WdRules
/-! ## Rules of my own over the hand layer: sorted, min, in of data -/
namespace Wd
open PySem PySem.Spec PyProof.Rows L2

/-! ### rows side by side -/
section
variable {α β γ : Type} {R S : α → β → Prop}
theorem All2.len : ∀ {as : List α} {bs : List β}, All2 R as bs → as.length = bs.length
  | _, _, .nil => rfl
  | _, _, .cons _ t => by rw [List.length_cons, List.length_cons, t.len]
theorem All2.mono (h : ∀ a b, R a b → S a b) : ∀ {as : List α} {bs : List β}, All2 R as bs → All2 S as bs
  | _, _, .nil => .nil
  | _, _, .cons r t => .cons (h _ _ r) (t.mono h)
theorem All2.get : ∀ {as : List α} {bs : List β} {i : Nat} {a : α} {b : β}, All2 R as bs → as[i]? = some a → bs[i]? = some b → R a b
  | _, _, _, _, _, .nil, h, _ => by simp at h
  | _, _, 0, _, _, .cons r _, h, h' => by
    have e1 := Option.some.inj h
    have e2 := Option.some.inj h'
    rw [← e1, ← e2]
    exact r
  | _, _, i + 1, _, _, .cons _ t, h, h' => t.get (i := i) (by simpa using h) (by simpa using h')
theorem All2.at_ {as : List α} {bs : List β} (t : All2 R as bs) {i : Nat} {b : β} (h : bs[i]? = some b) : ∃ a, as[i]? = some a ∧ R a b := by
  have hl := (List.getElem?_eq_some_iff.mp h).1
  rw [← t.len] at hl
  exact ⟨as[i], List.getElem?_eq_getElem hl, t.get (List.getElem?_eq_getElem hl) h⟩
theorem All2.at' {as : List α} {bs : List β} (t : All2 R as bs) {i : Nat} {a : α} (h : as[i]? = some a) : ∃ b, bs[i]? = some b ∧ R a b := by
  have hl := (List.getElem?_eq_some_iff.mp h).1
  rw [t.len] at hl
  exact ⟨bs[i], List.getElem?_eq_getElem hl, t.get h (List.getElem?_eq_getElem hl)⟩
theorem All2.app : ∀ {as as' : List α} {bs bs' : List β}, All2 R as bs → All2 R as' bs' → All2 R (as ++ as') (bs ++ bs')
  | _, _, _, _, .nil, s => s
  | _, _, _, _, .cons r t, s => .cons r (t.app s)
theorem All2.snoc {as : List α} {bs : List β} {a : α} {b : β} (t : All2 R as bs) (r : R a b) : All2 R (as ++ [a]) (bs ++ [b]) := t.app (.cons r .nil)
theorem All2.take : ∀ {as : List α} {bs : List β} (n : Nat), All2 R as bs → All2 R (as.take n) (bs.take n)
  | _, _, 0, _ => .nil
  | _, _, _ + 1, .nil => .nil
  | _, _, n + 1, .cons r t => .cons r (t.take n)
theorem All2.drop : ∀ {as : List α} {bs : List β} (n : Nat), All2 R as bs → All2 R (as.drop n) (bs.drop n)
  | _, _, 0, r => r
  | _, _, _ + 1, .nil => .nil
  | _, _, n + 1, .cons _ t => t.drop n
theorem All2.rev : ∀ {as : List α} {bs : List β}, All2 R as bs → All2 R as.reverse bs.reverse
  | _, _, .nil => .nil
  | _, _, .cons r t => by
    rw [List.reverse_cons, List.reverse_cons]
    exact t.rev.snoc r
theorem All2.left : ∀ {as : List α} {bs : List β}, All2 R as bs → ∀ a, a ∈ as → ∃ b, b ∈ bs ∧ R a b
  | _, _, .nil, a, h => by simp at h
  | _, _, .cons r t, a, h => by
    rcases List.mem_cons.mp h with e | m
    · rw [e]
      exact ⟨_, List.mem_cons_self, r⟩
    · obtain ⟨b, hb, q⟩ := t.left a m
      exact ⟨b, List.mem_cons_of_mem _ hb, q⟩
theorem All2.right : ∀ {as : List α} {bs : List β}, All2 R as bs → ∀ b, b ∈ bs → ∃ a, a ∈ as ∧ R a b
  | _, _, .nil, a, h => by simp at h
  | _, _, .cons r t, a, h => by
    rcases List.mem_cons.mp h with e | m
    · rw [e]
      exact ⟨_, List.mem_cons_self, r⟩
    · obtain ⟨b, hb, q⟩ := t.right a m
      exact ⟨b, List.mem_cons_of_mem _ hb, q⟩
theorem All2.mapR (f : β → γ) {T : α → γ → Prop} (h : ∀ a b, R a b → T a (f b)) : ∀ {as : List α} {bs : List β}, All2 R as bs → All2 T as (bs.map f)
  | _, _, .nil => .nil
  | _, _, .cons r t => .cons (h _ _ r) (t.mapR f h)
theorem All2.both : ∀ {as : List α} {bs : List β}, All2 R as bs → All2 S as bs → All2 (fun a b => R a b ∧ S a b) as bs
  | _, _, .nil, _ => .nil
  | _, _, .cons r t, .cons r' t' => .cons ⟨r, r'⟩ (t.both t')
theorem All2.memR : ∀ {as : List α} {bs : List β}, All2 R as bs → All2 (fun a b => R a b ∧ a ∈ as ∧ b ∈ bs) as bs
  | _, _, .nil => .nil
  | _, _, .cons r t => .cons ⟨r, List.mem_cons_self, List.mem_cons_self⟩ (t.memR.mono fun _ _ q => ⟨q.1, List.mem_cons_of_mem _ q.2.1, List.mem_cons_of_mem _ q.2.2⟩)
theorem All2.each : ∀ {as : List α} {bs : List β}, All2 R as bs → PySem.W.EachIs R as bs
  | _, _, .nil => .nil
  | _, _, .cons r t => .cons r t.each
theorem All2.ofEach : ∀ {as : List α} {bs : List β}, PySem.W.EachIs R as bs → All2 R as bs
  | _, _, .nil => .nil
  | _, _, .cons r t => .cons r (All2.ofEach t)
theorem All2.paired : ∀ {as : List α} {bs : List β}, All2 R as bs → Paired R as bs
  | _, _, .nil => .nil
  | _, _, .cons r t => .cons r t.paired
theorem All2.ofPaired : ∀ {as : List α} {bs : List β}, Paired R as bs → All2 R as bs
  | _, _, .nil => .nil
  | _, _, .cons r t => .cons r (All2.ofPaired t)
theorem All2.comp {S : γ → α → Prop} : ∀ {cs : List γ} {as : List α} {bs : List β}, All2 S cs as → All2 R as bs → All2 (fun c b => ∃ a, S c a ∧ R a b) cs bs
  | _, _, _, .nil, .nil => .nil
  | _, _, _, .cons s t, .cons r u => .cons ⟨_, s, r⟩ (t.comp u)
theorem All2.flip : ∀ {as : List α} {bs : List β}, All2 R as bs → All2 (fun b a => R a b) bs as
  | _, _, .nil => .nil
  | _, _, .cons r t => .cons r t.flip
theorem All2.unzip {S : γ → α → Prop} : ∀ {cs : List γ} {bs : List β}, All2 (fun c b => ∃ a, S c a ∧ R a b) cs bs → ∃ as, All2 S cs as ∧ All2 R as bs
  | _, _, .nil => ⟨[], .nil, .nil⟩
  | _, _, .cons h t => by
    obtain ⟨a, h1, h2⟩ := h
    obtain ⟨as, t1, t2⟩ := t.unzip
    exact ⟨a :: as, .cons h1 t1, .cons h2 t2⟩
end

section
variable {K : PySem.W.Frag} {H : Hp}
theorem dpAll_of {β : Type} {enc : β → PyData} : ∀ {xs : List V} {bs : List β}, All2 (fun v b => Dp K H v (enc b)) xs bs → DpAll K H xs (bs.map enc)
  | _, _, .nil => .nil
  | _, _, .cons r t => .cons r (dpAll_of t)
end

/-! ### sorted(xs), xs a list of alike data of any form -/
def rSortedD {β : Type} (K : PySem.W.Frag) (enc : β → PyData) (R : Hp → V → β → Prop) : List V → Hp → VK → Prop := fun vs H Q => ∃ (a : Addr) (xs : List V) (bs : List β), vs = [V.ref a] ∧ SqL K H a xs ∧ All2 (R H) xs bs ∧
  All2 (fun v b => Dp K H v (enc b)) xs bs ∧ PySem.W.AllAlike (bs.map enc) ∧ PySem.W.Sortable (bs.map enc) ∧ (∀ b, b ∈ bs → (enc b).depth ≤ 50) ∧
  ∀ (ys : List V) (p : Addr), All2 (R H) ys (bs.mergeSort (PySem.W.dataLe false enc)) → H p = none → Q (.ref p) (upd H p (.lst ys))
section
variable {X : Cx}
theorem cr_sortedD {β : Type} (enc : β → PyData) (R : Hp → V → β → Prop) (hu : X.A.units + 64 < cLine) : CallR X (.builtin "sorted") (rSortedD X.K enc R) := by
  intro pins s σ H vs us Q I r h
  obtain ⟨a, xs, bs, rfl, hs, hR, hD, hal, hk, hdep, q⟩ := h
  obtain ⟨its, rv, hl, hz⟩ := I.list hs
  have lenx : xs.length = its.length := rv.length
  rw [Vals.ref1 r]
  have rv' : All2 (fun u v => RelV v u) its xs := (All2.ofPaired rv).flip
  have e : PySem.W.EachIs (fun u b => ∃ v, RelV v u ∧ R H v b) its bs := (rv'.comp hR).each
  have er : PySem.W.EachIs (fun u b => ∃ as, Reads s.heap u (enc b) as) its bs := ((rv'.comp hD).mono fun u b ⟨v, h1, h2⟩ => Dp.reads I _ v u h2 h1).each
  refine PySem.W.sorted_data hl.isList e er hal hk (by rw [← hR.len]; exact hz) (fun b hb => ?_) fun out hlen hout => ?_
  · have := hdep b hb
    omega
  · obtain ⟨ys, h1, h2⟩ := (All2.ofEach hout).unzip
    obtain ⟨ep, he'⟩ := PyProof.Rows.sortedAll_at s.heap its out.toArray
    have hz' : ys.length ≤ sizeLine := by
      rw [← h1.len, hlen, ← hR.len]
      exact hz
    exact ⟨.ref _, upd H (s.heap.objs.size + 1) (.lst ys), I.laid (t' := s.toks) (fun _ _ => PyProof.Rows.sortedAll_old) (Nat.le_succ _) ⟨hz', out, ep, h1.flip.paired, he'⟩, rfl, q _ _ h2 (I.hok.fresh (Nat.le_succ _))⟩
end

/-! ### pairs, faces, rows of faces as data -/
def encP (p : Pr) : PyData := .tuple [.int p.1, .int p.2]
def encC (c : List Pr) : PyData := .list (c.map encP)
def encF (L : List (List Pr)) : PyData := .list (L.map encC)
theorem eqvAll_map {β : Type} [DecidableEq β] {enc : β → PyData} (h : ∀ a b, PyData.eqv (enc a) (enc b) = decide (a = b)) : ∀ xs ys : List β, PyData.eqvAll (xs.map enc) (ys.map enc) = decide (xs = ys)
  | [], [] => by simp [PyData.eqvAll]
  | [], y :: ys => by simp [PyData.eqvAll]
  | x :: xs, [] => by simp [PyData.eqvAll]
  | x :: xs, y :: ys => by
    rw [List.map_cons, List.map_cons, PyData.eqvAll, h, eqvAll_map h xs ys]
    by_cases e : x = y <;> by_cases e' : xs = ys <;> simp [e, e']
theorem encP_eqv (p q : Pr) : PyData.eqv (encP p) (encP q) = decide (p = q) := by
  obtain ⟨a, b⟩ := p
  obtain ⟨c, d⟩ := q
  simp only [encP, PyData.eqv, PyData.eqvAll, Bool.and_true]
  by_cases h1 : a = c <;> by_cases h2 : b = d <;> simp [h1, h2]
theorem encC_eqv (c d : List Pr) : PyData.eqv (encC c) (encC d) = decide (c = d) := by
  unfold encC
  rw [PyData.eqv, eqvAll_map encP_eqv]
theorem encF_eqv (L M : List (List Pr)) : PyData.eqv (encF L) (encF M) = decide (L = M) := by
  unfold encF
  rw [PyData.eqv, eqvAll_map encC_eqv]
theorem layAll_map {β : Type} {enc : β → PyData} (h : ∀ a, (enc a).canLay0 = true) : ∀ xs : List β, PyData.canLayAll0 (xs.map enc) = true
  | [] => by simp [PyData.canLayAll0]
  | x :: xs => by simp [PyData.canLayAll0, h x, layAll_map h xs]
theorem depthAll_map {β : Type} {enc : β → PyData} {n : Nat} (h : ∀ a, (enc a).depth ≤ n) : ∀ xs : List β, PyData.depthAll (xs.map enc) ≤ n
  | [] => by simp [PyData.depthAll]
  | x :: xs => by
    have h1 := h x
    have h2 := depthAll_map h xs
    simp only [List.map_cons, PyData.depthAll]
    omega
theorem encP_lay (p : Pr) : (encP p).canLay0 = true := by simp [encP, PyData.canLay0, PyData.canLayAll0]
theorem encP_depth (p : Pr) : (encP p).depth ≤ 1 := by simp [encP, PyData.depth, PyData.depthAll]
theorem encC_lay (c : List Pr) : (encC c).canLay0 = true := by simp [encC, PyData.canLay0, layAll_map encP_lay]
theorem encC_depth (c : List Pr) : (encC c).depth ≤ 2 := by
  have h := depthAll_map encP_depth c
  simp only [encC, PyData.depth]
  omega
theorem encF_lay (L : List (List Pr)) : (encF L).canLay0 = true := by simp [encF, PyData.canLay0, layAll_map encC_lay]
theorem encF_depth (L : List (List Pr)) : (encF L).depth ≤ 3 := by
  have h := depthAll_map encC_depth L
  simp only [encF, PyData.depth]
  omega
theorem shaped_of {d : PyData} (h1 : d.canLay0 = true) (h2 : d.depth ≤ 64) : SeqAt.shaped d = true := by
  unfold SeqAt.shaped
  rw [h1, decide_eq_true h2]
  rfl
theorem encP_shaped (p : Pr) : SeqAt.shaped (encP p) = true := shaped_of (encP_lay p) (Nat.le_trans (encP_depth p) (by decide))
theorem encC_shaped (c : List Pr) : SeqAt.shaped (encC c) = true := shaped_of (encC_lay c) (Nat.le_trans (encC_depth c) (by decide))
theorem encF_shaped (L : List (List Pr)) : SeqAt.shaped (encF L) = true := shaped_of (encF_lay L) (Nat.le_trans (encF_depth L) (by decide))
theorem alikeAll_map {β : Type} {enc : β → PyData} (h : ∀ a b, PySem.W.alike (enc a) (enc b) = true) : ∀ xs ys : List β, PySem.W.alikeAll (xs.map enc) (ys.map enc) = true
  | [], _ => by simp [PySem.W.alikeAll]
  | _ :: _, [] => by simp [PySem.W.alikeAll]
  | x :: xs, y :: ys => by
    rw [List.map_cons, List.map_cons, PySem.W.alikeAll, h, alikeAll_map h xs ys]
    rfl
theorem encP_alike (p q : Pr) : PySem.W.alike (encP p) (encP q) = true := by simp [encP, PySem.W.alike, PySem.W.alikeAll]
theorem encC_alike (c d : List Pr) : PySem.W.alike (encC c) (encC d) = true := by
  unfold encC
  rw [PySem.W.alike]
  exact alikeAll_map encP_alike c d
theorem encP_lt (p q : Pr) : PySem.W.dataLt (encP p) (encP q) = decide (plt p q) := PySem.W.dataLt_ii p.1 p.2 q.1 q.2
theorem encC_lt {x y : Pr} {r s : List Pr} : PySem.W.dataLt (encC (x :: r)) (encC (y :: s)) = if x = y then PySem.W.dataLt (encC r) (encC s) else decide (plt x y) := by
  unfold encC
  rw [PySem.W.dataLt_list, List.map_cons, List.map_cons, PySem.W.dataLt_cons (encP_alike x y), encP_eqv, encP_lt, PySem.W.dataLt_list]
  by_cases h : x = y
  · rw [if_pos h, if_pos (decide_eq_true h)]
  · rw [if_neg h, if_neg (by simp [h])]
theorem leP_iff (p q : Pr) : PySem.W.dataLe false encP p q = decide (ple p q) := by
  rw [PySem.W.dataLe_eq]
  show (!PySem.W.dataLt (encP q) (encP p)) = _
  rw [encP_lt]
  by_cases h : plt q p
  · have h' : ¬ ple p q := fun k => not_plt.mpr k h
    simp [h, h']
  · have h' : ple p q := not_plt.mp h
    simp [h, h']
theorem leC_hd {c d : List Pr} (hc : c ≠ []) (hd' : d ≠ []) (h : PySem.W.dataLe false encC c d = true) : ple (hd c) (hd d) := by
  rw [PySem.W.dataLe_eq] at h
  have h : (!PySem.W.dataLt (encC d) (encC c)) = true := h
  cases c with
  | nil => exact absurd rfl hc
  | cons x r =>
    cases d with
    | nil => exact absurd rfl hd'
    | cons y s =>
      rw [encC_lt] at h
      show ple x y
      by_cases e : y = x
      · rw [e]
        exact ple_refl x
      · rw [if_neg e] at h
        refine not_plt.mp fun k => ?_
        rw [decide_eq_true k] at h
        cases h
theorem hd_leC {c d : List Pr} (hc : c ≠ []) (hd' : d ≠ []) (h : plt (hd c) (hd d)) : PySem.W.dataLe false encC c d = true := by
  rw [PySem.W.dataLe_eq]
  show (!PySem.W.dataLt (encC d) (encC c)) = true
  cases c with
  | nil => exact absurd rfl hc
  | cons x r =>
    cases d with
    | nil => exact absurd rfl hd'
    | cons y s =>
      have h : plt x y := h
      have e : ¬ y = x := fun e => by
        rw [e] at h
        exact plt_irrefl h
      rw [encC_lt, if_neg e, decide_eq_false (fun k => plt_irrefl (plt_trans h k))]
      rfl

/-! ### min(xs), xs a list of pairs of whole numbers -/
def rMinP (K : PySem.W.Frag) : List V → Hp → VK → Prop := fun vs H Q => ∃ (a : Addr) (xs : List V) (ps : List Pr), vs = [V.ref a] ∧ SqL K H a xs ∧ ps ≠ [] ∧ All2 (fun v p => Dp K H v (encP p)) xs ps ∧
  ∀ (j : Nat) (v : V) (p : Pr), xs[j]? = some v → ps[j]? = some p → (∀ q, q ∈ ps → ple p q) → Q v H
theorem fold_least : ∀ (ps : List Pr) (p : Pr), ∃ q, (ps.map encP).foldl (fun a y => if PySem.W.dataLt y a then y else a) (encP p) = encP q ∧ ple q p ∧ ∀ r, r ∈ ps → ple q r
  | [], p => ⟨p, rfl, ple_refl p, fun r h => by simp at h⟩
  | x :: ps, p => by
    rw [List.map_cons, List.foldl_cons, encP_lt]
    by_cases h : plt x p
    · rw [if_pos (decide_eq_true h)]
      obtain ⟨q, e, h1, h2⟩ := fold_least ps x
      refine ⟨q, e, ple_trans h1 (plt_ple h), fun r hr => ?_⟩
      rcases List.mem_cons.mp hr with k | k
      · rw [k]
        exact h1
      · exact h2 r k
    · rw [if_neg (by simp [h])]
      obtain ⟨q, e, h1, h2⟩ := fold_least ps p
      refine ⟨q, e, h1, fun r hr => ?_⟩
      rcases List.mem_cons.mp hr with k | k
      · rw [k]
        exact ple_trans h1 (not_plt.mp h)
      · exact h2 r k
section
variable {X : Cx}
theorem cr_minP (hc : X.calm = true) (hu : X.A.units + 64 < cLine) : CallR X (.builtin "min") (rMinP X.K) := by
  intro pins s σ H vs us Q I r h
  obtain ⟨a, xs, ps, rfl, hs, hne, hD, q⟩ := h
  obtain ⟨its, rv, hl, hz⟩ := I.list hs
  rw [Vals.ref1 r]
  have rv' : All2 (fun u v => RelV v u) its xs := (All2.ofPaired rv).flip
  obtain ⟨as, hr⟩ := Dp.readsAll I _ _ its (dpAll_of hD) rv
  cases ps with
  | nil => exact absurd rfl hne
  | cons p0 ps =>
    have hal : PySem.W.AlikeAll ((p0 :: ps).map encP) := by
      refine ⟨fun x hx y hy => ?_, fun x hx => ?_⟩
      · obtain ⟨p, _, rfl⟩ := List.mem_map.mp hx
        obtain ⟨q, _, rfl⟩ := List.mem_map.mp hy
        exact encP_alike p q
      · obtain ⟨p, _, rfl⟩ := List.mem_map.mp hx
        intro e
        cases e
    have hdep := depthAll_map encP_depth (p0 :: ps)
    refine PySem.W.min_list_data (I.ok.hd hc) hl.isList (x := encP p0) (xs := ps.map encP) (as := as) (by simpa using hr) hal (by
      have e : PyData.depthAll (encP p0 :: ps.map encP) ≤ 1 := hdep
      omega) fun i v h' tk bs hv hr' hk => ?_
    obtain ⟨v', hv', hrel⟩ := rv'.at' (show its[i]? = some v by simpa using hv)
    obtain ⟨p, hp, hDp⟩ := hD.at' hv'
    obtain ⟨as2, r2⟩ := Dp.reads I _ v' v hDp hrel
    have r3 : Reads h' v (encP p) as2 := PySem.W.reads_keeps hk r2
    obtain ⟨m, em, m1, m2⟩ := fold_least ps p0
    have e1 : PySem.W.minD (encP p0) (ps.map encP) = encP m := em
    rw [e1] at hr'
    have e2 : encP m = encP p := PySem.W.alike_unique _ _ v _ _ (encP_alike m p) hr' r3
    have e3 : m = p := by
      have q := encP_eqv m p
      rw [e2, encP_eqv] at q
      have q' : decide (p = p) = decide (m = p) := q
      rw [decide_eq_true rfl] at q'
      exact of_decide_eq_true q'.symm
    exact ⟨v', H, I.kept hk, hrel, q i v' p hv' hp fun r hr => by
      rw [← e3]
      rcases List.mem_cons.mp hr with k | k
      · rw [k]
        exact m1
      · exact m2 r k⟩

/-! ### x not in (a, b), of data -/
def rNotInU (K : PySem.W.Frag) : R2 := fun x y H Q => ∃ d ds, Dp K H x d ∧ Dp K H y (.tuple ds) ∧ SeqAt.shaped d = true ∧ SeqAt.shaped (.tuple ds) = true ∧ Q (.bl (!ds.any fun z => PyData.eqv z d)) H
theorem op_notInU (hu : X.A.units + 65 < cLine) : OpR X (compareOp .NotIn) (rNotInU X.K) := by
  intro pins s σ H x y v u Q I rx ry h
  obtain ⟨d, ds, hd, he, sd, se, q⟩ := h
  obtain ⟨as, r1⟩ := Dp.reads I d x v hd rx
  obtain ⟨bs, r2⟩ := Dp.reads I (.tuple ds) y u he ry
  exact SeqAt.notIn_tuple_reads r2 r1 (SeqAt.canLay_of_shaped se) (SeqAt.canLay_of_shaped sd) (room_in_shaped sd hu) ⟨.bl _, H, I, rfl, q⟩
end
end Wd

-- part WdHeap
/-! ## How webs, faces, ends lie in the heap -/
namespace Wd
open PySem PySem.Spec PyProof.Rows L2

/-- what the module's names are at the law's call -/
structure Glb (mg : Str → Option Value) : Prop where
  sorted : mg "sorted" = none
  len : mg "len" = none
  range : mg "range" = none
  dict : mg "dict" = none
  list : mg "list" = none
  int : mg "int" = none
  max : mg "max" = none
  min : mg "min" = none

/-- a def of the module that keeps a promise, told by its name -/
structure Kn (P : Program) (w : World) (K : PySem.W.Frag) (mg : Str → Option Value) (base : Heap) (k : Nat) (x : Str) (sp : Sp) : Prop where
  ex : ∃ (f : Addr) (fd : FuncData) (ps : List Str), FnOk P w K mg base CX0 k f fd ps sp ∧ mg x = some (.ref f) ∧ PySem.W.keepIn K (.ref f) = true ∧ Binds K fd ps []
theorem pe_kn {X : Cx} {k j : Nat} {x : Str} {sp : Sp} {p pos : Pos} {e : Expr} {es : List Expr} {t : TA} (c : Kn X.prog X.w X.K X.mg X.base k x sp) (hr : Room j X.A) (hk : k ≤ j) (hg : Gl X x) (ha : PA X (e :: es) t)
    (hdb : (x == ("__debug__" : Str)) = false := by decide) (he : starEach (e :: es) X.env = (false, eval e X.env) :: starEach es X.env := by rfl) (hpl : (backTo pos (starEach es X.env)).any (·.1) = false := by rfl) :
    PE X (.Call (.Name x p) (e :: es) [] pos) (tCall sp [] E0 t) := by
  obtain ⟨f, fd, ps, F, hm, kp, b⟩ := c.ex
  exact pe_call F (hr.mono hk) hg hm kp b .nil pass0 ha hdb he hpl

def IsRef (v : V) : Prop := ∃ a, v = .ref a
/-- tuples, and lists of objects, are as they were -/
structure Keep (H H' : Hp) : Prop where
  tup : ∀ b xs, H b = some (.tup xs) → H' b = some (.tup xs)
  lst : ∀ b xs, (∀ v, v ∈ xs → IsRef v) → H b = some (.lst xs) → H' b = some (.lst xs)
theorem Keep.refl (H : Hp) : Keep H H := ⟨fun _ _ h => h, fun _ _ _ h => h⟩
theorem Keep.trans {H H1 H2 : Hp} (a : Keep H H1) (b : Keep H1 H2) : Keep H H2 := ⟨fun c xs h => b.tup c xs (a.tup c xs h), fun c xs r h => b.lst c xs r (a.lst c xs r h)⟩
theorem Keep.of {H H' : Hp} (s : Same H H') : Keep H H' := ⟨fun b xs h => s b _ h, fun b xs _ h => s b _ h⟩
theorem Keep.upd {H : Hp} {a : Addr} {o u : HO} (h : H a = some o) (h1 : ∀ xs, o ≠ .tup xs) (h2 : ∀ xs, (∀ v, v ∈ xs → IsRef v) → o ≠ .lst xs) : Keep H (upd H a u) := by
  refine ⟨fun b xs e => ?_, fun b xs r e => ?_⟩
  · rw [upd_ne (fun q => by rw [q, h] at e; exact h1 xs (Option.some.inj e))]
    exact e
  · rw [upd_ne (fun q => by rw [q, h] at e; exact h2 xs r (Option.some.inj e))]
    exact e
theorem Keep.dict {H : Hp} {a : Addr} {kvs : List (Key × V)} {u : HO} (h : H a = some (.dK kvs)) : Keep H (L2.upd H a u) := Keep.upd h (fun _ e => by cases e) (fun _ _ e => by cases e)
theorem Keep.dictT {H : Hp} {a : Addr} {kvs : List (List Key × V)} {u : HO} (h : H a = some (.dT kvs)) : Keep H (L2.upd H a u) := Keep.upd h (fun _ e => by cases e) (fun _ _ e => by cases e)
theorem Keep.frz {H : Hp} {a : Addr} {ob : Obj} {o u : HO} (h : H a = some (.frz ob o)) : Keep H (L2.upd H a u) := Keep.upd h (fun _ e => by cases e) (fun _ _ e => by cases e)
theorem Keep.pool {H : Hp} {a : Addr} {x y : Int} {u : HO} (h : H a = some (.lst [.int x, .int y])) : Keep H (L2.upd H a u) := Keep.upd h (fun _ e => by cases e) fun xs r e => by
  cases e
  obtain ⟨b, q⟩ := r _ List.mem_cons_self
  cases q
theorem same_new {H : Hp} {p : Addr} {o : HO} (h : H p = none) : Same H (upd H p o) := fun b x e => by
  rw [upd_ne (ne_of_none e h)]
  exact e
/-- a new object of one's own changes -/
theorem same_own {H H' : Hp} {p : Addr} {o : HO} (s : Same H H') (h : H p = none) : Same H (upd H' p o) := fun b x e => by
  rw [upd_ne (ne_of_none e h)]
  exact s b x e

/-! ### pairs, faces -/
def PrAt (H : Hp) (v : V) (p : Pr) : Prop := ∃ t, v = .ref t ∧ H t = some (.tup [.int p.1, .int p.2])
def RowAt {β : Type} (R : Hp → V → β → Prop) (H : Hp) (v : V) (bs : List β) : Prop := ∃ l xs, v = .ref l ∧ H l = some (.lst xs) ∧ All2 (R H) xs bs
abbrev FcAt : Hp → V → List Pr → Prop := RowAt PrAt
abbrev FsAt : Hp → V → List (List Pr) → Prop := RowAt FcAt
/-- an end: the other place, the price, told -/
abbrev Ed := Int × Int × Bool
def EdAt (H : Hp) (v : V) (e : Ed) : Prop := ∃ t, v = .ref t ∧ H t = some (.tup [.int e.1, .int e.2.1, .bl e.2.2])
abbrev EsAt : Hp → V → List Ed → Prop := RowAt EdAt
def PlAt (H : Hp) (v : V) (q : Int × List Ed) : Prop := ∃ t w, v = .ref t ∧ H t = some (.tup [.int q.1, w]) ∧ EsAt H w q.2
def Refs {β : Type} (R : Hp → V → β → Prop) : Prop := ∀ H v b, R H v b → IsRef v
def Mono {β : Type} (R : Hp → V → β → Prop) : Prop := ∀ H H' v b, Keep H H' → R H v b → R H' v b
theorem refs_pr : Refs PrAt := fun _ _ _ ⟨t, e, _⟩ => ⟨t, e⟩
theorem refs_row {β : Type} {R : Hp → V → β → Prop} : Refs (RowAt R) := fun _ _ _ ⟨t, _, e, _⟩ => ⟨t, e⟩
theorem refs_ed : Refs EdAt := fun _ _ _ ⟨t, e, _⟩ => ⟨t, e⟩
theorem mono_pr : Mono PrAt := fun _ _ _ _ k ⟨t, e, h⟩ => ⟨t, e, k.tup _ _ h⟩
theorem mono_ed : Mono EdAt := fun _ _ _ _ k ⟨t, e, h⟩ => ⟨t, e, k.tup _ _ h⟩
theorem mono_row {β : Type} {R : Hp → V → β → Prop} (r : Refs R) (m : Mono R) : Mono (RowAt R) := fun H H' v bs k ⟨l, xs, e, h, a⟩ =>
  ⟨l, xs, e, k.lst _ _ (fun v hv => by
    obtain ⟨b, _, q⟩ := a.left v hv
    exact r _ _ _ q) h, a.mono fun _ _ q => m _ _ _ _ k q⟩
theorem mono_fc : Mono FcAt := mono_row refs_pr mono_pr
theorem mono_fs : Mono FsAt := mono_row refs_row mono_fc
theorem mono_es : Mono EsAt := mono_row refs_ed mono_ed
theorem mono_pl : Mono PlAt := fun _ _ _ _ k ⟨t, w, e, h, q⟩ => ⟨t, w, e, k.tup _ _ h, mono_es _ _ _ _ k q⟩
theorem All2.up {β : Type} {R : Hp → V → β → Prop} (m : Mono R) {H H' : Hp} (k : Keep H H') {xs : List V} {bs : List β} (a : All2 (R H) xs bs) : All2 (R H') xs bs := a.mono fun _ _ q => m _ _ _ _ k q
section
variable {K : PySem.W.Frag} {H : Hp}
theorem sql {a : Addr} {xs : List V} (h : H a = some (.lst xs)) : SqL K H a xs := .inl (.inl h)
theorem sqt {a : Addr} {xs : List V} (h : H a = some (.tup xs)) : SqT K H a xs := .inl (.inl h)
theorem pr_dp {v : V} {p : Pr} (h : PrAt H v p) : Dp K H v (encP p) := by
  obtain ⟨t, rfl, h⟩ := h
  exact .tup (sqt h) (.cons (.int _) (.cons (.int _) .nil))
theorem row_dp {β : Type} {R : Hp → V → β → Prop} {enc : β → PyData} (d : ∀ v b, R H v b → Dp K H v (enc b)) {v : V} {bs : List β} (h : RowAt R H v bs) : Dp K H v (.list (bs.map enc)) := by
  obtain ⟨l, xs, rfl, h, a⟩ := h
  exact .lst (sql h) (dpAll_of (a.mono d))
theorem fc_dp {v : V} {c : List Pr} (h : FcAt H v c) : Dp K H v (encC c) := row_dp (fun _ _ => pr_dp) h
theorem fs_dp {v : V} {L : List (List Pr)} (h : FsAt H v L) : Dp K H v (encF L) := row_dp (fun _ _ => fc_dp) h
end

/-! ### webs -/
def Ents (H : Hp) (kvs : List (Key × V)) (ns : List Int) (pl : Int → Int × List Ed) : Prop := All2 (fun (kv : Key × V) (n : Int) => kv.1 = Sum.inl n ∧ PlAt H kv.2 (pl n)) kvs ns
def WebAt (H : Hp) (a : Addr) (ns : List Int) (pl : Int → Int × List Ed) : Prop := ∃ kvs, H a = some (.dK kvs) ∧ Ents H kvs ns pl
def nbOf (pl : Int → Int × List Ed) : Nb := fun n => (pl n).2.map (·.1)
theorem Ents.keep {H H' : Hp} {kvs : List (Key × V)} {ns : List Int} {pl : Int → Int × List Ed} (h : Ents H kvs ns pl) (k : Keep H H') : Ents H' kvs ns pl := All2.mono (fun _ _ q => ⟨q.1, mono_pl _ _ _ _ k q.2⟩) h
theorem WebAt.keep {H H' : Hp} {a : Addr} {ns : List Int} {pl : Int → Int × List Ed} (h : WebAt H a ns pl) (k : Keep H H') (r : ∀ kvs : List (Key × V), H a = some (.dK kvs) → H' a = some (.dK kvs)) : WebAt H' a ns pl := by
  obtain ⟨kvs, h1, h2⟩ := h
  exact ⟨kvs, r _ h1, h2.keep k⟩
theorem WebAt.same {H H' : Hp} {a : Addr} {ns : List Int} {pl : Int → Int × List Ed} (h : WebAt H a ns pl) (s : Same H H') : WebAt H' a ns pl := h.keep (Keep.of s) fun _ => s _ _
/-- the pool's list changes -/
theorem WebAt.pool {H : Hp} {a p : Addr} {ns : List Int} {pl : Int → Int × List Ed} {x y : Int} {u : HO} (h : WebAt H a ns pl) (hp : H p = some (.lst [.int x, .int y])) : WebAt (upd H p u) a ns pl :=
  h.keep (Keep.pool hp) fun kvs r => by
    rw [upd_ne (fun e => by
      rw [e, hp] at r
      cases r)]
    exact r
theorem valV_at {R : V → Int → Prop} {n : Int} : ∀ {kvs : List (Key × V)} {ns : List Int}, All2 (fun (kv : Key × V) (n : Int) => kv.1 = Sum.inl n ∧ R kv.2 n) kvs ns → n ∈ ns → ∃ v, valV kvs (Sum.inl n) = some v ∧ R v n
  | _, _, .nil, h => by simp at h
  | _, _, .cons (a := kv) (as := kvs) (b := m) h t, hn => by
    by_cases e : m = n
    · refine ⟨kv.2, ?_, by rw [← e]; exact h.2⟩
      unfold valV
      rw [List.find?_cons]
      have q : decide (kv.1 = Sum.inl n) = true := decide_eq_true (by rw [h.1, e])
      rw [q]
      rfl
    · have hn' : n ∈ _ := (List.mem_cons.mp hn).resolve_left fun q => e q.symm
      obtain ⟨v, h1, h2⟩ := valV_at t hn'
      refine ⟨v, ?_, h2⟩
      unfold valV at h1 ⊢
      rw [List.find?_cons]
      have q : decide (kv.1 = Sum.inl n) = false := decide_eq_false (fun q => by
        rw [h.1] at q
        exact e (Sum.inl.inj q))
      rw [q]
      exact h1
theorem valV_keys {R : V → Int → Prop} : ∀ {kvs : List (Key × V)} {ns : List Int}, All2 (fun (kv : Key × V) (n : Int) => kv.1 = Sum.inl n ∧ R kv.2 n) kvs ns → kvs.map (·.1) = ns.map Sum.inl
  | _, _, .nil => rfl
  | _, _, .cons h t => by rw [List.map_cons, List.map_cons, h.1, valV_keys t]
/-- the place of a name -/
theorem Ents.get {H : Hp} {a : Addr} {kvs : List (Key × V)} {ns : List Int} {pl : Int → Int × List Ed} (r : Rd H a (.dK kvs)) (h : Ents H kvs ns pl) {n : Int} (hn : n ∈ ns) :
    ∃ t l es, DGet H a (.int n) (some (.ref t)) ∧ H t = some (.tup [.int (pl n).1, .ref l]) ∧ H l = some (.lst es) ∧ All2 (EdAt H) es (pl n).2 := by
  obtain ⟨v, e, t, w, rfl, ht, l, es, rfl, hl, ha⟩ := valV_at (R := fun v n => PlAt H v (pl n)) h hn
  exact ⟨t, l, es, .inl ⟨kvs, .inl n, r, rfl, e.symm⟩, ht, hl, ha⟩
theorem WebAt.get {H : Hp} {a : Addr} {ns : List Int} {pl : Int → Int × List Ed} (h : WebAt H a ns pl) {n : Int} (hn : n ∈ ns) : ∃ t l es, DGet H a (.int n) (some (.ref t)) ∧ H t = some (.tup [.int (pl n).1, .ref l]) ∧ H l = some (.lst es) ∧ All2 (EdAt H) es (pl n).2 := by
  obtain ⟨kvs, h1, h2⟩ := h
  exact h2.get (.inl h1) hn
theorem WebAt.len {H : Hp} {a : Addr} {ns : List Int} {pl : Int → Int × List Ed} (h : WebAt H a ns pl) : ∃ kvs : List (Key × V), H a = some (.dK kvs) ∧ kvs.length = ns.length ∧ kvs.map (·.1) = ns.map Sum.inl := by
  obtain ⟨kvs, h1, h2⟩ := h
  exact ⟨kvs, h1, All2.len h2, valV_keys (R := fun v n => PlAt H v (pl n)) h2⟩
theorem small {n m : Nat} (h : n ≤ m) (k : m ≤ 100000) : n ≤ sizeLine := Nat.le_trans h (Nat.le_trans k (by decide))
theorem smallLt {n m : Nat} (h : n ≤ m) (k : m ≤ 100000) : n < sizeLine := Nat.lt_of_le_of_lt (Nat.le_trans h k) (by decide)
end Wd

-- part WdA
/-! ## The walks of names_of, neighbours_of, pair_behind, face_from -/
namespace Wd
open PySem PySem.Spec PyProof.Rows L2

theorem bt_sorted : bootBuiltins "sorted" = some (.builtin "sorted") := by decide +kernel
theorem bt_len : bootBuiltins "len" = some (.builtin "len") := by decide +kernel
section
variable {P : Program} {w : World} {K : PySem.W.Frag} {mg : Str → Option Value} {base : Heap} {f : Addr} {fd : FuncData}

/-! ### names_of -/
theorem scNames : FnScope ["web"] ["web"] (defScope sNames) := ⟨rfl, rfl, rfl, by decide +kernel, rfl, by decide +kernel, by decide +kernel⟩
def spNames : Sp := fun vs H Q _ => ∃ (a : Addr) (ns : List Int) (pl : Int → Int × List Ed), vs = [.ref a] ∧ WebAt H a ns pl ∧ ns.length < 64 ∧
  ∀ (ys : List Int) (p : Addr), ys.Perm ns → ys.Pairwise (· ≤ ·) → H p = none → Q (.ref p) (upd H p (.lst (ys.map V.int)))
theorem ok_names (F : FnP K "names_of" sNames f fd) (G : Glb mg) : FnOk P w K mg base CX0 1 f fd ["web"] spNames := by
  refine F.ok scNames (fun vs H Q E h => ?_) (fun cdv A outer s H vs Q E hr h => ?_)
  · obtain ⟨a, ns, pl, rfl, _⟩ := h
    rfl
  · obtain ⟨a, ns, pl, rfl, hW, hl, q⟩ := h
    obtain ⟨kvs, hk, _, hks⟩ := hW.len
    refine ⟨_, PSs.nox (pss_one (ps_ret (pe_callB (call_sortedDI rfl) (by rfl) G.sorted bt_sorted (pa_cons (pv 0) pa_nil)))), ?_⟩
    exact ⟨.ref a, rfl, a, kvs, ns, rfl, .inl hk, hks, hl, q⟩

/-! ### neighbours_of -/
theorem scNeigh : FnScope ["web", "name", "end"] ["web", "name"] (defScope sNeigh) := ⟨rfl, rfl, rfl, by decide +kernel, rfl, by decide +kernel, by decide +kernel⟩
def spNeigh : Sp := fun vs H Q _ => ∃ (a : Addr) (n : Int) (ns : List Int) (pl : Int → Int × List Ed), vs = [.ref a, .int n] ∧ WebAt H a ns pl ∧ n ∈ ns ∧ (pl n).2.length ≤ 1000 ∧
  ∀ (p : Addr), H p = none → Q (.ref p) (upd H p (.lst ((nbOf pl n).map V.int)))
theorem ok_neigh (F : FnP K "neighbours_of" sNeigh f fd) : FnOk P w K mg base CX0 1 f fd ["web", "name"] spNeigh := by
  refine F.ok scNeigh (fun vs H Q E h => ?_) (fun cdv A outer s H vs Q E hr h => ?_)
  · obtain ⟨a, n, ns, pl, rfl, _⟩ := h
    rfl
  · obtain ⟨a, n, ns, pl, rfl, hW, hn, hl, q⟩ := h
    have hu := hu_of hr
    refine ⟨_, PSs.nox (pss_one (ps_ret (pe_lc (own := [("end", 2)]) (g := gName 2) (te := tOp (rIxT K) (tVar 2) (tC (.int 0))) (by rfl) scNeigh.nd (pi_list (pe_ix ix_tup (pe_dget hu (pv 0) (pv 1) (fun _ _ => rfl)) pe_int (fun _ _ => rfl)))
      (blkOk_by (own := [("end", 2)]) (N := ["web", "name", "end"]) (sc := defScope sNeigh) (by decide +kernel))
      (fun _ _ _ _ _ => pg_name (i := 2) scNeigh.nd rfl (Or.inl rfl)) (fun _ _ _ _ _ => pts_nil) (fun _ _ _ _ _ => pe_ix ix_tup (pv 2) pe_int (fun _ _ => rfl))))), ?_⟩
    obtain ⟨t, l, es, dg, ht, hl', ha⟩ := hW.get hn
    have el : es.length = (pl n).2.length := ha.len
    refine ⟨.ref a, rfl, .int n, rfl, a, _, rfl, dg, t, _, 1, _, rfl, rfl, sqt ht, atI_nat (j := 1) rfl, l, rfl, ⟨es, sql hl'⟩, fun D nD => ?_⟩
    refine lc_list (K := K) (a := l) (xs := es) (fun i H' => H' = upd H D (.lst (((nbOf pl n).take i).map V.int))) rfl (fun i H' _ e => ?_) (fun i x H' hx e => ?_) (fun H' e => ?_)
    · subst e
      exact sql (same_new nD _ _ hl')
    · subst e
      obtain ⟨b, hb, t', rfl, ht'⟩ := ha.at' hx
      have hi := (List.getElem?_eq_some_iff.mp hb).1
      refine ⟨rfl, .ref t', rfl, t', _, 0, _, rfl, rfl, sqt (same_new nD _ _ ht'), atI_nat (j := 0) rfl, _, upd_same, ?_, ?_⟩
      · rw [List.length_map, List.length_take]
        exact smallLt (Nat.le_trans (Nat.min_le_left _ _) (Nat.le_of_lt hi)) (by omega)
      · have e1 : (nbOf pl n)[i]? = some b.1 := by
          unfold nbOf
          rw [List.getElem?_map, hb]
          rfl
        rw [upd_upd, List.take_add_one, e1, List.map_append]
        rfl
    · have e2 : (nbOf pl n).take es.length = nbOf pl n := List.take_of_length_le (by
        unfold nbOf
        rw [List.length_map, el]
        exact Nat.le_refl _)
      rw [e, e2]
      exact q D nD

/-! ### pair_behind -/
theorem succ_ix {l : List Int} {x : Int} (h : x ∈ l) : ∃ j : Nat, l[j]? = some x ∧ j < l.length ∧ (∀ m z, m < j → l[m]? = some z → z ≠ x) ∧ l[(j + 1) % l.length]? = some (succ l x) := by
  have hj : l.idxOf x < l.length := List.idxOf_lt_length_iff.mpr h
  refine ⟨l.idxOf x, ?_, hj, fun m z hm hz => ?_, ?_⟩
  · rw [List.getElem?_eq_getElem hj, List.getElem_idxOf]
  · intro e
    have hml := (List.getElem?_eq_some_iff.mp hz).1
    have q := List.not_of_lt_findIdx (p := (· == x)) (xs := l) (i := m) (by unfold List.idxOf at hm; exact hm)
    have e2 : l[m] = x := by
      rw [List.getElem?_eq_getElem hml] at hz
      rw [Option.some.inj hz, e]
    rw [e2] at q
    simp at q
  · have hm : (l.idxOf x + 1) % l.length < l.length := Nat.mod_lt _ (by omega)
    unfold succ
    rw [List.getElem?_eq_getElem hm, List.getD_eq_getElem?_getD, List.getElem?_eq_getElem hm]
    rfl
theorem scBehind : FnScope ["web", "pair", "one", "other", "ends"] ["web", "pair"] (defScope sBehind) := ⟨rfl, rfl, rfl, by decide +kernel, rfl, by decide +kernel, by decide +kernel⟩
def spBehind : Sp := fun vs H Q _ => ∃ (a : Addr) (v : V) (p : Pr) (ns : List Int) (pl : Int → Int × List Ed), vs = [.ref a, v] ∧ WebAt H a ns pl ∧ PrAt H v p ∧ Valid ns (nbOf pl) ∧ Dart (nbOf pl) p ∧ ns.length < 64 ∧
  ∀ (v' : V) (H' : Hp), Same H H' → PrAt H' v' (nxt (nbOf pl) p) → Q v' H'
theorem all_flat_ints : ∀ ns : List Int, (ns.map V.int).all flatV = true
  | [] => rfl
  | n :: ns => by
    rw [List.map_cons, List.all_cons, all_flat_ints ns]
    rfl
theorem ok_behind (F : FnP K "pair_behind" sBehind f fd) (G : Glb mg) (CN : Kn P w K mg base 1 "neighbours_of" spNeigh) : FnOk P w K mg base CX0 2 f fd ["web", "pair"] spBehind := by
  refine F.ok scBehind (fun vs H Q E h => ?_) (fun cdv A outer s H vs Q E hr h => ?_)
  · obtain ⟨a, v, p, ns, pl, rfl, _⟩ := h
    rfl
  · obtain ⟨a, v, p, ns, pl, rfl, hW, hP, Va, hd', hlen, q⟩ := h
    refine ⟨_, PSs.nox (pss_cons (ps_asg (pv 1) (pg_tup rfl (pgs_cons (pg_name (i := 2) scBehind.nd rfl (.inl rfl)) (pgs_cons (pg_name (i := 3) scBehind.nd rfl (.inl rfl)) pgs_nil))))
      (pss_cons (ps_set (i := 4) scBehind.nd rfl (.inl rfl) (pe_kn CN hr (by decide) (by rfl) (pa_cons (pv 0) (pa_cons (pv 3) pa_nil))))
      (pss_one (ps_ret (pe_tup (pa_cons (pv 3) (pa_cons (pe_ix ix_list (pv 4)
        (pe_op op_mod (pe_op op_add (pe_bm PySem.F.plainAttrs_list PySem.F.slot_list_index PySem.F.type_list_index mt_index (pv 4) (pa_cons (pv 2) pa_nil)) pe_int) (pe_callB call_len_seq (by rfl) G.len bt_len (pa_cons (pv 4) pa_nil)))
        (fun _ _ => rfl)) pa_nil))))))), ?_⟩
    obtain ⟨t, rfl, ht⟩ := hP
    have h1 : p.1 ∈ nbOf pl p.2 := Va.sym _ _ hd'
    have h2 : p.2 ∈ ns := Va.inn2 hd'
    have h3 : (nbOf pl p.2).length ≤ ns.length := Va.short _
    have h4 : (pl p.2).2.length = (nbOf pl p.2).length := by
      unfold nbOf
      rw [List.length_map]
    obtain ⟨j, j1, j2, j3, j4⟩ := succ_ix h1
    refine ⟨.ref t, rfl, t, _, rfl, sqt ht, rfl, .int p.1, [.int p.2], rfl, .int p.2, [], rfl, rfl, ?_⟩
    refine ⟨.ref a, rfl, .int p.2, rfl, a, p.2, ns, pl, rfl, hW, h2, by omega, fun l nl => ?_⟩
    have s1 : Same H (upd H l (.lst ((nbOf pl p.2).map V.int))) := same_new nl
    have hl : SqL K (upd H l (.lst ((nbOf pl p.2).map V.int))) l ((nbOf pl p.2).map V.int) := sql upd_same
    refine ⟨.int p.2, rfl, .ref l, rfl, .ref l, rfl, .inl ⟨rfl, _, hl⟩, .int p.1, rfl, l, (nbOf pl p.2).map V.int, .int p.1, j, .int p.1, rfl, rfl, hl, rfl, all_flat_ints _, by rw [List.getElem?_map, j1]; rfl, by show (p.1 == p.1) = true; simp, fun m z' hm hz => ?_, ?_⟩
    · rw [List.getElem?_map] at hz
      cases hz2 : (nbOf pl p.2)[m]? with
      | none =>
        rw [hz2] at hz
        cases hz
      | some z =>
        rw [hz2] at hz
        have e : V.int z = z' := Option.some.inj hz
        rw [← e]
        show (z == p.1) = false
        exact beq_eq_false_iff_ne.mpr (j3 m z hm hz2)
    · refine ⟨(j : Int), 1, rfl, rfl, .ref l, rfl, l, (nbOf pl p.2).map V.int, rfl, .inl hl, (j : Int) + 1, (((nbOf pl p.2).map V.int).length : Int), rfl, rfl, ?_, ?_⟩
      · show (0 : Int) < _
        rw [List.length_map]
        omega
      · rw [List.length_map]
        refine ⟨l, _, _, .int (succ (nbOf pl p.2) p.1), rfl, rfl, hl, at_of (j := (j + 1) % (nbOf pl p.2).length) ?_ ?_, ?_, fun u nu => ?_⟩
        · show ((j : Int) + 1) % ((nbOf pl p.2).length : Int) = (((j + 1) % (nbOf pl p.2).length : Nat) : Int)
          rw [Int.natCast_emod]
          rfl
        · rw [List.getElem?_map, j4]
          rfl
        · show 2 ≤ sizeLine
          decide
        · refine q _ _ (s1.trans (same_new nu)) ⟨u, rfl, upd_same⟩

/-! ### face_from -/
theorem darts_len (f : Nb) (m : Nat) : ∀ ns : List Int, (∀ a, (f a).length ≤ m) → (darts ns f).length ≤ ns.length * m
  | [], _ => Nat.zero_le _
  | a :: ns, h => by
    have h1 := h a
    have h2 := darts_len f m ns h
    show ((f a).map (fun b => (a, b)) ++ darts ns f).length ≤ _
    rw [List.length_append, List.length_map, List.length_cons, Nat.succ_mul]
    omega
theorem darts_small {ns : List Int} {nb : Nb} (Va : Valid ns nb) (h : ns.length < 64) : (darts ns nb).length ≤ 4096 := by
  have h1 := darts_len nb 64 ns fun a => Nat.le_trans (Va.short a) (by omega)
  omega
theorem run_len {ns : List Int} {nb : Nb} (Va : Valid ns nb) {l : List Pr} (n : l.Nodup) (h : ∀ p, p ∈ l → Dart nb p) : l.length ≤ (darts ns nb).length :=
  n.length_le_of_subset fun p hp => (Va.darts_mem p).mpr (h p hp)
theorem scFace : FnScope ["web", "pair", "found", "here"] ["web", "pair"] (defScope sFace) := ⟨rfl, rfl, rfl, by decide +kernel, rfl, by decide +kernel, by decide +kernel⟩
def spFace : Sp := fun vs H Q _ => ∃ (a : Addr) (v : V) (p : Pr) (ns : List Int) (pl : Int → Int × List Ed), vs = [.ref a, v] ∧ WebAt H a ns pl ∧ PrAt H v p ∧ Valid ns (nbOf pl) ∧ Dart (nbOf pl) p ∧ ns.length < 64 ∧
  ∀ (v' : V) (H' : Hp) (r : List Pr), Same H H' → FcAt H' v' (p :: r) → path (nxt (nbOf pl)) p r p → (p :: r).Nodup → (∀ q, q ∈ p :: r → Dart (nbOf pl) q) → Q v' H'
theorem ok_face (F : FnP K "face_from" sFace f fd) (CB : Kn P w K mg base 2 "pair_behind" spBehind) : FnOk P w K mg base CX0 3 f fd ["web", "pair"] spFace := by
  refine F.ok scFace (fun vs H Q E h => ?_) (fun cdv A outer s H vs Q E hr h => ?_)
  · obtain ⟨a, v, p, ns, pl, rfl, _⟩ := h
    rfl
  · obtain ⟨a, v, p, ns, pl, rfl, hW, hP, Va, hd', hlen, q⟩ := h
    have big := darts_small Va hlen
    refine ⟨_, PSs.nox (pss_cons (ps_set (i := 2) scFace.nd rfl (.inl rfl) (pe_lst (pa_cons (pv 1) pa_nil)))
      (pss_cons (ps_set (i := 3) scFace.nd rfl (.inl rfl) (pe_kn CB hr (by decide) (by rfl) (pa_cons (pv 0) (pa_cons (pv 1) pa_nil))))
      (pss_cons (ps_while PassesOwn.never (pt_cmpR (op_neD hr.units) (pv 3) (pv 1) (nomark _))
        (pss_cons (ps_expr (pe_bm PySem.F.plainAttrs_list PySem.F.slot_list_append PySem.F.type_list_append mt_append (pv 2) (pa_cons (pv 3) pa_nil)))
        (pss_one (ps_set (i := 3) scFace.nd rfl (.inl rfl) (pe_kn CB hr (by decide) (by rfl) (pa_cons (pv 0) (pa_cons (pv 3) pa_nil)))))))
      (pss_one (ps_ret (pv 2)))))), ?_⟩
    refine ⟨v, rfl, by show 1 ≤ sizeLine; decide, fun l nl => ?_⟩
    have s1 : Same H (upd H l (.lst [v])) := same_new nl
    refine ⟨.ref a, rfl, v, rfl, a, v, p, ns, pl, rfl, hW.same s1, mono_pr _ _ _ _ (Keep.of s1) hP, Va, hd', hlen, fun vh H2 s2 hh => ?_⟩
    refine ⟨fun m σ H3 => ∃ (xs : List V) (vh : V) (here : Pr) (r : List Pr), σ = [some (.ref a), some v, some (.ref l), some vh] ∧ Same H H3 ∧ H3 l = some (.lst xs) ∧ All2 (PrAt H3) xs (p :: r) ∧ PrAt H3 vh here ∧
      path (nxt (nbOf pl)) p r here ∧ (p :: r).Nodup ∧ (∀ u, u ∈ p :: r → Dart (nbOf pl) u) ∧ m + (r.length + 1) = (darts ns (nbOf pl)).length, ?_, fun m σ H3 hI => ?_⟩
    · have n1 : ([p] : List Pr).Nodup := List.nodup_cons.mpr ⟨List.not_mem_nil, List.nodup_nil⟩
      have d1 : ∀ u, u ∈ [p] → Dart (nbOf pl) u := fun u hu => by
        rw [List.mem_singleton.mp hu]
        exact hd'
      have b1 := run_len Va n1 d1
      rw [List.length_singleton] at b1
      exact ⟨(darts ns (nbOf pl)).length - 1, [v], vh, _, [], rfl, s1.trans s2, s2 _ _ upd_same, .cons (mono_pr _ _ _ _ (Keep.of (s1.trans s2)) hP) .nil, hh, rfl, n1, d1, by
        show (darts ns (nbOf pl)).length - 1 + (0 + 1) = _
        omega⟩
    · obtain ⟨xs, vh, here, r, rfl, s3, hl, ha, hh, hp, hn, hda, hm⟩ := hI
      refine ⟨vh, rfl, v, rfl, encP here, encP p, pr_dp hh, pr_dp (mono_pr _ _ _ _ (Keep.of s3) hP), encP_shaped _, encP_shaped _, _, rfl, ?_⟩
      rw [encP_eqv]
      by_cases e : here = p
      · subst e
        rw [decide_eq_true rfl]
        exact ⟨.ref l, rfl, q _ _ r s3 ⟨l, xs, rfl, hl, ha⟩ hp hn hda⟩
      · rw [decide_eq_false e]
        have hnew := run_new (f := nxt (nbOf pl)) (P := Dart (nbOf pl)) (fun p q h1 h2 => nxt_inj Va h1 h2) hda hn hp e
        have hdh : Dart (nbOf pl) here := by
          obtain ⟨u, hu, eu⟩ := path_last hp
          rw [← eu]
          exact nxt_dart Va (hda u hu)
        have n2 : (p :: (r ++ [here])).Nodup := by
          have q2 : ((p :: r) ++ [here]).Nodup := List.nodup_append.mpr ⟨hn, List.nodup_cons.mpr ⟨List.not_mem_nil, List.nodup_nil⟩, fun x hx y hy exy => by
            rw [List.mem_singleton.mp hy] at exy
            rw [exy] at hx
            exact hnew hx⟩
          exact q2
        have d2 : ∀ u, u ∈ p :: (r ++ [here]) → Dart (nbOf pl) u := fun u hu => by
          have hu' : u ∈ (p :: r) ++ [here] := hu
          rcases List.mem_append.mp hu' with h | h
          · exact hda u h
          · rw [List.mem_singleton.mp h]
            exact hdh
        have b2 := run_len Va n2 d2
        rw [List.length_cons, List.length_append, List.length_singleton] at b2
        have exl : xs.length = r.length + 1 := ha.len
        refine iteT ⟨_, fun _ _ n => n, .ref l, rfl, .inl ⟨rfl, _, sql hl⟩, vh, rfl, l, xs, vh, rfl, rfl, hl, smallLt (m := 5000) (by omega) (by decide), ?_⟩
        have nlH : H l = none := nl
        have s4 : Same H (upd H3 l (.lst (xs ++ [vh]))) := same_own s3 nlH
        have keepT : ∀ t ys, H3 t = some (.tup ys) → (upd H3 l (.lst (xs ++ [vh]))) t = some (.tup ys) := fun t ys ht => by
          rw [upd_ne (fun e => by
            rw [e, hl] at ht
            cases ht)]
          exact ht
        have up : ∀ x y, PrAt H3 x y → PrAt (upd H3 l (.lst (xs ++ [vh]))) x y := fun x y ⟨t, e1, e2⟩ => ⟨t, e1, keepT _ _ e2⟩
        refine ⟨.ref a, rfl, vh, rfl, a, vh, here, ns, pl, rfl, hW.same s4, up _ _ hh, Va, hdh, hlen, fun vh' H4 s5 hh' => ?_⟩
        refine ⟨m - 1, by omega, xs ++ [vh], vh', _, r ++ [here], rfl, s4.trans s5, s5 _ _ upd_same, ?_, hh', path_snoc hp, n2, d2, ?_⟩
        · have a2 : All2 (PrAt H4) (xs ++ [vh]) ((p :: r) ++ [here]) := ((ha.snoc hh).mono up).mono fun x y => mono_pr _ _ _ _ (Keep.of s5)
          exact a2
        · rw [List.length_append, List.length_singleton]
          omega
end
end Wd

-- part WdB
/-! ## The walk of faces_of -/
namespace Wd
open PySem PySem.Spec PyProof.Rows L2

/-! ### rising rows -/
def srt (l : List Int) : List Int := l.mergeSort (fun a b => decide (a ≤ b))
theorem srt_perm (l : List Int) : (srt l).Perm l := List.mergeSort_perm _ _
theorem srt_le (l : List Int) : (srt l).Pairwise (· ≤ ·) := by
  have q := List.pairwise_mergeSort (le := fun a b : Int => decide (a ≤ b)) (fun a b c h1 h2 => decide_eq_true (Int.le_trans (of_decide_eq_true h1) (of_decide_eq_true h2))) (fun a b => by
    rcases Int.le_total a b with h | h
    · rw [decide_eq_true h, Bool.true_or]
    · rw [decide_eq_true h, Bool.or_true]) l
  exact q.imp fun h => of_decide_eq_true h
theorem srt_eq {l m : List Int} (h : m.Perm l) (k : m.Pairwise (· ≤ ·)) : m = srt l :=
  List.Perm.eq_of_pairwise (le := fun a b : Int => a ≤ b) (fun a b _ _ h1 h2 => Int.le_antisymm h1 h2) k (srt_le l) (h.trans (srt_perm l).symm)
theorem srt_mem {l : List Int} {x : Int} : x ∈ srt l ↔ x ∈ l := (srt_perm l).mem_iff
theorem srt_lt {l : List Int} (n : l.Nodup) : (srt l).Pairwise (· < ·) := lt_of_le_nd (srt_le l) ((srt_perm l).nodup_iff.mpr n)
/-- all pairs, rising -/
def allP (ns : List Int) (nb : Nb) : List Pr := darts (srt ns) fun n => srt (nb n)
theorem allP_rise {ns : List Int} {nb : Nb} (Va : Valid ns nb) : (allP ns nb).Pairwise plt := darts_rise (srt_lt Va.nd) fun a => srt_lt (Va.nbd a)
theorem allP_mem {ns : List Int} {nb : Nb} (Va : Valid ns nb) (p : Pr) : p ∈ allP ns nb ↔ Dart nb p := by
  unfold allP
  rw [mem_darts, srt_mem, srt_mem]
  exact ⟨fun h => h.2, fun h => ⟨Va.inn h, h⟩⟩
theorem allP_nd {ns : List Int} {nb : Nb} (Va : Valid ns nb) : (allP ns nb).Nodup := (allP_rise Va).imp fun {a b} h (e : a = b) => plt_irrefl (p := b) (by rw [e] at h; exact h)
theorem darts_app (f : Nb) (xs ys : List Int) : darts (xs ++ ys) f = darts xs f ++ darts ys f := by
  unfold darts
  rw [List.flatMap_append]
theorem darts_one (f : Nb) (x : Int) : darts [x] f = (f x).map fun b => (x, b) := by
  unfold darts
  rw [List.flatMap_cons, List.flatMap_nil, List.append_nil]
theorem take_split {α : Type} {l : List α} {i : Nat} {x : α} (h : l[i]? = some x) : l = l.take i ++ x :: l.drop (i + 1) := by
  obtain ⟨hl, e⟩ := List.getElem?_eq_some_iff.mp h
  rw [← e, ← List.drop_eq_getElem_cons hl, List.take_append_drop]
theorem take_succ {α : Type} {l : List α} {i : Nat} {x : α} (h : l[i]? = some x) : l.take (i + 1) = l.take i ++ [x] := by
  rw [List.take_add_one, h]
  rfl

/-! ### the dict of the pairs that were seen -/
def ky (p : Pr) : List Key := [Sum.inl p.1, Sum.inl p.2]
theorem ky_inj {p q : Pr} (h : ky p = ky q) : p = q := by
  unfold ky at h
  injection h with h1 h2
  injection h2 with h3 _
  exact pr_ext (Sum.inl.inj h1) (Sum.inl.inj h3)
structure Seen (kvs : List (List Key × V)) (S : List Pr) : Prop where
  isin : ∀ p, (valV kvs (ky p)).isSome = true ↔ p ∈ S
  len : kvs.length ≤ S.length
theorem seen_nil : Seen [] [] := ⟨fun p => by simp [valV], Nat.le_refl _⟩
theorem Seen.put {kvs : List (List Key × V)} {S : List Pr} (h : Seen kvs S) (p : Pr) (v : V) : Seen (putK kvs (ky p) v) (S ++ [p]) where
  isin := fun q => by
    rw [valV_put, List.mem_append, List.mem_singleton]
    by_cases e : ky q = ky p
    · rw [if_pos e]
      exact ⟨fun _ => .inr (ky_inj e), fun _ => rfl⟩
    · rw [if_neg e, h.isin]
      exact ⟨fun k => .inl k, fun k => k.resolve_right fun e' => e (by rw [e'])⟩
  len := by
    have l := h.len
    rw [List.length_append, List.length_singleton]
    unfold putK
    split
    · rw [List.length_map]
      omega
    · rw [List.length_append, List.length_singleton]
      omega
theorem flat_len {α : Type} : ∀ {L : List (List α)}, (∀ c, c ∈ L → c ≠ []) → L.length ≤ L.flatten.length
  | [], _ => Nat.le_refl _
  | c :: L, h => by
    have h1 := flat_len (L := L) fun d hd => h d (List.mem_cons_of_mem _ hd)
    have h2 := List.length_pos_iff.mpr (h c List.mem_cons_self)
    rw [List.length_cons, List.flatten_cons, List.length_append]
    omega
/-- the list of the faces grows: the faces stand -/
theorem fc_found {H : Hp} {g : Addr} {xs : List V} {L : List (List Pr)} {o : HO} (hg : H g = some (.lst xs)) (ha : All2 (FcAt H) xs L) {v : V} {c : List Pr} (hc : c ≠ []) (h : FcAt H v c) : FcAt (upd H g o) v c := by
  obtain ⟨l, ys, rfl, hl, a⟩ := h
  have hne : l ≠ g := fun e => by
    rw [e, hg] at hl
    have e2 : xs = ys := by
      injection hl with hl
      injection hl
    subst e2
    cases c with
    | nil => exact hc rfl
    | cons p c =>
      obtain ⟨x, hx, t, et, ht⟩ := a.right p List.mem_cons_self
      obtain ⟨d, hd', l', xs', el, hl', _⟩ := ha.left x hx
      rw [et] at el
      injection el with el
      rw [el, hl'] at ht
      cases ht
  refine ⟨l, ys, rfl, by rw [upd_ne hne]; exact hl, a.mono fun x p ⟨t, e, ht⟩ => ⟨t, e, ?_⟩⟩
  rw [upd_ne (fun e' => by
    rw [e', hg] at ht
    cases ht)]
  exact ht
section
variable {P : Program} {w : World} {K : PySem.W.Frag} {mg : Str → Option Value} {base : Heap} {f : Addr} {fd : FuncData}
theorem scFaces : FnScope ["web", "found", "seen", "name", "other", "face", "pair"] ["web"] (defScope sFaces) := ⟨rfl, rfl, rfl, by decide +kernel, rfl, by decide +kernel, by decide +kernel⟩
/-- what is told of a web's faces -/
def Told (ns : List Int) (nb : Nb) (L : List (List Pr)) : Prop := (ns.length = 1 ∧ L = [[]]) ∨ (ns.length ≠ 1 ∧ IsFaces (Dart nb) (nxt nb) L)
def spFaces : Sp := fun vs H Q _ => ∃ (a : Addr) (ns : List Int) (pl : Int → Int × List Ed), vs = [.ref a] ∧ WebAt H a ns pl ∧ Valid ns (nbOf pl) ∧ ns.length < 64 ∧
  ∀ (v' : V) (H' : Hp) (L : List (List Pr)), Same H H' → FsAt H' v' L → Told ns (nbOf pl) L → Q v' H'
/-- between two turns: g the list of the faces, d the dict of the seen pairs -/
structure Going (H0 H : Hp) (g d : Addr) (nb : Nb) (pre : List Pr) (L : List (List Pr)) : Prop where
  same : Same H0 H
  row : ∃ xs, H g = some (.lst xs) ∧ All2 (FcAt H) xs L
  seen : ∃ kvs, H d = some (.dT kvs) ∧ Seen kvs L.flatten
  up : Upto (Dart nb) (nxt nb) pre L
theorem Going.same' {H0 H H' : Hp} {g d : Addr} {nb : Nb} {pre : List Pr} {L : List (List Pr)} (h : Going H0 H g d nb pre L) (s : Same H H') : Going H0 H' g d nb pre L := by
  obtain ⟨xs, h1, h2⟩ := h.row
  obtain ⟨kvs, h3, h4⟩ := h.seen
  exact ⟨h.same.trans s, ⟨xs, s _ _ h1, h2.up mono_fc (Keep.of s)⟩, ⟨kvs, s _ _ h3, h4⟩, h.up⟩
theorem ok_faces (F : FnP K "faces_of" sFaces f fd) (G : Glb mg) (C1 : Kn P w K mg base 1 "names_of" spNames) (C2 : Kn P w K mg base 1 "neighbours_of" spNeigh) (C3 : Kn P w K mg base 3 "face_from" spFace) : FnOk P w K mg base CX0 4 f fd ["web"] spFaces := by
  refine F.ok scFaces (fun vs H Q E h => ?_) (fun cdv A outer s H vs Q E hr h => ?_)
  · obtain ⟨a, ns, pl, rfl, _⟩ := h
    rfl
  · obtain ⟨a, ns, pl, rfl, hW, Va, hlen, q⟩ := h
    have big := darts_small Va hlen
    have hu := hu_of hr
    refine ⟨_, PSs.nox (pss_cons (ps_if (pt_cmpR op_eq (pe_callB call_lenD (by rfl) G.len bt_len (pa_cons (pv 0) pa_nil)) pe_int (nomark _)) (pss_one (ps_ret (pe_lst (pa_cons (pe_lst pa_nil) pa_nil)))) pss_nil)
      (pss_cons (ps_set (i := 1) scFaces.nd rfl (.inl rfl) (pe_lst pa_nil))
      (pss_cons (ps_set (i := 2) scFaces.nd rfl (.inl rfl) pe_dnewT)
      (pss_cons (ps_for PassesOwn.never rfl (pi_list (pe_kn C1 hr (by decide) (by rfl) (pa_cons (pv 0) pa_nil))) (pg_name (i := 3) scFaces.nd rfl (.inl rfl))
        (pss_one (ps_for PassesOwn.never rfl (pi_list (pe_callB cr_sortedI (by rfl) G.sorted bt_sorted (pa_cons (pe_kn C2 hr (by decide) (by rfl) (pa_cons (pv 0) (pa_cons (pv 3) pa_nil))) pa_nil))) (pg_name (i := 4) scFaces.nd rfl (.inl rfl))
          (pss_one (ps_if (pt_cmp (pc_dnotin hu (pe_tup (pa_cons (pv 3) (pa_cons (pv 4) pa_nil))) (pv 2)))
            (pss_cons (ps_set (i := 5) scFaces.nd rfl (.inl rfl) (pe_kn C3 hr (by decide) (by rfl) (pa_cons (pv 0) (pa_cons (pe_tup (pa_cons (pv 3) (pa_cons (pv 4) pa_nil))) pa_nil))))
            (pss_cons (ps_expr (pe_bm PySem.F.plainAttrs_list PySem.F.slot_list_append PySem.F.type_list_append mt_append (pv 1) (pa_cons (pv 5) pa_nil)))
            (pss_one (ps_for PassesOwn.never rfl (pi_list (pv 5)) (pg_name (i := 6) scFaces.nd rfl (.inl rfl)) (pss_one (ps_dput hu (pv 2) (pv 6) pe_bl rfl)))))) pss_nil)))))
      (pss_one (ps_ret (pv 1))))))), ?_⟩
    obtain ⟨kvs0, hk0, hkl, _⟩ := hW.len
    refine ⟨.ref a, rfl, a, kvs0, rfl, hk0, rfl, _, rfl, ite2 (fun e => ?_) (fun e => ?_)⟩
    · -- one place
      have e0 : (kvs0.length : Int) = 1 := V.int.inj (of_decide_eq_true e)
      refine ⟨Nat.zero_le _, fun p np => ⟨by show 1 ≤ sizeLine; decide, fun r nr => ?_⟩⟩
      have s1 : Same H (upd H p (.lst [])) := same_new np
      have hpr : p ≠ r := fun e => by
        rw [← e, upd_same] at nr
        cases nr
      refine q _ _ [[]] (s1.trans (same_new nr)) ⟨r, _, rfl, upd_same, .cons ⟨p, [], rfl, ?_, .nil⟩ .nil⟩ (.inl ⟨by omega, rfl⟩)
      rw [upd_ne hpr]
      exact upd_same
    · have e0 : ns.length ≠ 1 := fun h => e (by
        rw [hkl, h]
        exact decide_eq_true rfl)
      refine ⟨Nat.zero_le _, fun g ng d nd => ?_⟩
      have s1 : Same H (upd H g (.lst [])) := same_new ng
      have s2 : Same H (upd (upd H g (.lst [])) d (.dT [])) := s1.trans (same_new nd)
      have ndH : H d = none := s1.free nd
      have ngd : g ≠ d := fun e => by
        rw [← e, upd_same] at nd
        cases nd
      have G0 : Going H (upd (upd H g (.lst [])) d (.dT [])) g d (nbOf pl) [] [] := ⟨s2, ⟨[], by rw [upd_ne ngd]; exact upd_same, .nil⟩, ⟨[], upd_same, seen_nil⟩, upto_nil⟩
      refine ⟨.ref a, rfl, a, ns, pl, rfl, hW.same s2, hlen, fun ys p hp1 hp2 np => ?_⟩
      have ey := srt_eq hp1 hp2
      subst ey
      have s3 := same_new (o := .lst ((srt ns).map V.int)) np
      have npH : H p = none := s2.free np
      refine ⟨p, rfl, ⟨_, sql upd_same⟩, for_list (K := K) (a := p) (xs := (srt ns).map V.int) (fun i σ H1 => ∃ (L : List (List Pr)) (y3 y4 y5 y6 : Option V), σ = [some (.ref a), some (.ref g), some (.ref d), y3, y4, y5, y6] ∧
        Going H H1 g d (nbOf pl) (darts ((srt ns).take i) fun n => srt (nbOf pl n)) L ∧ H1 p = some (.lst ((srt ns).map V.int))) ⟨[], none, none, none, none, rfl, G0.same' s3, upd_same⟩ (fun i σ H1 _ ⟨_, _, _, _, _, _, _, h⟩ => sql h) ?_ ?_⟩
      · rintro i x σ H1 hx ⟨L, y3, y4, y5, y6, rfl, G1, hp⟩
        rw [List.getElem?_map] at hx
        obtain ⟨n, hn, rfl⟩ : ∃ n, (srt ns)[i]? = some n ∧ V.int n = x := by
          cases h : (srt ns)[i]? with
          | none =>
            rw [h] at hx
            cases hx
          | some n =>
            rw [h] at hx
            exact ⟨n, rfl, Option.some.inj hx⟩
        have hnn : n ∈ ns := srt_mem.mp (List.mem_of_getElem? hn)
        have short : (nbOf pl n).length ≤ ns.length := Va.short n
        have short2 : (pl n).2.length = (nbOf pl n).length := by
          unfold nbOf
          rw [List.length_map]
        refine ⟨.ref a, rfl, .int n, rfl, a, n, ns, pl, rfl, hW.same G1.same, hnn, by omega, fun b nb' => ?_⟩
        refine ⟨b, nbOf pl n, rfl, sql upd_same, fun zs c hz1 hz2 nc => ?_⟩
        have ez := srt_eq hz1 hz2
        subst ez
        have s4 := same_new (o := .lst ((nbOf pl n).map V.int)) nb'
        have s5 := s4.trans (same_new (o := .lst ((srt (nbOf pl n)).map V.int)) nc)
        refine ⟨c, rfl, ⟨_, sql upd_same⟩, for_list (K := K) (a := c) (xs := (srt (nbOf pl n)).map V.int) (fun j σ H2 => ∃ (L : List (List Pr)) (y4 y5 y6 : Option V), σ = [some (.ref a), some (.ref g), some (.ref d), some (.int n), y4, y5, y6] ∧
          Going H H2 g d (nbOf pl) (darts ((srt ns).take i) (fun n => srt (nbOf pl n)) ++ ((srt (nbOf pl n)).take j).map fun b => (n, b)) L ∧ H2 p = some (.lst ((srt ns).map V.int)) ∧ H2 c = some (.lst ((srt (nbOf pl n)).map V.int)))
          ⟨L, y4, y5, y6, rfl, by
            have e : (darts ((srt ns).take i) (fun n => srt (nbOf pl n)) ++ ((srt (nbOf pl n)).take 0).map fun b => (n, b)) = darts ((srt ns).take i) (fun n => srt (nbOf pl n)) := by simp
            rw [e]
            exact G1.same' s5, s5 _ _ hp, upd_same⟩ (fun j σ H2 _ ⟨_, _, _, _, _, _, _, h⟩ => sql h) ?_ ?_⟩
        · rintro j x σ H2 hx ⟨L, y4, y5, y6, rfl, G2, hp2, hc2⟩
          rw [List.getElem?_map] at hx
          obtain ⟨m, hm, rfl⟩ : ∃ m, (srt (nbOf pl n))[j]? = some m ∧ V.int m = x := by
            cases h : (srt (nbOf pl n))[j]? with
            | none =>
              rw [h] at hx
              cases hx
            | some m =>
              rw [h] at hx
              exact ⟨m, rfl, Option.some.inj hx⟩
          have hmm : m ∈ nbOf pl n := srt_mem.mp (List.mem_of_getElem? hm)
          have hda : Dart (nbOf pl) (n, m) := hmm
          -- the pair's place among all pairs
          obtain ⟨rest, eD⟩ : ∃ rest, allP ns (nbOf pl) = (darts ((srt ns).take i) (fun n => srt (nbOf pl n)) ++ ((srt (nbOf pl n)).take j).map fun b => (n, b)) ++ (n, m) :: rest := by
            refine ⟨((srt (nbOf pl n)).drop (j + 1)).map (fun b => (n, b)) ++ darts ((srt ns).drop (i + 1)) (fun n => srt (nbOf pl n)), ?_⟩
            have e1 : allP ns (nbOf pl) = darts ((srt ns).take i ++ n :: (srt ns).drop (i + 1)) (fun n => srt (nbOf pl n)) := by
              unfold allP
              rw [← take_split hn]
            have e2 : n :: (srt ns).drop (i + 1) = [n] ++ (srt ns).drop (i + 1) := rfl
            have e3 : (srt (nbOf pl n)).map (fun b => (n, b)) = ((srt (nbOf pl n)).take j).map (fun b => (n, b)) ++ (n, m) :: ((srt (nbOf pl n)).drop (j + 1)).map (fun b => (n, b)) := by
              have e4 := congrArg (List.map fun b => (n, b)) (take_split hm)
              rw [List.map_append, List.map_cons] at e4
              exact e4
            rw [e1, e2, darts_app, darts_app, darts_one, e3]
            simp
          have preE : (darts ((srt ns).take i) (fun n => srt (nbOf pl n)) ++ ((srt (nbOf pl n)).take (j + 1)).map fun b => (n, b)) = (darts ((srt ns).take i) (fun n => srt (nbOf pl n)) ++ ((srt (nbOf pl n)).take j).map fun b => (n, b)) ++ [(n, m)] := by
            rw [take_succ hm, List.map_append, List.append_assoc]
            rfl
          obtain ⟨kvs, hd2, hS⟩ := G2.seen
          refine ⟨.int n, rfl, .int m, rfl, by show 2 ≤ sizeLine; decide, fun u nu => ?_⟩
          have s6 := same_new (o := .tup [.int n, .int m]) nu
          have hky : upd H2 u (.tup [.int n, .int m]) u = some (.tup ((ky (n, m)).map kV)) := upd_same
          refine ⟨.ref d, rfl, d, _, rfl, DGet.t (k := ky (n, m)) (s6 _ _ hd2) hky, _, rfl, ?_⟩
          by_cases hin : (n, m) ∈ L.flatten
          · -- seen
            have hs := (hS.isin (n, m)).mpr hin
            rw [hs]
            refine iteF ⟨L, some (.int m), y5, y6, rfl, ?_, s6 _ _ hp2, s6 _ _ hc2⟩
            rw [preE]
            have G3 := G2.same' s6
            exact ⟨G3.same, G3.row, G3.seen, G2.up.skip hin⟩
          · have hs : (valV kvs (ky (n, m))).isSome = false := by
              cases h : (valV kvs (ky (n, m))).isSome with
              | false => rfl
              | true => exact absurd ((hS.isin (n, m)).mp h) hin
            rw [hs]
            refine iteT ?_
            -- face = face_from(web, (name, other))
            refine ⟨.ref a, rfl, .int n, rfl, .int m, rfl, by show 2 ≤ sizeLine; decide, fun u2 nu2 => ?_⟩
            have s7 := s6.trans (same_new (o := .tup [.int n, .int m]) nu2)
            refine ⟨a, .ref u2, (n, m), ns, pl, rfl, hW.same (G2.same.trans s7), ⟨u2, rfl, upd_same⟩, Va, hda, hlen, fun vf H3 r s8 hf hp hnd hall => ?_⟩
            have s9 := s7.trans s8
            have U3 := G2.up.new eD (allP_rise Va) (fun p hp => (allP_mem Va p).mpr hp) hin hp hnd hall
            have G3 := G2.same' s9
            obtain ⟨xs, hx1, hx2⟩ := G3.row
            obtain ⟨lf, zf, rfl, hlf, haf⟩ := hf
            have hfc : FcAt H3 (.ref lf) ((n, m) :: r) := ⟨lf, zf, rfl, hlf, haf⟩
            have cap : (L ++ [(n, m) :: r]).flatten.length ≤ (darts ns (nbOf pl)).length := run_len Va U3.nd fun p hp => U3.inp p hp
            have lens : L.length ≤ L.flatten.length := flat_len fun c hc => cyc_ne (G2.up.cyc c hc)
            have capE : (L ++ [(n, m) :: r]).flatten.length = L.flatten.length + (r.length + 1) := by
              rw [List.flatten_append, List.length_append]
              simp
            -- found.append(face)
            refine ⟨.ref g, rfl, .inl ⟨rfl, _, sql hx1⟩, .ref lf, rfl, g, xs, .ref lf, rfl, rfl, hx1, smallLt (m := 5000) (by rw [hx2.len]; omega) (by decide), ?_⟩
            have s10 : Same H (upd H3 g (.lst (xs ++ [.ref lf]))) := same_own G3.same ng
            have hfound : ∀ v c, FcAt H3 v c → c ≠ [] → FcAt (upd H3 g (.lst (xs ++ [.ref lf]))) v c := fun v c h hc => fc_found hx1 hx2 hc h
            have hx3 : All2 (FcAt (upd H3 g (.lst (xs ++ [.ref lf])))) (xs ++ [.ref lf]) (L ++ [(n, m) :: r]) := by
              refine All2.mono (R := fun v c => FcAt H3 v c ∧ c ≠ []) (fun v c h => hfound v c h.1 h.2) ?_
              refine All2.snoc ?_ ⟨hfc, by simp⟩
              exact hx2.memR.mono fun v c h => ⟨h.1, cyc_ne (G2.up.cyc c h.2.2)⟩
            obtain ⟨lf', zf', e5, hlf', haf'⟩ := hfound _ _ hfc (by simp)
            cases e5
            -- for pair in face: seen[pair] = True
            obtain ⟨kvs3, hd3, hS3⟩ := G3.seen
            have hd4 : upd H3 g (.lst (xs ++ [.ref lf])) d = some (.dT kvs3) := by
              rw [upd_ne (fun e => ngd e.symm)]
              exact hd3
            have hp4 : upd H3 g (.lst (xs ++ [.ref lf])) p = some (.lst ((srt ns).map V.int)) := by
              rw [upd_ne (fun e => by
                rw [e] at npH
                have := s2 g
                rw [e] at np
                rw [upd_ne ngd, upd_same] at np
                cases np)]
              exact s9 _ _ hp2
            have ncg : c ≠ g := fun e => by
              obtain ⟨xs1, hx11, _⟩ := (G1.same' s4).row
              rw [e, hx11] at nc
              cases nc
            have ncd : c ≠ d := fun e => by
              obtain ⟨xs1, hx11, _⟩ := (G1.same' s4).seen
              rw [e, hx11] at nc
              cases nc
            have npd : p ≠ d := fun e => by
              rw [e, upd_same] at np
              cases np
            have hc4 : upd H3 g (.lst (xs ++ [.ref lf])) c = some (.lst ((srt (nbOf pl n)).map V.int)) := by
              rw [upd_ne ncg]
              exact s9 _ _ hc2
            refine ⟨.ref lf, rfl, lf, rfl, ⟨_, sql hlf'⟩, for_list (K := K) (a := lf) (xs := zf') (fun k σ H5 => ∃ (y6 : Option V) (kvs5 : List (List Key × V)), σ = [some (.ref a), some (.ref g), some (.ref d), some (.int n), some (.int m), some (.ref lf), y6] ∧
              Keep (upd H3 g (.lst (xs ++ [.ref lf]))) H5 ∧ (∀ b, b ≠ d → H5 b = upd H3 g (.lst (xs ++ [.ref lf])) b) ∧ H5 d = some (.dT kvs5) ∧ Seen kvs5 (L.flatten ++ ((n, m) :: r).take k)) ⟨y6, kvs3, rfl, Keep.refl _, fun _ _ => rfl, hd4, by simpa using hS3⟩ ?_ ?_ ?_⟩
            · rintro k σ H5 _ ⟨_, _, _, _, hb, _, _⟩
              refine sql ?_
              rw [hb lf (ne_of hlf' hd4 (by intro z; cases z))]
              exact hlf'
            · rintro k y σ H5 hy ⟨y6, kvs5, rfl, hk5, hb5, hd5, hS5⟩
              obtain ⟨pp, hpp, t, rfl, ht⟩ := haf'.at' hy
              have ht5 : H5 t = some (.tup ((ky pp).map kV)) := hk5.tup _ _ ht
              have klen : kvs5.length < sizeLine := by
                have l1 := hS5.len
                rw [List.length_append, List.length_take] at l1
                have l2 : min k ((n, m) :: r).length ≤ r.length + 1 := Nat.min_le_right _ _
                exact smallLt (m := 5000) (by omega) (by decide)
              refine ⟨.ref d, rfl, .ref t, rfl, d, _, rfl, DPut.t (k := ky pp) hd5 ht5 klen, ?_⟩
              refine ⟨some (.ref t), putK kvs5 (ky pp) (.bl true), rfl, hk5.trans (Keep.dictT hd5), fun b hb => by rw [upd_ne hb]; exact hb5 b hb, upd_same, ?_⟩
              rw [take_succ hpp, ← List.append_assoc]
              exact hS5.put pp _
            · rintro σ H5 ⟨y6, kvs5, rfl, hk5, hb5, hd5, hS5⟩
              have e6 : ((n, m) :: r).take zf'.length = (n, m) :: r := List.take_of_length_le (by rw [haf'.len]; exact Nat.le_refl _)
              rw [e6] at hS5
              have e7 : L.flatten ++ ((n, m) :: r) = (L ++ [(n, m) :: r]).flatten := by simp
              rw [e7] at hS5
              refine ⟨L ++ [(n, m) :: r], some (.int m), some (.ref lf), y6, rfl, ⟨fun b o hb => ?_, ⟨xs ++ [.ref lf], ?_, hx3.up mono_fc hk5⟩, ⟨kvs5, hd5, hS5⟩, by rw [preE]; exact U3⟩, ?_, ?_⟩
              · have hbd : b ≠ d := ne_of_none hb ndH
                rw [hb5 b hbd]
                exact s10 b o hb
              · rw [hb5 g ngd]
                exact upd_same
              · rw [hb5 p npd]
                exact hp4
              · rw [hb5 c ncd]
                exact hc4
        · rintro σ H2 ⟨L, y4, y5, y6, rfl, G2, hp2, hc2⟩
          refine ⟨L, some (.int n), y4, y5, y6, rfl, ?_, hp2⟩
          have e8 : (srt (nbOf pl n)).take ((srt (nbOf pl n)).map V.int).length = srt (nbOf pl n) := List.take_of_length_le (by rw [List.length_map]; exact Nat.le_refl _)
          rw [e8] at G2
          have e9 : darts ((srt ns).take (i + 1)) (fun n => srt (nbOf pl n)) = darts ((srt ns).take i) (fun n => srt (nbOf pl n)) ++ (srt (nbOf pl n)).map fun b => (n, b) := by
            rw [take_succ hn, darts_app, darts_one]
          rw [e9]
          exact G2
      · rintro σ H1 ⟨L, y3, y4, y5, y6, rfl, G1, hp⟩
        have e8 : (srt ns).take ((srt ns).map V.int).length = srt ns := List.take_of_length_le (by rw [List.length_map]; exact Nat.le_refl _)
        rw [e8] at G1
        obtain ⟨xs, hx1, hx2⟩ := G1.row
        exact ⟨.ref g, rfl, q _ _ L G1.same ⟨g, xs, rfl, hx1, hx2⟩ (.inr ⟨e0, G1.up.all fun p hp => (allP_mem Va p).mpr hp⟩)⟩
end
end Wd

-- part WdC
/-! ## The walks of ties_of, is_ball, _law_ties, _law_pairs, _law_flat -/
namespace Wd
open PySem PySem.Spec PyProof.Rows L2

/-! ### ties as data -/
abbrev Ti := Int × Ed
def TiAt (H : Hp) (v : V) (q : Ti) : Prop := ∃ t, v = .ref t ∧ H t = some (.tup [.int q.1, .int q.2.1, .int q.2.2.1, .bl q.2.2.2])
def encT (q : Ti) : PyData := .tuple [.int q.1, .int q.2.1, .int q.2.2.1, .bool q.2.2.2]
theorem refs_ti : Refs TiAt := fun _ _ _ ⟨t, e, _⟩ => ⟨t, e⟩
theorem mono_ti : Mono TiAt := fun _ _ _ _ k ⟨t, e, h⟩ => ⟨t, e, k.tup _ _ h⟩
theorem ti_dp {K : PySem.W.Frag} {H : Hp} {v : V} {q : Ti} (h : TiAt H v q) : Dp K H v (encT q) := by
  obtain ⟨t, rfl, h⟩ := h
  exact .tup (sqt h) (.cons (.int _) (.cons (.int _) (.cons (.int _) (.cons (.bl _) .nil))))
theorem encT_alike (p q : Ti) : PySem.W.alike (encT p) (encT q) = true := by simp [encT, PySem.W.alike, PySem.W.alikeAll]
theorem encT_depth (p : Ti) : (encT p).depth ≤ 50 := by simp [encT, PyData.depth, PyData.depthAll]
def tl1 (n : Int) (es : List Ed) : List Ti := (es.filter fun e => decide (n < e.1)).map fun e => (n, e)
def tl (pl : Int → Int × List Ed) (ns : List Int) : List Ti := ns.flatMap fun n => tl1 n (pl n).2
theorem tl_len (pl : Int → Int × List Ed) : ∀ ns : List Int, (tl pl ns).length = tc ns (nbOf pl)
  | [] => rfl
  | n :: ns => by
    have ih := tl_len pl ns
    have e1 : tl pl (n :: ns) = tl1 n (pl n).2 ++ tl pl ns := List.flatMap_cons
    have e2 : darts (n :: ns) (nbOf pl) = (nbOf pl n).map (fun b => (n, b)) ++ darts ns (nbOf pl) := List.flatMap_cons
    unfold tc tcount at ih ⊢
    rw [e1, e2, List.length_append, List.countP_append, ih]
    congr 1
    unfold tl1 nbOf
    rw [List.length_map, List.countP_map, List.countP_map, List.countP_eq_length_filter]
    rfl
theorem tc_srt (ns : List Int) (nb : Nb) : tc (srt ns) nb = tc ns nb := by
  unfold tc tcount darts
  exact List.Perm.countP_eq _ (List.Perm.flatMap_right _ (srt_perm ns))
theorem tl_app (pl : Int → Int × List Ed) (xs ys : List Int) : tl pl (xs ++ ys) = tl pl xs ++ tl pl ys := by
  unfold tl
  rw [List.flatMap_append]
theorem tl_one (pl : Int → Int × List Ed) (x : Int) : tl pl [x] = tl1 x (pl x).2 := by
  unfold tl
  rw [List.flatMap_cons, List.flatMap_nil, List.append_nil]
theorem tl1_app (n : Int) (xs ys : List Ed) : tl1 n (xs ++ ys) = tl1 n xs ++ tl1 n ys := by
  unfold tl1
  rw [List.filter_append, List.map_append]
theorem tc_le (ns : List Int) (nb : Nb) : tc ns nb ≤ (darts ns nb).length := by
  unfold tc tcount
  exact List.countP_le_length
theorem tl_small {pl : Int → Int × List Ed} {ns : List Int} (Va : Valid ns (nbOf pl)) (h : ns.length < 64) (i j : Nat) (n : Int) (hn : (srt ns)[i]? = some n) : (tl pl ((srt ns).take i)).length + (tl1 n ((pl n).2.take j)).length ≤ 4096 := by
  have h1 := darts_small Va h
  have h2 := tc_le ns (nbOf pl)
  have h3 : (tl pl (srt ns)).length ≤ 4096 := by
    rw [tl_len, tc_srt]
    omega
  have e := take_split hn
  have e2 : srt ns = (srt ns).take i ++ ([n] ++ (srt ns).drop (i + 1)) := e
  have e3 : (pl n).2 = (pl n).2.take j ++ (pl n).2.drop j := (List.take_append_drop _ _).symm
  have e4 : tl1 n (pl n).2 = tl1 n ((pl n).2.take j) ++ tl1 n ((pl n).2.drop j) := by rw [← tl1_app, List.take_append_drop]
  have e5 : tl pl (srt ns) = tl pl ((srt ns).take i) ++ (tl1 n (pl n).2 ++ tl pl ((srt ns).drop (i + 1))) := by
    rw [e2, tl_app, tl_app, tl_one]
    rw [← e2]
  rw [e5, e4] at h3
  simp only [List.length_append] at h3
  omega
section
variable {P : Program} {w : World} {K : PySem.W.Frag} {mg : Str → Option Value} {base : Heap} {f : Addr} {fd : FuncData}

/-! ### ties_of -/
theorem scTies : FnScope ["web", "found", "name", "other", "price", "told"] ["web"] (defScope sTies) := ⟨rfl, rfl, rfl, by decide +kernel, rfl, by decide +kernel, by decide +kernel⟩
/-- as many as there are ties -/
def spTies : Sp := fun vs H Q _ => ∃ (a : Addr) (ns : List Int) (pl : Int → Int × List Ed), vs = [.ref a] ∧ WebAt H a ns pl ∧ Valid ns (nbOf pl) ∧ ns.length < 64 ∧
  ∀ (l : Addr) (xs : List V) (H' : Hp), Same H H' → H' l = some (.lst xs) → xs.length = tc ns (nbOf pl) → Q (.ref l) H'
/-- the sorted list of the ties -/
theorem ties_end {pl : Int → Int × List Ed} {ns : List Int} {H0 H : Hp} {g : Addr} {xs : List V} {Q : VK} (s : Same H0 H) (hg : H g = some (.lst xs)) (ha : All2 (TiAt H) xs (tl pl (srt ns)))
    (q : ∀ (l : Addr) (xs : List V) (H' : Hp), Same H0 H' → H' l = some (.lst xs) → xs.length = tc ns (nbOf pl) → Q (.ref l) H') : rSortedD K encT TiAt [.ref g] H Q := by
  refine ⟨g, xs, tl pl (srt ns), rfl, sql hg, ha, ha.mono fun _ _ => ti_dp, PySem.W.AllAlike.of encT_alike, PySem.W.Sortable.tuples fun b => ⟨_, _, rfl⟩, fun b _ => encT_depth b, fun ys p hy np => ?_⟩
  refine q p ys _ (s.trans (same_new np)) upd_same ?_
  rw [hy.len, (List.mergeSort_perm _ _).length_eq, tl_len, tc_srt]
theorem ok_ties (F : FnP K "ties_of" sTies f fd) (G : Glb mg) (C1 : Kn P w K mg base 1 "names_of" spNames) : FnOk P w K mg base CX0 2 f fd ["web"] spTies := by
  refine F.ok scTies (fun vs H Q E h => ?_) (fun cdv A outer s H vs Q E hr h => ?_)
  · obtain ⟨a, ns, pl, rfl, _⟩ := h
    rfl
  · obtain ⟨a, ns, pl, rfl, hW, Va, hlen, q⟩ := h
    have hu := hu_of hr
    refine ⟨_, PSs.nox (pss_cons (ps_set (i := 1) scTies.nd rfl (.inl rfl) (pe_lst pa_nil))
      (pss_cons (ps_for PassesOwn.never rfl (pi_list (pe_kn C1 hr (by decide) (by rfl) (pa_cons (pv 0) pa_nil))) (pg_name (i := 2) scTies.nd rfl (.inr rfl))
        (pss_one (ps_expr (pe_bm PySem.F.plainAttrs_list PySem.F.slot_list_extend PySem.F.type_list_extend mt_extend (pv 1) (pa_cons
          (pe_lc (own := [("other", 3), ("price", 4), ("told", 5)]) (g := gTup K 3 (gCons (gName 3) (gCons (gName 4) (gCons (gName 5) gNil)))) (by rfl) scTies.nd
            (pi_list (pe_ix ix_tup (pe_dget hu (pv 0) (pv 2) (fun _ _ => rfl)) pe_int (fun _ _ => rfl)))
            (blkOk_by (own := [("other", 3), ("price", 4), ("told", 5)]) (N := ["web", "found", "name", "other", "price", "told"]) (sc := defScope sTies) (by decide +kernel))
            (fun _ _ _ _ _ => pg_tup rfl (pgs_cons (pg_name (i := 3) scTies.nd rfl (.inl rfl)) (pgs_cons (pg_name (i := 4) scTies.nd rfl (.inl rfl)) (pgs_cons (pg_name (i := 5) scTies.nd rfl (.inl rfl)) pgs_nil))))
            (fun _ _ _ _ _ => pts_one (pt_cmpR op_lt (pv 2) (pv 3) (nomark _)))
            (fun _ _ _ _ _ => pe_tup (pa_cons (pv 2) (pa_cons (pv 3) (pa_cons (pv 4) (pa_cons (pv 5) pa_nil)))))) pa_nil)))))
      (pss_one (ps_ret (pe_callB (cr_sortedD encT TiAt hr.units) (by rfl) G.sorted bt_sorted (pa_cons (pv 1) pa_nil)))))), ?_⟩
    refine ⟨Nat.zero_le _, fun g ng => ?_⟩
    have s1 : Same H (upd H g (.lst [])) := same_new ng
    refine ⟨.ref a, rfl, a, ns, pl, rfl, hW.same s1, hlen, fun ys p hp1 hp2 np => ?_⟩
    have ey := srt_eq hp1 hp2
    subst ey
    have s2 := s1.trans (same_new (o := .lst ((srt ns).map V.int)) np)
    have ngp : g ≠ p := fun e => by
      rw [← e, upd_same] at np
      cases np
    refine ⟨p, rfl, ⟨_, sql upd_same⟩, for_list (K := K) (a := p) (xs := (srt ns).map V.int) (fun i σ H1 => ∃ (xs : List V) (y2 y3 y4 y5 : Option V), σ = [some (.ref a), some (.ref g), y2, y3, y4, y5] ∧ Same H H1 ∧
      H1 g = some (.lst xs) ∧ All2 (TiAt H1) xs (tl pl ((srt ns).take i)) ∧ H1 p = some (.lst ((srt ns).map V.int))) ⟨[], none, none, none, none, rfl, s2, by rw [upd_ne ngp]; exact upd_same, .nil, upd_same⟩ (fun i σ H1 _ ⟨_, _, _, _, _, _, _, _, _, h⟩ => sql h) ?_ ?_⟩
    · rintro i x σ H1 hx ⟨xs, y2, y3, y4, y5, rfl, s3, hg, ha, hp⟩
      rw [List.getElem?_map] at hx
      obtain ⟨n, hn, rfl⟩ : ∃ n, (srt ns)[i]? = some n ∧ V.int n = x := by
        cases h : (srt ns)[i]? with
        | none =>
          rw [h] at hx
          cases hx
        | some n =>
          rw [h] at hx
          exact ⟨n, rfl, Option.some.inj hx⟩
      have hnn : n ∈ ns := srt_mem.mp (List.mem_of_getElem? hn)
      obtain ⟨t, l, es, dg, ht, hl, hes⟩ := (hW.same s3).get hnn
      refine ⟨.ref g, rfl, .inl ⟨rfl, _, sql hg⟩, .ref a, rfl, .int n, rfl, a, _, rfl, dg, t, _, 1, _, rfl, rfl, sqt ht, atI_nat (j := 1) rfl, l, rfl, ⟨es, sql hl⟩, fun D nD => ?_⟩
      have sml := tl_small Va hlen i
      refine lc_list (K := K) (a := l) (xs := es) (fun j H2 => ∃ zs, H2 D = some (.lst zs) ∧ All2 (TiAt H2) zs (tl1 n ((pl n).2.take j)) ∧ Same H1 H2) ⟨[], upd_same, .nil, same_new nD⟩ (fun j H2 _ ⟨zs, _, _, s4⟩ => sql (s4 _ _ hl)) ?_ ?_
      · rintro j x H2 hx ⟨zs, hD, hz, s4⟩
        obtain ⟨e, he, t', rfl, ht'⟩ := hes.at' hx
        refine ⟨t', _, rfl, sqt (s4 _ _ ht'), rfl, _, _, rfl, _, _, rfl, _, _, rfl, rfl, rfl, ?_⟩
        refine ⟨.int n, rfl, .int e.1, rfl, n, e.1, rfl, rfl, _, rfl, ?_⟩
        by_cases h : n < e.1
        · rw [decide_eq_true h]
          refine iteT ⟨.int n, rfl, .int e.1, rfl, .int e.2.1, rfl, .bl e.2.2, rfl, by show 4 ≤ sizeLine; decide, fun u nu => ?_⟩
          have huD : D ≠ u := ne_of_none hD nu
          have b1 := sml (j + 1) n hn
          have e1 : tl1 n ((pl n).2.take (j + 1)) = tl1 n ((pl n).2.take j) ++ [(n, e)] := by
            rw [take_succ he, tl1_app]
            unfold tl1
            simp [h]
          rw [e1, List.length_append, List.length_singleton] at b1
          refine ⟨zs, by rw [upd_ne huD]; exact hD, smallLt (m := 5000) (by rw [hz.len]; omega) (by decide), zs ++ [.ref u], upd_same, ?_, ?_⟩
          · rw [e1]
            have s5 : ∀ v q, TiAt H2 v q → TiAt (upd (upd H2 u (.tup [.int n, .int e.1, .int e.2.1, .bl e.2.2])) D (.lst (zs ++ [.ref u]))) v q := fun v q ⟨t, e1, e2⟩ => ⟨t, e1, by
              rw [upd_ne (ne_of e2 hD (by intro z; cases z)), upd_ne (ne_of_none e2 nu)]
              exact e2⟩
            refine (hz.mono s5).snoc ⟨u, rfl, ?_⟩
            rw [upd_ne huD.symm, upd_same]
          · exact same_own (s4.trans (same_new nu)) nD
        · rw [decide_eq_false h]
          refine iteF ⟨zs, hD, ?_, s4⟩
          have e1 : tl1 n ((pl n).2.take (j + 1)) = tl1 n ((pl n).2.take j) := by
            rw [take_succ he, tl1_app]
            unfold tl1
            simp [h]
          rw [e1]
          exact hz
      · rintro H2 ⟨zs, hD, hz, s4⟩
        have e1 : (pl n).2.take es.length = (pl n).2 := List.take_of_length_le (by rw [hes.len]; exact Nat.le_refl _)
        rw [e1] at hz
        have b1 := sml ((pl n).2.length) n hn
        rw [List.take_of_length_le (Nat.le_refl _)] at b1
        have hg2 := s4 _ _ hg
        refine ⟨g, D, xs, zs, rfl, rfl, hg2, hD, small (m := 5000) (by rw [ha.len, hz.len]; omega) (by decide), ?_⟩
        have e2 : tl pl ((srt ns).take (i + 1)) = tl pl ((srt ns).take i) ++ tl1 n (pl n).2 := by rw [take_succ hn, tl_app, tl_one]
        have ngH : H g = none := ng
        have s6 : ∀ v q, TiAt H2 v q → TiAt (upd H2 g (.lst (xs ++ zs))) v q := fun v q ⟨t, e1, e2⟩ => ⟨t, e1, by
          rw [upd_ne (ne_of e2 hg2 (by intro z; cases z))]
          exact e2⟩
        refine ⟨xs ++ zs, some (.int n), y3, y4, y5, rfl, same_own (s3.trans s4) ngH, upd_same, ?_, ?_⟩
        · rw [e2]
          exact (((ha.mono fun v q h => mono_ti _ _ _ _ (Keep.of s4) h).app hz).mono s6)
        · rw [upd_ne (fun e => ngp e.symm)]
          exact s4 _ _ hp
    · rintro σ H1 ⟨xs, y2, y3, y4, y5, rfl, s3, hg, ha, hp⟩
      have e1 : (srt ns).take ((srt ns).map V.int).length = srt ns := List.take_of_length_le (by rw [List.length_map]; exact Nat.le_refl _)
      rw [e1] at ha
      exact ⟨.ref g, rfl, ties_end s3 hg ha q⟩
end
end Wd

-- part WdD
/-! ## The walks of is_ball, _law_ties, _law_pairs, _law_flat -/
namespace Wd
open PySem PySem.Spec PyProof.Rows L2
theorem dget_same {H H' : Hp} {a : Addr} {y : V} {r : Option V} (s : Same H H') (h : DGet H a y r) : DGet H' a y r := by
  have up : ∀ u, Rd H a u → Rd H' a u := fun u h => by
    rcases h with h | ⟨o, h⟩
    · exact .inl (s _ _ h)
    · exact .inr ⟨o, s _ _ h⟩
  rcases h with ⟨kv, k, h1, h2, h3⟩ | ⟨kv, k, b, h1, h2, h3, h4⟩
  · exact .inl ⟨kv, k, up _ h1, h2, h3⟩
  · exact .inr ⟨kv, k, b, up _ h1, h2, s _ _ h3, h4⟩
theorem map_at {l : List Int} {i : Nat} {x : V} (h : (l.map V.int)[i]? = some x) : ∃ n, l[i]? = some n ∧ V.int n = x := by
  rw [List.getElem?_map] at h
  cases h2 : l[i]? with
  | none =>
    rw [h2] at h
    cases h
  | some n =>
    rw [h2] at h
    exact ⟨n, rfl, Option.some.inj h⟩
theorem take_map {l : List Int} : l.take (l.map V.int).length = l := List.take_of_length_le (by rw [List.length_map]; exact Nat.le_refl _)
section
variable {P : Program} {w : World} {K : PySem.W.Frag} {mg : Str → Option Value} {base : Heap} {f : Addr} {fd : FuncData}

/-! ### is_ball -/
theorem scBall : FnScope ["web"] ["web"] (defScope sBall) := ⟨rfl, rfl, rfl, by decide +kernel, rfl, by decide +kernel, by decide +kernel⟩
def spBall : Sp := fun vs H Q _ => ∃ (a : Addr) (ns : List Int) (pl : Int → Int × List Ed), vs = [.ref a] ∧ WebAt H a ns pl ∧ Valid ns (nbOf pl) ∧ ns.length < 64 ∧
  ∀ (L : List (List Pr)) (H' : Hp), Same H H' → Told ns (nbOf pl) L → Q (.bl (decide ((ns.length : Int) - (tc ns (nbOf pl) : Nat) + (L.length : Nat) = 2))) H'
theorem int_dec (i j : Int) : decide (V.int i = V.int j) = decide (i = j) := by
  by_cases h : i = j
  · rw [h, decide_eq_true rfl, decide_eq_true rfl]
  · rw [decide_eq_false h, decide_eq_false fun e => h (V.int.inj e)]
theorem ok_ball (F : FnP K "is_ball" sBall f fd) (G : Glb mg) (C1 : Kn P w K mg base 2 "ties_of" spTies) (C2 : Kn P w K mg base 4 "faces_of" spFaces) : FnOk P w K mg base CX0 5 f fd ["web"] spBall := by
  refine F.ok scBall (fun vs H Q E h => ?_) (fun cdv A outer s H vs Q E hr h => ?_)
  · obtain ⟨a, ns, pl, rfl, _⟩ := h
    rfl
  · obtain ⟨a, ns, pl, rfl, hW, Va, hlen, q⟩ := h
    refine ⟨_, PSs.nox (pss_one (ps_ret (pe_cmpR op_eq (pe_op op_add (pe_op op_sub (pe_callB call_lenD (by rfl) G.len bt_len (pa_cons (pv 0) pa_nil))
      (pe_callB call_len_seq (by rfl) G.len bt_len (pa_cons (pe_kn C1 hr (by decide) (by rfl) (pa_cons (pv 0) pa_nil)) pa_nil)))
      (pe_callB call_len_seq (by rfl) G.len bt_len (pa_cons (pe_kn C2 hr (by decide) (by rfl) (pa_cons (pv 0) pa_nil)) pa_nil))) pe_int (nomark _)))), ?_⟩
    obtain ⟨kvs0, hk0, hkl, _⟩ := hW.len
    refine ⟨.ref a, rfl, a, kvs0, rfl, hk0, .ref a, rfl, a, ns, pl, rfl, hW, Va, hlen, fun l xs H1 s1 hl hx => ?_⟩
    refine ⟨l, xs, rfl, .inl (sql hl), _, _, rfl, rfl, .ref a, rfl, a, ns, pl, rfl, hW.same s1, Va, hlen, fun vf H2 L s2 hF hT => ?_⟩
    obtain ⟨lf, zs, rfl, hlf, haf⟩ := hF
    refine ⟨lf, zs, rfl, .inl (sql hlf), _, _, rfl, rfl, rfl, ?_⟩
    rw [int_dec, hkl, hx, haf.len]
    exact q L H2 (s1.trans s2) hT

/-! ### _law_ties -/
theorem scLTies : FnScope ["_law_web_here", "_law_found", "_law_name", "_law_other", "_law_price", "_law_told_here"] ["_law_web_here"] (defScope sLTies) := ⟨rfl, rfl, rfl, by decide +kernel, rfl, by decide +kernel, by decide +kernel⟩
theorem ok_lties (F : FnP K "_law_ties" sLTies f fd) (G : Glb mg) : FnOk P w K mg base CX0 1 f fd ["_law_web_here"] spTies := by
  refine F.ok scLTies (fun vs H Q E h => ?_) (fun cdv A outer s H vs Q E hr h => ?_)
  · obtain ⟨a, ns, pl, rfl, _⟩ := h
    rfl
  · obtain ⟨a, ns, pl, rfl, hW, Va, hlen, q⟩ := h
    have hu := hu_of hr
    refine ⟨_, PSs.nox (pss_cons (ps_set (i := 1) scLTies.nd rfl (.inl rfl) (pe_lst pa_nil))
      (pss_cons (ps_for PassesOwn.never rfl (pi_list (pe_callB (call_sortedDI rfl) (by rfl) G.sorted bt_sorted (pa_cons (pv 0) pa_nil))) (pg_name (i := 2) scLTies.nd rfl (.inl rfl))
        (pss_one (ps_for PassesOwn.never rfl (pi_list (pe_ix ix_tup (pe_dget hu (pv 0) (pv 2) (fun _ _ => rfl)) pe_int (fun _ _ => rfl)))
          (pg_tup rfl (pgs_cons (pg_name (i := 3) scLTies.nd rfl (.inl rfl)) (pgs_cons (pg_name (i := 4) scLTies.nd rfl (.inl rfl)) (pgs_cons (pg_name (i := 5) scLTies.nd rfl (.inl rfl)) pgs_nil))))
          (pss_one (ps_if (pt_cmpR op_lt (pv 2) (pv 3) (nomark _)) (pss_one (ps_expr (pe_bm PySem.F.plainAttrs_list PySem.F.slot_list_append PySem.F.type_list_append mt_append (pv 1)
            (pa_cons (pe_tup (pa_cons (pv 2) (pa_cons (pv 3) (pa_cons (pv 4) (pa_cons (pv 5) pa_nil))))) pa_nil)))) pss_nil)))))
      (pss_one (ps_ret (pe_callB (cr_sortedD encT TiAt hr.units) (by rfl) G.sorted bt_sorted (pa_cons (pv 1) pa_nil)))))), ?_⟩
    refine ⟨Nat.zero_le _, fun g ng => ?_⟩
    have s1 : Same H (upd H g (.lst [])) := same_new ng
    have ngH : H g = none := ng
    obtain ⟨kvs0, hk0, _, hks⟩ := hW.len
    refine ⟨.ref a, rfl, a, kvs0, ns, rfl, .inl (s1 _ _ hk0), hks, hlen, fun ys p hp1 hp2 np => ?_⟩
    have ey := srt_eq hp1 hp2
    subst ey
    have s2 := s1.trans (same_new (o := .lst ((srt ns).map V.int)) np)
    have ngp : g ≠ p := fun e => by
      rw [← e, upd_same] at np
      cases np
    refine ⟨p, rfl, ⟨_, sql upd_same⟩, for_list (K := K) (a := p) (xs := (srt ns).map V.int) (fun i σ H1 => ∃ (xs : List V) (y2 y3 y4 y5 : Option V), σ = [some (.ref a), some (.ref g), y2, y3, y4, y5] ∧ Same H H1 ∧
      H1 g = some (.lst xs) ∧ All2 (TiAt H1) xs (tl pl ((srt ns).take i)) ∧ H1 p = some (.lst ((srt ns).map V.int))) ⟨[], none, none, none, none, rfl, s2, by rw [upd_ne ngp]; exact upd_same, .nil, upd_same⟩ (fun i σ H1 _ ⟨_, _, _, _, _, _, _, _, _, h⟩ => sql h) ?_ ?_⟩
    · rintro i x σ H1 hx ⟨xs, y2, y3, y4, y5, rfl, s3, hg, ha, hp⟩
      obtain ⟨n, hn, rfl⟩ := map_at hx
      have hnn : n ∈ ns := srt_mem.mp (List.mem_of_getElem? hn)
      obtain ⟨t, l, es, dg, ht, hl, hes⟩ := hW.get hnn
      have nlg : l ≠ g := ne_of_none hl ngH
      have dg := dget_same s3 dg
      have ht := s3 _ _ ht
      have hl := s3 _ _ hl
      have hes := hes.up mono_ed (Keep.of s3)
      have sml := tl_small Va hlen i
      refine ⟨.ref a, rfl, .int n, rfl, a, _, rfl, dg, t, _, 1, _, rfl, rfl, sqt ht, atI_nat (j := 1) rfl, l, rfl, ⟨es, sql hl⟩, for_list (K := K) (a := l) (xs := es) (fun j σ H2 => ∃ (zs : List V) (y3 y4 y5 : Option V), σ = [some (.ref a), some (.ref g), some (.int n), y3, y4, y5] ∧ Same H H2 ∧
        H2 g = some (.lst zs) ∧ All2 (TiAt H2) zs (tl pl ((srt ns).take i) ++ tl1 n ((pl n).2.take j)) ∧ H2 p = some (.lst ((srt ns).map V.int)) ∧ H2 l = some (.lst es) ∧ All2 (EdAt H2) es (pl n).2) ⟨xs, y3, y4, y5, rfl, s3, hg, by simpa [tl1] using ha, hp, hl, hes⟩ (fun j σ H2 _ ⟨_, _, _, _, _, _, _, _, _, h, _⟩ => sql h) ?_ ?_⟩
      · rintro j x σ H2 hx ⟨zs, y3, y4, y5, rfl, s4, hg2, hz, hp2, hl2, hes2⟩
        obtain ⟨e, he, t', rfl, ht'⟩ := hes2.at' hx
        refine ⟨t', _, rfl, sqt ht', rfl, _, _, rfl, _, _, rfl, _, _, rfl, rfl, ?_⟩
        refine ⟨.int n, rfl, .int e.1, rfl, n, e.1, rfl, rfl, _, rfl, ?_⟩
        by_cases h : n < e.1
        · rw [decide_eq_true h]
          refine iteT ⟨.ref g, rfl, .inl ⟨rfl, _, sql hg2⟩, .int n, rfl, .int e.1, rfl, .int e.2.1, rfl, .bl e.2.2, rfl, by show 4 ≤ sizeLine; decide, fun u nu => ?_⟩
          have hug : g ≠ u := ne_of_none hg2 nu
          have b1 := sml (j + 1) n hn
          have e1 : tl1 n ((pl n).2.take (j + 1)) = tl1 n ((pl n).2.take j) ++ [(n, e)] := by
            rw [take_succ he, tl1_app]
            unfold tl1
            simp [h]
          have zl := hz.len
          rw [List.length_append] at zl
          rw [e1, List.length_append, List.length_singleton] at b1
          refine ⟨g, zs, .ref u, rfl, rfl, by rw [upd_ne hug]; exact hg2, smallLt (m := 5000) (by omega) (by decide), ?_⟩
          have s5 : ∀ b ys, H2 b = some (.tup ys) → (upd (upd H2 u (.tup [.int n, .int e.1, .int e.2.1, .bl e.2.2])) g (.lst (zs ++ [.ref u]))) b = some (.tup ys) := fun b ys hb => by
            rw [upd_ne (ne_of hb hg2 (by intro z; cases z)), upd_ne (ne_of_none hb nu)]
            exact hb
          refine ⟨zs ++ [.ref u], some (.int e.1), some (.int e.2.1), some (.bl e.2.2), rfl, same_own (s4.trans (same_new nu)) ngH, upd_same, ?_, ?_, ?_, hes2.mono fun v b ⟨t, h1, h2⟩ => ⟨t, h1, s5 _ _ h2⟩⟩
          · rw [e1, ← List.append_assoc]
            refine (hz.mono fun v q ⟨t, h1, h2⟩ => ⟨t, h1, s5 _ _ h2⟩).snoc ⟨u, rfl, ?_⟩
            rw [upd_ne hug.symm, upd_same]
          · rw [upd_ne (fun e => ngp e.symm), upd_ne (ne_of_none hp2 nu)]
            exact hp2
          · rw [upd_ne nlg, upd_ne (ne_of_none hl2 nu)]
            exact hl2
        · rw [decide_eq_false h]
          refine iteF ⟨zs, some (.int e.1), some (.int e.2.1), some (.bl e.2.2), rfl, s4, hg2, ?_, hp2, hl2, hes2⟩
          have e1 : tl1 n ((pl n).2.take (j + 1)) = tl1 n ((pl n).2.take j) := by
            rw [take_succ he, tl1_app]
            unfold tl1
            simp [h]
          rw [e1]
          exact hz
      · rintro σ H2 ⟨zs, y3, y4, y5, rfl, s4, hg2, hz, hp2, hl2, hes2⟩
        have e1 : (pl n).2.take es.length = (pl n).2 := List.take_of_length_le (by rw [hes.len]; exact Nat.le_refl _)
        rw [e1] at hz
        have e2 : tl pl ((srt ns).take (i + 1)) = tl pl ((srt ns).take i) ++ tl1 n (pl n).2 := by rw [take_succ hn, tl_app, tl_one]
        exact ⟨zs, some (.int n), y3, y4, y5, rfl, s4, hg2, by rw [e2]; exact hz, hp2⟩
    · rintro σ H1 ⟨xs, y2, y3, y4, y5, rfl, s3, hg, ha, hp⟩
      rw [take_map] at ha
      exact ⟨.ref g, rfl, ties_end s3 hg ha q⟩

/-! ### _law_pairs -/
theorem scPairs : FnScope ["_law_web_here", "_law_found", "_law_name", "_law_other", "_law_end"] ["_law_web_here"] (defScope sPairs) := ⟨rfl, rfl, rfl, by decide +kernel, rfl, by decide +kernel, by decide +kernel⟩
def spPairs : Sp := fun vs H Q _ => ∃ (a : Addr) (ns : List Int) (pl : Int → Int × List Ed), vs = [.ref a] ∧ WebAt H a ns pl ∧ Valid ns (nbOf pl) ∧ ns.length < 64 ∧
  ∀ (v' : V) (H' : Hp), Same H H' → FcAt H' v' (allP ns (nbOf pl)) → Q v' H'
theorem ok_pairs (F : FnP K "_law_pairs" sPairs f fd) (G : Glb mg) : FnOk P w K mg base CX0 1 f fd ["_law_web_here"] spPairs := by
  refine F.ok scPairs (fun vs H Q E h => ?_) (fun cdv A outer s H vs Q E hr h => ?_)
  · obtain ⟨a, ns, pl, rfl, _⟩ := h
    rfl
  · obtain ⟨a, ns, pl, rfl, hW, Va, hlen, q⟩ := h
    have hu := hu_of hr
    have capA : (allP ns (nbOf pl)).length ≤ 4096 := Nat.le_trans (run_len Va (allP_nd Va) fun p hp => (allP_mem Va p).mp hp) (darts_small Va hlen)
    refine ⟨_, PSs.nox (pss_cons (ps_set (i := 1) scPairs.nd rfl (.inl rfl) (pe_lst pa_nil))
      (pss_cons (ps_for PassesOwn.never rfl (pi_list (pe_callB (call_sortedDI rfl) (by rfl) G.sorted bt_sorted (pa_cons (pv 0) pa_nil))) (pg_name (i := 2) scPairs.nd rfl (.inr rfl))
        (pss_one (ps_set (i := 1) scPairs.nd rfl (.inl rfl) (pe_op op_cat (pv 1)
          (pe_lc (own := [("_law_other", 3)]) (g := gName 3) (by rfl) scPairs.nd
            (pi_list (pe_callB cr_sortedI (by rfl) G.sorted bt_sorted (pa_cons
              (pe_lc (own := [("_law_end", 4)]) (g := gName 4) (te := tOp (rIxT K) (tVar 4) (tC (.int 0))) (by rfl) scPairs.nd (pi_list (pe_ix ix_tup (pe_dget hu (pv 0) (pv 2) (fun _ _ => rfl)) pe_int (fun _ _ => rfl)))
                (blkOk_by (own := [("_law_end", 4)]) (N := ["_law_web_here", "_law_found", "_law_name", "_law_other", "_law_end"]) (sc := defScope sPairs) (by decide +kernel))
                (fun _ _ _ _ _ => pg_name (i := 4) scPairs.nd rfl (Or.inl rfl)) (fun _ _ _ _ _ => pts_nil) (fun _ _ _ _ _ => pe_ix ix_tup (pv 4) pe_int (fun _ _ => rfl))) pa_nil)))
            (blkOk_by (own := [("_law_other", 3)]) (N := ["_law_web_here", "_law_found", "_law_name", "_law_other", "_law_end"]) (sc := defScope sPairs) (by decide +kernel))
            (fun _ _ _ _ _ => pg_name (i := 3) scPairs.nd rfl (Or.inl rfl)) (fun _ _ _ _ _ => pts_nil) (fun _ _ _ _ _ => pe_tup (pa_cons (pv 2) (pa_cons (pv 3) pa_nil))))))))
      (pss_one (ps_ret (pv 1))))), ?_⟩
    refine ⟨Nat.zero_le _, fun g ng => ?_⟩
    have s1 : Same H (upd H g (.lst [])) := same_new ng
    obtain ⟨kvs0, hk0, _, hks⟩ := hW.len
    refine ⟨.ref a, rfl, a, kvs0, ns, rfl, .inl (s1 _ _ hk0), hks, hlen, fun ys p hp1 hp2 np => ?_⟩
    have ey := srt_eq hp1 hp2
    subst ey
    have s2 := s1.trans (same_new (o := .lst ((srt ns).map V.int)) np)
    have ngp : g ≠ p := fun e => by
      rw [← e, upd_same] at np
      cases np
    refine ⟨p, rfl, ⟨_, sql upd_same⟩, for_list (K := K) (a := p) (xs := (srt ns).map V.int) (fun i σ H1 => ∃ (g : Addr) (xs : List V) (y2 y3 y4 : Option V), σ = [some (.ref a), some (.ref g), y2, y3, y4] ∧ Same H H1 ∧
      H1 g = some (.lst xs) ∧ All2 (PrAt H1) xs (darts ((srt ns).take i) fun n => srt (nbOf pl n)) ∧ H1 p = some (.lst ((srt ns).map V.int))) ⟨g, [], none, none, none, rfl, s2, by rw [upd_ne ngp]; exact upd_same, .nil, upd_same⟩ (fun i σ H1 _ ⟨_, _, _, _, _, _, _, _, _, h⟩ => sql h) ?_ ?_⟩
    · rintro i x σ H1 hx ⟨g, xs, y2, y3, y4, rfl, s3, hg, ha, hp⟩
      obtain ⟨n, hn, rfl⟩ := map_at hx
      have hnn : n ∈ ns := srt_mem.mp (List.mem_of_getElem? hn)
      obtain ⟨t, l, es, dg, ht, hl, hes⟩ := (hW.same s3).get hnn
      have el : es.length = (pl n).2.length := hes.len
      have short : (nbOf pl n).length ≤ ns.length := Va.short n
      have short2 : (pl n).2.length = (nbOf pl n).length := by
        unfold nbOf
        rw [List.length_map]
      -- the bound of what is there
      have capI : ∀ j, (darts ((srt ns).take i) (fun n => srt (nbOf pl n))).length + ((srt (nbOf pl n)).take j).length ≤ 4096 := fun j => by
        have e1 : allP ns (nbOf pl) = darts ((srt ns).take i) (fun n => srt (nbOf pl n)) ++ ((srt (nbOf pl n)).map (fun b => (n, b)) ++ darts ((srt ns).drop (i + 1)) (fun n => srt (nbOf pl n))) := by
          unfold allP
          have e2 : srt ns = (srt ns).take i ++ ([n] ++ (srt ns).drop (i + 1)) := take_split hn
          have e3 := congrArg (fun z => darts z fun n => srt (nbOf pl n)) e2
          rw [darts_app, darts_app, darts_one] at e3
          exact e3
        rw [e1, List.length_append, List.length_append, List.length_map] at capA
        rw [List.length_take]
        omega
      refine ⟨.ref g, rfl, .ref a, rfl, .int n, rfl, a, _, rfl, dg, t, _, 1, _, rfl, rfl, sqt ht, atI_nat (j := 1) rfl, l, rfl, ⟨es, sql hl⟩, fun D nD => ?_⟩
      refine lc_list (K := K) (a := l) (xs := es) (fun j H2 => H2 = upd H1 D (.lst (((nbOf pl n).take j).map V.int))) rfl (fun j H2 _ e => ?_) (fun j x H2 hx e => ?_) (fun H2 e => ?_)
      · subst e
        exact sql (same_new nD _ _ hl)
      · subst e
        obtain ⟨b, hb, t', rfl, ht'⟩ := hes.at' hx
        have hi := (List.getElem?_eq_some_iff.mp hb).1
        refine ⟨rfl, .ref t', rfl, t', _, 0, _, rfl, rfl, sqt (same_new nD _ _ ht'), atI_nat (j := 0) rfl, _, upd_same, ?_, ?_⟩
        · rw [List.length_map, List.length_take]
          exact smallLt (Nat.le_trans (Nat.min_le_left _ _) (Nat.le_of_lt hi)) (by omega)
        · have e1 : (nbOf pl n)[j]? = some b.1 := by
            unfold nbOf
            rw [List.getElem?_map, hb]
            rfl
          rw [upd_upd, List.take_add_one, e1, List.map_append]
          rfl
      · have e2 : (nbOf pl n).take es.length = nbOf pl n := List.take_of_length_le (by
          rw [el, short2]
          exact Nat.le_refl _)
        rw [e2] at e
        subst e
        have s4 : Same H1 (upd H1 D (.lst ((nbOf pl n).map V.int))) := same_new nD
        refine ⟨D, nbOf pl n, rfl, sql upd_same, fun zs c hz1 hz2 nc => ?_⟩
        have ez := srt_eq hz1 hz2
        subst ez
        have s5 := s4.trans (same_new (o := .lst ((srt (nbOf pl n)).map V.int)) nc)
        refine ⟨c, rfl, ⟨_, sql upd_same⟩, fun D2 nD2 => ?_⟩
        have s6 := s5.trans (same_new (o := .lst []) nD2)
        have ncD : c ≠ D2 := fun e => by
          rw [← e, upd_same] at nD2
          cases nD2
        refine lc_list (K := K) (a := c) (xs := (srt (nbOf pl n)).map V.int) (fun j H3 => ∃ zs, H3 D2 = some (.lst zs) ∧ All2 (PrAt H3) zs (((srt (nbOf pl n)).take j).map fun b => (n, b)) ∧ Same H1 H3 ∧ H3 c = some (.lst ((srt (nbOf pl n)).map V.int)))
          ⟨[], upd_same, .nil, s6, by rw [upd_ne ncD]; exact upd_same⟩ (fun j H3 _ ⟨_, _, _, _, h⟩ => sql h) ?_ ?_
        · rintro j x H3 hx ⟨zs, hD, hz, s7, hc⟩
          obtain ⟨m, hm, rfl⟩ := map_at hx
          refine ⟨rfl, .int n, rfl, .int m, rfl, by show 2 ≤ sizeLine; decide, fun u nu => ?_⟩
          have huD : D2 ≠ u := ne_of_none hD nu
          have zl := hz.len
          rw [List.length_map] at zl
          have cj := capI j
          refine ⟨zs, by rw [upd_ne huD]; exact hD, smallLt (m := 5000) (by omega) (by decide), zs ++ [.ref u], upd_same, ?_, ?_, ?_⟩
          · rw [take_succ hm, List.map_append]
            have hz' : All2 (PrAt (upd (upd H3 u (.tup [.int n, .int m])) D2 (.lst (zs ++ [.ref u])))) zs (((srt (nbOf pl n)).take j).map fun b => (n, b)) := hz.mono fun v q ⟨t, e1, e2⟩ => ⟨t, e1, by
              rw [upd_ne (ne_of e2 hD (by intro z; cases z)), upd_ne (ne_of_none e2 nu)]
              exact e2⟩
            refine hz'.snoc ⟨u, rfl, ?_⟩
            rw [upd_ne huD.symm, upd_same]
          · refine same_own (s7.trans (same_new nu)) ?_
            exact s5.free nD2
          · rw [upd_ne ncD, upd_ne (ne_of_none hc nu)]
            exact hc
        · rintro H3 ⟨zs, hD, hz, s7, hc⟩
          rw [take_map] at hz
          have cj := capI (srt (nbOf pl n)).length
          rw [List.take_of_length_le (Nat.le_refl _)] at cj
          have zl := hz.len
          rw [List.length_map] at zl
          refine ⟨g, D2, xs, zs, rfl, rfl, s7 _ _ hg, hD, ?_, fun r nr => ?_⟩
          · exact small (m := 5000) (by rw [ha.len, zl]; omega) (by decide)
          · have s8 := same_new (o := .lst (xs ++ zs)) nr
            refine ⟨r, xs ++ zs, some (.int n), y3, y4, rfl, (s3.trans s7).trans s8, upd_same, ?_, s8 _ _ (s7 _ _ hp)⟩
            have e2 : darts ((srt ns).take (i + 1)) (fun n => srt (nbOf pl n)) = darts ((srt ns).take i) (fun n => srt (nbOf pl n)) ++ (srt (nbOf pl n)).map fun b => (n, b) := by
              rw [take_succ hn, darts_app, darts_one]
            rw [e2]
            exact (ha.up mono_pr (Keep.of (s7.trans s8))).app (hz.up mono_pr (Keep.of s8))
    · rintro σ H1 ⟨g, xs, y2, y3, y4, rfl, s3, hg, ha, hp⟩
      rw [take_map] at ha
      exact ⟨.ref g, rfl, q _ _ s3 ⟨g, xs, rfl, hg, ha⟩⟩

/-! ### _law_flat -/
theorem scFlat : FnScope ["_law_rows", "_law_found", "_law_row"] ["_law_rows"] (defScope sFlat) := ⟨rfl, rfl, rfl, by decide +kernel, rfl, by decide +kernel, by decide +kernel⟩
def spFlat : Sp := fun vs H Q _ => ∃ (v : V) (L : List (List Pr)), vs = [v] ∧ FsAt H v L ∧ L.flatten.length ≤ 5000 ∧ ∀ (v' : V) (H' : Hp), Same H H' → FcAt H' v' L.flatten → Q v' H'
theorem ok_flat (F : FnP K "_law_flat" sFlat f fd) (G : Glb mg) : FnOk P w K mg base CX0 1 f fd ["_law_rows"] spFlat := by
  refine F.ok scFlat (fun vs H Q E h => ?_) (fun cdv A outer s H vs Q E hr h => ?_)
  · obtain ⟨v, L, rfl, _⟩ := h
    rfl
  · obtain ⟨v, L, rfl, ⟨l, rs, rfl, hl, hrs⟩, hlen, q⟩ := h
    refine ⟨_, PSs.nox (pss_cons (ps_set (i := 1) scFlat.nd rfl (.inl rfl) (pe_lst pa_nil))
      (pss_cons (ps_for PassesOwn.never rfl (pi_list (pv 0)) (pg_name (i := 2) scFlat.nd rfl (.inl rfl))
        (pss_one (ps_set (i := 1) scFlat.nd rfl (.inl rfl) (pe_op op_cat (pv 1) (pe_callTy call_list_of (by rfl) G.list boot_list (pa_cons (pv 2) pa_nil))))))
      (pss_one (ps_ret (pv 1))))), ?_⟩
    refine ⟨Nat.zero_le _, fun g ng => ?_⟩
    have s1 : Same H (upd H g (.lst [])) := same_new ng
    refine ⟨.ref l, rfl, l, rfl, ⟨_, sql (s1 _ _ hl)⟩, for_list (K := K) (a := l) (xs := rs) (fun i σ H1 => ∃ (g : Addr) (xs : List V) (y2 : Option V), σ = [some (.ref l), some (.ref g), y2] ∧ Same H H1 ∧
      H1 g = some (.lst xs) ∧ All2 (PrAt H1) xs (L.take i).flatten) ⟨g, [], none, rfl, s1, upd_same, .nil⟩ (fun i σ H1 _ ⟨_, _, _, _, s2, _⟩ => sql (s2 _ _ hl)) ?_ ?_⟩
    · rintro i x σ H1 hx ⟨g, xs, y2, rfl, s2, hg, ha⟩
      obtain ⟨c, hc, hfc⟩ := hrs.at' hx
      obtain ⟨lc, zs, rfl, hlc, hz⟩ := mono_fc _ _ _ _ (Keep.of s2) hfc
      have eL : L.flatten = (L.take i).flatten ++ (c ++ (L.drop (i + 1)).flatten) := by
        have e := congrArg List.flatten (take_split hc)
        rw [List.flatten_append, List.flatten_cons] at e
        exact e
      rw [eL, List.length_append, List.length_append] at hlen
      refine ⟨.ref g, rfl, .ref lc, rfl, lc, zs, rfl, .inl (sql hlc), fun r nr => ?_⟩
      have s3 := same_new (o := .lst zs) nr
      refine ⟨g, r, xs, zs, rfl, rfl, s3 _ _ hg, upd_same, ?_, fun u nu => ?_⟩
      · exact small (m := 5000) (by rw [ha.len, hz.len]; omega) (by decide)
      · have s4 := s3.trans (same_new (o := .lst (xs ++ zs)) nu)
        refine ⟨u, xs ++ zs, some (.ref lc), rfl, s2.trans s4, upd_same, ?_⟩
        have e2 : (L.take (i + 1)).flatten = (L.take i).flatten ++ c := by
          rw [take_succ hc, List.flatten_append]
          simp
        rw [e2]
        exact (ha.app hz).up mono_pr (Keep.of s4)
    · rintro σ H1 ⟨g, xs, y2, rfl, s2, hg, ha⟩
      rw [hrs.len, List.take_of_length_le (Nat.le_refl _)] at ha
      exact ⟨.ref g, rfl, q _ _ s2 ⟨g, xs, rfl, hg, ha⟩⟩
end
end Wd

-- part WdE
/-! ## The walks of the drawing of webs: _law_cell_at, _law_pool, _law_take, _law_names, _law_link, _law_told -/
namespace Wd
open PySem PySem.Spec PyProof.Rows L2
theorem bt_range : bootBuiltins "range" = some (.type "range") := by decide +kernel
/-- a pool: two whole numbers, not negative, the second below 2 ^ 31 -/
def PoolAt (H : Hp) (p : Addr) : Prop := ∃ x y : Int, H p = some (.lst [.int x, .int y]) ∧ 0 ≤ x ∧ 0 ≤ y ∧ y < 2147483648
/-- the pool was drawn from: all else that stood stands -/
structure Drew (p : Addr) (H H' : Hp) : Prop where
  oth : ∀ b o, b ≠ p → H b = some o → H' b = some o
  pool : PoolAt H' p
theorem Drew.refl {p : Addr} {H : Hp} (h : PoolAt H p) : Drew p H H := ⟨fun _ _ _ h => h, h⟩
theorem Drew.trans {p : Addr} {H H1 H2 : Hp} (a : Drew p H H1) (b : Drew p H1 H2) : Drew p H H2 := ⟨fun c o n h => b.oth c o n (a.oth c o n h), b.pool⟩
theorem PoolAt.same {p : Addr} {H H' : Hp} (h : PoolAt H p) (s : Same H H') : PoolAt H' p := by
  obtain ⟨x, y, h1, h2⟩ := h
  exact ⟨x, y, s _ _ h1, h2⟩
theorem Drew.of {p : Addr} {H H' : Hp} (h : PoolAt H p) (s : Same H H') : Drew p H H' := ⟨fun b o _ e => s b o e, h.same s⟩
theorem Drew.keep {p : Addr} {H H' : Hp} (h : PoolAt H p) (d : Drew p H H') : Keep H H' := by
  obtain ⟨x, y, h1, _⟩ := h
  refine ⟨fun b xs e => d.oth b _ (ne_of e h1 (by intro z; cases z)) e, fun b xs r e => d.oth b _ (fun q => ?_) e⟩
  rw [q, h1] at e
  injection e with e
  injection e with e
  obtain ⟨a, k⟩ := r (.int x) (by rw [← e]; exact List.mem_cons_self)
  cases k
theorem Drew.free {p b : Addr} {H H' : Hp} (d : Drew p H H') (h : H' b = none) : H b = none := by
  cases e : H b with
  | none => rfl
  | some o =>
    have n : b ≠ p := fun q => by
      obtain ⟨x, y, h1, _⟩ := d.pool
      rw [q, h1] at h
      cases h
    rw [d.oth b o n e] at h
    cases h
theorem PoolAt.ne {p b : Addr} {H : Hp} (h : PoolAt H p) (e : H b = none) : b ≠ p := fun q => by
  obtain ⟨x, y, h1, _⟩ := h
  rw [q, h1] at e
  cases e
theorem Drew.new {p b : Addr} {H H' : Hp} {o : HO} (d : Drew p H H') (h : H' b = none) : Drew p H (upd H' b o) := d.trans (Drew.of d.pool (same_new h))
theorem WebAt.drew {H H' : Hp} {a p : Addr} {ns : List Int} {pl : Int → Int × List Ed} (h : WebAt H a ns pl) (hp : PoolAt H p) (d : Drew p H H') : WebAt H' a ns pl :=
  h.keep (d.keep hp) fun kvs r => d.oth a _ (fun e => by
    obtain ⟨x, y, h1, _⟩ := hp
    rw [e, h1] at r
    cases r) r
section
variable {P : Program} {w : World} {K : PySem.W.Frag} {mg : Str → Option Value} {base : Heap} {f : Addr} {fd : FuncData}

/-! ### _law_cell_at -/
theorem scCell : FnScope ["_law_script", "_law_k"] ["_law_script", "_law_k"] (defScope sCell) := ⟨rfl, rfl, rfl, by decide +kernel, rfl, by decide +kernel, by decide +kernel⟩
def spCell (K : PySem.W.Frag) : Sp := fun vs H Q _ => ∃ (a : Addr) (ns : List Int) (k : Int), vs = [.ref a, .int k] ∧ SqL K H a (ns.map V.int) ∧ 0 ≤ k ∧ ∀ i : Int, Q (.int i) H
theorem ok_cell (F : FnP K "_law_cell_at" sCell f fd) (G : Glb mg) : FnOk P w K mg base CX0 1 f fd ["_law_script", "_law_k"] (spCell K) := by
  refine F.ok scCell (fun vs H Q E h => ?_) (fun cdv A outer s H vs Q E hr h => ?_)
  · obtain ⟨a, ns, k, rfl, _⟩ := h
    rfl
  · obtain ⟨a, ns, k, rfl, hS, hk0, q⟩ := h
    refine ⟨_, PSs.nox (pss_cons (ps_if (pt_cmpR op_lt (pv 1) (pe_callB call_len_seq (by rfl) G.len bt_len (pa_cons (pv 0) pa_nil)) (nomark _)) (pss_one (ps_ret (pe_ix ix_list (pv 0) (pv 1) (fun _ _ => rfl)))) pss_nil)
      (pss_one (ps_ret pe_int))), ?_⟩
    refine ⟨.int k, rfl, .ref a, rfl, a, ns.map V.int, rfl, .inl hS, k, ((ns.map V.int).length : Int), rfl, rfl, _, rfl, ite2 (fun e => ?_) (fun _ => q 0)⟩
    have hk : k < ((ns.map V.int).length : Int) := of_decide_eq_true e
    rw [List.length_map] at hk
    have hk2 : k.toNat < ns.length := by omega
    refine ⟨.ref a, rfl, .int k, rfl, a, ns.map V.int, k, .int ns[k.toNat], rfl, rfl, hS, at_of (j := k.toNat) (by omega) ?_, q _⟩
    rw [List.getElem?_map, List.getElem?_eq_getElem hk2]
    rfl

/-! ### _law_pool -/
theorem scPool : FnScope ["_law_script", "_law_k", "_law_cell", "_law_seed"] ["_law_script", "_law_k"] (defScope sPool) := ⟨rfl, rfl, rfl, by decide +kernel, rfl, by decide +kernel, by decide +kernel⟩
def spPool (K : PySem.W.Frag) : Sp := fun vs H Q _ => ∃ (a : Addr) (ns : List Int) (k : Int), vs = [.ref a, .int k] ∧ SqL K H a (ns.map V.int) ∧ 0 ≤ k ∧ k ≤ 100 ∧ ∀ (p : Addr) (H' : Hp), Same H H' → PoolAt H' p → H p = none → Q (.ref p) H'
theorem ok_pool (F : FnP K "_law_pool" sPool f fd) (C1 : Kn P w K mg base 1 "_law_cell_at" (spCell K)) : FnOk P w K mg base CX0 2 f fd ["_law_script", "_law_k"] (spPool K) := by
  refine F.ok scPool (fun vs H Q E h => ?_) (fun cdv A outer s H vs Q E hr h => ?_)
  · obtain ⟨a, ns, k, rfl, _⟩ := h
    rfl
  · obtain ⟨a, ns, k, rfl, hS, hk0, hk, q⟩ := h
    refine ⟨_, PSs.nox (pss_cons (ps_set (i := 2) scPool.nd rfl (.inl rfl) (pe_kn C1 hr (by decide) (by rfl) (pa_cons (pv 0) (pa_cons (pv 1) pa_nil))))
      (pss_cons (ps_set (i := 3) scPool.nd rfl (.inl rfl) (pe_op op_mod (pe_op op_mul (pe_op op_add (pe_op op_add (pe_op op_mod (pv 2) pe_int) (pe_op op_mul (pe_op op_mul pe_int (pv 1)) (pv 1))) pe_int) pe_int) pe_int))
      (pss_cons (ps_if (pt_cmpR op_lt (pv 2) (pe_op op_pow pe_int pe_int) (nomark _)) (pss_one (ps_set (i := 2) scPool.nd rfl (.inl rfl) pe_int)) pss_nil)
      (pss_one (ps_ret (pe_lst (pa_cons (pv 2) (pa_cons (pe_op op_mod (pe_op op_mul (pv 3) (pv 3)) pe_int) pa_nil)))))))), ?_⟩
    refine ⟨.ref a, rfl, .int k, rfl, a, ns, k, rfl, hS, hk0, fun i => ?_⟩
    refine ⟨.int i, rfl, i, 2147483629, rfl, rfl, by show (0 : Int) < 2147483629; decide, .int k, rfl, 7919, k, rfl, rfl, .inl ⟨by decide, by decide⟩, .int k, rfl, 7919 * (k : Int), k, rfl, rfl, .inr ⟨by omega, by omega⟩, _, _, rfl, rfl, _, _, rfl, rfl, _, 48271, rfl, rfl, .inr ⟨by decide, by decide⟩, _, 2147483647, rfl, rfl, by show (0 : Int) < 2147483647; decide, ?_⟩
    -- the seed: below 2 ^ 31
    have h1 := Int.emod_nonneg ((i % 2147483629 + 7919 * (k : Int) * k + 1) * 48271) (show (2147483647 : Int) ≠ 0 by decide)
    have h2 := Int.emod_lt_of_pos ((i % 2147483629 + 7919 * (k : Int) * k + 1) * 48271) (show (0 : Int) < 2147483647 by decide)
    have fin : ∀ x z : Int, 0 ≤ x → 0 ≤ z → z < 2147483647 → tRet (tLst (tCons (tVar 2) (tCons (tOp (rI (fun _ j => 0 < j) fun i j => .int (i % j)) (tOp (rI CMul fun i j => .int (i * j)) (tVar 3) (tVar 3)) (tC (.int 2147483629))) tNil)))
        { nx := fun _ H' => Q .non H', rt := Q } [some (.ref a), some (.int k), some (.int x), some (.int z)] H := fun x z hx h1 h2 => by
      refine ⟨.int x, rfl, .int z, rfl, .int z, rfl, z, z, rfl, rfl, .inl ⟨by omega, by omega⟩, z * z, 2147483629, rfl, rfl, by show (0 : Int) < 2147483629; decide, by show 2 ≤ sizeLine; decide, fun p np => ?_⟩
      have h3 := Int.emod_nonneg (z * z) (show (2147483629 : Int) ≠ 0 by decide)
      have h4 := Int.emod_lt_of_pos (z * z) (show (0 : Int) < 2147483629 by decide)
      exact q p _ (same_new np) ⟨x, _, upd_same, hx, h3, by omega⟩ np
    refine ⟨.int i, rfl, 10, 18, rfl, rfl, ⟨by decide, by decide, by decide⟩, i, _, rfl, rfl, _, rfl, ?_⟩
    refine ite2 (fun _ => fin 0 _ (by decide) h1 h2) (fun e => fin i _ ?_ h1 h2)
    have e2 : ¬ i < (10 : Int) ^ (18 : Int).toNat := fun h => e (decide_eq_true h)
    have e3 : (0 : Int) ≤ (10 : Int) ^ (18 : Int).toNat := by decide
    omega

/-! ### _law_take -/
theorem scTake : FnScope ["_law_pool_here", "_law_many", "_law_found"] ["_law_pool_here", "_law_many"] (defScope sTake) := ⟨rfl, rfl, rfl, by decide +kernel, rfl, by decide +kernel, by decide +kernel⟩
def spTake : Sp := fun vs H Q _ => ∃ (p : Addr) (m : Int), vs = [.ref p, .int m] ∧ PoolAt H p ∧ 0 < m ∧ m < 1000000 ∧ ∀ (r : Int) (H' : Hp), 0 ≤ r → r < m → Drew p H H' → Q (.int r) H'
theorem ok_take (F : FnP K "_law_take" sTake f fd) : FnOk P w K mg base CX0 1 f fd ["_law_pool_here", "_law_many"] spTake := by
  refine F.ok scTake (fun vs H Q E h => ?_) (fun cdv A outer s H vs Q E hr h => ?_)
  · obtain ⟨p, m, rfl, _⟩ := h
    rfl
  · obtain ⟨p, m, rfl, ⟨x, y, hp, hx, hy, hy2⟩, hm1, hm2, q⟩ := h
    refine ⟨_, PSs.nox (pss_cons (ps_if (pt_cmpR op_gt (pe_ix ix_list (pv 0) pe_int (fun _ _ => rfl)) pe_int (nomark _))
        (pss_cons (ps_set (i := 2) scTake.nd rfl (.inl rfl) (pe_op op_mod (pe_ix ix_list (pv 0) pe_int (fun _ _ => rfl)) (pv 1)))
        (pss_cons (ps_asg (pe_op op_fdiv (pe_ix ix_list (pv 0) pe_int (fun _ _ => rfl)) (pv 1)) (pg_sub (pv 0) pe_int set_list))
        (pss_one (ps_ret (pv 2))))) pss_nil)
      (pss_cons (ps_asg (pe_op op_mod (pe_op op_add (pe_op op_mul (pe_ix ix_list (pv 0) pe_int (fun _ _ => rfl)) pe_int) pe_int) pe_int) (pg_sub (pv 0) pe_int set_list))
      (pss_one (ps_ret (pe_op op_mod (pe_op op_fdiv (pe_op op_mod (pe_op op_mul (pe_ix ix_list (pv 0) pe_int (fun _ _ => rfl)) (pe_ix ix_list (pv 0) pe_int (fun _ _ => rfl))) pe_int) pe_int) (pv 1)))))), ?_⟩
    have g0 : ∀ x y : Int, atI [V.int x, V.int y] 0 = some (.int x) := fun _ _ => atI_nat (j := 0) rfl
    have g1 : ∀ x y : Int, atI [V.int x, V.int y] 1 = some (.int y) := fun _ _ => atI_nat (j := 1) rfl
    refine ⟨.ref p, rfl, p, _, 0, _, rfl, rfl, sql hp, g0 x y, x, 0, rfl, rfl, _, rfl, ite2 (fun _ => ?_) (fun _ => ?_)⟩
    · refine ⟨.ref p, rfl, p, _, 0, _, rfl, rfl, sql hp, g0 x y, .int m, rfl, x, m, rfl, rfl, hm1, ?_⟩
      refine ⟨.ref p, rfl, p, _, 0, _, rfl, rfl, sql hp, g0 x y, .int m, rfl, x, m, rfl, rfl, ⟨hm1, by omega⟩, .ref p, rfl, p, _, 0, 0, rfl, rfl, hp, rfl, ?_⟩
      refine ⟨.int (x % m), rfl, q _ _ (Int.emod_nonneg _ (by omega)) (Int.emod_lt_of_pos _ hm1) ⟨fun b o hb h => by rw [upd_ne hb]; exact h, x / m, y, upd_same, Int.ediv_nonneg hx (by omega), hy, hy2⟩⟩
    · refine ⟨.ref p, rfl, p, _, 1, _, rfl, rfl, sql hp, g1 x y, y, 48271, rfl, rfl, .inr ⟨by decide, by decide⟩, _, 11, rfl, rfl, _, 2147483647, rfl, rfl, by show (0 : Int) < 2147483647; decide, .ref p, rfl, p, _, 1, 1, rfl, rfl, hp, rfl, ?_⟩
      have fin : ∀ z : Int, 0 ≤ z → z < 2147483647 → ∀ H1 : Hp, H1 = upd H p (.lst [.int x, .int z]) → tRet (tOp (rI (fun _ j => 0 < j) fun i j => .int (i % j)) (tOp (rI CDiv fun i j => .int (i / j)) (tOp (rI (fun _ j => 0 < j) fun i j => .int (i % j))
          (tOp (rI CMul fun i j => .int (i * j)) (tOp (rIxL K) (tVar 0) (tC (.int 1))) (tOp (rIxL K) (tVar 0) (tC (.int 1)))) (tC (.int 2147483629))) (tC (.int 64))) (tVar 1)) { nx := fun _ H' => Q .non H', rt := Q } [some (.ref p), some (.int m), none] H1 := fun z h1 h2 H1 e => by
        subst e
        have hz : upd H p (.lst [V.int x, .int z]) p = some (.lst [.int x, .int z]) := upd_same
        refine ⟨.ref p, rfl, p, _, 1, _, rfl, rfl, sql hz, g1 x z, .ref p, rfl, p, _, 1, _, rfl, rfl, sql hz, g1 x z, z, z, rfl, rfl, .inl ⟨by omega, by omega⟩, z * z, 2147483629, rfl, rfl, by show (0 : Int) < 2147483629; decide,
          _, 64, rfl, rfl, ⟨by decide, by decide⟩, .int m, rfl, _, m, rfl, rfl, hm1, ?_⟩
        exact q _ _ (Int.emod_nonneg _ (by omega)) (Int.emod_lt_of_pos _ hm1) ⟨fun b o hb h => by rw [upd_ne hb]; exact h, x, z, hz, hx, h1, by omega⟩
      exact fin _ (Int.emod_nonneg (y * 48271 + 11) (show (2147483647 : Int) ≠ 0 by decide)) (Int.emod_lt_of_pos (y * 48271 + 11) (show (0 : Int) < 2147483647 by decide)) _ rfl
end
end Wd

-- part WdF
/-! ## The walks of _law_names, _law_link, _law_told -/
namespace Wd
open PySem PySem.Spec PyProof.Rows L2
/-! ### the names -/
def nmL (st sp : Int) (m : Nat) : List Int := (List.range m).map fun k => (st + sp * (0 + ((k : Nat) : Int))) % 4096
theorem nmL_succ (st sp : Int) (m : Nat) : nmL st sp (m + 1) = nmL st sp m ++ [(st + sp * (0 + ((m : Nat) : Int))) % 4096] := by
  unfold nmL
  rw [List.range_succ, List.map_append]
  rfl
theorem nmL_len (st sp : Int) (m : Nat) : (nmL st sp m).length = m := by
  unfold nmL
  rw [List.length_map, List.length_range]
theorem apart (st t : Int) (i d : Nat) (h1 : 1 ≤ d) (h2 : d ≤ 9) : (st + (1 + 2 * t) * (0 + ((i : Nat) : Int))) % 4096 ≠ (st + (1 + 2 * t) * (0 + (((i + d) : Nat) : Int))) % 4096 := by
  have e : (1 + 2 * t) * (0 + (((i + d) : Nat) : Int)) = (1 + 2 * t) * (0 + ((i : Nat) : Int)) + (1 + 2 * t) * ((d : Nat) : Int) := by
    rw [← Int.mul_add]
    congr 1
    omega
  rw [e]
  generalize (1 + 2 * t) * (0 + ((i : Nat) : Int)) = A
  have hd' : d = 1 ∨ d = 2 ∨ d = 3 ∨ d = 4 ∨ d = 5 ∨ d = 6 ∨ d = 7 ∨ d = 8 ∨ d = 9 := by omega
  rcases hd' with h | h | h | h | h | h | h | h | h <;> subst h <;> omega
theorem nmL_nd (st t : Int) : ∀ m : Nat, m ≤ 10 → (nmL st (1 + 2 * t) m).Nodup
  | 0, _ => List.nodup_nil
  | m + 1, h => by
    rw [nmL_succ]
    refine List.nodup_append.mpr ⟨nmL_nd st t m (by omega), List.nodup_cons.mpr ⟨List.not_mem_nil, List.nodup_nil⟩, fun x hx y hy => ?_⟩
    rw [List.mem_singleton.mp hy]
    unfold nmL at hx
    obtain ⟨i, hi, rfl⟩ := List.mem_map.mp hx
    have hi2 := List.mem_range.mp hi
    have e : m = i + (m - i) := by omega
    have q := apart st t i (m - i) (by omega) (by omega)
    rw [← e] at q
    exact q
section
variable {P : Program} {w : World} {K : PySem.W.Frag} {mg : Str → Option Value} {base : Heap} {f : Addr} {fd : FuncData}
theorem scLNames : FnScope ["_law_pool_here", "_law_many", "_law_start", "_law_step", "_law_k"] ["_law_pool_here", "_law_many"] (defScope sLNames) := ⟨rfl, rfl, rfl, by decide +kernel, rfl, by decide +kernel, by decide +kernel⟩
def spLNames : Sp := fun vs H Q _ => ∃ (p : Addr) (m : Int), vs = [.ref p, .int m] ∧ PoolAt H p ∧ 1 ≤ m ∧ m ≤ 10 ∧
  ∀ (l : Addr) (H' : Hp) (ns : List Int), ns.length = m.toNat → ns.Nodup → Drew p H H' → H l = none → H' l = some (.lst (ns.map V.int)) → Q (.ref l) H'
theorem ok_lnames (F : FnP K "_law_names" sLNames f fd) (G : Glb mg) (CT : Kn P w K mg base 1 "_law_take" spTake) : FnOk P w K mg base CX0 2 f fd ["_law_pool_here", "_law_many"] spLNames := by
  refine F.ok scLNames (fun vs H Q E h => ?_) (fun cdv A outer s H vs Q E hr h => ?_)
  · obtain ⟨p, m, rfl, _⟩ := h
    rfl
  · obtain ⟨p, m, rfl, hp, hm1, hm2, q⟩ := h
    refine ⟨_, PSs.nox (pss_cons (ps_set (i := 2) scLNames.nd rfl (.inr rfl) (pe_kn CT hr (by decide) (by rfl) (pa_cons (pv 0) (pa_cons pe_int pa_nil))))
      (pss_cons (ps_set (i := 3) scLNames.nd rfl (.inr rfl) (pe_op op_add pe_int (pe_op op_mul pe_int (pe_kn CT hr (by decide) (by rfl) (pa_cons (pv 0) (pa_cons pe_int pa_nil))))))
      (pss_one (ps_ret (pe_lc (own := [("_law_k", 4)]) (g := gName 4) (by rfl) scLNames.nd (pi_range1 (by rfl) G.range (pa_cons (pv 1) pa_nil))
        (blkOk_by (own := [("_law_k", 4)]) (N := ["_law_pool_here", "_law_many", "_law_start", "_law_step", "_law_k"]) (sc := defScope sLNames) (by decide +kernel))
        (fun _ _ _ _ _ => pg_name (i := 4) scLNames.nd rfl (Or.inl rfl)) (fun _ _ _ _ _ => pts_nil) (fun _ _ _ _ _ => pe_op op_mod (pe_op op_add (pv 2) (pe_op op_mul (pv 3) (pv 4))) pe_int)))))), ?_⟩
    refine ⟨.ref p, rfl, p, 4096, rfl, hp, by decide, by decide, fun st H1 a1 a2 d1 => ?_⟩
    refine ⟨.ref p, rfl, p, 2048, rfl, d1.pool, by decide, by decide, fun t H2 b1 b2 d2 => ?_⟩
    refine ⟨2, t, rfl, rfl, .inl ⟨by decide, by decide⟩, 1, _, rfl, rfl, .int m, rfl, m, rfl, by omega, by omega, fun D nD => ?_⟩
    have d3 := d1.trans d2
    refine lc_range (lo := 0) (n := m.toNat) (fun i H3 => H3 = upd H2 D (.lst ((nmL st (1 + 2 * t) i).map V.int))) rfl (fun i H3 hi e => ?_) (fun H3 e => ?_)
    · subst e
      have hi2 : (i : Int) < m := by omega
      refine ⟨rfl, .int st, rfl, .int (1 + 2 * t), rfl, .int (0 + i), rfl, 1 + 2 * t, 0 + i, rfl, rfl, .inl ⟨by omega, by omega⟩, st, _, rfl, rfl, _, 4096, rfl, rfl, by show (0 : Int) < 4096; decide, _, upd_same, ?_, ?_⟩
      · rw [List.length_map, nmL_len]
        exact smallLt (m := 1000) (by omega) (by decide)
      · rw [upd_upd, nmL_succ, List.map_append]
        rfl
    · subst e
      exact q D _ _ (nmL_len _ _ _) (nmL_nd st t m.toNat (by omega)) (d3.new nD) (d3.free nD) upd_same

/-! ### the ends while they grow -/
def EndsAt (H : Hp) (d : Addr) (ns : List Int) (la : Int → Addr) (E : Int → List Ed) : Prop :=
  H d = some (.dK (ns.map fun n => ((Sum.inl n : Key), V.ref (la n)))) ∧ (∀ m n, m ∈ ns → n ∈ ns → la m = la n → m = n) ∧ ∀ n, n ∈ ns → ∃ es, H (la n) = some (.lst es) ∧ All2 (EdAt H) es (E n)
theorem EndsAt.get {H : Hp} {d : Addr} {ns : List Int} {la : Int → Addr} {E : Int → List Ed} (h : EndsAt H d ns la E) {n : Int} (hn : n ∈ ns) : DGet H d (.int n) (some (.ref (la n))) := by
  have q : ∀ ns : List Int, All2 (fun (kv : Key × V) (n : Int) => kv.1 = Sum.inl n ∧ kv.2 = V.ref (la n)) (ns.map fun n => ((Sum.inl n : Key), V.ref (la n))) ns := fun ns => by
    induction ns with
    | nil => exact .nil
    | cons m ns ih => exact .cons ⟨rfl, rfl⟩ ih
  obtain ⟨v, e, rfl⟩ := valV_at (R := fun v n => v = V.ref (la n)) (q ns) hn
  exact .inl ⟨_, .inl n, .inl h.1, rfl, e.symm⟩
theorem EndsAt.keep {H H' : Hp} {d : Addr} {ns : List Int} {la : Int → Addr} {E : Int → List Ed} (h : EndsAt H d ns la E) (k : Keep H H') (kd : ∀ kvs : List (Key × V), H d = some (.dK kvs) → H' d = some (.dK kvs)) : EndsAt H' d ns la E := by
  refine ⟨kd _ h.1, h.2.1, fun n hn => ?_⟩
  obtain ⟨es, h1, h2⟩ := h.2.2 n hn
  refine ⟨es, k.lst _ _ (fun v hv => ?_) h1, h2.up mono_ed k⟩
  obtain ⟨b, _, t, e, _⟩ := h2.left v hv
  exact ⟨t, e⟩
theorem EndsAt.same {H H' : Hp} {d : Addr} {ns : List Int} {la : Int → Addr} {E : Int → List Ed} (h : EndsAt H d ns la E) (s : Same H H') : EndsAt H' d ns la E := h.keep (Keep.of s) fun _ => s _ _
theorem EndsAt.drew {H H' : Hp} {d p : Addr} {ns : List Int} {la : Int → Addr} {E : Int → List Ed} (h : EndsAt H d ns la E) (hp : PoolAt H p) (dr : Drew p H H') : EndsAt H' d ns la E := h.keep (dr.keep hp) fun kvs e => by
  obtain ⟨x, y, h1, _⟩ := hp
  exact dr.oth _ _ (ne_of e h1 (by intro z; cases z)) e
/-- none of the lists is the pool -/
theorem EndsAt.np {H : Hp} {d p : Addr} {ns : List Int} {la : Int → Addr} {E : Int → List Ed} (h : EndsAt H d ns la E) (hp : PoolAt H p) {n : Int} (hn : n ∈ ns) : la n ≠ p := fun e => by
  obtain ⟨es, h1, h2⟩ := h.2.2 n hn
  obtain ⟨x, y, h3, _⟩ := hp
  rw [e, h3] at h1
  injection h1 with h1
  injection h1 with h1
  obtain ⟨b, _, t, k, _⟩ := h2.left (.int x) (by rw [← h1]; exact List.mem_cons_self)
  cases k
def insE (i : Nat) (e : Ed) (l : List Ed) : List Ed := l.take i ++ [e] ++ l.drop i
theorem insE_map (i : Nat) (e : Ed) (l : List Ed) : (insE i e l).map (·.1) = ins i e.1 (l.map (·.1)) := by
  unfold insE ins
  rw [List.map_append, List.map_append, List.map_take, List.map_drop]
  simp
def ins1 (E : Int → List Ed) (n : Int) (i : Nat) (e : Ed) : Int → List Ed := fun m => if m = n then insE i e (E n) else E m
theorem ins1_same {E : Int → List Ed} {n : Int} {i : Nat} {e : Ed} : ins1 E n i e n = insE i e (E n) := if_pos rfl
theorem ins1_ne {E : Int → List Ed} {n m : Int} {i : Nat} {e : Ed} (h : m ≠ n) : ins1 E n i e m = E m := if_neg h
theorem EndsAt.ins {H : Hp} {d : Addr} {ns : List Int} {la : Int → Addr} {E : Int → List Ed} (h : EndsAt H d ns la E) {n : Int} (hn : n ∈ ns) {xs : List V} (hx : H (la n) = some (.lst xs)) {y : V} {e : Ed} (hy : EdAt H y e) (i : Nat) :
    EndsAt (upd H (la n) (.lst (xs.take i ++ [y] ++ xs.drop i))) d ns la (ins1 E n i e) := by
  have up : ∀ v b, EdAt H v b → EdAt (upd H (la n) (.lst (xs.take i ++ [y] ++ xs.drop i))) v b := fun v b ⟨t, h1, h2⟩ => ⟨t, h1, by
    rw [upd_ne (ne_of h2 hx (by intro z; cases z))]
    exact h2⟩
  refine ⟨?_, h.2.1, fun m hm => ?_⟩
  · rw [upd_ne (ne_of h.1 hx (by intro z; cases z))]
    exact h.1
  · by_cases e' : m = n
    · subst e'
      obtain ⟨es, h1, h2⟩ := h.2.2 m hm
      rw [hx] at h1
      injection h1 with h1
      injection h1 with h1
      subst h1
      refine ⟨_, upd_same, ?_⟩
      rw [ins1_same]
      exact ((((h2.take i).snoc hy)).app (h2.drop i)).mono up
    · obtain ⟨es, h1, h2⟩ := h.2.2 m hm
      refine ⟨es, ?_, ?_⟩
      · rw [upd_ne (fun k => e' (h.2.1 m n hm hn k))]
        exact h1
      · rw [ins1_ne e']
        exact h2.mono up
def tieE (E : Int → List Ed) (one : Int) (i : Nat) (other : Int) (j : Nat) (pr : Int) (b : Bool) : Int → List Ed := fun n => if n = one then insE i (other, pr, b) (E one) else if n = other then insE j (one, pr, b) (E other) else E n
theorem tieE_put (E : Int → List Ed) (one : Int) (i : Nat) (other : Int) (j : Nat) (pr : Int) (b : Bool) : (fun n => (tieE E one i other j pr b n).map (·.1)) = put (fun n => (E n).map (·.1)) one i other j := by
  funext n
  unfold tieE put
  by_cases h1 : n = one
  · rw [if_pos h1, if_pos h1, insE_map]
  · rw [if_neg h1, if_neg h1]
    by_cases h2 : n = other
    · rw [if_pos h2, if_pos h2, insE_map]
    · rw [if_neg h2, if_neg h2]

/-! ### _law_link -/
theorem scLink : FnScope ["_law_ends", "_law_pool_here", "_law_one", "_law_other", "_law_told_here", "_law_price"] ["_law_ends", "_law_pool_here", "_law_one", "_law_other", "_law_told_here"] (defScope sLink) := ⟨rfl, rfl, rfl, by decide +kernel, rfl, by decide +kernel, by decide +kernel⟩
def spLink : Sp := fun vs H Q _ => ∃ (d p : Addr) (one other : Int) (b : Bool) (ns : List Int) (la : Int → Addr) (E : Int → List Ed), vs = [.ref d, .ref p, .int one, .int other, .bl b] ∧ EndsAt H d ns la E ∧ PoolAt H p ∧ one ∈ ns ∧ other ∈ ns ∧ one ≠ other ∧
  (E one).length ≤ 1000 ∧ (E other).length ≤ 1000 ∧ ∀ (H' : Hp) (i j : Nat) (pr : Int), EndsAt H' d ns la (tieE E one i other j pr b) → PoolAt H' p → (∀ c o, H c = some o → c ≠ p → (∀ n, n ∈ ns → c ≠ la n) → H' c = some o) → Q .non H'
theorem ok_link (F : FnP K "_law_link" sLink f fd) (G : Glb mg) (CT : Kn P w K mg base 1 "_law_take" spTake) : FnOk P w K mg base CX0 2 f fd ["_law_ends", "_law_pool_here", "_law_one", "_law_other", "_law_told_here"] spLink := by
  refine F.ok scLink (fun vs H Q E h => ?_) (fun cdv A outer s H vs Q E hr h => ?_)
  · obtain ⟨d, p, one, other, b, ns, la, E, rfl, _⟩ := h
    rfl
  · obtain ⟨d, p, one, other, b, ns, la, E, rfl, hE, hp, h1, h2, hne, hl1, hl2, q⟩ := h
    have hu := hu_of hr
    refine ⟨_, PSs.nox (pss_cons (ps_set (i := 5) scLink.nd rfl (.inl rfl) (pe_op op_add pe_int (pe_kn CT hr (by decide) (by rfl) (pa_cons (pv 1) (pa_cons
        (pe_ix ix_list (pe_lst (pa_cons pe_int (pa_cons pe_int pa_nil))) (pe_kn CT hr (by decide) (by rfl) (pa_cons (pv 1) (pa_cons pe_int pa_nil))) (fun _ _ => rfl)) pa_nil)))))
      (pss_cons (ps_expr (pe_bm PySem.F.plainAttrs_list PySem.F.slot_list_insert PySem.F.type_list_insert mt_insert (pe_dget hu (pv 0) (pv 2) (fun _ _ => rfl)) (pa_cons
        (pe_kn CT hr (by decide) (by rfl) (pa_cons (pv 1) (pa_cons (pe_op op_add (pe_callB call_len_seq (by rfl) G.len bt_len (pa_cons (pe_dget hu (pv 0) (pv 2) (fun _ _ => rfl)) pa_nil)) pe_int) pa_nil)))
        (pa_cons (pe_tup (pa_cons (pv 3) (pa_cons (pv 5) (pa_cons (pv 4) pa_nil)))) pa_nil))))
      (pss_one (ps_expr (pe_bm PySem.F.plainAttrs_list PySem.F.slot_list_insert PySem.F.type_list_insert mt_insert (pe_dget hu (pv 0) (pv 3) (fun _ _ => rfl)) (pa_cons
        (pe_kn CT hr (by decide) (by rfl) (pa_cons (pv 1) (pa_cons (pe_op op_add (pe_callB call_len_seq (by rfl) G.len bt_len (pa_cons (pe_dget hu (pv 0) (pv 3) (fun _ _ => rfl)) pa_nil)) pe_int) pa_nil)))
        (pa_cons (pe_tup (pa_cons (pv 2) (pa_cons (pv 5) (pa_cons (pv 4) pa_nil)))) pa_nil))))))), ?_⟩
    -- the price
    refine ⟨.ref p, rfl, by show 2 ≤ sizeLine; decide, fun c nc => ?_⟩
    have d1 : Drew p H (upd H c (.lst [.int 4, .int 60])) := Drew.of hp (same_new nc)
    refine ⟨.ref p, rfl, p, 2, rfl, d1.pool, by decide, by decide, fun r H1 r1 r2 d2 => ?_⟩
    have ncp : c ≠ p := hp.ne nc
    have hc : H1 c = some (.lst [.int 4, .int 60]) := d2.oth c _ ncp upd_same
    have d3 := d1.trans d2
    obtain ⟨z, hz1, hz2, hz3⟩ : ∃ z : Int, atI [V.int 4, V.int 60] r = some (.int z) ∧ 0 < z ∧ z < 1000000 := by
      have hr' : r = 0 ∨ r = 1 := by omega
      rcases hr' with h | h
      · exact ⟨4, by rw [h]; exact atI_nat (j := 0) rfl, by decide, by decide⟩
      · exact ⟨60, by rw [h]; exact atI_nat (j := 1) rfl, by decide, by decide⟩
    refine ⟨c, _, r, .int z, rfl, rfl, sql hc, hz1, p, z, rfl, d3.pool, hz2, hz3, fun pr H2 _ _ d4 => ?_⟩
    have d5 := d3.trans d4
    refine ⟨1, pr, rfl, rfl, ?_⟩
    -- the first place's ends
    have E2 := hE.drew hp d5
    obtain ⟨es, he1, he2⟩ := E2.2.2 one h1
    refine ⟨.ref d, rfl, .int one, rfl, d, _, rfl, E2.get h1, .inl ⟨rfl, _, sql he1⟩, .ref p, rfl, .ref d, rfl, .int one, rfl, d, _, rfl, E2.get h1, la one, es, rfl, .inl (sql he1), _, 1, rfl, rfl, p, _, rfl, d5.pool, by omega, by rw [he2.len]; omega, fun i H3 i1 i2 d6 => ?_⟩
    have d7 := d5.trans d6
    refine ⟨.int other, rfl, .int (1 + pr), rfl, .bl b, rfl, by show 3 ≤ sizeLine; decide, fun u nu => ?_⟩
    have d8 : Drew p H (upd H3 u (.tup [.int other, .int (1 + pr), .bl b])) := d7.new nu
    have E3 := hE.drew hp d8
    obtain ⟨es3, he3, he4⟩ := E3.2.2 one h1
    have l3 : es3.length = (E one).length := he4.len
    refine ⟨la one, es3, i, .ref u, rfl, rfl, he3, smallLt (m := 1000) (by omega) (by decide), i1, by rw [he2.len] at i2; omega, ?_⟩
    have E4 := E3.ins h1 he3 (y := .ref u) (e := (other, 1 + pr, b)) ⟨u, rfl, upd_same⟩ i.toNat
    have p4 : PoolAt (upd (upd H3 u (.tup [.int other, .int (1 + pr), .bl b])) (la one) (.lst (es3.take i.toNat ++ [.ref u] ++ es3.drop i.toNat))) p := by
      obtain ⟨x, y, g1, g2⟩ := d8.pool
      exact ⟨x, y, by rw [upd_ne (fun e => E3.np d8.pool h1 e.symm)]; exact g1, g2⟩
    -- the other place's ends
    obtain ⟨es5, he5, he6⟩ := E4.2.2 other h2
    rw [ins1_ne (fun e : other = one => hne e.symm)] at he6
    refine ⟨.ref d, rfl, .int other, rfl, d, _, rfl, E4.get h2, .inl ⟨rfl, _, sql he5⟩, .ref p, rfl, .ref d, rfl, .int other, rfl, d, _, rfl, E4.get h2, la other, es5, rfl, .inl (sql he5), _, 1, rfl, rfl, p, _, rfl, p4, by omega, by rw [he6.len]; omega, fun j H5 j1 j2 d9 => ?_⟩
    refine ⟨.int one, rfl, .int (1 + pr), rfl, .bl b, rfl, by show 3 ≤ sizeLine; decide, fun u2 nu2 => ?_⟩
    have d10 := d9.new (o := .tup [.int one, .int (1 + pr), .bl b]) nu2
    have E6 := E4.drew p4 d10
    obtain ⟨es7, he7, he8⟩ := E6.2.2 other h2
    rw [ins1_ne (fun e : other = one => hne e.symm)] at he8
    refine ⟨la other, es7, j, .ref u2, rfl, rfl, he7, smallLt (m := 1000) (by rw [he8.len]; omega) (by decide), j1, by rw [he6.len] at j2; omega, ?_⟩
    have E8 := E6.ins h2 he7 (y := .ref u2) (e := (one, 1 + pr, b)) ⟨u2, rfl, upd_same⟩ j.toNat
    have eE : ins1 (ins1 E one i.toNat (other, 1 + pr, b)) other j.toNat (one, 1 + pr, b) = tieE E one i.toNat other j.toNat (1 + pr) b := by
      funext m
      unfold tieE
      by_cases m1 : m = one
      · have m2 : ¬ m = other := fun e => hne (m1.symm.trans e)
        rw [ins1_ne m2, m1, ins1_same, if_pos rfl]
      · rw [if_neg m1]
        by_cases m2 : m = other
        · rw [m2, ins1_same, ins1_ne (fun e : other = one => hne e.symm), if_pos rfl]
        · rw [ins1_ne m2, ins1_ne m1, if_neg m2]
    rw [eE] at E8
    refine q _ i.toNat j.toNat (1 + pr) E8 ?_ fun c' o ho n1 n2 => ?_
    · obtain ⟨x, y, g1, g2⟩ := d10.pool
      exact ⟨x, y, by rw [upd_ne (fun e => E6.np d10.pool h2 e.symm)]; exact g1, g2⟩
    · rw [upd_ne (n2 other h2)]
      refine d10.oth c' o n1 ?_
      rw [upd_ne (n2 one h1)]
      exact d8.oth c' o n1 ho

/-! ### _law_told -/
theorem scTold : FnScope ["_law_pool_here", "_law_way", "_law_amid", "_law_drawn"] ["_law_pool_here", "_law_way", "_law_amid"] (defScope sTold) := ⟨rfl, rfl, rfl, by decide +kernel, rfl, by decide +kernel, by decide +kernel⟩
def spTold : Sp := fun vs H Q _ => ∃ (p : Addr) (way : Int) (am : Bool), vs = [.ref p, .int way, .bl am] ∧ PoolAt H p ∧ 0 ≤ way ∧ way < 4 ∧ ∀ (b : Bool) (H' : Hp), Drew p H H' → Q (.bl b) H'
theorem ok_told (F : FnP K "_law_told" sTold f fd) (CT : Kn P w K mg base 1 "_law_take" spTake) : FnOk P w K mg base CX0 2 f fd ["_law_pool_here", "_law_way", "_law_amid"] spTold := by
  refine F.ok scTold (fun vs H Q E h => ?_) (fun cdv A outer s H vs Q E hr h => ?_)
  · obtain ⟨p, way, am, rfl, _⟩ := h
    rfl
  · obtain ⟨p, way, am, rfl, hp, w1, w2, q⟩ := h
    refine ⟨_, PSs.nox (pss_cons (ps_set (i := 3) scTold.nd rfl (.inl rfl) (pe_cmpR op_eq (pe_kn CT hr (by decide) (by rfl) (pa_cons (pv 0) (pa_cons pe_int pa_nil))) pe_int (nomark _)))
      (pss_one (ps_ret (pe_ix ix_list (pe_lst (pa_cons (pv 2) (pa_cons pe_bl (pa_cons pe_bl (pa_cons (pv 3) pa_nil))))) (pv 1) (fun _ _ => rfl))))), ?_⟩
    refine ⟨.ref p, rfl, p, 2, rfl, hp, by decide, by decide, fun r H1 r1 r2 d1 => ?_⟩
    refine ⟨rfl, .bl am, rfl, _, rfl, by show 4 ≤ sizeLine; decide, fun c nc => ?_⟩
    have hw : way = 0 ∨ way = 1 ∨ way = 2 ∨ way = 3 := by omega
    rcases hw with h | h | h | h <;> subst h
    · exact ⟨.int 0, rfl, c, _, 0, _, rfl, rfl, sql upd_same, atI_nat (j := 0) rfl, q _ _ (d1.new nc)⟩
    · exact ⟨.int 1, rfl, c, _, 1, _, rfl, rfl, sql upd_same, atI_nat (j := 1) rfl, q _ _ (d1.new nc)⟩
    · exact ⟨.int 2, rfl, c, _, 2, _, rfl, rfl, sql upd_same, atI_nat (j := 2) rfl, q _ _ (d1.new nc)⟩
    · exact ⟨.int 3, rfl, c, _, 3, _, rfl, rfl, sql upd_same, atI_nat (j := 3) rfl, q _ _ (d1.new nc)⟩
end
end Wd

-- part WdG
/-! ## The walk of _law_web -/
namespace Wd
open PySem PySem.Spec PyProof.Rows L2
theorem All2.choose {α γ : Type} {R : α → Int → γ → Prop} (dflt : γ) : ∀ {as : List α} {ns : List Int}, All2 (fun a n => ∃ c, R a n c) as ns → ns.Nodup → ∃ g : Int → γ, All2 (fun a n => R a n (g n)) as ns
  | _, _, .nil, _ => ⟨fun _ => dflt, .nil⟩
  | _, _, .cons (b := m) h t, n => by
    obtain ⟨h1, h2⟩ := List.nodup_cons.mp n
    obtain ⟨c, hc⟩ := h
    obtain ⟨g, hg⟩ := t.choose dflt h2
    have e1 : (fun k => if k = m then c else g k) m = c := if_pos rfl
    refine ⟨fun k => if k = m then c else g k, .cons (by rw [e1]; exact hc) ?_⟩
    refine hg.memR.mono fun a k q => ?_
    have e2 : (fun k => if k = m then c else g k) k = g k := if_neg fun e => h1 (by rw [← e]; exact q.2.2)
    rw [e2]
    exact q.1
theorem nd_map_inj {f : Int → Addr} : ∀ {ns : List Int}, (ns.map f).Nodup → ∀ m n, m ∈ ns → n ∈ ns → f m = f n → m = n
  | [], _, m, _, h, _, _ => by simp at h
  | a :: ns, h, m, n, hm, hn, e => by
    obtain ⟨h1, h2⟩ := List.nodup_cons.mp (show (f a :: ns.map f).Nodup from h)
    rcases List.mem_cons.mp hm with e1 | m1
    · rcases List.mem_cons.mp hn with e2 | m2
      · rw [e1, e2]
      · exact absurd (List.mem_map.mpr ⟨n, m2, by rw [← e, e1]⟩) h1
    · rcases List.mem_cons.mp hn with e2 | m2
      · exact absurd (List.mem_map.mpr ⟨m, m1, by rw [e, e2]⟩) h1
      · exact nd_map_inj h2 m n m1 m2 e
theorem merge_nd : ∀ {more acc : List (Key × V)}, ((acc ++ more).map (·.1)).Nodup → mergeK acc more = acc ++ more
  | [], acc, _ => by
    rw [List.append_nil]
    rfl
  | kv :: more, acc, h => by
    have e : acc ++ kv :: more = (acc ++ [kv]) ++ more := by simp
    have nv : valV acc kv.1 = none := by
      cases q : valV acc kv.1 with
      | none => rfl
      | some v =>
        have m : kv.1 ∈ acc.map (·.1) := valV_in q
        rw [List.map_append] at h
        exact absurd rfl ((List.nodup_append.mp h).2.2 _ m _ (by rw [List.map_cons]; exact List.mem_cons_self))
    have e2 : mergeK acc (kv :: more) = mergeK (putK acc kv.1 kv.2) more := rfl
    rw [e2, putK_new kv.2 nv, e]
    exact merge_nd (by rw [← e]; exact h)
theorem ix_ns {ns : List Int} {r : Int} (h0 : 0 ≤ r) (h1 : r < ns.length) : ∃ (j : Nat) (n : Int), ns[j]? = some n ∧ (j : Int) = r ∧ atI (ns.map V.int) r = some (.int n) := by
  have hj : r.toNat < ns.length := by omega
  refine ⟨r.toNat, ns[r.toNat], List.getElem?_eq_getElem hj, by omega, at_of (j := r.toNat) (by omega) ?_⟩
  rw [List.getElem?_map, List.getElem?_eq_getElem hj]
  rfl
theorem at3 (A B C : Int) {bg : Int} (h0 : 0 ≤ bg) (h1 : bg < 3) : atI [V.int A, V.int B, V.int C] bg = some (.int (if bg = 0 then A else if bg = 1 then B else C)) := by
  have h : bg = 0 ∨ bg = 1 ∨ bg = 2 := by omega
  rcases h with h | h | h <;> subst h
  · exact atI_nat (j := 0) rfl
  · exact atI_nat (j := 1) rfl
  · exact atI_nat (j := 2) rfl
theorem inV_ints (x : Int) : ∀ ns : List Int, inV (.int x) (ns.map V.int) = decide (x ∈ ns)
  | [] => by simp [inV]
  | n :: ns => by
    have ih := inV_ints x ns
    unfold inV at ih ⊢
    rw [List.map_cons, List.any_cons, ih]
    have e : eqV (.int n) (.int x) = (n == x) := rfl
    rw [e]
    by_cases h : n = x
    · simp [h]
    · have h' : ¬ x = n := fun k => h k.symm
      simp [h, h']
theorem iteN2 {A B : Prop} {c : Bool} (h1 : c = false → A) (h2 : c = true → B) : if (!c) = true then A else B := by
  cases c with
  | false => exact h1 rfl
  | true => exact h2 rfl
abbrev nE (E : Int → List Ed) : Nb := fun n => (E n).map (·.1)
/-- what stands between two draws -/
structure WInv (H0 H : Hp) (p nl d : Addr) (ns : List Int) (la : Int → Addr) (E : Int → List Ed) : Prop where
  dr : Drew p H0 H
  nm : H nl = some (.lst (ns.map V.int))
  en : EndsAt H d ns la E
theorem WInv.drew {H0 H H' : Hp} {p nl d : Addr} {ns : List Int} {la : Int → Addr} {E : Int → List Ed} (h : WInv H0 H p nl d ns la E) (np : nl ≠ p) (dr : Drew p H H') : WInv H0 H' p nl d ns la E :=
  ⟨h.dr.trans dr, dr.oth _ _ np h.nm, h.en.drew h.dr.pool dr⟩
theorem WInv.link {H0 H H' : Hp} {p nl d : Addr} {ns : List Int} {la : Int → Addr} {E E' : Int → List Ed} (h : WInv H0 H p nl d ns la E) (np : nl ≠ p) (hla : ∀ n, n ∈ ns → H0 (la n) = none) (nla : ∀ n, n ∈ ns → nl ≠ la n)
    (en : EndsAt H' d ns la E') (pl : PoolAt H' p) (fr : ∀ c o, H c = some o → c ≠ p → (∀ n, n ∈ ns → c ≠ la n) → H' c = some o) : WInv H0 H' p nl d ns la E' where
  dr := ⟨fun b o nb hb => fr b o (h.dr.oth b o nb hb) nb fun n hn => ne_of_none hb (hla n hn), pl⟩
  nm := fr _ _ h.nm np nla
  en := en
section
variable {P : Program} {w : World} {K : PySem.W.Frag} {mg : Str → Option Value} {base : Heap} {f : Addr} {fd : FuncData}
theorem scWeb : FnScope ["_law_pool_here", "_law_most", "_law_more", "_law_many", "_law_way", "_law_names_here", "_law_name", "_law_ends", "_law_k", "_law_other", "_law_one", "_law_full", "_law_first", "_law_badges", "_law_found", "_law_badge", "_law_end"] ["_law_pool_here", "_law_most", "_law_more"] (defScope sWeb) :=
  ⟨rfl, rfl, rfl, by decide +kernel, rfl, by decide +kernel, by decide +kernel⟩
def spWeb : Sp := fun vs H Q _ => ∃ (p : Addr), vs = [.ref p, .int 10, .int 6] ∧ PoolAt H p ∧ ∀ (a : Addr) (H' : Hp) (ns : List Int) (pl : Int → Int × List Ed), Drew p H H' → WebAt H' a ns pl → 1 ≤ ns.length → ns.length ≤ 10 → Valid ns (nbOf pl) →
  (2 ≤ ns.length → Drawn ns (nbOf pl)) → Q (.ref a) H'
theorem ok_web (F : FnP K "_law_web" sWeb f fd) (G : Glb mg) (CT : Kn P w K mg base 1 "_law_take" spTake) (CN : Kn P w K mg base 2 "_law_names" spLNames) (CL : Kn P w K mg base 2 "_law_link" spLink) (CTo : Kn P w K mg base 2 "_law_told" spTold) :
    FnOk P w K mg base CX0 3 f fd ["_law_pool_here", "_law_most", "_law_more"] spWeb := by
  refine F.ok scWeb (fun vs H Q E h => ?_) (fun cdv A outer s H vs Q E hr h => ?_)
  · obtain ⟨p, rfl, _⟩ := h
    rfl
  · obtain ⟨p, rfl, hp, q⟩ := h
    have hu := hu_of hr
    refine ⟨_, PSs.nox (pss_cons (ps_set (i := 3) scWeb.nd rfl (.inl rfl) (pe_op op_add pe_int (pe_kn CT hr (by decide) (by rfl) (pa_cons (pv 0) (pa_cons (pv 1) pa_nil)))))
      (pss_cons (ps_set (i := 4) scWeb.nd rfl (.inl rfl) (pe_kn CT hr (by decide) (by rfl) (pa_cons (pv 0) (pa_cons pe_int pa_nil))))
      (pss_cons (ps_set (i := 5) scWeb.nd rfl (.inl rfl) (pe_kn CN hr (by decide) (by rfl) (pa_cons (pv 0) (pa_cons (pv 3) pa_nil))))
      (pss_cons (ps_set (i := 7) scWeb.nd rfl (.inl rfl) (pe_callTy (call_dictP rfl) (by rfl) G.dict boot_dict (pa_cons
        (pe_lc (own := [("_law_name", 6)]) (g := gName 6) (by rfl) scWeb.nd (pi_list (pv 5)) (blkOk_by (own := [("_law_name", 6)]) (N := ["_law_pool_here", "_law_most", "_law_more", "_law_many", "_law_way", "_law_names_here", "_law_name", "_law_ends", "_law_k", "_law_other", "_law_one", "_law_full", "_law_first", "_law_badges", "_law_found", "_law_badge", "_law_end"]) (sc := defScope sWeb) (by decide +kernel))
          (fun _ _ _ _ _ => pg_name (i := 6) scWeb.nd rfl (Or.inl rfl)) (fun _ _ _ _ _ => pts_nil) (fun _ _ _ _ _ => pe_tup (pa_cons (pv 6) (pa_cons (pe_lst pa_nil) pa_nil)))) pa_nil)))
      (pss_cons (ps_for PassesOwn.never rfl (pi_range2 (by rfl) G.range (pa_cons pe_int (pa_cons (pv 3) pa_nil))) (pg_name (i := 8) scWeb.nd rfl (.inl rfl))
        (pss_cons (ps_set (i := 9) scWeb.nd rfl (.inl rfl) (pe_ix ix_list (pv 5) (pe_kn CT hr (by decide) (by rfl) (pa_cons (pv 0) (pa_cons (pv 8) pa_nil))) (fun _ _ => rfl)))
        (Evl.pss_cut (ps_if (pt_cmpR op_gt (pe_callB call_len_seq (by rfl) G.len bt_len (pa_cons (pe_dget hu (pv 7) (pv 9) (fun _ _ => rfl)) pa_nil)) pe_int (nomark _))
          (pss_one (ps_set (i := 9) scWeb.nd rfl (.inl rfl) (pe_ix ix_list (pv 5) (pe_op op_sub (pv 8) pe_int) (fun _ _ => rfl)))) pss_nil)
        (pss_one (ps_expr (pe_kn CL hr (by decide) (by rfl) (pa_cons (pv 7) (pa_cons (pv 0) (pa_cons (pe_ix ix_list (pv 5) (pv 8) (fun _ _ => rfl)) (pa_cons (pv 9) (pa_cons
          (pe_kn CTo hr (by decide) (by rfl) (pa_cons (pv 0) (pa_cons (pv 4) (pa_cons pe_bl pa_nil)))) pa_nil)))))))))))
      (pss_cons (ps_for PassesOwn.never rfl (pi_range1 (by rfl) G.range (pa_cons (pe_kn CT hr (by decide) (by rfl) (pa_cons (pv 0) (pa_cons (pe_op op_add (pv 2) pe_int) pa_nil))) pa_nil)) (pg_name (i := 8) scWeb.nd rfl (.inl rfl))
        (pss_cons (ps_set (i := 10) scWeb.nd rfl (.inl rfl) (pe_ix ix_list (pv 5) (pe_kn CT hr (by decide) (by rfl) (pa_cons (pv 0) (pa_cons (pv 3) pa_nil))) (fun _ _ => rfl)))
        (pss_cons (ps_set (i := 9) scWeb.nd rfl (.inl rfl) (pe_ix ix_list (pv 5) (pe_kn CT hr (by decide) (by rfl) (pa_cons (pv 0) (pa_cons (pv 3) pa_nil))) (fun _ _ => rfl)))
        (pss_cons (ps_set (i := 11) scWeb.nd rfl (.inl rfl) (pe_cmpR op_gt (pe_callB (call_max2 rfl) (by rfl) G.max boot_max (pa_cons (pe_callB call_len_seq (by rfl) G.len bt_len (pa_cons (pe_dget hu (pv 7) (pv 10) (fun _ _ => rfl)) pa_nil))
          (pa_cons (pe_callB call_len_seq (by rfl) G.len bt_len (pa_cons (pe_dget hu (pv 7) (pv 9) (fun _ _ => rfl)) pa_nil)) pa_nil))) pe_int (nomark _)))
        (pss_one (ps_if (PW.pt (pw_and (pt_cmpR op_ne (pv 10) (pv 9) (nomark _)) (pw_and (pt_not (pt_val (pv 11))) (pw_and1 (pt_cmpR op_notIn_seq (pv 9)
            (pe_lc (own := [("_law_end", 16)]) (g := gName 16) (te := tOp (rIxT K) (tVar 16) (tC (.int 0))) (by rfl) scWeb.nd (pi_list (pe_dget hu (pv 7) (pv 10) (fun _ _ => rfl)))
              (blkOk_by (own := [("_law_end", 16)]) (N := ["_law_pool_here", "_law_most", "_law_more", "_law_many", "_law_way", "_law_names_here", "_law_name", "_law_ends", "_law_k", "_law_other", "_law_one", "_law_full", "_law_first", "_law_badges", "_law_found", "_law_badge", "_law_end"]) (sc := defScope sWeb) (by decide +kernel))
              (fun _ _ _ _ _ => pg_name (i := 16) scWeb.nd rfl (Or.inl rfl)) (fun _ _ _ _ _ => pts_nil) (fun _ _ _ _ _ => pe_ix ix_tup (pv 16) pe_int (fun _ _ => rfl))) (by rfl))))))
          (pss_one (ps_expr (pe_kn CL hr (by decide) (by rfl) (pa_cons (pv 7) (pa_cons (pv 0) (pa_cons (pv 10) (pa_cons (pv 9) (pa_cons (pe_kn CTo hr (by decide) (by rfl) (pa_cons (pv 0) (pa_cons (pv 4) (pa_cons pe_bl pa_nil)))) pa_nil))))))))
          pss_nil))))))
      (pss_cons (ps_set (i := 12) scWeb.nd rfl (.inl rfl) (pe_ix ix_list (pv 5) (pe_kn CT hr (by decide) (by rfl) (pa_cons (pv 0) (pa_cons (pv 3) pa_nil))) (fun _ _ => rfl)))
      (pss_cons (ps_set (i := 13) scWeb.nd rfl (.inl rfl) (pe_kn CT hr (by decide) (by rfl) (pa_cons (pv 0) (pa_cons pe_int pa_nil))))
      (pss_cons (ps_set (i := 14) scWeb.nd rfl (.inl rfl) pe_dnewK)
      (pss_cons (ps_for PassesOwn.never rfl (pi_list (pv 5)) (pg_name (i := 6) scWeb.nd rfl (.inl rfl))
        (pss_cons (ps_set (i := 15) scWeb.nd rfl (.inl rfl) (pe_ix ix_list (pe_lst (pa_cons (pe_callTy call_int1 (by rfl) G.int boot_int (pa_cons (pe_cmpR op_eq (pv 6) (pv 12) (nomark _)) pa_nil))
          (pa_cons (pe_callTy call_int1 (by rfl) G.int boot_int (pa_cons (pe_cmpR op_eq (pv 6) (pv 12) (nomark _)) pa_nil)) (pa_cons (pe_kn CT hr (by decide) (by rfl) (pa_cons (pv 0) (pa_cons pe_int pa_nil))) pa_nil)))) (pv 13) (fun _ _ => rfl)))
        (pss_one (ps_dput hu (pv 14) (pv 6) (pe_tup (pa_cons (pv 15) (pa_cons (pe_dget hu (pv 7) (pv 6) (fun _ _ => rfl)) pa_nil))) rfl))))
      (pss_one (ps_ret (pv 14))))))))))))), ?_⟩
    -- many, way, names
    refine ⟨.ref p, rfl, .int 10, rfl, p, 10, rfl, hp, by decide, by decide, fun r0 H1 a1 a2 d1 => ?_⟩
    refine ⟨1, r0, rfl, rfl, .ref p, rfl, p, 4, rfl, d1.pool, by decide, by decide, fun way H2 w1 w2 d2 => ?_⟩
    have d12 := d1.trans d2
    refine ⟨.ref p, rfl, .int (1 + r0), rfl, p, 1 + r0, rfl, d12.pool, by omega, by omega, fun nl H3 ns hlen hnd d3 nnl hnl => ?_⟩
    have d13 := d12.trans d3
    have hlen' : (ns.length : Int) = 1 + r0 := by omega
    have nlH : H nl = none := d12.free nnl
    have np : nl ≠ p := d12.pool.ne nnl
    -- ends = dict(..)
    refine ⟨.ref nl, rfl, nl, rfl, ⟨_, sql hnl⟩, fun D nD => ?_⟩
    have nlD : nl ≠ D := ne_of_none hnl nD
    refine lc_list (K := K) (a := nl) (xs := ns.map V.int) (fun i H' => ∃ qs : List (Addr × Addr), Same H3 H' ∧ H' D = some (.lst (qs.map fun q => V.ref q.1)) ∧
      All2 (fun (q : Addr × Addr) (n : Int) => H' q.1 = some (.tup [.int n, .ref q.2]) ∧ H' q.2 = some (.lst []) ∧ H3 q.2 = none) qs (ns.take i) ∧ (qs.map (·.2)).Nodup ∧ D ∉ qs.map (·.2)) ⟨[], same_new nD, upd_same, .nil, List.nodup_nil, by simp⟩
      (fun i H' _ ⟨_, s1, _⟩ => sql (s1 _ _ hnl)) ?_ ?_
    · rintro i x H' hx ⟨qs, s1, hD, hq, hn1, hn2⟩
      obtain ⟨n, hn, rfl⟩ := map_at hx
      refine ⟨rfl, .int n, rfl, Nat.zero_le _, fun l nl' => ⟨by show 2 ≤ sizeLine; decide, fun t nt => ?_⟩⟩
      have s2 : Same H' (upd H' l (.lst [])) := same_new nl'
      have s3 := s2.trans (same_new (o := .tup [.int n, .ref l]) nt)
      have hDl : D ≠ l := ne_of_none hD nl'
      have hlt : l ≠ t := fun e => by
        rw [← e, upd_same] at nt
        cases nt
      have ql := hq.len
      rw [List.length_take] at ql
      refine ⟨_, s3 _ _ hD, smallLt (m := 1000) (by rw [List.length_map]; omega) (by decide), qs ++ [(t, l)], ?_, ?_, ?_, ?_, ?_⟩
      · exact same_own (s1.trans s3) nD
      · rw [upd_same, List.map_append]
        rfl
      · rw [take_succ hn]
        have hDt : D ≠ t := fun e => by
          have q1 := s2 _ _ hD
          rw [e, nt] at q1
          cases q1
        refine All2.snoc (hq.memR.mono fun qq nn hh => ⟨by
          rw [upd_ne (ne_of hh.1.1 hD (by intro z; cases z))]
          exact s3 _ _ hh.1.1, by
          rw [upd_ne (fun e => hn2 (List.mem_map.mpr ⟨qq, hh.2.1, e⟩))]
          exact s3 _ _ hh.1.2.1, hh.1.2.2⟩) ⟨?_, ?_, s1.free nl'⟩
        · show upd _ D _ t = _
          rw [upd_ne hDt.symm, upd_same]
        · show upd _ D _ l = _
          rw [upd_ne hDl.symm, upd_ne hlt, upd_same]
      · rw [List.map_append]
        refine List.nodup_append.mpr ⟨hn1, by simp, fun a ha b hb e => ?_⟩
        rw [List.map_cons, List.map_nil] at hb
        rw [List.mem_singleton.mp hb] at e
        obtain ⟨q, hq1, hq2⟩ := List.mem_map.mp ha
        obtain ⟨m, _, _, q5, _⟩ := hq.left q hq1
        rw [hq2, e, nl'] at q5
        cases q5
      · rw [List.map_append, List.mem_append, not_or]
        refine ⟨hn2, ?_⟩
        rw [List.map_cons, List.map_nil, List.mem_singleton]
        exact hDl
    · rintro H4 ⟨qs, s4, hD, hq, hn1, hn2⟩
      rw [take_map] at hq
      -- where each name's ends lie
      obtain ⟨la, hla⟩ := All2.choose (R := fun (q : Addr × Addr) (n : Int) (l : Addr) => q.2 = l ∧ H4 q.1 = some (.tup [.int n, .ref l]) ∧ H4 l = some (.lst []) ∧ H3 l = none) 0 (hq.mono fun q n h => ⟨q.2, rfl, h⟩) hnd
      have eqs : qs.map (·.2) = ns.map la := by
        have h : ∀ {qs : List (Addr × Addr)} {ns : List Int}, All2 (fun (q : Addr × Addr) n => q.2 = la n) qs ns → qs.map (·.2) = ns.map la := fun {qs ns} h => by
          induction h with
          | nil => rfl
          | cons h t ih => rw [List.map_cons, List.map_cons, h, ih]
        exact h (hla.mono fun q n h => h.1)
      rw [eqs] at hn1
      refine ⟨D, qs.map (·.1), ns.map fun n => ((Sum.inl n : Key), V.ref (la n)), rfl, ?_, ?_, fun d nd => ?_⟩
      · rw [List.map_map]
        exact sql hD
      · have h : ∀ {qs : List (Addr × Addr)} {ns : List Int}, All2 (fun (q : Addr × Addr) n => H4 q.1 = some (.tup [.int n, .ref (la n)])) qs ns → Paired (fun p (kv : Key × V) => SqT K H4 p [kV kv.1, kv.2]) (qs.map (·.1)) (ns.map fun n => ((Sum.inl n : Key), V.ref (la n))) := fun {qs ns} h => by
          induction h with
          | nil => exact .nil
          | cons h t ih => exact .cons (sqt h) ih
        exact h (hla.mono fun q n h => h.2.1)
      · have ndk : ((([] : List (Key × V)) ++ ns.map fun n => ((Sum.inl n : Key), V.ref (la n))).map (·.1)).Nodup := by
          rw [List.nil_append, List.map_map]
          exact List.Pairwise.map _ (fun x y (h : x ≠ y) e => h (Sum.inl.inj e)) hnd
        rw [merge_nd ndk, List.nil_append]
        have s5 := s4.trans (same_new (o := .dK (ns.map fun n => ((Sum.inl n : Key), V.ref (la n)))) nd)
        have laF : ∀ n, n ∈ ns → H3 (la n) = none := fun n hn => by
          obtain ⟨q, _, _, _, _, h⟩ := hla.right n hn
          exact h
        have laH : ∀ n, n ∈ ns → H (la n) = none := fun n hn => d13.free (laF n hn)
        have nla : ∀ n, n ∈ ns → nl ≠ la n := fun n hn => ne_of_none hnl (laF n hn)
        have W0 : WInv H (upd H4 d (.dK (ns.map fun n => ((Sum.inl n : Key), V.ref (la n))))) p nl d ns la (fun _ => []) := ⟨d13.trans (Drew.of d13.pool s5), s5 _ _ hnl, upd_same, nd_map_inj hn1, fun n hn => by
          obtain ⟨q, _, _, _, h3, _⟩ := hla.right n hn
          exact ⟨[], (same_new (o := .dK (ns.map fun n => ((Sum.inl n : Key), V.ref (la n)))) nd) _ _ h3, .nil⟩⟩
        -- for k in range(1, many)
        refine ⟨.int (1 + r0), rfl, 1, 1 + r0, rfl, ⟨by decide, by decide, by omega, by omega⟩, for_range (lo := 1) (n := (1 + r0 - 1).toNat) (fun i σ H5 => ∃ (E : Int → List Ed) (y6 y8 y9 : Option V),
          σ = [some (.ref p), some (.int 10), some (.int 6), some (.int (1 + r0)), some (.int way), some (.ref nl), y6, some (.ref d), y8, y9, none, none, none, none, none, none, none] ∧ WInv H H5 p nl d ns la E ∧ Grows ns (nE E) (i + 1))
          ⟨fun _ => [], none, none, none, rfl, W0, grows_first hnd⟩ ?_ ?_⟩
        · rintro i σ H5 hi ⟨E, y6, y8, y9, rfl, W5, G5⟩
          have hi2 : i + 1 < ns.length := by omega
          have short : ∀ n, (E n).length ≤ 1000 := fun n => by
            have h1 := G5.V.short n
            have h2 : (nE E n).length = (E n).length := List.length_map _
            omega
          -- other = names[take(pool, k)]
          refine ⟨.ref nl, rfl, .ref p, rfl, .int (1 + i), rfl, p, 1 + i, rfl, W5.dr.pool, by omega, by omega, fun r H6 r1 r2 d6 => ?_⟩
          have W6 := W5.drew np d6
          obtain ⟨j, u, hj, hjr, hat⟩ := ix_ns (ns := ns) r1 (by omega)
          refine ⟨nl, _, r, .int u, rfl, rfl, sql W6.nm, hat, ?_⟩
          have hum : u ∈ ns := List.mem_of_getElem? hj
          -- if len(ends[other]) > 10
          refine ⟨fun σ' H' => ∃ (m : Nat) (u' : Int), ns[m]? = some u' ∧ m < i + 1 ∧ σ' = [some (.ref p), some (.int 10), some (.int 6), some (.int (1 + r0)), some (.int way), some (.ref nl), y6, some (.ref d), some (.int (1 + i)), some (.int u'), none, none, none, none, none, none, none] ∧ H' = H6, ?_, ?_⟩
          · obtain ⟨es, he1, he2⟩ := W6.en.2.2 u hum
            refine ⟨.ref d, rfl, .int u, rfl, d, _, rfl, W6.en.get hum, la u, es, rfl, .inl (sql he1), _, 10, rfl, rfl, _, rfl, ite2 (fun _ => ?_) (fun _ => ?_)⟩
            · obtain ⟨j', u', hj', hjr', hat'⟩ := ix_ns (ns := ns) (r := 1 + (i : Int) - 1) (by omega) (by omega)
              refine ⟨.ref nl, rfl, .int (1 + i), rfl, 1 + i, 1, rfl, rfl, nl, _, _, .int u', rfl, rfl, sql W6.nm, hat', j', u', hj', by omega, rfl, rfl⟩
            · exact ⟨j, u, hj, by omega, rfl, rfl⟩
          · rintro σ' H' ⟨m, u', hm, hmi, rfl, rfl⟩
            have hum' : u' ∈ ns := List.mem_of_getElem? hm
            obtain ⟨jv, v, hjv, hjrv, hatv⟩ := ix_ns (ns := ns) (r := 1 + (i : Int)) (by omega) (by omega)
            have ejv : jv = i + 1 := by omega
            subst ejv
            have hvm : v ∈ ns := List.mem_of_getElem? hjv
            have hne : v ≠ u' := fun e => by
              rw [e] at hjv
              have := nodup_get hnd hjv hm
              omega
            refine ⟨.ref d, rfl, .ref p, rfl, .ref nl, rfl, .int (1 + i), rfl, nl, _, _, .int v, rfl, rfl, sql W6.nm, hatv, .int u', rfl, .ref p, rfl, .int way, rfl, p, way, true, rfl, W6.dr.pool, w1, w2, fun b H7 d7 => ?_⟩
            have W7 := W6.drew np d7
            refine ⟨d, p, v, u', b, ns, la, E, rfl, W7.en, W7.dr.pool, hvm, hum', hne, short v, short u', fun H8 i' j' pr en8 pl8 fr8 => ?_⟩
            refine ⟨tieE E v i' u' j' pr b, y6, some (.int (1 + i)), some (.int u'), rfl, W7.link np laH nla en8 pl8 fr8, ?_⟩
            have eq := tieE_put E v i' u' j' pr b
            have g := G5.step (by omega) hjv hmi hm i' j'
            have eq2 : nE (tieE E v i' u' j' pr b) = put (nE E) v i' u' j' := eq
            rw [eq2]
            exact g
        · rintro σ H5 ⟨E, y6, y8, y9, rfl, W5, G5⟩
          have hk : (1 + r0 - 1).toNat + 1 = ns.length := by omega
          rw [hk] at G5
          have D5 : 2 ≤ ns.length → Drawn ns (nE E) := fun h => G5.drawn h
          have V5 := G5.V
          clear G5
          -- for k in range(take(pool, more + 1))
          refine ⟨.ref p, rfl, .int 6, rfl, 6, 1, rfl, rfl, p, 7, rfl, W5.dr.pool, by decide, by decide, fun r H6 r1 r2 d6 => ?_⟩
          have W6 := W5.drew np d6
          refine ⟨r, rfl, by omega, by omega, for_range (lo := 0) (n := r.toNat) (fun i σ H7 => ∃ (E : Int → List Ed) (y6 y8 y9 y10 y11 : Option V),
            σ = [some (.ref p), some (.int 10), some (.int 6), some (.int (1 + r0)), some (.int way), some (.ref nl), y6, some (.ref d), y8, y9, y10, y11, none, none, none, none, none] ∧ WInv H H7 p nl d ns la E ∧ Valid ns (nE E) ∧ (2 ≤ ns.length → Drawn ns (nE E)))
            ⟨E, y6, y8, y9, none, none, rfl, W6, V5, D5⟩ ?_ ?_⟩
          · rintro i σ H7 hi ⟨E, y6, y8, y9, y10, y11, rfl, W7, V7, D7⟩
            have short : ∀ n, (E n).length ≤ 1000 := fun n => by
              have h1 := V7.short n
              have h2 : (nE E n).length = (E n).length := List.length_map _
              omega
            -- one, other
            refine ⟨.ref nl, rfl, .ref p, rfl, .int (1 + r0), rfl, p, 1 + r0, rfl, W7.dr.pool, by omega, by omega, fun ra H8 ra1 ra2 d8 => ?_⟩
            have W8 := W7.drew np d8
            obtain ⟨ja, one, hja, _, hata⟩ := ix_ns (ns := ns) ra1 (by omega)
            refine ⟨nl, _, ra, .int one, rfl, rfl, sql W8.nm, hata, ?_⟩
            refine ⟨.ref nl, rfl, .ref p, rfl, .int (1 + r0), rfl, p, 1 + r0, rfl, W8.dr.pool, by omega, by omega, fun rb H9 rb1 rb2 d9 => ?_⟩
            have W9 := W8.drew np d9
            obtain ⟨jb, other, hjb, _, hatb⟩ := ix_ns (ns := ns) rb1 (by omega)
            refine ⟨nl, _, rb, .int other, rfl, rfl, sql W9.nm, hatb, ?_⟩
            have h1 : one ∈ ns := List.mem_of_getElem? hja
            have h2 : other ∈ ns := List.mem_of_getElem? hjb
            obtain ⟨es1, he1, he1'⟩ := W9.en.2.2 one h1
            obtain ⟨es2, he2, he2'⟩ := W9.en.2.2 other h2
            -- full
            refine ⟨.ref d, rfl, .int one, rfl, d, _, rfl, W9.en.get h1, la one, es1, rfl, .inl (sql he1), .ref d, rfl, .int other, rfl, d, _, rfl, W9.en.get h2, la other, es2, rfl, .inl (sql he2), _, _, rfl, _, 11, rfl, rfl, ?_⟩
            -- if one != other and not full and other not in ..
            refine ⟨.int one, rfl, .int other, rfl, rfl, _, rfl, ?_⟩
            rw [int_dec]
            by_cases e : one = other
            · rw [decide_eq_true e]
              exact iteF (iteF (⟨E, y6, _, _, _, _, rfl, W9, V7, D7⟩))
            · rw [decide_eq_false e]
              refine iteT ⟨_, rfl, _, rfl, iteN2 (fun _ => ?_) (fun _ => iteF (⟨E, y6, _, _, _, _, rfl, W9, V7, D7⟩))⟩
              refine ⟨.int other, rfl, .ref d, rfl, .int one, rfl, d, _, rfl, W9.en.get h1, la one, rfl, ⟨es1, sql he1⟩, fun D nD => ?_⟩
              have el : es1.length = (E one).length := he1'.len
              have d10 : ∀ o, Drew p H9 (upd H9 D o) := fun o => Drew.of W9.dr.pool (same_new nD)
              refine lc_list (K := K) (a := la one) (xs := es1) (fun j H' => H' = upd H9 D (.lst (((nE E one).take j).map V.int))) rfl (fun j H' _ e => ?_) (fun j x H' hx e => ?_) (fun H' e => ?_)
              · subst e
                exact sql (same_new nD _ _ he1)
              · subst e
                obtain ⟨b, hb, t', rfl, ht'⟩ := he1'.at' hx
                have hi := (List.getElem?_eq_some_iff.mp hb).1
                have sh := short one
                refine ⟨rfl, .ref t', rfl, t', _, 0, _, rfl, rfl, sqt (same_new nD _ _ ht'), atI_nat (j := 0) rfl, _, upd_same, ?_, ?_⟩
                · rw [List.length_map, List.length_take]
                  exact smallLt (m := 1000) (Nat.le_trans (Nat.min_le_left _ _) (by omega)) (by decide)
                · have e1 : (nE E one)[j]? = some b.1 := by
                    rw [List.getElem?_map, hb]
                    rfl
                  rw [upd_upd, List.take_add_one, e1, List.map_append]
                  rfl
              · have e2 : (nE E one).take es1.length = nE E one := List.take_of_length_le (by
                  rw [el, List.length_map]
                  exact Nat.le_refl _)
                rw [e2] at e
                subst e
                have W10 := W9.drew np (d10 (.lst ((nE E one).map V.int)))
                refine ⟨D, (nE E one).map V.int, rfl, .inl (sql upd_same), rfl, all_flat_ints _, _, rfl, ?_⟩
                rw [if_pos rfl, inV_ints]
                by_cases hin : other ∈ nE E one
                · rw [decide_eq_true hin]
                  exact iteF (⟨E, y6, _, _, _, _, rfl, W10, V7, D7⟩)
                · rw [decide_eq_false hin]
                  refine iteT ?_
                  refine ⟨.ref d, rfl, .ref p, rfl, .int one, rfl, .int other, rfl, .ref p, rfl, .int way, rfl, p, way, false, rfl, W10.dr.pool, w1, w2, fun b H11 d11 => ?_⟩
                  have W11 := W10.drew np d11
                  refine ⟨d, p, one, other, b, ns, la, E, rfl, W11.en, W11.dr.pool, h1, h2, e, short one, short other, fun H12 i' j' pr en12 pl12 fr12 => ?_⟩
                  have eq2 : nE (tieE E one i' other j' pr b) = put (nE E) one i' other j' := tieE_put E one i' other j' pr b
                  refine ⟨tieE E one i' other j' pr b, y6, _, _, _, _, rfl, W11.link np laH nla en12 pl12 fr12, ?_, ?_⟩
                  · rw [eq2]
                    exact put_valid V7 h1 h2 e hin
                  · intro h
                    rw [eq2]
                    exact (D7 h).tie h1 h2 e hin i' j'
          · rintro σ H7 ⟨E, y6, y8, y9, y10, y11, rfl, W7, V7, D7⟩
            -- first, badges, found
            refine ⟨.ref nl, rfl, .ref p, rfl, .int (1 + r0), rfl, p, 1 + r0, rfl, W7.dr.pool, by omega, by omega, fun rf H8 rf1 rf2 d8 => ?_⟩
            have W8 := W7.drew np d8
            obtain ⟨jf, first, hjf, _, hatf⟩ := ix_ns (ns := ns) rf1 (by omega)
            refine ⟨nl, _, rf, .int first, rfl, rfl, sql W8.nm, hatf, ?_⟩
            refine ⟨.ref p, rfl, p, 3, rfl, W8.dr.pool, by decide, by decide, fun bg H9 bg1 bg2 d9 => ?_⟩
            have W9 := W8.drew np d9
            refine fun fd' nfd => ?_
            have fdH : H fd' = none := W9.dr.free nfd
            have W10 := W9.drew np (Drew.of W9.dr.pool (same_new (o := .dK []) nfd))
            have fp : fd' ≠ p := W9.dr.pool.ne nfd
            have fnl : fd' ≠ nl := (ne_of_none W9.nm nfd).symm
            have fd2 : fd' ≠ d := (ne_of_none W9.en.1 nfd).symm
            refine ⟨.ref nl, rfl, nl, rfl, ⟨_, sql W10.nm⟩, for_list (K := K) (a := nl) (xs := ns.map V.int) (fun i σ H11 => ∃ (kvs : List (Key × V)) (y6 y15 : Option V),
              σ = [some (.ref p), some (.int 10), some (.int 6), some (.int (1 + r0)), some (.int way), some (.ref nl), y6, some (.ref d), y8, y9, y10, y11, some (.int first), some (.int bg), some (.ref fd'), y15, none] ∧ WInv H H11 p nl d ns la E ∧
              H11 fd' = some (.dK kvs) ∧ All2 (fun (kv : Key × V) (n : Int) => ∃ b : Int, kv.1 = Sum.inl n ∧ ∃ t, kv.2 = .ref t ∧ H11 t = some (.tup [.int b, .ref (la n)])) kvs (ns.take i))
              ⟨[], y6, none, rfl, W10, upd_same, .nil⟩ (fun i σ H11 _ ⟨_, _, _, _, W11, _⟩ => sql W11.nm) ?_ ?_⟩
            · rintro i x σ H11 hx ⟨kvs, y6, y15, rfl, W11, hf, ha⟩
              obtain ⟨n, hn, rfl⟩ := map_at hx
              have hnn : n ∈ ns := List.mem_of_getElem? hn
              have hi := (List.getElem?_eq_some_iff.mp hn).1
              refine ⟨.int n, rfl, .int first, rfl, rfl, .inr ⟨_, rfl, .int n, rfl, .int first, rfl, rfl, .inr ⟨_, rfl, .ref p, rfl, p, 10, rfl, W11.dr.pool, by decide, by decide, fun rt H12 rt1 rt2 d12 => ?_⟩⟩⟩
              have W12 := W11.drew np d12
              refine ⟨by show 3 ≤ sizeLine; decide, fun c nc => ?_⟩
              have d13' := d12.new (o := .lst [.int (if decide (V.int n = V.int first) then 1 else 0), .int (if decide (V.int n = V.int first) then 1 else 0), .int rt]) nc
              have W13 := W11.drew np d13'
              refine ⟨.int bg, rfl, c, _, bg, _, rfl, rfl, sql upd_same, at3 _ _ _ bg1 bg2, ?_⟩
              refine ⟨_, rfl, .ref d, rfl, .int n, rfl, d, _, rfl, W13.en.get hnn, by show 2 ≤ sizeLine; decide, fun t nt => ?_⟩
              have d14 := d13'.new (o := .tup [.int (if bg = 0 then (if decide (V.int n = V.int first) then 1 else 0) else if bg = 1 then (if decide (V.int n = V.int first) then 1 else 0) else rt), .ref (la n)]) nt
              have W14 := W11.drew np d14
              have hf14 := d14.oth _ _ fp hf
              have nv : valV kvs (Sum.inl n) = none := by
                cases q : valV kvs (Sum.inl n) with
                | none => rfl
                | some v =>
                  have m : (Sum.inl n : Key) ∈ kvs.map (·.1) := valV_in q
                  obtain ⟨kv, hkv, ek⟩ := List.mem_map.mp m
                  obtain ⟨n', hn', b, e1, _⟩ := ha.left kv hkv
                  rw [e1] at ek
                  have e2 := Sum.inl.inj ek
                  rw [e2] at hn'
                  obtain ⟨z, hz1, hz2⟩ := List.mem_iff_getElem.mp hn'
                  rw [List.length_take] at hz1
                  rw [List.getElem_take] at hz2
                  have := nodup_get hnd hn (show ns[z]? = some n by rw [List.getElem?_eq_getElem (by omega), hz2])
                  omega
              refine ⟨.ref fd', rfl, .int n, rfl, fd', _, rfl, DPut.k (k := Sum.inl n) hf14 (smallLt (m := 1000) (by rw [ha.len, List.length_take]; omega) (by decide)), ?_⟩
              rw [putK_new _ nv]
              have kp : ∀ b o, b ≠ p → b ≠ fd' → H11 b = some o → (∀ kvs', o ≠ .dK kvs') → upd (upd (upd H12 c (.lst [.int (if decide (V.int n = V.int first) then 1 else 0), .int (if decide (V.int n = V.int first) then 1 else 0), .int rt])) t (.tup [.int (if bg = 0 then (if decide (V.int n = V.int first) then 1 else 0) else if bg = 1 then (if decide (V.int n = V.int first) then 1 else 0) else rt), .ref (la n)])) fd' (.dK (kvs ++ [(Sum.inl n, .ref t)])) b = some o := fun b o b1 b2 hb _ => by
                rw [upd_ne b2]
                exact d14.oth b o b1 hb
              have kk := Keep.dict (u := .dK (kvs ++ [(Sum.inl n, .ref t)])) hf14
              refine ⟨kvs ++ [(Sum.inl n, .ref t)], some (.int n), _, rfl, ⟨⟨fun b o b1 hb => ?_, ?_⟩, ?_, ?_⟩, upd_same, ?_⟩
              · rw [upd_ne (ne_of_none hb fdH)]
                exact W14.dr.oth b o b1 hb
              · obtain ⟨x', y', g1, g2⟩ := W14.dr.pool
                exact ⟨x', y', by rw [upd_ne fp.symm]; exact g1, g2⟩
              · rw [upd_ne fnl.symm]
                exact W14.nm
              · exact W14.en.keep kk fun kvs' hk => by
                  rw [upd_ne fd2.symm]
                  exact hk
              · rw [take_succ hn]
                have up : ∀ b xs, H11 b = some (.tup xs) → upd (upd (upd H12 c (.lst [.int (if decide (V.int n = V.int first) then 1 else 0), .int (if decide (V.int n = V.int first) then 1 else 0), .int rt])) t (.tup [.int (if bg = 0 then (if decide (V.int n = V.int first) then 1 else 0) else if bg = 1 then (if decide (V.int n = V.int first) then 1 else 0) else rt), .ref (la n)])) fd' (.dK (kvs ++ [(Sum.inl n, .ref t)])) b = some (.tup xs) := fun b xs hb => kk.tup _ _ ((d14.keep W11.dr.pool).tup _ _ hb)
                have last : upd (upd (upd H12 c (.lst [.int (if decide (V.int n = V.int first) then 1 else 0), .int (if decide (V.int n = V.int first) then 1 else 0), .int rt])) t (.tup [.int (if bg = 0 then (if decide (V.int n = V.int first) then 1 else 0) else if bg = 1 then (if decide (V.int n = V.int first) then 1 else 0) else rt), .ref (la n)])) fd' (.dK (kvs ++ [(Sum.inl n, .ref t)])) t = some (.tup [.int (if bg = 0 then (if decide (V.int n = V.int first) then 1 else 0) else if bg = 1 then (if decide (V.int n = V.int first) then 1 else 0) else rt), .ref (la n)]) := by
                  have ntf : t ≠ fd' := fun e => by
                    have q1 := d13'.oth _ _ fp hf
                    rw [← e, nt] at q1
                    cases q1
                  rw [upd_ne ntf, upd_same]
                exact All2.snoc (ha.mono fun kv m ⟨b, e1, t', e2, e3⟩ => ⟨b, e1, t', e2, up _ _ e3⟩) ⟨_, rfl, t, rfl, last⟩
            · rintro σ H11 ⟨kvs, y6, y15, rfl, W11, hf, ha⟩
              rw [take_map] at ha
              obtain ⟨bd, hbd⟩ := All2.choose (R := fun (kv : Key × V) (n : Int) (b : Int) => kv.1 = Sum.inl n ∧ ∃ t, kv.2 = .ref t ∧ H11 t = some (.tup [.int b, .ref (la n)])) 0 ha hnd
              refine ⟨.ref fd', rfl, q fd' _ ns (fun n => (bd n, E n)) W11.dr ⟨kvs, hf, hbd.memR.mono fun kv n h => ⟨h.1.1, ?_⟩⟩ (by omega) (by omega) V7 D7⟩
              obtain ⟨⟨_, t, e1, e2⟩, _, hn⟩ := h
              obtain ⟨es, g1, g2⟩ := W11.en.2.2 n hn
              exact ⟨t, .ref (la n), e1, e2, la n, es, rfl, g1, g2⟩
end
end Wd

-- part WdI
/-! ## The walks of _law_copy, _law_other_way, _law_backward -/
namespace Wd
open PySem PySem.Spec PyProof.Rows L2
abbrev rDictP (K : PySem.W.Frag) : List V → Hp → VK → Prop := fun xs H Q => ∃ (a : Addr) (ps : List Addr) (kvs : List (Key × V)), xs = [.ref a] ∧ SqL K H a (ps.map V.ref) ∧ Paired (fun p kv => SqT K H p [kV kv.1, kv.2]) ps kvs ∧ ∀ p, H p = none → Q (.ref p) (upd H p (.dK (mergeK [] kvs)))
/-- a place whose list is another one than D -/
def PlN (D : Addr) (H : Hp) (v : V) (q : Int × List Ed) : Prop := ∃ t l es, v = .ref t ∧ H t = some (.tup [.int q.1, .ref l]) ∧ H l = some (.lst es) ∧ All2 (EdAt H) es q.2 ∧ l ≠ D
theorem PlN.pl {D : Addr} {H : Hp} {v : V} {q : Int × List Ed} (h : PlN D H v q) : PlAt H v q := by
  obtain ⟨t, l, es, e1, e2, e3, e4, _⟩ := h
  exact ⟨t, .ref l, e1, e2, l, es, rfl, e3, e4⟩
theorem PlN.same {D : Addr} {H H' : Hp} {v : V} {q : Int × List Ed} (h : PlN D H v q) (s : Same H H') : PlN D H' v q := by
  obtain ⟨t, l, es, e1, e2, e3, e4, e5⟩ := h
  exact ⟨t, l, es, e1, s _ _ e2, s _ _ e3, e4.up mono_ed (Keep.of s), e5⟩
/-- D's list grows -/
theorem PlN.grow {D : Addr} {H : Hp} {v : V} {q : Int × List Ed} {xs : List V} {o : HO} (hD : H D = some (.lst xs)) (h : PlN D H v q) : PlN D (upd H D o) v q := by
  obtain ⟨t, l, es, e1, e2, e3, e4, e5⟩ := h
  refine ⟨t, l, es, e1, ?_, ?_, e4.mono fun w b ⟨u, g1, g2⟩ => ⟨u, g1, ?_⟩, e5⟩
  · rw [upd_ne (ne_of e2 hD (by intro z; cases z))]
    exact e2
  · rw [upd_ne e5]
    exact e3
  · rw [upd_ne (ne_of g2 hD (by intro z; cases z))]
    exact g2
/-- dict([(name, E) for name in web]), each E a place with a list of its own -/
theorem remade {K : PySem.W.Frag} {H : Hp} {Q : VK} {a : Addr} {ns : List Int} {pl pl' : Int → Int × List Ed} {te2 : TE} (hW : WebAt H a ns pl) (hnd : ns.Nodup) (hlen : ns.length ≤ 1000)
    (step : ∀ (n : Int) (H2 : Hp) (kvs : List (Key × V)), n ∈ ns → Rd H2 a (.dK kvs) → Ents H2 kvs ns pl → ∀ Q2 : VK, (∀ (t l : Addr) (es : List V) (H3 : Hp), Same H2 H3 → H3 t = some (.tup [.int (pl' n).1, .ref l]) → H3 l = some (.lst es) → All2 (EdAt H3) es (pl' n).2 → H2 l = none → Q2 (.ref t) H3) →
      te2 [some (.ref a), some (.int n)] H2 Q2)
    (q : ∀ (a' : Addr) (H' : Hp), Same H H' → H a' = none → WebAt H' a' ns pl' → Q (.ref a') H') :
    tCB (rDictP K) (tCons (tLockE (tLc (iKeys (tVar 0)) (gName 1) tYes (tTup (tCons (tVar 1) (tCons te2 tNil))) [1])) tNil) [some (.ref a), none] H Q := by
  obtain ⟨kvs, hk, he⟩ := hW
  have hkl : kvs.length = ns.length := All2.len he
  refine ⟨a, .dK kvs, hk, trivial, fun od => ?_⟩
  have kf := Keep.dict (u := .frz od (.dK kvs)) hk
  have ef := he.keep kf
  have hf : upd H a (.frz od (.dK kvs)) a = some (.frz od (.dK kvs)) := upd_same
  refine ⟨.ref a, rfl, a, od, rfl, .inl ⟨kvs, hf, fun D nD => ?_⟩⟩
  have haD : a ≠ D := fun e => by
    rw [← e, hf] at nD
    cases nD
  refine ⟨fun i m H2 => m = kvs.length - i ∧ i ≤ kvs.length ∧ ∃ ts : List Addr, Same (upd H a (.frz od (.dK kvs))) H2 ∧ H2 D = some (.lst (ts.map V.ref)) ∧ All2 (fun (t : Addr) (n : Int) => ∃ v, H2 t = some (.tup [.int n, v]) ∧ PlN D H2 v (pl' n)) ts (ns.take i),
    ⟨kvs.length, by omega, Nat.zero_le _, [], same_new nD, upd_same, .nil⟩, ?_⟩
  rintro i m H2 ⟨rfl, hi, ts, s2, hD, ha⟩
  have hf2 := s2 _ _ hf
  by_cases hlt : i < kvs.length
  · refine .inr ⟨⟨hf2, hlt⟩, fun H' => ∃ ts : List Addr, Same (upd H a (.frz od (.dK kvs))) H' ∧ H' D = some (.lst (ts.map V.ref)) ∧ All2 (fun (t : Addr) (n : Int) => ∃ v, H' t = some (.tup [.int n, v]) ∧ PlN D H' v (pl' n)) ts (ns.take (i + 1)),
      fun H' h => ⟨kvs.length - (i + 1), by omega, rfl, hlt, h⟩, fun x H' hy => ?_⟩
    obtain ⟨e, k, v, hkv, ex⟩ := hy
    subst e
    obtain ⟨n, hn, hkn, _⟩ := All2.at' ef hkv
    have hkn : k = Sum.inl n := hkn
    subst hkn
    have ex : x = V.int n := ex
    subst ex
    have hnn : n ∈ ns := List.mem_of_getElem? hn
    refine ⟨rfl, .int n, rfl, step n _ kvs hnn (.inr ⟨od, hf2⟩) (ef.keep (Keep.of s2)) _ fun t2 l es H3 s3 g1 g2 g3 g4 => ⟨by show 2 ≤ sizeLine; decide, fun t nt => ?_⟩⟩
    have s3' : Same H3 (upd H3 t (.tup [.int n, .ref t2])) := same_new nt
    have s4 := s3.trans s3'
    have hD4 := s4 _ _ hD
    have hDt : D ≠ t := ne_of_none (s3 _ _ hD) nt
    have hnew : PlN D (upd H3 t (.tup [.int n, .ref t2])) (.ref t2) (pl' n) := PlN.same (H := H3) ⟨t2, l, es, rfl, g1, g2, g3, (ne_of_none hD g4).symm⟩ s3'
    have tl := ha.len
    rw [List.length_take] at tl
    refine ⟨_, hD4, smallLt (m := 1000) (by rw [List.length_map]; omega) (by decide), ts ++ [t], same_own (s2.trans s4) nD, ?_, ?_⟩
    · rw [upd_same, List.map_append]
      rfl
    · rw [take_succ hn]
      refine All2.snoc (ha.mono fun t n ⟨v, e1, e2⟩ => ⟨v, by
        rw [upd_ne (ne_of (s4 _ _ e1) hD4 (by intro z; cases z))]
        exact s4 _ _ e1, (e2.same s4).grow hD4⟩) ⟨.ref t2, ?_, hnew.grow hD4⟩
      rw [upd_ne hDt.symm, upd_same]
  · refine .inl ⟨⟨hf2, by omega⟩, hf2, ?_⟩
    have ei : ns.take i = ns := List.take_of_length_le (by omega)
    rw [ei] at ha
    -- unlocked
    have kf2 := Keep.frz (u := .dK kvs) hf2
    have s5 : Same H (upd H2 a (.dK kvs)) := fun b o hb => by
      by_cases e : b = a
      · rw [e, upd_same]
        rw [e, hk] at hb
        exact hb
      · rw [upd_ne e]
        refine s2 b o ?_
        rw [upd_ne e]
        exact hb
    have hD5 : upd H2 a (.dK kvs) D = some (.lst (ts.map V.ref)) := by
      rw [upd_ne haD.symm]
      exact hD
    have ha5 : All2 (fun (t : Addr) (n : Int) => ∃ v, upd H2 a (.dK kvs) t = some (.tup [.int n, v]) ∧ PlAt (upd H2 a (.dK kvs)) v (pl' n)) ts ns := ha.mono fun t n ⟨v, e1, e2⟩ => ⟨v, kf2.tup _ _ e1, mono_pl _ _ _ _ kf2 e2.pl⟩
    obtain ⟨vf, hvf⟩ := All2.choose (R := fun (t : Addr) (n : Int) (v : V) => upd H2 a (.dK kvs) t = some (.tup [.int n, v]) ∧ PlAt (upd H2 a (.dK kvs)) v (pl' n)) .non ha5 hnd
    refine ⟨D, ts, ns.map fun n => ((Sum.inl n : Key), vf n), rfl, sql hD5, ?_, fun d nd => ?_⟩
    · have h : ∀ {ts : List Addr} {ns : List Int}, All2 (fun (t : Addr) (n : Int) => upd H2 a (.dK kvs) t = some (.tup [.int n, vf n]) ∧ PlAt (upd H2 a (.dK kvs)) (vf n) (pl' n)) ts ns → Paired (fun p (kv : Key × V) => SqT K (upd H2 a (.dK kvs)) p [kV kv.1, kv.2]) ts (ns.map fun n => ((Sum.inl n : Key), vf n)) := fun {ts ns} h => by
        induction h with
        | nil => exact .nil
        | cons h t ih => exact .cons (sqt h.1) ih
      exact h hvf
    · have ndk : ((([] : List (Key × V)) ++ ns.map fun n => ((Sum.inl n : Key), vf n)).map (·.1)).Nodup := by
        rw [List.nil_append, List.map_map]
        exact List.Pairwise.map _ (fun x y (h : x ≠ y) e => h (Sum.inl.inj e)) hnd
      rw [merge_nd ndk, List.nil_append]
      have s6 := same_new (o := .dK (ns.map fun n => ((Sum.inl n : Key), vf n))) nd
      refine q d _ (s5.trans s6) (s5.free nd) ⟨_, upd_same, ?_⟩
      have h : ∀ {ts : List Addr} {ns : List Int}, All2 (fun (t : Addr) (n : Int) => upd H2 a (.dK kvs) t = some (.tup [.int n, vf n]) ∧ PlAt (upd H2 a (.dK kvs)) (vf n) (pl' n)) ts ns → All2 (fun (kv : Key × V) (n : Int) => kv.1 = Sum.inl n ∧ PlAt (upd H2 a (.dK kvs)) kv.2 (pl' n)) (ns.map fun n => ((Sum.inl n : Key), vf n)) ns := fun {ts ns} h => by
        induction h with
        | nil => exact .nil
        | cons h t ih => exact .cons ⟨rfl, h.2⟩ ih
      exact Ents.keep (h hvf) (Keep.of s6)
section
variable {P : Program} {w : World} {K : PySem.W.Frag} {mg : Str → Option Value} {base : Heap} {f : Addr} {fd : FuncData}

/-! ### _law_copy -/
theorem scCopy : FnScope ["_law_web_here", "_law_name"] ["_law_web_here"] (defScope sCopy) := ⟨rfl, rfl, rfl, by decide +kernel, rfl, by decide +kernel, by decide +kernel⟩
def spCopy : Sp := fun vs H Q _ => ∃ (a : Addr) (ns : List Int) (pl : Int → Int × List Ed), vs = [.ref a] ∧ WebAt H a ns pl ∧ ns.Nodup ∧ ns.length ≤ 1000 ∧ ∀ (a' : Addr) (H' : Hp), Same H H' → H a' = none → WebAt H' a' ns pl → Q (.ref a') H'
theorem ok_copy (F : FnP K "_law_copy" sCopy f fd) (G : Glb mg) : FnOk P w K mg base CX0 1 f fd ["_law_web_here"] spCopy := by
  refine F.ok scCopy (fun vs H Q E h => ?_) (fun cdv A outer s H vs Q E hr h => ?_)
  · obtain ⟨a, ns, pl, rfl, _⟩ := h
    rfl
  · obtain ⟨a, ns, pl, rfl, hW, hnd, hlen, q⟩ := h
    have hu := hu_of hr
    refine ⟨_, PSs.nox (pss_one (ps_ret (pe_callTy (call_dictP rfl) (by rfl) G.dict boot_dict (pa_cons (pe_lock (pe_lc (own := [("_law_name", 1)]) (g := gName 1)
      (te := tTup (tCons (tVar 1) (tCons (tTup (tCons (tOp (rIxT K) (tDGet (tVar 0) (tVar 1)) (tC (.int 0))) (tCons (tCB (Evl.rListS K) (tCons (tOp (rIxT K) (tDGet (tVar 0) (tVar 1)) (tC (.int 1))) tNil)) tNil))) tNil))) (by rfl) scCopy.nd (pi_keys (pv 0))
      (blkOk_by (own := [("_law_name", 1)]) (N := ["_law_web_here", "_law_name"]) (sc := defScope sCopy) (by decide +kernel))
      (fun _ _ _ _ _ => pg_name (i := 1) scCopy.nd rfl (Or.inl rfl)) (fun _ _ _ _ _ => pts_nil)
      (fun _ _ _ _ _ => pe_tup (pa_cons (pv 1) (pa_cons (pe_tup (pa_cons (pe_ix ix_tup (pe_dget hu (pv 0) (pv 1) (fun _ _ => rfl)) pe_int (fun _ _ => rfl)) (pa_cons (pe_callTy call_list_of (by rfl) G.list boot_list (pa_cons (pe_ix ix_tup (pe_dget hu (pv 0) (pv 1) (fun _ _ => rfl)) pe_int (fun _ _ => rfl)) pa_nil)) pa_nil))) pa_nil))))) pa_nil)))), ?_⟩
    refine remade hW hnd hlen (fun n H2 kvs hn hrd he Q2 q2 => ?_) q
    obtain ⟨t, l, es, dg, ht, hl, ha⟩ := he.get hrd hn
    refine ⟨.ref a, rfl, .int n, rfl, a, _, rfl, dg, t, _, 0, _, rfl, rfl, sqt ht, atI_nat (j := 0) rfl, .ref a, rfl, .int n, rfl, a, _, rfl, dg, t, _, 1, _, rfl, rfl, sqt ht, atI_nat (j := 1) rfl, l, es, rfl, .inl (sql hl), fun l2 nl2 => ⟨by show 2 ≤ sizeLine; decide, fun t2 nt2 => ?_⟩⟩
    have s1 : Same H2 (upd H2 l2 (.lst es)) := same_new nl2
    have s2 := s1.trans (same_new (o := .tup [.int (pl n).1, .ref l2]) nt2)
    have hlt : l2 ≠ t2 := fun e => by
      rw [← e, upd_same] at nt2
      cases nt2
    exact q2 t2 l2 es _ s2 upd_same (by rw [upd_ne hlt]; exact upd_same) (ha.up mono_ed (Keep.of s2)) nl2

/-! ### _law_other_way -/
theorem scOther : FnScope ["_law_web_here", "_law_name"] ["_law_web_here"] (defScope sOther) := ⟨rfl, rfl, rfl, by decide +kernel, rfl, by decide +kernel, by decide +kernel⟩
def rvP (pl : Int → Int × List Ed) : Int → Int × List Ed := fun n => ((pl n).1, (pl n).2.reverse)
theorem rvP_nb (pl : Int → Int × List Ed) : nbOf (rvP pl) = rvs (nbOf pl) := by
  funext n
  unfold nbOf rvs rvP
  rw [List.map_reverse]
def spOther : Sp := fun vs H Q _ => ∃ (a : Addr) (ns : List Int) (pl : Int → Int × List Ed), vs = [.ref a] ∧ WebAt H a ns pl ∧ ns.Nodup ∧ ns.length ≤ 1000 ∧ ∀ (a' : Addr) (H' : Hp), Same H H' → WebAt H' a' ns (rvP pl) → Q (.ref a') H'
theorem ok_other (F : FnP K "_law_other_way" sOther f fd) (G : Glb mg) : FnOk P w K mg base CX0 1 f fd ["_law_web_here"] spOther := by
  refine F.ok scOther (fun vs H Q E h => ?_) (fun cdv A outer s H vs Q E hr h => ?_)
  · obtain ⟨a, ns, pl, rfl, _⟩ := h
    rfl
  · obtain ⟨a, ns, pl, rfl, hW, hnd, hlen, q⟩ := h
    have hu := hu_of hr
    refine ⟨_, PSs.nox (pss_one (ps_ret (pe_callTy (call_dictP rfl) (by rfl) G.dict boot_dict (pa_cons (pe_lock (pe_lc (own := [("_law_name", 1)]) (g := gName 1)
      (te := tTup (tCons (tVar 1) (tCons (tTup (tCons (tOp (rIxT K) (tDGet (tVar 0) (tVar 1)) (tC (.int 0))) (tCons (tRevL K (tOp (rIxT K) (tDGet (tVar 0) (tVar 1)) (tC (.int 1)))) tNil))) tNil))) (by rfl) scOther.nd (pi_keys (pv 0))
      (blkOk_by (own := [("_law_name", 1)]) (N := ["_law_web_here", "_law_name"]) (sc := defScope sOther) (by decide +kernel))
      (fun _ _ _ _ _ => pg_name (i := 1) scOther.nd rfl (Or.inl rfl)) (fun _ _ _ _ _ => pts_nil)
      (fun _ _ _ _ _ => pe_tup (pa_cons (pv 1) (pa_cons (pe_tup (pa_cons (pe_ix ix_tup (pe_dget hu (pv 0) (pv 1) (fun _ _ => rfl)) pe_int (fun _ _ => rfl)) (pa_cons (pe_revL (pe_ix ix_tup (pe_dget hu (pv 0) (pv 1) (fun _ _ => rfl)) pe_int (fun _ _ => rfl))) pa_nil))) pa_nil))))) pa_nil)))), ?_⟩
    refine remade (pl' := rvP pl) hW hnd hlen (fun n H2 kvs hn hrd he Q2 q2 => ?_) fun a' H' s' _ hw => q a' H' s' hw
    obtain ⟨t, l, es, dg, ht, hl, ha⟩ := he.get hrd hn
    refine ⟨.ref a, rfl, .int n, rfl, a, _, rfl, dg, t, _, 0, _, rfl, rfl, sqt ht, atI_nat (j := 0) rfl, .ref a, rfl, .int n, rfl, a, _, rfl, dg, t, _, 1, _, rfl, rfl, sqt ht, atI_nat (j := 1) rfl, l, es, rfl, sql hl, fun l2 nl2 => ⟨by show 2 ≤ sizeLine; decide, fun t2 nt2 => ?_⟩⟩
    have s1 : Same H2 (upd H2 l2 (.lst es.reverse)) := same_new nl2
    have s2 := s1.trans (same_new (o := .tup [.int (pl n).1, .ref l2]) nt2)
    have hlt : l2 ≠ t2 := fun e => by
      rw [← e, upd_same] at nt2
      cases nt2
    exact q2 t2 l2 es.reverse _ s2 upd_same (by rw [upd_ne hlt]; exact upd_same) ((ha.up mono_ed (Keep.of s2)).rev) nl2

/-! ### _law_backward -/
theorem cut_from (xs : List V) (j : Nat) (h : j ≤ xs.length) : cutV xs (some (j : Int)) none = xs.drop j := by
  unfold cutV
  rw [HT.sIx_nat, HT.sIx_none, Nat.min_eq_left h]
  exact List.take_of_length_le (by rw [List.length_drop]; exact Nat.le_refl _)
theorem cut_to (xs : List V) (j : Nat) (h : j ≤ xs.length) : cutV xs none (some (j : Int)) = xs.take j := by
  unfold cutV
  rw [HT.sIx_nat, HT.sIx_none, Nat.min_eq_left h]
  rfl
theorem scBack : FnScope ["_law_face", "_law_back", "_law_at", "_law_one", "_law_other"] ["_law_face"] (defScope sBack) := ⟨rfl, rfl, rfl, by decide +kernel, rfl, by decide +kernel, by decide +kernel⟩
def spBack : Sp := fun vs H Q _ => ∃ (v : V) (c : List Pr), vs = [v] ∧ FcAt H v c ∧ c ≠ [] ∧ c.length ≤ 5000 ∧ ∀ (v' : V) (H' : Hp) (d : List Pr), Same H H' → FcAt H' v' d → TurnedBack c d → IsRef v' → Q v' H'
theorem first_ix {l : List Pr} {x : Pr} (h : x ∈ l) : ∃ j : Nat, l[j]? = some x ∧ j < l.length ∧ ∀ m z, m < j → l[m]? = some z → z ≠ x := by
  have hj : l.idxOf x < l.length := List.idxOf_lt_length_iff.mpr h
  refine ⟨l.idxOf x, by rw [List.getElem?_eq_getElem hj, List.getElem_idxOf], hj, fun m z hm hz e => ?_⟩
  have hml := (List.getElem?_eq_some_iff.mp hz).1
  have q := List.not_of_lt_findIdx (p := (· == x)) (xs := l) (i := m) (by unfold List.idxOf at hm; exact hm)
  have e2 : l[m] = x := by
    rw [List.getElem?_eq_getElem hml] at hz
    rw [Option.some.inj hz, e]
  rw [e2] at q
  simp at q
theorem ok_back (F : FnP K "_law_backward" sBack f fd) (G : Glb mg) : FnOk P w K mg base CX0 1 f fd ["_law_face"] spBack := by
  refine F.ok scBack (fun vs H Q E h => ?_) (fun cdv A outer s H vs Q E hr h => ?_)
  · obtain ⟨v, c, rfl, _⟩ := h
    rfl
  · obtain ⟨v, c, rfl, ⟨l, xs, rfl, hl, ha⟩, hne, hlen, q⟩ := h
    have hu65 : A.units + 3 + 65 < cLine := by
      have := hr.un
      have e : (A.deeper (envOfC (Str.ofString "_law_backward") (defScope sBack) s.heap.objs.size f cdv)).units = A.units + 3 := rfl
      omega
    refine ⟨_, PSs.nox (pss_cons (ps_setLc (i := 1) (own := [("_law_one", 3), ("_law_other", 4)]) (g := gTup K 2 (gCons (gName 3) (gCons (gName 4) gNil))) (by rfl) scBack.nd rfl rfl (sw_true rfl rfl rfl (by decide +kernel)) (pi_list (pe_revL (pv 0)))
        (blkOk_by (own := [("_law_one", 3), ("_law_other", 4)]) (N := ["_law_face", "_law_back", "_law_at", "_law_one", "_law_other"]) (sc := defScope sBack) (by decide +kernel))
        (fun _ _ _ _ _ => pg_tup rfl (pgs_cons (pg_name (i := 3) scBack.nd rfl (.inl rfl)) (pgs_cons (pg_name (i := 4) scBack.nd rfl (.inl rfl)) pgs_nil))) (fun _ _ _ _ _ => pts_nil) (fun _ _ _ _ _ => pe_tup (pa_cons (pv 4) (pa_cons (pv 3) pa_nil))))
      (pss_cons (ps_set (i := 2) scBack.nd rfl (.inl rfl) (pe_bm PySem.F.plainAttrs_list PySem.F.slot_list_index PySem.F.type_list_index (mt_indexD hu65) (pv 1) (pa_cons (pe_callB (cr_minP rfl hr.units) (by rfl) G.min boot_min (pa_cons (pv 1) pa_nil)) pa_nil)))
      (pss_one (ps_ret (pe_op op_cat (pe_slice sl_list (pv 1) (po_some (pv 2)) po_none) (pe_slice sl_list (pv 1) po_none (po_some (pv 2)))))))), ?_⟩
    refine ⟨.ref l, rfl, l, xs, rfl, sql hl, fun r nr => ?_⟩
    have s1 : Same H (upd H r (.lst xs.reverse)) := same_new nr
    refine ⟨r, rfl, ⟨_, sql upd_same⟩, fun D nD => ?_⟩
    have hrD : r ≠ D := fun e => by
      rw [← e, upd_same] at nD
      cases nD
    have s2 := s1.trans (same_new (o := .lst []) nD)
    have nDH : H D = none := s1.free nD
    have har : All2 (PrAt H) xs.reverse c.reverse := ha.rev
    refine lc_list (K := K) (a := r) (xs := xs.reverse) (fun i H' => ∃ zs, Same H H' ∧ H' r = some (.lst xs.reverse) ∧ H' D = some (.lst zs) ∧ All2 (PrAt H') zs ((c.reverse.take i).map swp)) ⟨[], s2, by rw [upd_ne hrD]; exact upd_same, upd_same, .nil⟩ (fun i H' _ ⟨_, _, h, _⟩ => sql h) ?_ ?_
    · rintro i x H' hx ⟨zs, s3, hr3, hD, hz⟩
      obtain ⟨p, hp, t, rfl, ht⟩ := har.at' hx
      have hi := (List.getElem?_eq_some_iff.mp hp).1
      rw [List.length_reverse] at hi
      refine ⟨t, _, rfl, sqt (s3 _ _ ht), rfl, _, _, rfl, _, _, rfl, rfl, rfl, .int p.2, rfl, .int p.1, rfl, by show 2 ≤ sizeLine; decide, fun u nu => ?_⟩
      have hDu : D ≠ u := ne_of_none hD nu
      have zl := hz.len
      rw [List.length_map, List.length_take] at zl
      refine ⟨zs, by rw [upd_ne hDu]; exact hD, smallLt (m := 6000) (by omega) (by decide), zs ++ [.ref u], same_own (s3.trans (same_new nu)) nDH, ?_, upd_same, ?_⟩
      · rw [upd_ne hrD, upd_ne (ne_of_none hr3 nu)]
        exact hr3
      · rw [take_succ hp, List.map_append]
        have hz' : All2 (PrAt (upd (upd H' u (.tup [.int p.2, .int p.1])) D (.lst (zs ++ [.ref u])))) zs ((c.reverse.take i).map swp) := hz.mono fun v q ⟨t, e1, e2⟩ => ⟨t, e1, by
          rw [upd_ne (ne_of e2 hD (by intro z; cases z)), upd_ne (ne_of_none e2 nu)]
          exact e2⟩
        exact hz'.snoc ⟨u, rfl, by rw [upd_ne hDu.symm, upd_same]; rfl⟩
    · rintro H' ⟨zs, s3, hr3, hD, hz⟩
      have e1 : c.reverse.take xs.reverse.length = c.reverse := List.take_of_length_le (by rw [har.len]; exact Nat.le_refl _)
      rw [e1] at hz
      have hz : All2 (PrAt H') zs (bwd c) := hz
      have bne : bwd c ≠ [] := by
        unfold bwd
        simp [hne]
      -- at = back.index(min(back))
      refine ⟨.ref D, rfl, .inl ⟨rfl, _, sql hD⟩, .ref D, rfl, D, zs, bwd c, rfl, sql hD, bne, hz.mono fun _ _ => pr_dp, fun j0 v0 p0 hv0 hp0 hmin => ?_⟩
      have hpv : PrAt H' v0 p0 := hz.get hv0 hp0
      obtain ⟨j, hj1, hj2, hj3⟩ := first_ix (List.mem_of_getElem? hp0)
      have dpB : Dp K H' (.ref D) (encC (bwd c)) := fc_dp ⟨D, zs, rfl, hD, hz⟩
      refine ⟨D, v0, encP p0, (bwd c).map encP, j, encP p0, rfl, rfl, dpB, pr_dp hpv, encC_shaped _, encP_shaped _, by rw [List.getElem?_map, hj1]; rfl, by rw [encP_eqv]; exact decide_eq_true rfl, fun m z' hm hz' => ?_, ?_⟩
      · rw [List.getElem?_map] at hz'
        cases hz2 : (bwd c)[m]? with
        | none =>
          rw [hz2] at hz'
          cases hz'
        | some z =>
          rw [hz2] at hz'
          have e : encP z = z' := Option.some.inj hz'
          rw [← e, encP_eqv]
          exact decide_eq_false (hj3 m z hm hz2)
      · have zl : zs.length = (bwd c).length := hz.len
        have bl : (bwd c).length = c.length := by
          unfold bwd
          rw [List.length_map, List.length_reverse]
        -- back[at:] + back[:at]
        refine ⟨.ref D, rfl, .int j, rfl, (j : Int), rfl, D, zs, rfl, sql hD, fun u nu => ?_⟩
        have s4 := same_new (o := .lst (cutV zs (some (j : Int)) none)) nu
        refine ⟨.ref D, rfl, .int j, rfl, (j : Int), rfl, D, zs, rfl, sql (s4 _ _ hD), fun u2 nu2 => ?_⟩
        have s5 := s4.trans (same_new (o := .lst (cutV zs none (some (j : Int)))) nu2)
        have huu : u ≠ u2 := fun e => by
          rw [← e, upd_same] at nu2
          cases nu2
        rw [cut_from zs j (by omega), cut_to zs j (by omega)] at *
        refine ⟨u, u2, zs.drop j, zs.take j, rfl, rfl, by rw [upd_ne huu]; exact upd_same, upd_same, ?_, fun u3 nu3 => ?_⟩
        · rw [List.length_drop, List.length_take]
          exact small (m := 6000) (by omega) (by decide)
        · have s6 := s5.trans (same_new (o := .lst (zs.drop j ++ zs.take j)) nu3)
          refine q _ _ ((bwd c).drop j ++ (bwd c).take j) (s3.trans s6) ⟨u3, _, rfl, upd_same, (((hz.drop j).app (hz.take j))).up mono_pr (Keep.of s6)⟩ ⟨(bwd c).take j, p0, (bwd c).drop (j + 1), take_split hj1, ?_, hmin⟩ ⟨u3, rfl⟩
          have e2 := (List.getElem?_eq_some_iff.mp hj1)
          obtain ⟨e3, e4⟩ := e2
          rw [List.drop_eq_getElem_cons e3, e4]
end
end Wd

-- part WdJ
/-! ## The walks of _law_tied, _law_next -/
namespace Wd
open PySem PySem.Spec PyProof.Rows L2
/-- a tie's end put into one place's ends -/
def pp1 (pl : Int → Int × List Ed) (n : Int) (k : Nat) (nm : Int) : Int → Int × List Ed := fun m => if m = n then ((pl n).1, insE k (nm, 1, false) (pl n).2) else pl m
theorem pp1_same {pl : Int → Int × List Ed} {n : Int} {k : Nat} {nm : Int} : pp1 pl n k nm n = ((pl n).1, insE k (nm, 1, false) (pl n).2) := if_pos rfl
theorem pp1_ne {pl : Int → Int × List Ed} {n : Int} {k : Nat} {nm m : Int} (h : m ≠ n) : pp1 pl n k nm m = pl m := if_neg h
theorem pp1_nb_same {pl : Int → Int × List Ed} {n : Int} {k : Nat} {nm : Int} : nbOf (pp1 pl n k nm) n = ins k nm (nbOf pl n) := by
  show ((pp1 pl n k nm n).2.map (·.1)) = _
  rw [pp1_same]
  exact insE_map _ _ _
theorem pp1_nb_ne {pl : Int → Int × List Ed} {n : Int} {k : Nat} {nm m : Int} (h : m ≠ n) : nbOf (pp1 pl n k nm) m = nbOf pl m := by
  show ((pp1 pl n k nm m).2.map (·.1)) = _
  rw [pp1_ne h]
  rfl
theorem pp2_put (pl : Int → Int × List Ed) {a b : Int} (h : a ≠ b) (i j : Nat) : nbOf (pp1 (pp1 pl a i b) b j a) = put (nbOf pl) a i b j := by
  funext n
  by_cases h2 : n = b
  · subst h2
    rw [pp1_nb_same, pp1_nb_ne (fun e => h e.symm), put_b h]
  · rw [pp1_nb_ne h2]
    by_cases h1 : n = a
    · subst h1
      rw [pp1_nb_same, put_a]
    · rw [pp1_nb_ne h1, put_n h1 h2]
theorem Ents.put {H : Hp} {kvs : List (Key × V)} {ns : List Int} {pl : Int → Int × List Ed} {n : Int} {v : V} {q : Int × List Ed} (h : Ents H kvs ns pl) (hn : n ∈ ns) (hv : PlAt H v q) (pl' : Int → Int × List Ed) (h1 : pl' n = q) (h2 : ∀ m, m ≠ n → pl' m = pl m) :
    Ents H (putK kvs (Sum.inl n) v) ns pl' := by
  have any : (kvs.any fun kv => decide (kv.1 = (Sum.inl n : Key))) = true := by
    obtain ⟨kv, hkv, e, _⟩ := All2.right h n hn
    exact List.any_eq_true.mpr ⟨kv, hkv, decide_eq_true e⟩
  unfold putK
  rw [if_pos any]
  have go : ∀ {kvs : List (Key × V)} {ns : List Int}, All2 (fun (kv : Key × V) (n : Int) => kv.1 = Sum.inl n ∧ PlAt H kv.2 (pl n)) kvs ns → All2 (fun (kv : Key × V) (n : Int) => kv.1 = Sum.inl n ∧ PlAt H kv.2 (pl' n)) (kvs.map fun kv => if kv.1 = Sum.inl n then (kv.1, v) else kv) ns := fun {kvs ns} h => by
    induction h with
    | nil => exact .nil
    | cons h t ih =>
      rename_i kv m kvs ns
      refine .cons ?_ ih
      show (if kv.1 = Sum.inl n then (kv.1, v) else kv).1 = Sum.inl m ∧ PlAt H (if kv.1 = Sum.inl n then (kv.1, v) else kv).2 (pl' m)
      by_cases e : m = n
      · subst e
        rw [if_pos h.1]
        exact ⟨h.1, by rw [h1]; exact hv⟩
      · have ne : ¬ kv.1 = Sum.inl n := fun q => e (by
          rw [h.1] at q
          exact Sum.inl.inj q)
        rw [if_neg ne, h2 m e]
        exact h
  exact go h
section
variable {P : Program} {w : World} {K : PySem.W.Frag} {mg : Str → Option Value} {base : Heap} {f : Addr} {fd : FuncData}
theorem scTied : FnScope ["_law_web_here", "_law_one", "_law_other", "_law_found", "_law_pair", "_law_name", "_law_ends", "_law_at", "_law_end"] ["_law_web_here", "_law_one", "_law_other"] (defScope sTied) := ⟨rfl, rfl, rfl, by decide +kernel, rfl, by decide +kernel, by decide +kernel⟩
def spTied : Sp := fun vs H Q _ => ∃ (a : Addr) (v1 v2 : V) (p1 p2 : Pr) (ns : List Int) (pl : Int → Int × List Ed), vs = [.ref a, v1, v2] ∧ WebAt H a ns pl ∧ PrAt H v1 p1 ∧ PrAt H v2 p2 ∧ Valid ns (nbOf pl) ∧ Dart (nbOf pl) p1 ∧ Dart (nbOf pl) p2 ∧ p1.1 ≠ p2.1 ∧ ns.length < 64 ∧
  ∀ (a' : Addr) (H' : Hp) (pl' : Int → Int × List Ed) (i j : Nat), Same H H' → WebAt H' a' ns pl' → nbOf pl' = put (nbOf pl) p1.1 i p2.1 j → Ahead (nbOf pl p1.1) i p1.2 → Ahead (nbOf pl p2.1) j p2.2 → Q (.ref a') H'
/-- how far the ties are put in -/
def Stg (pl : Int → Int × List Ed) (p1 p2 : Pr) (i : Nat) (plc : Int → Int × List Ed) : Prop :=
  (i = 0 ∧ plc = pl) ∨ (i = 1 ∧ ∃ k1, (nbOf pl p1.1)[k1]? = some p1.2 ∧ plc = pp1 pl p1.1 k1 p2.1) ∨
  (i = 2 ∧ ∃ k1 k2, (nbOf pl p1.1)[k1]? = some p1.2 ∧ (nbOf pl p2.1)[k2]? = some p2.2 ∧ plc = pp1 (pp1 pl p1.1 k1 p2.1) p2.1 k2 p1.1)
theorem ok_tied (F : FnP K "_law_tied" sTied f fd) (CC : Kn P w K mg base 1 "_law_copy" spCopy) : FnOk P w K mg base CX0 2 f fd ["_law_web_here", "_law_one", "_law_other"] spTied := by
  refine F.ok scTied (fun vs H Q E h => ?_) (fun cdv A outer s H vs Q E hr h => ?_)
  · obtain ⟨a, v1, v2, p1, p2, ns, pl, rfl, _⟩ := h
    rfl
  · obtain ⟨a, v1, v2, p1, p2, ns, pl, rfl, hW, hp1, hp2, Va, hd1, hd2, hne, hlen, q⟩ := h
    have hu := hu_of hr
    refine ⟨_, PSs.nox (pss_cons (ps_set (i := 3) scTied.nd rfl (.inl rfl) (pe_kn CC hr (by decide) (by rfl) (pa_cons (pv 0) pa_nil)))
      (pss_cons (ps_for PassesOwn.never rfl (pi_list (pe_lst (pa_cons (pe_tup (pa_cons (pv 1) (pa_cons (pe_ix ix_tup (pv 2) pe_int (fun _ _ => rfl)) pa_nil))) (pa_cons (pe_tup (pa_cons (pv 2) (pa_cons (pe_ix ix_tup (pv 1) pe_int (fun _ _ => rfl)) pa_nil))) pa_nil))))
        (pg_tup rfl (pgs_cons (pg_name (i := 4) scTied.nd rfl (.inl rfl)) (pgs_cons (pg_name (i := 5) scTied.nd rfl (.inl rfl)) pgs_nil)))
        (pss_cons (ps_set (i := 6) scTied.nd rfl (.inl rfl) (pe_ix ix_tup (pe_dget hu (pv 3) (pe_ix ix_tup (pv 4) pe_int (fun _ _ => rfl)) (fun _ _ => rfl)) pe_int (fun _ _ => rfl)))
        (pss_cons (ps_set (i := 7) scTied.nd rfl (.inl rfl) (pe_bm PySem.F.plainAttrs_list PySem.F.slot_list_index PySem.F.type_list_index mt_index
          (pe_lc (own := [("_law_end", 8)]) (g := gName 8) (te := tOp (rIxT K) (tVar 8) (tC (.int 0))) (by rfl) scTied.nd (pi_list (pv 6))
            (blkOk_by (own := [("_law_end", 8)]) (N := ["_law_web_here", "_law_one", "_law_other", "_law_found", "_law_pair", "_law_name", "_law_ends", "_law_at", "_law_end"]) (sc := defScope sTied) (by decide +kernel))
            (fun _ _ _ _ _ => pg_name (i := 8) scTied.nd rfl (Or.inl rfl)) (fun _ _ _ _ _ => pts_nil) (fun _ _ _ _ _ => pe_ix ix_tup (pv 8) pe_int (fun _ _ => rfl)))
          (pa_cons (pe_ix ix_tup (pv 4) pe_int (fun _ _ => rfl)) pa_nil)))
        (pss_one (ps_dput hu (pv 3) (pe_ix ix_tup (pv 4) pe_int (fun _ _ => rfl)) (pe_tup (pa_cons (pe_ix ix_tup (pe_dget hu (pv 3) (pe_ix ix_tup (pv 4) pe_int (fun _ _ => rfl)) (fun _ _ => rfl)) pe_int (fun _ _ => rfl))
          (pa_cons (pe_op op_cat (pe_op op_cat (pe_slice sl_list (pv 6) po_none (po_some (pv 7))) (pe_lst (pa_cons (pe_tup (pa_cons (pv 5) (pa_cons pe_int (pa_cons pe_bl pa_nil)))) pa_nil))) (pe_slice sl_list (pv 6) (po_some (pv 7)) po_none)) pa_nil))) rfl)))))
      (pss_one (ps_ret (pv 3))))), ?_⟩
    obtain ⟨t1, rfl, ht1⟩ := hp1
    obtain ⟨t2, rfl, ht2⟩ := hp2
    -- found = copy(web)
    refine ⟨.ref a, rfl, a, ns, pl, rfl, hW, Va.nd, by omega, fun g H1 s1 ng hW1 => ?_⟩
    have g0 : ∀ x y : Int, atI [V.int x, V.int y] 0 = some (.int x) := fun _ _ => atI_nat (j := 0) rfl
    have g1 : ∀ x y : Int, atI [V.int x, V.int y] 1 = some (.int y) := fun _ _ => atI_nat (j := 1) rfl
    -- the two turns' pairs
    refine ⟨.ref t1, rfl, .ref t2, rfl, t2, _, 0, _, rfl, rfl, sqt (s1 _ _ ht2), g0 _ _, by show 2 ≤ sizeLine; decide, fun u1 nu1 => ?_⟩
    have s2 := s1.trans (same_new (o := .tup [.ref t1, .int p2.1]) nu1)
    have hu1 : upd H1 u1 (.tup [.ref t1, .int p2.1]) u1 = some (.tup [.ref t1, .int p2.1]) := upd_same
    refine ⟨.ref t2, rfl, .ref t1, rfl, t1, _, 0, _, rfl, rfl, sqt (s2 _ _ ht1), g0 _ _, by show 2 ≤ sizeLine; decide, fun u2 nu2 => ?_⟩
    have s2a := same_new (o := .tup [.ref t2, .int p1.1]) nu2
    have hu2 : upd (upd H1 u1 (.tup [.ref t1, .int p2.1])) u2 (.tup [.ref t2, .int p1.1]) u2 = some (.tup [.ref t2, .int p1.1]) := upd_same
    refine ⟨by show 2 ≤ sizeLine; decide, fun ll nll => ?_⟩
    have s3a := same_new (o := .lst [.ref u1, .ref u2]) nll
    have s3 := (s2.trans s2a).trans s3a
    have s13 := ((same_new (o := .tup [.ref t1, .int p2.1]) nu1).trans s2a).trans s3a
    have llg : ll ≠ g := fun e => by
      obtain ⟨kvs, hk, _⟩ := hW1
      have := ((same_new (o := .tup [.ref t1, .int p2.1]) nu1).trans s2a) _ _ hk
      rw [← e, nll] at this
      cases this
    refine ⟨ll, rfl, ⟨_, sql upd_same⟩, for_list (K := K) (a := ll) (xs := [.ref u1, .ref u2]) (fun i σ H2 => ∃ (plc : Int → Int × List Ed) (y4 y5 y6 y7 : Option V), σ = [some (.ref a), some (.ref t1), some (.ref t2), some (.ref g), y4, y5, y6, y7, none] ∧
      Same H H2 ∧ H2 ll = some (.lst [.ref u1, .ref u2]) ∧ H2 u1 = some (.tup [.ref t1, .int p2.1]) ∧ H2 u2 = some (.tup [.ref t2, .int p1.1]) ∧ WebAt H2 g ns plc ∧ Stg pl p1 p2 i plc)
      ⟨pl, none, none, none, none, rfl, s3, upd_same, s3a _ _ (s2a _ _ hu1), s3a _ _ hu2, hW1.same s13, .inl ⟨rfl, rfl⟩⟩ (fun i σ H2 _ ⟨_, _, _, _, _, _, _, h, _⟩ => sql h) ?_ ?_⟩
    · rintro i x σ H2 hx ⟨plc, y4, y5, y6, y7, rfl, s4, hll, hu1', hu2', hWc, hst⟩
      -- the turn's pair p, the name nm
      obtain ⟨u, t, p, nm, rfl, hu', ht, hpn, hpd, hnl, goal⟩ : ∃ (u t : Addr) (p : Pr) (nm : Int), x = .ref u ∧ H2 u = some (.tup [.ref t, .int nm]) ∧ H2 t = some (.tup [.int p.1, .int p.2]) ∧ p.1 ∈ ns ∧ p.2 ∈ nbOf plc p.1 ∧ (nbOf plc p.1).length ≤ 1000 ∧
          ∀ k, (nbOf plc p.1)[k]? = some p.2 → Stg pl p1 p2 (i + 1) (pp1 plc p.1 k nm) := by
        rcases hst with ⟨rfl, rfl⟩ | ⟨rfl, k1, hk1, rfl⟩ | ⟨rfl, _⟩
        · have e : V.ref u1 = x := Option.some.inj hx
          have sh := Va.short p1.1
          exact ⟨u1, t1, p1, p2.1, e.symm, hu1', s4 _ _ ht1, Va.inn hd1, hd1, by omega, fun k hk => .inr (.inl ⟨rfl, k, hk, rfl⟩)⟩
        · have e : V.ref u2 = x := Option.some.inj hx
          have e2 : nbOf (pp1 pl p1.1 k1 p2.1) p2.1 = nbOf pl p2.1 := pp1_nb_ne fun e => hne e.symm
          have sh := Va.short p2.1
          exact ⟨u2, t2, p2, p1.1, e.symm, hu2', s4 _ _ ht2, Va.inn hd2, by rw [e2]; exact hd2, by rw [e2]; omega, fun k hk => .inr (.inr ⟨rfl, k1, k, hk1, by rw [← e2]; exact hk, rfl⟩)⟩
        · cases hx
      refine ⟨u, _, rfl, sqt hu', rfl, _, _, rfl, _, _, rfl, rfl, ?_⟩
      -- ends = found[pair[0]][1]
      obtain ⟨tp, le, es, dg, htp, hle, hes⟩ := hWc.get hpn
      have les : es.length = (nbOf plc p.1).length := by
        rw [hes.len]
        exact (List.length_map _).symm
      refine ⟨.ref g, rfl, .ref t, rfl, t, _, 0, _, rfl, rfl, sqt ht, g0 _ _, g, _, rfl, dg, tp, _, 1, _, rfl, rfl, sqt htp, atI_nat (j := 1) rfl, ?_⟩
      -- at = [..].index(pair[1])
      refine ⟨.ref le, rfl, le, rfl, ⟨es, sql hle⟩, fun D nD => ?_⟩
      refine lc_list (K := K) (a := le) (xs := es) (fun j H' => H' = upd H2 D (.lst (((nbOf plc p.1).take j).map V.int))) rfl (fun j H' _ e => ?_) (fun j x H' hx e => ?_) (fun H' e => ?_)
      · subst e
        exact sql (same_new nD _ _ hle)
      · subst e
        obtain ⟨b, hb, t', rfl, ht'⟩ := hes.at' hx
        have hi := (List.getElem?_eq_some_iff.mp hb).1
        refine ⟨rfl, .ref t', rfl, t', _, 0, _, rfl, rfl, sqt (same_new nD _ _ ht'), atI_nat (j := 0) rfl, _, upd_same, ?_, ?_⟩
        · rw [List.length_map, List.length_take]
          exact smallLt (m := 1000) (Nat.le_trans (Nat.min_le_right _ _) hnl) (by decide)
        · have e1 : (nbOf plc p.1)[j]? = some b.1 := by
            unfold nbOf
            rw [List.getElem?_map, hb]
            rfl
          rw [upd_upd, List.take_add_one, e1, List.map_append]
          rfl
      · have e2 : (nbOf plc p.1).take es.length = nbOf plc p.1 := List.take_of_length_le (by rw [les]; exact Nat.le_refl _)
        rw [e2] at e
        subst e
        have s5 := same_new (o := .lst ((nbOf plc p.1).map V.int)) nD
        obtain ⟨k, k1, k2, k3, _⟩ := succ_ix hpd
        refine ⟨.inl ⟨rfl, _, sql upd_same⟩, .ref t, rfl, t, _, 1, _, rfl, rfl, sqt (s5 _ _ ht), g1 _ _, D, (nbOf plc p.1).map V.int, .int p.2, k, .int p.2, rfl, rfl, sql upd_same, rfl, all_flat_ints _, by rw [List.getElem?_map, k1]; rfl, by show (p.2 == p.2) = true; simp, fun m z' hm hz => ?_, ?_⟩
        · rw [List.getElem?_map] at hz
          cases hz2 : (nbOf plc p.1)[m]? with
          | none =>
            rw [hz2] at hz
            cases hz
          | some z =>
            rw [hz2] at hz
            have e : V.int z = z' := Option.some.inj hz
            rw [← e]
            show (z == p.2) = false
            exact beq_eq_false_iff_ne.mpr (k3 m z hm hz2)
        · -- found[pair[0]] = (..)
          have kes : k ≤ es.length := by omega
          refine ⟨.ref g, rfl, .ref t, rfl, t, _, 0, _, rfl, rfl, sqt (s5 _ _ ht), g0 _ _, g, _, rfl, dget_same s5 dg, tp, _, 0, _, rfl, rfl, sqt (s5 _ _ htp), atI_nat (j := 0) rfl, ?_⟩
          refine ⟨.ref le, rfl, .int k, rfl, (k : Int), rfl, le, es, rfl, sql (s5 _ _ hle), fun c1 nc1 => ?_⟩
          rw [cut_to es k kes] at *
          have s6 := s5.trans (same_new (o := .lst (es.take k)) nc1)
          refine ⟨.int nm, rfl, by show 3 ≤ sizeLine; decide, fun c2 nc2 => ⟨by show 1 ≤ sizeLine; decide, fun c3 nc3 => ?_⟩⟩
          have s7a := same_new (o := .tup [.int nm, .int 1, .bl false]) nc2
          have s7b := same_new (o := .lst [.ref c2]) nc3
          have s7 := (s6.trans s7a).trans s7b
          refine ⟨c1, c3, es.take k, [.ref c2], rfl, rfl, s7b _ _ (s7a _ _ upd_same), upd_same, small (m := 2000) (by rw [List.length_take, List.length_singleton]; omega) (by decide), fun c4 nc4 => ?_⟩
          have s8a := same_new (o := .lst (es.take k ++ [.ref c2])) nc4
          have s8 := s7.trans s8a
          refine ⟨.ref le, rfl, .int k, rfl, (k : Int), rfl, le, es, rfl, sql (s8 _ _ hle), fun c5 nc5 => ?_⟩
          rw [cut_from es k kes] at *
          have s9a := same_new (o := .lst (es.drop k)) nc5
          have s9 := s8.trans s9a
          refine ⟨c4, c5, es.take k ++ [.ref c2], es.drop k, rfl, rfl, s9a _ _ upd_same, upd_same, small (m := 3000) (by rw [List.length_append, List.length_take, List.length_singleton, List.length_drop]; omega) (by decide), fun c6 nc6 => ?_⟩
          have s10a := same_new (o := .lst (es.take k ++ [.ref c2] ++ es.drop k)) nc6
          have s10 := s9.trans s10a
          refine ⟨by show 2 ≤ sizeLine; decide, fun c7 nc7 => ?_⟩
          have s11a := same_new (o := .tup [.int (plc p.1).1, .ref c6]) nc7
          have s11 := s10.trans s11a
          obtain ⟨kvs, hkv, hen⟩ := hWc
          have hkv2 := s11 _ _ hkv
          have kl : kvs.length = ns.length := All2.len hen
          refine ⟨.ref g, rfl, .ref t, rfl, t, _, 0, _, rfl, rfl, sqt (s11 _ _ ht), g0 _ _, g, _, rfl, DPut.k (k := Sum.inl p.1) hkv2 (smallLt (m := 1000) (by omega) (by decide)), ?_⟩
          have kk := Keep.dict (u := .dK (putK kvs (Sum.inl p.1) (.ref c7))) hkv2
          have oth : ∀ b o, b ≠ g → H2 b = some o → upd (upd (upd (upd (upd (upd (upd (upd (upd H2 D (.lst ((nbOf plc p.1).map V.int))) c1 (.lst (es.take k))) c2 (.tup [.int nm, .int 1, .bl false])) c3 (.lst [.ref c2])) c4 (.lst (es.take k ++ [.ref c2]))) c5 (.lst (es.drop k))) c6 (.lst (es.take k ++ [.ref c2] ++ es.drop k))) c7 (.tup [.int (plc p.1).1, .ref c6])) g (.dK (putK kvs (Sum.inl p.1) (.ref c7))) b = some o := fun b o hb h => by
            rw [upd_ne hb]
            exact s11 _ _ h
          refine ⟨pp1 plc p.1 k nm, some (.ref t), some (.int nm), some (.ref le), some (.int k), rfl, same_own (s4.trans s11) ng, oth _ _ llg hll, oth _ _ (ne_of hu1' hkv (by intro z; cases z)) hu1', oth _ _ (ne_of hu2' hkv (by intro z; cases z)) hu2', ?_, goal k k1⟩
          refine ⟨_, upd_same, ?_⟩
          have hen2 := (hen.keep (Keep.of s11)).put hpn (v := .ref c7) (q := ((plc p.1).1, insE k (nm, 1, false) (plc p.1).2)) ?_ (pp1 plc p.1 k nm) pp1_same (fun m h => pp1_ne h)
          · exact hen2.keep kk
          · refine ⟨c7, .ref c6, rfl, upd_same, c6, _, rfl, s11a _ _ upd_same, ?_⟩
            have h5 := (hes.take k).up mono_ed (Keep.of s11)
            have h6 := (hes.drop k).up mono_ed (Keep.of s11)
            exact (h5.snoc ⟨c2, rfl, s11a _ _ (s10a _ _ (s9a _ _ (s8a _ _ (s7b _ _ upd_same))))⟩).app h6
    · rintro σ H2 ⟨plc, y4, y5, y6, y7, rfl, s4, hll, hu1', hu2', hWc, hst⟩
      rcases hst with ⟨h, _⟩ | ⟨h, _⟩ | ⟨_, k1, k2, hk1, hk2, rfl⟩
      · cases h
      · cases h
      · exact ⟨.ref g, rfl, q g H2 _ k1 k2 s4 hWc (pp2_put pl hne k1 k2) (.inl hk1) (.inl hk2)⟩
end
end Wd

-- part WdK
/-! ## The walks of _law_next, _law_walked -/
namespace Wd
open PySem PySem.Spec PyProof.Rows L2
theorem ix_row {β : Type} {R : V → β → Prop} {xs : List V} {bs : List β} (ha : All2 R xs bs) {r : Int} (h0 : 0 ≤ r) (h1 : r < bs.length) : ∃ v b, atI xs r = some v ∧ R v b ∧ b ∈ bs := by
  have hj : r.toNat < bs.length := by omega
  have hj2 : r.toNat < xs.length := by
    rw [ha.len]
    exact hj
  exact ⟨xs[r.toNat], bs[r.toNat], at_of (j := r.toNat) (by omega) (List.getElem?_eq_getElem hj2), ha.get (List.getElem?_eq_getElem hj2) (List.getElem?_eq_getElem hj), List.getElem_mem hj⟩
section
variable {P : Program} {w : World} {K : PySem.W.Frag} {mg : Str → Option Value} {base : Heap} {f : Addr} {fd : FuncData}
theorem scNext : FnScope ["_law_web_here", "_law_faces", "_law_pool_here", "_law_face", "_law_there", "_law_one", "_law_other", "_law_end"] ["_law_web_here", "_law_faces", "_law_pool_here"] (defScope sNext) := ⟨rfl, rfl, rfl, by decide +kernel, rfl, by decide +kernel, by decide +kernel⟩
def spNext : Sp := fun vs H Q _ => ∃ (a : Addr) (vF : V) (p : Addr) (L : List (List Pr)) (ns : List Int) (pl : Int → Int × List Ed), vs = [.ref a, vF, .ref p] ∧ WebAt H a ns pl ∧ FsAt H vF L ∧ PoolAt H p ∧ Drawn ns (nbOf pl) ∧ ns ≠ [] ∧ IsFaces (Dart (nbOf pl)) (nxt (nbOf pl)) L ∧ ns.length < 64 ∧
  (∀ H', Drew p H H' → Q .non H') ∧ ∀ (t a' : Addr) (vf vt : V) (c1 c2 : List Pr) (p1 p2 : Pr) (pl' : Int → Int × List Ed) (i j : Nat) (H' : Hp), Drew p H H' → H' t = some (.tup [.ref a', vf, vt]) → WebAt H' a' ns pl' → FcAt H' vf c1 → FcAt H' vt c2 → c1 ∈ L → c2 ∈ L →
    p1 ∈ c1 → p2 ∈ c2 → p1.1 ≠ p2.1 → p2.1 ∉ nbOf pl p1.1 → nbOf pl' = put (nbOf pl) p1.1 i p2.1 j → Ahead (nbOf pl p1.1) i p1.2 → Ahead (nbOf pl p2.1) j p2.2 → Q (.ref t) H'
theorem ok_next (F : FnP K "_law_next" sNext f fd) (G : Glb mg) (CT : Kn P w K mg base 1 "_law_take" spTake) (CTi : Kn P w K mg base 2 "_law_tied" spTied) : FnOk P w K mg base CX0 3 f fd ["_law_web_here", "_law_faces", "_law_pool_here"] spNext := by
  refine F.ok scNext (fun vs H Q E h => ?_) (fun cdv A outer s H vs Q E hr h => ?_)
  · obtain ⟨a, vF, p, L, ns, pl, rfl, _⟩ := h
    rfl
  · obtain ⟨a, vF, p, L, ns, pl, rfl, hW, ⟨lF, xF, rfl, hlF, haF⟩, hp, Dr, hns, hF, hlen, q1, q2⟩ := h
    have hu := hu_of hr
    have Va := Dr.V
    have big := darts_small Va hlen
    have lenL : L.length ≤ L.flatten.length := flat_len fun c hc => cyc_ne (hF.dec.cyc c hc)
    have lenF : L.flatten.length ≤ (darts ns (nbOf pl)).length := run_len Va hF.dec.nd fun p hp => (hF.dec.mem p).mp hp
    have posL : 0 < L.length := by
      obtain ⟨n, hn⟩ := List.exists_mem_of_ne_nil _ hns
      obtain ⟨b, hb⟩ := List.exists_mem_of_ne_nil _ (Dr.full n hn)
      obtain ⟨c, hc, _⟩ := hF.dec.in_ (p := (n, b)) hb
      exact List.length_pos_of_mem hc
    have lenC : ∀ c, c ∈ L → 0 < c.length ∧ c.length ≤ 4096 := fun c hc => by
      have h1 := List.length_pos_iff.mpr (cyc_ne (hF.dec.cyc c hc))
      have h2 := run_len Va (nd_part hF.dec.nd c hc) fun p hp => hF.dec.of hc hp
      omega
    refine ⟨_, PSs.nox (pss_cons (ps_set (i := 3) scNext.nd rfl (.inl rfl) (pe_ix ix_list (pv 1) (pe_kn CT hr (by decide) (by rfl) (pa_cons (pv 2) (pa_cons (pe_callB call_len_seq (by rfl) G.len bt_len (pa_cons (pv 1) pa_nil)) pa_nil))) (fun _ _ => rfl)))
      (pss_cons (ps_set (i := 4) scNext.nd rfl (.inl rfl) (pe_ix ix_list (pe_lst (pa_cons (pv 3) (pa_cons (pe_ix ix_list (pv 1) (pe_kn CT hr (by decide) (by rfl) (pa_cons (pv 2) (pa_cons (pe_callB call_len_seq (by rfl) G.len bt_len (pa_cons (pv 1) pa_nil)) pa_nil))) (fun _ _ => rfl)) pa_nil)))
        (pe_kn CT hr (by decide) (by rfl) (pa_cons (pv 2) (pa_cons pe_int pa_nil))) (fun _ _ => rfl)))
      (pss_cons (ps_set (i := 5) scNext.nd rfl (.inl rfl) (pe_ix ix_list (pv 3) (pe_kn CT hr (by decide) (by rfl) (pa_cons (pv 2) (pa_cons (pe_callB call_len_seq (by rfl) G.len bt_len (pa_cons (pv 3) pa_nil)) pa_nil))) (fun _ _ => rfl)))
      (pss_cons (ps_set (i := 6) scNext.nd rfl (.inl rfl) (pe_ix ix_list (pv 4) (pe_kn CT hr (by decide) (by rfl) (pa_cons (pv 2) (pa_cons (pe_callB call_len_seq (by rfl) G.len bt_len (pa_cons (pv 4) pa_nil)) pa_nil))) (fun _ _ => rfl)))
      (pss_cons (ps_if (PW.pt (pw_or (pt_cmpR op_eq (pe_ix ix_tup (pv 5) pe_int (fun _ _ => rfl)) (pe_ix ix_tup (pv 6) pe_int (fun _ _ => rfl)) (nomark _)) (pw_or1 (pt_cmpR op_in_seq (pe_ix ix_tup (pv 6) pe_int (fun _ _ => rfl))
          (pe_lc (own := [("_law_end", 7)]) (g := gName 7) (te := tOp (rIxT K) (tVar 7) (tC (.int 0))) (by rfl) scNext.nd (pi_list (pe_ix ix_tup (pe_dget hu (pv 0) (pe_ix ix_tup (pv 5) pe_int (fun _ _ => rfl)) (fun _ _ => rfl)) pe_int (fun _ _ => rfl)))
            (blkOk_by (own := [("_law_end", 7)]) (N := ["_law_web_here", "_law_faces", "_law_pool_here", "_law_face", "_law_there", "_law_one", "_law_other", "_law_end"]) (sc := defScope sNext) (by decide +kernel))
            (fun _ _ _ _ _ => pg_name (i := 7) scNext.nd rfl (Or.inl rfl)) (fun _ _ _ _ _ => pts_nil) (fun _ _ _ _ _ => pe_ix ix_tup (pv 7) pe_int (fun _ _ => rfl))) (by rfl))))) (pss_one (ps_ret pe_non)) pss_nil)
      (pss_cons (ps_if (pt_cmpR op_gt (pe_callB (call_max2 rfl) (by rfl) G.max boot_max (pa_cons (pe_callB call_len_seq (by rfl) G.len bt_len (pa_cons (pe_ix ix_tup (pe_dget hu (pv 0) (pe_ix ix_tup (pv 5) pe_int (fun _ _ => rfl)) (fun _ _ => rfl)) pe_int (fun _ _ => rfl)) pa_nil))
          (pa_cons (pe_callB call_len_seq (by rfl) G.len bt_len (pa_cons (pe_ix ix_tup (pe_dget hu (pv 0) (pe_ix ix_tup (pv 6) pe_int (fun _ _ => rfl)) (fun _ _ => rfl)) pe_int (fun _ _ => rfl)) pa_nil)) pa_nil))) pe_int (nomark _)) (pss_one (ps_ret pe_non)) pss_nil)
      (pss_one (ps_ret (pe_tup (pa_cons (pe_kn CTi hr (by decide) (by rfl) (pa_cons (pv 0) (pa_cons (pv 5) (pa_cons (pv 6) pa_nil)))) (pa_cons (pv 3) (pa_cons (pv 4) pa_nil)))))))))))), ?_⟩
    have lxF : xF.length = L.length := haF.len
    -- face
    refine ⟨.ref lF, rfl, .ref p, rfl, .ref lF, rfl, lF, xF, rfl, .inl (sql hlF), p, (xF.length : Int), rfl, hp, by omega, by omega, fun r1 H1 a1 a2 d1 => ?_⟩
    have haF1 := haF.up mono_fc (d1.keep hp)
    have hlF1 : H1 lF = some (.lst xF) := (d1.keep hp).lst _ _ (fun v hv => by
      obtain ⟨c, _, q⟩ := haF.left v hv
      exact refs_row _ _ _ q) hlF
    obtain ⟨vf, c1, ht1, hf1, hc1⟩ := ix_row haF1 a1 (by omega)
    refine ⟨lF, xF, r1, vf, rfl, rfl, sql hlF1, ht1, ?_⟩
    -- there
    refine ⟨vf, rfl, .ref lF, rfl, .ref p, rfl, .ref lF, rfl, lF, xF, rfl, .inl (sql hlF1), p, (xF.length : Int), rfl, d1.pool, by omega, by omega, fun r2 H2 b1 b2 d2 => ?_⟩
    have d12 := d1.trans d2
    have haF2 := haF1.up mono_fc (d2.keep d1.pool)
    have hlF2 : H2 lF = some (.lst xF) := (d2.keep d1.pool).lst _ _ (fun v hv => by
      obtain ⟨c, _, q⟩ := haF.left v hv
      exact refs_row _ _ _ q) hlF1
    obtain ⟨vg, c2', ht2, hf2, hc2⟩ := ix_row haF2 b1 (by omega)
    refine ⟨lF, xF, r2, vg, rfl, rfl, sql hlF2, ht2, by show 2 ≤ sizeLine; decide, fun u nu => ?_⟩
    have d3 := d12.new (o := .lst [vf, vg]) nu
    refine ⟨.ref p, rfl, p, 2, rfl, d3.pool, by decide, by decide, fun r3 H3 e1 e2 d4 => ?_⟩
    have d5 := d3.trans d4
    have k5 := d5.keep hp
    have hu3 : H3 u = some (.lst [vf, vg]) := d4.oth u _ (d12.pool.ne nu) upd_same
    have kf1 : FcAt H3 vf c1 := mono_fc _ _ _ _ (d4.keep d3.pool) (mono_fc _ _ _ _ (Keep.of (same_new nu)) (mono_fc _ _ _ _ (d2.keep d1.pool) hf1))
    have kf2 : FcAt H3 vg c2' := mono_fc _ _ _ _ (d4.keep d3.pool) (mono_fc _ _ _ _ (Keep.of (same_new nu)) hf2)
    obtain ⟨vt, c2, ht3, hf3, hc3⟩ : ∃ vt c2, atI [vf, vg] r3 = some vt ∧ FcAt H3 vt c2 ∧ c2 ∈ L := by
      have h : r3 = 0 ∨ r3 = 1 := by omega
      rcases h with h | h
      · exact ⟨vf, c1, by rw [h]; exact atI_nat (j := 0) rfl, kf1, hc1⟩
      · exact ⟨vg, c2', by rw [h]; exact atI_nat (j := 1) rfl, kf2, hc2⟩
    refine ⟨u, _, r3, vt, rfl, rfl, sql hu3, ht3, ?_⟩
    -- one
    obtain ⟨l1, x1, rfl, hl1, ha1⟩ := id kf1
    have c1l := lenC c1 hc1
    have x1l : x1.length = c1.length := ha1.len
    refine ⟨.ref l1, rfl, .ref p, rfl, .ref l1, rfl, l1, x1, rfl, .inl (sql hl1), p, (x1.length : Int), rfl, d5.pool, by omega, by omega, fun r4 H4 f1 f2 d6 => ?_⟩
    have d7 := d5.trans d6
    have k6 := d6.keep d5.pool
    obtain ⟨l1', x1', e9, hl1', ha1'⟩ := mono_fc _ _ _ _ k6 kf1
    cases e9
    have l1e : x1' = x1 := by
      have h := k6.lst _ _ (fun v hv => by
        obtain ⟨c, _, q⟩ := ha1.left v hv
        exact refs_pr _ _ _ q) hl1
      rw [hl1'] at h
      injection h with h
      injection h
    subst l1e
    obtain ⟨v1, p1, hv1, ⟨t1, rfl, hpt1⟩, hp1⟩ := ix_row ha1' f1 (by omega)
    refine ⟨l1, x1', r4, .ref t1, rfl, rfl, sql hl1', hv1, ?_⟩
    -- other
    obtain ⟨l2, x2, rfl, hl2, ha2⟩ := mono_fc _ _ _ _ k6 hf3
    have c2l := lenC c2 hc3
    have x2l : x2.length = c2.length := ha2.len
    refine ⟨.ref l2, rfl, .ref p, rfl, .ref l2, rfl, l2, x2, rfl, .inl (sql hl2), p, (x2.length : Int), rfl, d7.pool, by omega, by omega, fun r5 H5 g1' g2' d8 => ?_⟩
    have d9 := d7.trans d8
    have k8 := d8.keep d7.pool
    have hl25 : H5 l2 = some (.lst x2) := k8.lst _ _ (fun v hv => by
      obtain ⟨c, _, q⟩ := ha2.left v hv
      exact refs_pr _ _ _ q) hl2
    obtain ⟨v2, p2, hv2, ⟨t2, rfl, hpt2⟩, hp2⟩ := ix_row (ha2.up mono_pr k8) g1' (by omega)
    refine ⟨l2, x2, r5, .ref t2, rfl, rfl, sql hl25, hv2, ?_⟩
    have hpt1 := k8.tup _ _ hpt1
    have hW5 := hW.drew hp d9
    have hd1 : Dart (nbOf pl) p1 := hF.dec.of hc1 hp1
    have hd2 : Dart (nbOf pl) p2 := hF.dec.of hc3 hp2
    have n1 : p1.1 ∈ ns := Va.inn hd1
    have n2 : p2.1 ∈ ns := Va.inn hd2
    have g0 : ∀ x y : Int, atI [V.int x, V.int y] 0 = some (.int x) := fun _ _ => atI_nat (j := 0) rfl
    have hf15 : FcAt H5 (.ref l1) c1 := mono_fc _ _ _ _ (k6.trans k8) kf1
    have hf25 : FcAt H5 (.ref l2) c2 := ⟨l2, x2, rfl, hl25, ha2.up mono_pr k8⟩
    -- the tests
    refine ⟨.ref t1, rfl, t1, _, 0, _, rfl, rfl, sqt hpt1, g0 _ _, .ref t2, rfl, t2, _, 0, _, rfl, rfl, sqt hpt2, g0 _ _, rfl, _, rfl, ?_⟩
    rw [int_dec]
    by_cases e : p1.1 = p2.1
    · rw [decide_eq_true e]
      exact iteT (iteT (q1 _ d9))
    · rw [decide_eq_false e]
      refine iteF ?_
      obtain ⟨tp, le, es, dg, htp, hle, hes⟩ := hW5.get n1
      have les : es.length = (nbOf pl p1.1).length := by
        rw [hes.len]
        exact (List.length_map _).symm
      have sh1 := Va.short p1.1
      refine ⟨.ref t2, rfl, t2, _, 0, _, rfl, rfl, sqt hpt2, g0 _ _, .ref a, rfl, .ref t1, rfl, t1, _, 0, _, rfl, rfl, sqt hpt1, g0 _ _, a, _, rfl, dg, tp, _, 1, _, rfl, rfl, sqt htp, atI_nat (j := 1) rfl, le, rfl, ⟨es, sql hle⟩, fun D nD => ?_⟩
      refine lc_list (K := K) (a := le) (xs := es) (fun j H' => H' = upd H5 D (.lst (((nbOf pl p1.1).take j).map V.int))) rfl (fun j H' _ e => ?_) (fun j x H' hx e => ?_) (fun H' e => ?_)
      · subst e
        exact sql (same_new nD _ _ hle)
      · subst e
        obtain ⟨b, hb, t', rfl, ht'⟩ := hes.at' hx
        refine ⟨rfl, .ref t', rfl, t', _, 0, _, rfl, rfl, sqt (same_new nD _ _ ht'), atI_nat (j := 0) rfl, _, upd_same, ?_, ?_⟩
        · rw [List.length_map, List.length_take]
          exact smallLt (m := 1000) (Nat.le_trans (Nat.min_le_right _ _) (by omega)) (by decide)
        · have e1 : (nbOf pl p1.1)[j]? = some b.1 := by
            unfold nbOf
            rw [List.getElem?_map, hb]
            rfl
          rw [upd_upd, List.take_add_one, e1, List.map_append]
          rfl
      · have e2 : (nbOf pl p1.1).take es.length = nbOf pl p1.1 := List.take_of_length_le (by rw [les]; exact Nat.le_refl _)
        rw [e2] at e
        subst e
        have s6 := same_new (o := .lst ((nbOf pl p1.1).map V.int)) nD
        have d10 := d9.new (o := .lst ((nbOf pl p1.1).map V.int)) nD
        refine ⟨D, (nbOf pl p1.1).map V.int, rfl, .inl (sql upd_same), rfl, all_flat_ints _, _, rfl, ?_⟩
        rw [if_neg Bool.false_ne_true, inV_ints]
        by_cases hin : p2.1 ∈ nbOf pl p1.1
        · rw [decide_eq_true hin]
          exact iteT (q1 _ d10)
        · rw [decide_eq_false hin]
          refine iteF ?_
          have hW6 := hW5.same s6
          obtain ⟨tp1, le1, es1, dg1, htp1, hle1, hes1⟩ := hW6.get n1
          obtain ⟨tp2, le2, es2, dg2, htp2, hle2, hes2⟩ := hW6.get n2
          refine ⟨.ref a, rfl, .ref t1, rfl, t1, _, 0, _, rfl, rfl, sqt (s6 _ _ hpt1), g0 _ _, a, _, rfl, dg1, tp1, _, 1, _, rfl, rfl, sqt htp1, atI_nat (j := 1) rfl, le1, es1, rfl, .inl (sql hle1),
            .ref a, rfl, .ref t2, rfl, t2, _, 0, _, rfl, rfl, sqt (s6 _ _ hpt2), g0 _ _, a, _, rfl, dg2, tp2, _, 1, _, rfl, rfl, sqt htp2, atI_nat (j := 1) rfl, le2, es2, rfl, .inl (sql hle2), _, _, rfl, _, 11, rfl, rfl, _, rfl, ite2 (fun _ => q1 _ d10) (fun _ => ?_)⟩
          refine ⟨.ref a, rfl, .ref t1, rfl, .ref t2, rfl, a, .ref t1, .ref t2, p1, p2, ns, pl, rfl, hW6, ⟨t1, rfl, s6 _ _ hpt1⟩, ⟨t2, rfl, s6 _ _ hpt2⟩, Va, hd1, hd2, e, hlen, fun a' H7 pl' i j s7 hW7 hpl hA1 hA2 => ?_⟩
          refine ⟨.ref l1, rfl, .ref l2, rfl, by show 3 ≤ sizeLine; decide, fun t nt => ?_⟩
          have s8 := s7.trans (same_new (o := .tup [.ref a', .ref l1, .ref l2]) nt)
          refine q2 t a' (.ref l1) (.ref l2) c1 c2 p1 p2 pl' i j _ (d10.trans (Drew.of d10.pool s8)) upd_same (hW7.same (same_new nt)) (mono_fc _ _ _ _ (Keep.of (s6.trans s8)) hf15) (mono_fc _ _ _ _ (Keep.of (s6.trans s8)) hf25) hc1 hc3 hp1 hp2 e hin hpl hA1 hA2
end
end Wd

-- part WdW
/-! ## The walk of _law_walked -/
namespace Wd
open PySem PySem.Spec PyProof.Rows L2
/-! ### what stands ahead of a pair of a face -/
theorem path_at {α : Type} {f : α → α} {z : α} : ∀ {r : List α} {x : α} {k : Nat} {u : α}, path f x r z → (x :: r)[k]? = some u → (r ++ [z])[k]? = some (f u)
  | [], x, 0, u, p, h => by
    have e : x = u := Option.some.inj h
    have p : f x = z := p
    rw [← e, p]
    rfl
  | [], x, k + 1, u, p, h => by simp at h
  | y :: r, x, 0, u, p, h => by
    have e : x = u := Option.some.inj h
    rw [← e, p.1]
    rfl
  | y :: r, x, k + 1, u, p, h => path_at (r := r) (x := y) (k := k) p.2 h
theorem cyc_prev {α : Type} {f : α → α} {c : List α} (k : Cyc f c) {j : Nat} {v : α} (h : c[j]? = some v) : ∃ i u, c[i]? = some u ∧ f u = v ∧ ((1 ≤ j ∧ i + 1 = j) ∨ (j = 0 ∧ i + 1 = c.length)) := by
  cases c with
  | nil => exact absurd k id
  | cons x r =>
    have kp : path f x r x := k
    have hj := (List.getElem?_eq_some_iff.mp h).1
    cases j with
    | zero =>
      have hx : x = v := Option.some.inj h
      have hl : r.length < (x :: r).length := by rw [List.length_cons]; omega
      refine ⟨r.length, (x :: r)[r.length], List.getElem?_eq_getElem hl, ?_, .inr ⟨rfl, List.length_cons.symm⟩⟩
      have q := path_at kp (List.getElem?_eq_getElem hl)
      rw [List.getElem?_append_right (Nat.le_refl _), Nat.sub_self] at q
      have q2 : x = f (x :: r)[r.length] := Option.some.inj q
      rw [← q2, hx]
    | succ j =>
      have hj2 : j < (x :: r).length := by omega
      refine ⟨j, (x :: r)[j], List.getElem?_eq_getElem hj2, ?_, .inl ⟨by omega, rfl⟩⟩
      have q := path_at kp (List.getElem?_eq_getElem hj2)
      have hr : j < r.length := by rw [List.length_cons] at hj; omega
      rw [List.getElem?_append_left hr] at q
      have h' : r[j]? = some v := h
      rw [h'] at q
      exact (Option.some.inj q).symm
theorem atI_prev {α : Type} {xs : List α} {z : Int} {j i : Nat} {v : α} (h : xs[i]? = some v) (hz : z = (j : Int) - 1) (hc : (1 ≤ j ∧ i + 1 = j) ∨ (j = 0 ∧ i + 1 = xs.length)) : atI xs z = some v := by
  rcases hc with ⟨h1, h2⟩ | ⟨h1, h2⟩
  · have e : z = (i : Int) := by omega
    rw [e]
    exact atI_nat h
  · have e : z = -1 := by omega
    have e2 : ixN xs.length (-1) = some i := by
      unfold ixN
      rw [if_neg (by decide), if_pos (by omega)]
      congr 1
      omega
    rw [e]
    unfold atI
    rw [e2]
    exact h
theorem iteD {A B : Prop} {p : Prop} [Decidable p] (h : p) (k : A) : if decide p = true then A else B := by
  rw [if_pos (decide_eq_true h)]
  exact k
theorem leP_fun : PySem.W.dataLe false encP = fun p q => decide (ple p q) := by
  funext p q
  exact leP_iff p q
/-- all pairs, told by the faces -/
theorem pairs_sorted {ns : List Int} {nb : Nb} {L : List (List Pr)} (Va : Valid ns nb) (F : IsFaces (Dart nb) (nxt nb) L) : L.flatten.mergeSort (PySem.W.dataLe false encP) = allP ns nb := by
  rw [leP_fun]
  have pw := List.pairwise_mergeSort (le := fun p q => decide (ple p q)) (fun a b c h1 h2 => decide_eq_true (ple_trans (of_decide_eq_true h1) (of_decide_eq_true h2))) (fun a b => by
    rcases ple_total a b with h | h
    · rw [decide_eq_true h, Bool.true_or]
    · rw [decide_eq_true h, Bool.or_true]) L.flatten
  refine pr_sorted (pw.imp fun h => of_decide_eq_true h) ((allP_rise Va).imp fun h => plt_ple h) ((List.mergeSort_perm _ _).trans ?_)
  refine (List.perm_ext_iff_of_nodup F.dec.nd (allP_nd Va)).mpr fun p => ?_
  rw [F.dec.mem, allP_mem Va]
theorem faces_stay {P : Pr → Prop} {f : Pr → Pr} {L : List (List Pr)} (F : IsFaces P f L) : L.mergeSort (PySem.W.dataLe false encC) = L := by
  refine List.mergeSort_of_pairwise ?_
  exact (rise_inj F.rise).imp_of_mem fun {c d} hc hd' h => hd_leC (cyc_ne (F.dec.cyc c hc)) (cyc_ne (F.dec.cyc d hd')) h
theorem sortC (L : List (List Pr)) : PySem.W.Sortable (L.map encC) := PySem.W.Sortable.others fun b => ⟨fun e => (by cases e), fun xs e => (by cases e)⟩
section
variable {P : Program} {w : World} {K : PySem.W.Frag} {mg : Str → Option Value} {base : Heap} {f : Addr} {fd : FuncData}
theorem scWalked : FnScope ["_law_web_here", "_law_faces", "_law_face", "_law_k", "_law_flat_here"] ["_law_web_here", "_law_faces"] (defScope sWalked) := ⟨rfl, rfl, rfl, by decide +kernel, rfl, by decide +kernel, by decide +kernel⟩
def spWalked : Sp := fun vs H Q _ => ∃ (a : Addr) (vF : V) (L : List (List Pr)) (ns : List Int) (pl : Int → Int × List Ed), vs = [.ref a, vF] ∧ WebAt H a ns pl ∧ FsAt H vF L ∧ Drawn ns (nbOf pl) ∧ IsFaces (Dart (nbOf pl)) (nxt (nbOf pl)) L ∧ 2 ≤ ns.length ∧ ns.length < 64 ∧
  ∀ H', Same H H' → Q (.bl true) H'
theorem ok_walked (F : FnP K "_law_walked" sWalked f fd) (G : Glb mg) (CP : Kn P w K mg base 1 "_law_pairs" spPairs) (CF : Kn P w K mg base 1 "_law_flat" spFlat) (CB : Kn P w K mg base 2 "pair_behind" spBehind) (CTs : Kn P w K mg base 1 "_law_ties" spTies) (CBl : Kn P w K mg base 5 "is_ball" spBall) :
    FnOk P w K mg base CX0 6 f fd ["_law_web_here", "_law_faces"] spWalked := by
  refine F.ok scWalked (fun vs H Q E h => ?_) (fun cdv A outer s H vs Q E hr h => ?_)
  · obtain ⟨a, vF, L, ns, pl, rfl, _⟩ := h
    rfl
  · obtain ⟨a, vF, L, ns, pl, rfl, hW, hFs, Dr, hF, h2, hlen, q⟩ := h
    have Va := Dr.V
    have big := darts_small Va hlen
    have lenF : L.flatten.length ≤ (darts ns (nbOf pl)).length := run_len Va hF.dec.nd fun p hp => (hF.dec.mem p).mp hp
    refine ⟨_, PSs.nox (pss_cons (ps_if (PW.pt (pw_or (pt_cmpR (op_neD hr.units) (pe_kn CP hr (by decide) (by rfl) (pa_cons (pv 0) pa_nil)) (pe_callB (cr_sortedD encP PrAt hr.units) (by rfl) G.sorted bt_sorted (pa_cons (pe_kn CF hr (by decide) (by rfl) (pa_cons (pv 1) pa_nil)) pa_nil)) (nomark _)) (pw_or1 (pt_cmpR (op_neD hr.units) (pv 1) (pe_callB (cr_sortedD encC FcAt hr.units) (by rfl) G.sorted bt_sorted (pa_cons (pv 1) pa_nil)) (nomark _))))) (pss_one (ps_ret pe_bl)) pss_nil)
      (pss_cons (ps_for PassesOwn.never rfl (pi_list (pv 1)) (pg_name (i := 2) scWalked.nd rfl (.inl rfl)) (pss_cons (ps_if (pt_cmpR (op_neD hr.units) (pe_ix ix_list (pv 2) pe_int (fun _ _ => rfl)) (pe_callB (cr_minP rfl hr.units) (by rfl) G.min boot_min (pa_cons (pv 2) pa_nil)) (nomark _)) (pss_one (ps_ret pe_bl)) pss_nil)
      (pss_one (ps_for PassesOwn.never rfl (pi_range1 (by rfl) G.range (pa_cons (pe_callB call_len_seq (by rfl) G.len bt_len (pa_cons (pv 2) pa_nil)) pa_nil)) (pg_name (i := 3) scWalked.nd rfl (.inl rfl)) (pss_one (ps_if (pt_cmpR (op_neD hr.units) (pe_kn CB hr (by decide) (by rfl) (pa_cons (pv 0) (pa_cons (pe_ix ix_list (pv 2) (pe_op op_sub (pv 3) pe_int) (fun _ _ => rfl)) pa_nil))) (pe_ix ix_list (pv 2) (pv 3) (fun _ _ => rfl)) (nomark _)) (pss_one (ps_ret pe_bl)) pss_nil))))))
      (pss_cons (ps_set (i := 4) scWalked.nd rfl (.inl rfl) (pe_op op_add (pe_op op_sub (pe_callB call_lenD (by rfl) G.len bt_len (pa_cons (pv 0) pa_nil)) (pe_callB call_len_seq (by rfl) G.len bt_len (pa_cons (pe_kn CTs hr (by decide) (by rfl) (pa_cons (pv 0) pa_nil)) pa_nil))) (pe_callB call_len_seq (by rfl) G.len bt_len (pa_cons (pv 1) pa_nil))))
      (pss_one (ps_ret (pe_and (pe_cmpR op_le (pv 4) pe_int (nomark _)) (pe_and (pe_cmpR op_eq (pe_op op_mod (pv 4) pe_int) pe_int (nomark _)) (pe_one (pe_cmpR op_eq (pe_kn CBl hr (by decide) (by rfl) (pa_cons (pv 0) pa_nil)) (pe_cmpR op_eq (pv 4) pe_int (nomark _)) (nomark _)))))))))), ?_⟩
    -- the pairs, each in just one face; the faces in order
    refine ⟨.ref a, rfl, a, ns, pl, rfl, hW, Va, hlen, fun vp H1 s1 hP => ?_⟩
    refine ⟨vF, rfl, vF, L, rfl, mono_fs _ _ _ _ (Keep.of s1) hFs, by omega, fun vfl H2 s2 hFl => ?_⟩
    have s12 := s1.trans s2
    obtain ⟨l2, x2, rfl, hl2, ha2⟩ := hFl
    refine ⟨l2, x2, L.flatten, rfl, sql hl2, ha2, ha2.mono fun _ _ => pr_dp, PySem.W.AllAlike.of encP_alike, PySem.W.Sortable.tuples fun b => ⟨_, _, rfl⟩, fun b _ => Nat.le_trans (encP_depth b) (by decide), fun ys p3 hy np3 => ?_⟩
    rw [pairs_sorted Va hF] at hy
    have s3 := same_new (o := .lst ys) np3
    have hP3 := mono_fc _ _ _ _ (Keep.of (s2.trans s3)) hP
    refine ⟨encC (allP ns (nbOf pl)), encC (allP ns (nbOf pl)), fc_dp hP3, fc_dp ⟨p3, ys, rfl, upd_same, hy.up mono_pr (Keep.of s3)⟩, encC_shaped _, encC_shaped _, _, rfl, ?_⟩
    rw [encC_eqv, decide_eq_true rfl]
    refine iteF ?_
    have s13 := s12.trans s3
    obtain ⟨lF, xF, rfl, hlF, haF⟩ := hFs
    have haF3 := haF.up mono_fc (Keep.of s13)
    refine ⟨.ref lF, rfl, .ref lF, rfl, lF, xF, L, rfl, sql (s13 _ _ hlF), haF3, haF3.mono fun _ _ => fc_dp, PySem.W.AllAlike.of encC_alike, sortC L, fun b _ => Nat.le_trans (encC_depth b) (by decide), fun zs p4 hz np4 => ?_⟩
    rw [faces_stay hF] at hz
    have s4 := same_new (o := .lst zs) np4
    have s14 := s13.trans s4
    refine ⟨encF L, encF L, fs_dp ⟨lF, xF, rfl, s14 _ _ hlF, haF.up mono_fc (Keep.of s14)⟩, fs_dp ⟨p4, zs, rfl, upd_same, hz.up mono_fc (Keep.of s4)⟩, encF_shaped _, encF_shaped _, _, rfl, ?_⟩
    rw [encF_eqv, decide_eq_true rfl]
    refine iteF ?_
    -- for face in faces
    refine ⟨.ref lF, rfl, lF, rfl, ⟨_, sql (s14 _ _ hlF)⟩, for_list (K := K) (a := lF) (xs := xF) (fun i σ H5 => ∃ y2 y3 : Option V, σ = [some (.ref a), some (.ref lF), y2, y3, none] ∧ Same H H5) ⟨none, none, rfl, s14⟩ (fun i σ H5 _ ⟨_, _, _, s5⟩ => sql (s5 _ _ hlF)) ?_ ?_⟩
    · rintro i x σ H5 hx ⟨y2, y3, rfl, s5⟩
      obtain ⟨c, hc, hfc⟩ := haF.at' hx
      have hcL : c ∈ L := List.mem_of_getElem? hc
      have kc := hF.dec.cyc c hcL
      obtain ⟨lc, xc, rfl, hlc, hac⟩ := mono_fc _ _ _ _ (Keep.of s5) hfc
      have hne := cyc_ne kc
      obtain ⟨v0, hv0, hp0⟩ := hac.at_ (show c[0]? = some (hd c) by
        cases c with
        | nil => exact absurd rfl hne
        | cons x r => rfl)
      -- face[0] != min(face)
      refine ⟨.ref lc, rfl, lc, xc, 0, v0, rfl, rfl, sql hlc, atI_nat (j := 0) hv0, .ref lc, rfl, lc, xc, c, rfl, sql hlc, hne, hac.mono fun _ _ => pr_dp, fun j1 v1 p1 hv1 hp1 hmin => ?_⟩
      have e1 : hd c = p1 := ple_antisymm (hF.least c hcL p1 (List.mem_of_getElem? hp1)) (hmin _ (hd_mem hne))
      refine ⟨encP (hd c), encP p1, pr_dp hp0, pr_dp (hac.get hv1 hp1), encP_shaped _, encP_shaped _, _, rfl, ?_⟩
      rw [encP_eqv, decide_eq_true e1]
      refine iteF ?_
      -- for k in range(len(face))
      have xcl : xc.length = c.length := hac.len
      have cl : c.length ≤ 4096 := by
        have h2 := run_len Va (nd_part hF.dec.nd c hcL) fun p hp => hF.dec.of hcL hp
        omega
      refine ⟨.ref lc, rfl, lc, xc, rfl, .inl (sql hlc), (xc.length : Int), rfl, by omega, by omega, for_range (lo := 0) (n := (xc.length : Int).toNat) (fun j σ H6 => ∃ y3 : Option V, σ = [some (.ref a), some (.ref lF), some (.ref lc), y3, none] ∧ Same H5 H6) ⟨y3, rfl, Same.refl _⟩ ?_ ?_⟩
      · rintro j σ H6 hj ⟨y3, rfl, s6⟩
        have hjc : j < c.length := by omega
        obtain ⟨i', u, hu1, hu2, hu3⟩ := cyc_prev kc (List.getElem?_eq_getElem hjc)
        obtain ⟨vu, hvu, hpu⟩ := hac.at_ hu1
        obtain ⟨vw, hvw, hpw⟩ := hac.at_ (List.getElem?_eq_getElem hjc)
        have hlc6 := s6 _ _ hlc
        refine ⟨.ref a, rfl, .ref lc, rfl, .int (0 + j), rfl, 0 + j, 1, rfl, rfl, lc, xc, _, vu, rfl, rfl, sql hlc6, atI_prev (j := j) hvu (by omega) (by rw [xcl]; exact hu3), a, vu, u, ns, pl, rfl, hW.same (s5.trans s6), mono_pr _ _ _ _ (Keep.of s6) hpu, Va, hF.dec.of hcL (List.mem_of_getElem? hu1), hlen, fun v7 H7 s7 hp7 => ?_⟩
        refine ⟨.ref lc, rfl, .int (0 + j), rfl, lc, xc, 0 + j, vw, rfl, rfl, sql (s7 _ _ hlc6), at_of (j := j) (by omega) hvw, encP (nxt (nbOf pl) u), encP c[j], pr_dp hp7, pr_dp (mono_pr _ _ _ _ (Keep.of (s6.trans s7)) hpw), encP_shaped _, encP_shaped _, _, rfl, ?_⟩
        rw [encP_eqv, decide_eq_true hu2]
        exact iteF ⟨some (.int (0 + j)), rfl, s6.trans s7⟩
      · rintro σ H6 ⟨y3, rfl, s6⟩
        exact ⟨some (.ref lc), y3, rfl, s5.trans s6⟩
    · rintro σ H5 ⟨y2, y3, rfl, s5⟩
      -- places less ties plus faces
      obtain ⟨k, hk⟩ := Dr.faces hF
      obtain ⟨kvs0, hk0, hkl, _⟩ := (hW.same s5).len
      refine ⟨.ref a, rfl, a, kvs0, rfl, hk0, .ref a, rfl, a, ns, pl, rfl, hW.same s5, Va, hlen, fun lt xt H6 s6 hlt hxt => ?_⟩
      have s56 := s5.trans s6
      refine ⟨lt, xt, rfl, .inl (sql hlt), _, _, rfl, rfl, .ref lF, rfl, lF, xF, rfl, .inl (sql (s56 _ _ hlF)), _, _, rfl, rfl, ?_⟩
      have e : (kvs0.length : Int) - (xt.length : Nat) + (xF.length : Nat) = 2 - 2 * (k : Int) := by
        rw [hkl, hxt, haF.len]
        exact hk
      refine ⟨_, rfl, _, 2, rfl, rfl, _, rfl, iteD (show (kvs0.length : Int) - (xt.length : Nat) + (xF.length : Nat) ≤ 2 by omega) ?_⟩
      refine ⟨_, rfl, _, 2, rfl, rfl, by show (0 : Int) < 2; decide, rfl, _, rfl, iteD (show V.int (((kvs0.length : Int) - (xt.length : Nat) + (xF.length : Nat)) % 2) = V.int 0 by rw [e]; congr 1; omega) ?_⟩
      refine ⟨.ref a, rfl, a, ns, pl, rfl, hW.same s56, Va, hlen, fun L' H7 s7 hT => ?_⟩
      have hL : L' = L := by
        rcases hT with ⟨h, _⟩ | ⟨_, h⟩
        · omega
        · exact h.unique hF
      refine ⟨_, rfl, rfl, rfl, ?_⟩
      have e3 : (decide ((ns.length : Int) - (tc ns (nbOf pl) : Nat) + (L'.length : Nat) = 2)) = decide (V.int ((kvs0.length : Int) - (xt.length : Nat) + (xF.length : Nat)) = V.int 2) := by
        rw [int_dec, hkl, hxt, haF.len, hL]
      rw [e3, decide_eq_true rfl]
      exact q _ (s56.trans s7)
end
end Wd

-- part WdL
/-! ## The walk of law -/
namespace Wd
open PySem PySem.Spec PyProof.Rows L2
theorem same_drew {p : Addr} {H H1 H2 : Hp} (s : Same H H1) (np : H p = none) (d : Drew p H1 H2) : Same H H2 := fun b o hb => d.oth b o (ne_of_none hb np) (s b o hb)
theorem iteDF {A B : Prop} {p : Prop} [Decidable p] (h : ¬ p) (k : B) : if decide p = true then A else B := by
  rw [if_neg (by rw [decide_eq_false h]; exact Bool.false_ne_true)]
  exact k
theorem iteNF {A B : Prop} {p : Prop} [Decidable p] (h : ¬ p) (k : A) : if (!decide p) = true then A else B := by
  rw [decide_eq_false h]
  exact iteT k
theorem shaped_pair (c d : List Pr) : SeqAt.shaped (.tuple [encC c, encC d]) = true := by
  have h1 := encC_depth c
  have h2 := encC_depth d
  refine shaped_of ?_ ?_
  · simp [PyData.canLay0, PyData.canLayAll0, encC_lay]
  · simp only [PyData.depth, PyData.depthAll]
    omega
theorem leC_total : PySem.W.TotalLe (PySem.W.dataLe false encC) := PySem.W.sortLe_total _ _ _
/-- the turned faces in order are the faces of the web turned -/
theorem back_told {ns : List Int} {nb : Nb} {L M : List (List Pr)} (Va : Valid ns nb) (F : IsFaces (Dart nb) (nxt nb) L) (t : All2 TurnedBack L M) : IsFaces (Dart (rvs nb)) (nxt (rvs nb)) (M.mergeSort (PySem.W.dataLe false encC)) := by
  have pm := List.mergeSort_perm M (PySem.W.dataLe false encC)
  have ne : ∀ d, d ∈ M → d ≠ [] := fun d hd' => by
    obtain ⟨c, _, s, x, u, _, e, _⟩ := t.right d hd'
    rw [e]
    simp
  refine back_faces Va F.dec t pm ?_
  exact (PySem.W.sort_pairwise leC_total M).imp_of_mem fun {c d} hc hd' h => leC_hd (ne c (pm.mem_iff.mp hc)) (ne d (pm.mem_iff.mp hd')) h
theorem any_in (c : List Pr) : ∀ M : List (List Pr), ((M.map encC).any fun z => PyData.eqv z (encC c)) = decide (c ∈ M)
  | [] => by simp
  | d :: M => by
    rw [List.map_cons, List.any_cons, any_in c M, encC_eqv]
    by_cases h : d = c
    · simp [h]
    · have h' : ¬ c = d := fun k => h k.symm
      simp [h, h']
theorem at2 (A B : Int) (b : Bool) : atI [V.int A, V.int B] (if b = true then 1 else 0) = some (.int (if b = true then B else A)) := by
  cases b with
  | true => exact atI_nat (j := 1) rfl
  | false => exact atI_nat (j := 0) rfl
section
variable {P : Program} {w : World} {K : PySem.W.Frag} {mg : Str → Option Value} {base : Heap} {f : Addr} {fd : FuncData}
abbrev lawN : List Str := ["_law_script", "_law_k", "_law_pool_here", "_law_web_here", "_law_turn", "_law_faces", "_law_back", "_law_face", "_law_told_here", "_law_later", "_law_there", "_law_more", "_law_kept", "_law_one"]
theorem scLaw : FnScope lawN ["_law_script"] (defScope sLaw) := ⟨rfl, rfl, rfl, by decide +kernel, rfl, by decide +kernel, by decide +kernel⟩
def spLaw (K : PySem.W.Frag) : Sp := fun vs H Q _ => ∃ (a : Addr) (sc : List Int), vs = [.ref a] ∧ SqL K H a (sc.map V.int) ∧ sc.length ≤ 63 ∧ ∀ H', Q (.bl true) H'
theorem ok_law (F : FnP K "law" sLaw f fd) (G : Glb mg) (CPo : Kn P w K mg base 2 "_law_pool" (spPool K)) (CWb : Kn P w K mg base 3 "_law_web" spWeb) (CFa : Kn P w K mg base 4 "faces_of" spFaces) (CW : Kn P w K mg base 6 "_law_walked" spWalked)
    (CO : Kn P w K mg base 1 "_law_other_way" spOther) (CBk : Kn P w K mg base 1 "_law_backward" spBack) (CNx : Kn P w K mg base 3 "_law_next" spNext) : FnOk P w K mg base CX0 7 f fd ["_law_script"] (spLaw K) := by
  refine F.ok scLaw (fun vs H Q E h => ?_) (fun cdv A outer s H vs Q E hr h => ?_)
  · obtain ⟨a, sc, rfl, _⟩ := h
    rfl
  · obtain ⟨a, sc, rfl, hS, hsc, q⟩ := h
    have hu65 : A.units + 3 + 65 < cLine := by
      have := hr.un
      have e : (A.deeper (envOfC (Str.ofString "law") (defScope sLaw) s.heap.objs.size f cdv)).units = A.units + 3 := rfl
      omega
    refine ⟨_, PSs.nox (pss_cons (ps_for PassesOwn.never rfl (pi_range1 (by rfl) G.range (pa_cons (pe_callB (call_max2 rfl) (by rfl) G.max boot_max (pa_cons pe_int (pa_cons (pe_callB (call_min2 rfl) (by rfl) G.min boot_min (pa_cons pe_int (pa_cons (pe_callB call_len_seq (by rfl) G.len bt_len (pa_cons (pv 0) pa_nil)) pa_nil))) pa_nil))) pa_nil)) (pg_name (i := 1) scLaw.nd rfl (.inl rfl)) (pss_cons (ps_set (i := 2) scLaw.nd rfl (.inl rfl) (pe_kn CPo hr (by decide) (by rfl) (pa_cons (pv 0) (pa_cons (pv 1) pa_nil))))
      (pss_cons (ps_set (i := 3) scLaw.nd rfl (.inl rfl) (pe_kn CWb hr (by decide) (by rfl) (pa_cons (pv 2) (pa_cons pe_int (pa_cons pe_int pa_nil)))))
      (pss_one (ps_for PassesOwn.never rfl (pi_range1 (by rfl) G.range (pa_cons pe_int pa_nil)) (pg_name (i := 4) scLaw.nd rfl (.inl rfl)) (pss_cons (ps_set (i := 5) scLaw.nd rfl (.inl rfl) (pe_kn CFa hr (by decide) (by rfl) (pa_cons (pv 3) pa_nil)))
      (pss_cons (ps_if (PW.pt (pw_and (pt_cmpR op_gt (pe_callB call_lenD (by rfl) G.len bt_len (pa_cons (pv 3) pa_nil)) pe_int (nomark _)) (pw_and1 (pt_not (pt_val (pe_kn CW hr (by decide) (by rfl) (pa_cons (pv 3) (pa_cons (pv 5) pa_nil)))))))) (pss_one (ps_ret pe_bl)) pss_nil)
      (pss_cons (ps_set (i := 6) scLaw.nd rfl (.inl rfl) (pe_kn CFa hr (by decide) (by rfl) (pa_cons (pe_kn CO hr (by decide) (by rfl) (pa_cons (pv 3) pa_nil)) pa_nil)))
      (pss_cons (ps_if (PW.pt (pw_and (pt_cmpR op_gt (pe_callB call_lenD (by rfl) G.len bt_len (pa_cons (pv 3) pa_nil)) pe_int (nomark _)) (pw_and1 (pt_cmpR (op_neD hr.units) (pv 6) (pe_callB (cr_sortedD encC FcAt hr.units) (by rfl) G.sorted bt_sorted (pa_cons (pe_lc (own := [("_law_face", 7)]) (g := gName 7) (te := tCall spBack [] E0 (tCons (tVar 7) tNil)) (by rfl) scLaw.nd (pi_list (pv 5)) (blkOk_by (own := [("_law_face", 7)]) (N := lawN) (sc := defScope sLaw) (by decide +kernel)) (fun _ _ _ _ _ => pg_name (i := 7) scLaw.nd rfl (Or.inl rfl)) (fun _ _ _ _ _ => pts_nil) (fun _ _ _ _ _ => (pe_kn CBk hr (by decide) (by rfl) (pa_cons (pv 7) pa_nil)))) pa_nil)) (nomark _))))) (pss_one (ps_ret pe_bl)) pss_nil)
      (pss_cons (ps_set (i := 8) scLaw.nd rfl (.inl rfl) pe_non)
      (Evl.pss_cut (ps_if (pt_cmpR op_gt (pe_callB call_lenD (by rfl) G.len bt_len (pa_cons (pv 3) pa_nil)) pe_int (nomark _)) (pss_one (ps_set (i := 8) scLaw.nd rfl (.inl rfl) (pe_kn CNx hr (by decide) (by rfl) (pa_cons (pv 3) (pa_cons (pv 5) (pa_cons (pv 2) pa_nil)))))) pss_nil)
      (pss_one (ps_if (pt_cmpR op_notN (pv 8) pe_non (nomark _)) (pss_cons (ps_asg (pv 8) (pg_tup rfl (pgs_cons (pg_name (i := 9) scLaw.nd rfl (.inl rfl)) (pgs_cons (pg_name (i := 7) scLaw.nd rfl (.inr rfl)) (pgs_cons (pg_name (i := 10) scLaw.nd rfl (.inr rfl)) pgs_nil)))))
      (pss_cons (ps_set (i := 11) scLaw.nd rfl (.inr rfl) (pe_kn CFa hr (by decide) (by rfl) (pa_cons (pv 9) pa_nil)))
      (pss_cons (ps_setLc (i := 12) (own := [("_law_one", 13)]) (g := gName 13) (tt := tTest (tOp (rNotInU K) (tVar 13) (tTup (tCons (tVar 7) (tCons (tVar 10) tNil))))) (te := tVar 13) (by rfl) scLaw.nd rfl rfl (sw_true rfl rfl rfl (by decide +kernel)) (pi_list (pv 5)) (blkOk_by (own := [("_law_one", 13)]) (N := lawN) (sc := defScope sLaw) (by decide +kernel)) (fun _ _ _ _ _ => pg_name (i := 13) scLaw.nd rfl (Or.inl rfl)) (fun _ _ _ _ _ => pts_one (pt_cmpR (op_notInU hu65) (pv 13) (pe_tup (pa_cons (pv 7) (pa_cons (pv 10) pa_nil))) (by rfl))) (fun _ _ _ _ _ => (pv 13)))
      (pss_cons (ps_if (PW.pt (pw_or (pt_cmpR op_ne (pe_callB call_len_seq (by rfl) G.len bt_len (pa_cons (pv 11) pa_nil)) (pe_op op_add (pe_callB call_len_seq (by rfl) G.len bt_len (pa_cons (pv 5) pa_nil)) (pe_ix ix_list (pe_lst (pa_cons (pe_un un_neg pe_int) (pa_cons pe_int pa_nil))) (pe_callTy call_int1 (by rfl) G.int boot_int (pa_cons (pe_cmpR (op_eqD hr.units) (pv 7) (pv 10) (nomark _)) pa_nil)) (fun _ _ => rfl))) (nomark _)) (pw_or1 (pt_cmpR (op_neD hr.units) (pe_kn CFa hr (by decide) (by rfl) (pa_cons (pv 3) pa_nil)) (pv 5) (nomark _))))) (pss_one (ps_ret pe_bl)) pss_nil)
      (pss_cons (ps_if (pt_cmpR (op_neD hr.units) (pe_lc (own := [("_law_one", 13)]) (g := gName 13) (tt := tTest (tOp (rNotInD K) (tVar 13) (tVar 11))) (te := tVar 13) (by rfl) scLaw.nd (pi_list (pv 12)) (blkOk_by (own := [("_law_one", 13)]) (N := lawN) (sc := defScope sLaw) (by decide +kernel)) (fun _ _ _ _ _ => pg_name (i := 13) scLaw.nd rfl (Or.inl rfl)) (fun _ _ _ _ _ => pts_one (pt_cmpR (op_notInD hu65) (pv 13) (pv 11) (by rfl))) (fun _ _ _ _ _ => (pv 13))) (pe_lst pa_nil) (nomark _)) (pss_one (ps_ret pe_bl)) pss_nil)
      (pss_one (ps_set (i := 3) scLaw.nd rfl (.inl rfl) (pv 9)))))))) pss_nil)))))))))))))
      (pss_one (ps_ret pe_bl))), ?_⟩
    -- for k in range(max(1, min(6, len(script))))
    have bnd : ∀ l : Int, -(2 ^ 62) ≤ (if (if l < 6 then l else 6) > 1 then (if l < 6 then l else 6) else 1) ∧ (if (if l < 6 then l else 6) > 1 then (if l < 6 then l else 6) else 1) < 2 ^ 62 ∧ (if (if l < 6 then l else 6) > 1 then (if l < 6 then l else 6) else 1) ≤ 6 := fun l => by
      split <;> split <;> omega
    refine ⟨.ref a, rfl, a, _, rfl, .inl hS, 6, _, rfl, 1, _, rfl, _, rfl, (bnd _).1, (bnd _).2.1, for_range (lo := 0) (n := _) (fun i σ H1 => ∃ (y1 y2 y3 y4 y5 y6 y7 y8 y9 y10 y11 y12 : Option V), σ = [some (.ref a), y1, y2, y3, y4, y5, y6, y7, y8, y9, y10, y11, y12, none] ∧ Same H H1)
      ⟨none, none, none, none, none, none, none, none, none, none, none, none, rfl, Same.refl _⟩ ?_ (fun σ H1 _ => q H1)⟩
    rintro i σ H1 hi ⟨y1, y2, y3, y4, y5, y6, y7, y8, y9, y10, y11, y12, rfl, s1⟩
    have hi6 : (i : Int) ≤ 6 := by
      have := (bnd ((sc.map V.int).length : Int)).2.2
      omega
    -- the pool, the web
    refine ⟨.ref a, rfl, .int (0 + i), rfl, a, sc, 0 + i, rfl, s1.seq hS, by omega, by omega, fun p H2 s2 hp2 np2 => ?_⟩
    have npH : H p = none := s1.free np2
    have s12 := s1.trans s2
    refine ⟨.ref p, rfl, p, rfl, hp2, fun aw H3 ns pl d3 hW3 h1 h10 Va Dr => ?_⟩
    have s3 := same_drew s12 npH d3
    refine ⟨3, rfl, by decide, by decide, for_range (lo := 0) (n := (3 : Int).toNat) (fun j σ H4 => ∃ (aw : Addr) (ns : List Int) (pl : Int → Int × List Ed) (y4 y5 y6 y7 y8 y9 y10 y11 y12 : Option V), σ = [some (.ref a), some (.int (0 + i)), some (.ref p), some (.ref aw), y4, y5, y6, y7, y8, y9, y10, y11, y12, none] ∧ Same H H4 ∧ PoolAt H4 p ∧
      WebAt H4 aw ns pl ∧ 1 ≤ ns.length ∧ ns.length ≤ 10 ∧ Valid ns (nbOf pl) ∧ (2 ≤ ns.length → Drawn ns (nbOf pl))) ⟨aw, ns, pl, y4, y5, y6, y7, y8, y9, y10, y11, y12, rfl, s3, d3.pool, hW3, h1, h10, Va, Dr⟩ ?_ ?_⟩
    · rintro j σ H4 hj ⟨aw, ns, pl, y4, y5, y6, y7, y8, y9, y10, y11, y12, rfl, s4, hp4, hW4, h1, h10, Va, Dr⟩
      -- faces
      refine ⟨.ref aw, rfl, aw, ns, pl, rfl, hW4, Va, by omega, fun vF H5 L s5 hF5 hT5 => ?_⟩
      have hW5 := hW4.same s5
      obtain ⟨kvs5, hk5, hkl5, _⟩ := hW5.len
      have VaR : Valid ns (nbOf (rvP pl)) := by
        rw [rvP_nb]
        exact rvs_valid Va
      by_cases h2 : 2 ≤ ns.length
      · have Dr2 := Dr h2
        have hIF : IsFaces (Dart (nbOf pl)) (nxt (nbOf pl)) L := by
          rcases hT5 with ⟨h, _⟩ | ⟨_, h⟩
          · omega
          · exact h
        have big : (1 : Int) < (kvs5.length : Int) := by omega
        have lenD := darts_small Va (show ns.length < 64 by omega)
        have lenF : L.flatten.length ≤ (darts ns (nbOf pl)).length := run_len Va hIF.dec.nd fun p hp => (hIF.dec.mem p).mp hp
        have lenL : L.length ≤ L.flatten.length := flat_len fun c hc => cyc_ne (hIF.dec.cyc c hc)
        have lenC : ∀ c, c ∈ L → c.length ≤ 4096 := fun c hc => by
          have h2 := run_len Va (nd_part hIF.dec.nd c hc) fun p hp => hIF.dec.of hc hp
          omega
        -- not walked
        refine ⟨.ref aw, rfl, aw, kvs5, rfl, hk5, _, 1, rfl, rfl, _, rfl, iteD big ?_⟩
        refine ⟨.ref aw, rfl, vF, rfl, aw, vF, L, ns, pl, rfl, hW5, hF5, Dr2, hIF, h2, by omega, fun H6 s6 => ⟨true, rfl, iteF ?_⟩⟩
        have s56 := s5.trans s6
        have hW6 := hW4.same s56
        -- back
        refine ⟨.ref aw, rfl, aw, ns, pl, rfl, hW6, Va.nd, by omega, fun ab H7 s7 hW7 => ?_⟩
        refine ⟨ab, ns, rvP pl, rfl, hW7, VaR, by omega, fun vB H8 LB s8 hFB hTB => ?_⟩
        have s58 := s56.trans (s7.trans s8)
        have hk8 := (s6.trans (s7.trans s8)) _ _ hk5
        refine ⟨.ref aw, rfl, aw, kvs5, rfl, hk8, _, 1, rfl, rfl, _, rfl, iteD big ?_⟩
        obtain ⟨lF, xF, rfl, hlF, haF⟩ := hF5
        have s68 := s6.trans (s7.trans s8)
        have hlF8 := s68 _ _ hlF
        have haF8 := haF.up mono_fc (Keep.of s68)
        refine ⟨vB, rfl, .ref lF, rfl, lF, rfl, ⟨xF, sql hlF8⟩, fun D nD => ?_⟩
        have lFD : lF ≠ D := ne_of_none hlF8 nD
        refine lc_list (K := K) (a := lF) (xs := xF) (fun i H' => ∃ (zs : List V) (Ms : List (List Pr)), Same H8 H' ∧ H' D = some (.lst zs) ∧ All2 (FcAt H') zs Ms ∧ All2 TurnedBack (L.take i) Ms) ⟨[], [], same_new nD, upd_same, .nil, .nil⟩ (fun i H' _ ⟨_, _, s9, _⟩ => sql (s9 _ _ hlF8)) ?_ ?_
        · rintro i' x H' hx ⟨zs, Ms, s9, hD, hz, hM⟩
          obtain ⟨c, hc, hfc⟩ := haF8.at' hx
          have hcL : c ∈ L := List.mem_of_getElem? hc
          refine ⟨rfl, x, rfl, x, c, rfl, mono_fc _ _ _ _ (Keep.of s9) hfc, cyc_ne (hIF.dec.cyc c hcL), by have := lenC c hcL; omega, fun v' H'' d s10 hfd htb _ => ?_⟩
          have hD2 := s10 _ _ hD
          have hz2 := hz.up mono_fc (Keep.of s10)
          have ml := hM.len
          rw [List.length_take] at ml
          have hnd' : d ≠ [] := by
            obtain ⟨s', x', t', _, e, _⟩ := htb
            rw [e]
            simp
          have hne : ∀ d, d ∈ Ms → d ≠ [] := fun d hd' => by
            obtain ⟨c, _, s', x', t', _, e, _⟩ := hM.right d hd'
            rw [e]
            simp
          refine ⟨zs, hD2, smallLt (m := 5000) (by rw [hz.len]; omega) (by decide), zs ++ [v'], Ms ++ [d], same_own (s9.trans s10) nD, upd_same, ?_, ?_⟩
          · refine All2.mono (R := fun v c => FcAt H'' v c ∧ c ≠ []) (fun v c h => fc_found hD2 hz2 h.2 h.1) ?_
            exact All2.snoc (hz2.memR.mono fun v c h => ⟨h.1, hne c h.2.2⟩) ⟨hfd, hnd'⟩
          · rw [take_succ hc]
            exact hM.snoc htb
        · rintro H9 ⟨zs, Ms, s9, hD, hz, hM⟩
          rw [haF.len, List.take_of_length_le (Nat.le_refl _)] at hM
          refine ⟨D, zs, Ms, rfl, sql hD, hz, hz.mono fun _ _ => fc_dp, PySem.W.AllAlike.of encC_alike, sortC Ms, fun b _ => Nat.le_trans (encC_depth b) (by decide), fun ys pq hy npq => ?_⟩
          have s10 := same_new (o := .lst ys) npq
          have s8a := s9.trans s10
          have hLB : LB = Ms.mergeSort (PySem.W.dataLe false encC) := by
            have hB : IsFaces (Dart (nbOf (rvP pl))) (nxt (nbOf (rvP pl))) LB := by
              rcases hTB with ⟨h, _⟩ | ⟨_, h⟩
              · omega
              · exact h
            rw [rvP_nb] at hB
            exact hB.unique (back_told Va hIF hM)
          refine ⟨encF LB, encF (Ms.mergeSort (PySem.W.dataLe false encC)), fs_dp (mono_fs _ _ _ _ (Keep.of s8a) hFB), fs_dp ⟨pq, ys, rfl, upd_same, hy.up mono_fc (Keep.of s10)⟩, encF_shaped _, encF_shaped _, _, rfl, ?_⟩
          rw [encF_eqv, decide_eq_true hLB]
          refine iteF ?_
          have s510 := s58.trans s8a
          have hW10 := hW4.same s510
          have hk10 := s8a _ _ hk8
          have hlF10 := s8a _ _ hlF8
          have haF10 := haF8.up mono_fc (Keep.of s8a)
          have hp10 := hp4.same s510
          have hnsne : ns ≠ [] := fun e => by
            rw [e] at h2
            simp at h2
          -- told
          refine ⟨fun σ' H' => ∃ v8 : V, σ' = [some (.ref a), some (.int (0 + i)), some (.ref p), some (.ref aw), some (.int (0 + j)), some (.ref lF), some vB, y7, some v8, y9, y10, y11, y12, none] ∧ Drew p (upd H9 pq (.lst ys)) H' ∧
            (v8 = .non ∨ ∃ (t a' : Addr) (vf vt : V) (c1 c2 : List Pr) (p1 p2 : Pr) (pl' : Int → Int × List Ed) (i' j' : Nat), v8 = .ref t ∧ H' t = some (.tup [.ref a', vf, vt]) ∧ WebAt H' a' ns pl' ∧ FcAt H' vf c1 ∧ FcAt H' vt c2 ∧ c1 ∈ L ∧ c2 ∈ L ∧ p1 ∈ c1 ∧ p2 ∈ c2 ∧ p1.1 ≠ p2.1 ∧
              p2.1 ∉ nbOf pl p1.1 ∧ nbOf pl' = put (nbOf pl) p1.1 i' p2.1 j' ∧ Ahead (nbOf pl p1.1) i' p1.2 ∧ Ahead (nbOf pl p2.1) j' p2.2), ?_, ?_⟩
          · refine ⟨.ref aw, rfl, aw, kvs5, rfl, hk10, _, 1, rfl, rfl, _, rfl, iteD big ?_⟩
            refine ⟨.ref aw, rfl, .ref lF, rfl, .ref p, rfl, aw, .ref lF, p, L, ns, pl, rfl, hW10, ⟨lF, xF, rfl, hlF10, haF10⟩, hp10, Dr2, hnsne, hIF, by omega, fun H' d => ⟨.non, rfl, d, .inl rfl⟩, fun t a' vf vt c1 c2 p1 p2 pl' i' j' H' d b1 b2 b3 b4 b5 b6 b7 b8 b9 b10 b11 b12 b13 => ⟨.ref t, rfl, d, .inr ⟨t, a', vf, vt, c1, c2, p1, p2, pl', i', j', rfl, b1, b2, b3, b4, b5, b6, b7, b8, b9, b10, b11, b12, b13⟩⟩⟩
          · rintro σ' H11 ⟨v8, rfl, d11, hv8⟩
            have s4x : Same H (upd H9 pq (.lst ys)) := s4.trans s510
            have s411 := same_drew s4x npH d11
            have hW11 := hW10.drew hp10 d11
            rcases hv8 with rfl | ⟨t, a', vf, vt, c1, c2, p1, p2, pl', i', j', rfl, b1, b2, b3, b4, b5, b6, b7, b8, b9, b10, b11, b12, b13⟩
            · refine ⟨.non, rfl, rfl, _, rfl, ?_⟩
              rw [decide_eq_true rfl]
              exact iteF ⟨aw, ns, pl, _, _, _, _, _, _, _, _, _, rfl, s411, d11.pool, hW11, h1, h10, Va, Dr⟩
            · refine ⟨.ref t, rfl, rfl, _, rfl, iteNF (fun e => by cases e) ?_⟩
              have k11 := d11.keep hp10
              have haF11 := haF10.up mono_fc k11
              have hlF11 : H11 lF = some (.lst xF) := k11.lst _ _ (fun v hv => by
                obtain ⟨c, _, q⟩ := haF10.left v hv
                exact refs_row _ _ _ q) hlF10
              -- later, face, there
              refine ⟨.ref t, rfl, t, _, rfl, sqt b1, rfl, _, _, rfl, _, _, rfl, _, _, rfl, rfl, ?_⟩
              have n1 : p1.1 ∈ ns := Va.inn (hIF.dec.of b5 b7)
              have n2 : p2.1 ∈ ns := Va.inn (hIF.dec.of b6 b8)
              have Va' : Valid ns (nbOf pl') := by
                rw [b11]
                exact put_valid Va n1 n2 b9 b10
              have Dr' : Drawn ns (nbOf pl') := by
                rw [b11]
                exact Dr2.tie n1 n2 b9 b10 i' j'
              -- more
              refine ⟨.ref a', rfl, a', ns, pl', rfl, b2, Va', by omega, fun vM H12 M s12' hFM hTM => ?_⟩
              have hIM : IsFaces (Dart (put (nbOf pl) p1.1 i' p2.1 j')) (nxt (put (nbOf pl) p1.1 i' p2.1 j')) M := by
                rcases hTM with ⟨h, _⟩ | ⟨_, h⟩
                · omega
                · rw [b11] at h
                  exact h
              obtain ⟨tf1, tf2, tf3⟩ := tie_faces Va n1 n2 b9 b10 b12 b13 hIF hIM b5 b7 b6 b8
              have haF12 := haF11.up mono_fc (Keep.of s12')
              have hlF12 := s12' _ _ hlF11
              have b3' := mono_fc _ _ _ _ (Keep.of s12') b3
              have b4' := mono_fc _ _ _ _ (Keep.of s12') b4
              -- kept
              refine ⟨.ref lF, rfl, lF, rfl, ⟨xF, sql hlF12⟩, fun D2 nD2 => ?_⟩
              refine lc_list (K := K) (a := lF) (xs := xF) (fun k H' => ∃ (zs : List V), Same H12 H' ∧ H' D2 = some (.lst zs) ∧ All2 (FcAt H') zs ((L.take k).filter fun c => !(decide (c1 = c) || decide (c2 = c)))) ⟨[], same_new nD2, upd_same, .nil⟩ (fun k H' _ ⟨_, s13, _⟩ => sql (s13 _ _ hlF12)) ?_ ?_
              · rintro k x H' hx ⟨zs, s13, hD2, hz⟩
                obtain ⟨c, hc, hfc⟩ := haF12.at' hx
                refine ⟨rfl, x, rfl, vf, rfl, vt, rfl, by show 2 ≤ sizeLine; decide, fun u nu => ?_⟩
                have su := same_new (o := .tup [vf, vt]) nu
                have s14 := s13.trans su
                have hcx := mono_fc _ _ _ _ (Keep.of s14) hfc
                refine ⟨encC c, [encC c1, encC c2], fc_dp hcx, .tup (sqt upd_same) (.cons (fc_dp (mono_fc _ _ _ _ (Keep.of s14) b3')) (.cons (fc_dp (mono_fc _ _ _ _ (Keep.of s14) b4')) .nil)), encC_shaped _, shaped_pair c1 c2, _, rfl, ?_⟩
                have e : ([encC c1, encC c2].any fun z => PyData.eqv z (encC c)) = (decide (c1 = c) || decide (c2 = c)) := by
                  simp only [List.any_cons, List.any_nil, encC_eqv, Bool.or_false]
                rw [e]
                have hD3 := su _ _ hD2
                have hz3 := hz.up mono_fc (Keep.of su)
                have fl : ((L.take k).filter fun c => !(decide (c1 = c) || decide (c2 = c))).length ≤ L.length := Nat.le_trans (List.length_filter_le _ _) (by rw [List.length_take]; exact Nat.min_le_right _ _)
                cases hb : (decide (c1 = c) || decide (c2 = c)) with
                | true =>
                  refine iteF ⟨zs, s14, hD3, ?_⟩
                  rw [take_succ hc, List.filter_append]
                  have e3 : ([c].filter fun c => !(decide (c1 = c) || decide (c2 = c))) = [] := List.filter_cons_of_neg (show ¬ (!(decide (c1 = c) || decide (c2 = c))) = true by rw [hb]; exact Bool.false_ne_true)
                  rw [e3, List.append_nil]
                  exact hz3
                | false =>
                  refine iteT ⟨x, rfl, zs, hD3, smallLt (m := 5000) (by rw [hz.len]; omega) (by decide), zs ++ [x], same_own s14 nD2, upd_same, ?_⟩
                  rw [take_succ hc, List.filter_append]
                  have e3 : ([c].filter fun c => !(decide (c1 = c) || decide (c2 = c))) = [c] := List.filter_cons_of_pos (show (!(decide (c1 = c) || decide (c2 = c))) = true by rw [hb]; rfl)
                  rw [e3]
                  refine All2.mono (R := fun v c => FcAt (upd H' u (.tup [vf, vt])) v c ∧ c ≠ []) (fun v c h => fc_found hD3 hz3 h.2 h.1) ?_
                  exact All2.snoc (hz3.memR.mono fun v c h => ⟨h.1, cyc_ne (hIF.dec.cyc c (List.mem_of_mem_take (List.mem_filter.mp h.2.2).1))⟩) ⟨hcx, cyc_ne (hIF.dec.cyc c (List.mem_of_getElem? hc))⟩
              · rintro H13 ⟨zs, s13, hD2, hz⟩
                rw [haF.len, List.take_of_length_le (Nat.le_refl _)] at hz
                -- as many as told; the elder web's faces
                obtain ⟨lM, xM, rfl, hlM, haM⟩ := hFM
                have hlM13 := s13 _ _ hlM
                have haM13 := haM.up mono_fc (Keep.of s13)
                have hlF13 := s13 _ _ hlF12
                have haF13 := haF12.up mono_fc (Keep.of s13)
                refine ⟨.ref lM, rfl, lM, xM, rfl, .inl (sql hlM13), .ref lF, rfl, lF, xF, rfl, .inl (sql hlF13), 1, rfl, by show 2 ≤ sizeLine; decide, fun u nu => ?_⟩
                have su := same_new (o := .lst [.int (-1), .int 1]) nu
                have s14 := s13.trans su
                refine ⟨vf, rfl, vt, rfl, encC c1, encC c2, fc_dp (mono_fc _ _ _ _ (Keep.of s14) b3'), fc_dp (mono_fc _ _ _ _ (Keep.of s14) b4'), encC_shaped _, encC_shaped _, .inr ⟨_, rfl, ?_⟩⟩
                rw [encC_eqv]
                refine ⟨u, _, _, _, rfl, rfl, sql upd_same, at2 _ _ _, _, _, rfl, rfl, rfl, _, rfl, ?_⟩
                rw [int_dec]
                have cnt : ((xM.length : Nat) : Int) = ((xF.length : Nat) : Int) + (if decide (c1 = c2) = true then 1 else -1) := by
                  rw [haM.len, haF.len]
                  by_cases e : c1 = c2
                  · rw [if_pos (decide_eq_true e)]
                    have := tf1 e
                    omega
                  · rw [if_neg (by rw [decide_eq_false e]; exact Bool.false_ne_true)]
                    have := tf2 e
                    omega
                rw [decide_eq_true cnt]
                refine iteF ?_
                have hW14 := hW11.same (s12'.trans s14)
                refine ⟨.ref aw, rfl, aw, ns, pl, rfl, hW14, Va, by omega, fun vF2 H15 L2 s15 hF2 hT2 => ?_⟩
                have hL2 : L2 = L := by
                  rcases hT2 with ⟨h, _⟩ | ⟨_, h⟩
                  · omega
                  · exact h.unique hIF
                have s1315 := su.trans s15
                refine ⟨.ref lF, rfl, encF L2, encF L, fs_dp hF2, fs_dp ⟨lF, xF, rfl, s1315 _ _ hlF13, haF13.up mono_fc (Keep.of s1315)⟩, encF_shaped _, encF_shaped _, _, rfl, ?_⟩
                rw [encF_eqv, decide_eq_true hL2]
                refine iteF ?_
                -- all other faces as they were
                have hD15 := s1315 _ _ hD2
                have hz15 := hz.up mono_fc (Keep.of s1315)
                refine ⟨.ref D2, rfl, D2, rfl, ⟨zs, sql hD15⟩, fun D3 nD3 => ?_⟩
                refine lc_list (K := K) (a := D2) (xs := zs) (fun k H' => Same H15 H' ∧ H' D3 = some (.lst [])) ⟨same_new nD3, upd_same⟩ (fun k H' _ ⟨s16, _⟩ => sql (s16 _ _ hD15)) ?_ ?_
                · rintro k x H' hx ⟨s16, hD3⟩
                  obtain ⟨c, hc, hfc⟩ := hz15.at' hx
                  have hcm := List.mem_filter.mp (List.mem_of_getElem? hc)
                  have hcL : c ∈ L := hcm.1
                  have hcn : ¬ (c1 = c) ∧ ¬ (c2 = c) := by
                    have q := hcm.2
                    by_cases e1 : c1 = c
                    · simp [e1] at q
                    · by_cases e2 : c2 = c
                      · simp [e2] at q
                      · exact ⟨e1, e2⟩
                  have hcM : c ∈ M := tf3 c hcL (fun e => hcn.1 e.symm) (fun e => hcn.2 e.symm)
                  have s13k := (s1315.trans s16)
                  refine ⟨rfl, x, rfl, .ref lM, rfl, encC c, M.map encC, fc_dp (mono_fc _ _ _ _ (Keep.of s16) hfc), fs_dp ⟨lM, xM, rfl, s13k _ _ hlM13, haM13.up mono_fc (Keep.of s13k)⟩, encC_shaped _, encF_shaped M, _, rfl, ?_⟩
                  rw [any_in, decide_eq_true hcM]
                  exact iteF ⟨s16, hD3⟩
                · rintro H16 ⟨s16, hD3⟩
                  refine ⟨Nat.zero_le _, fun e0 ne0 => ?_⟩
                  have s17 := same_new (o := .lst []) ne0
                  refine ⟨encF [], encF [], .lst (sql (s17 _ _ hD3)) .nil, .lst (sql upd_same) .nil, encF_shaped _, encF_shaped _, _, rfl, ?_⟩
                  rw [encF_eqv, decide_eq_true rfl]
                  have sz := ((s12'.trans s14).trans s15).trans (s16.trans s17)
                  exact iteF ⟨.ref a', rfl, a', ns, pl', _, _, _, _, _, _, _, _, _, rfl, s411.trans sz, d11.pool.same sz, b2.same sz, h1, h10, Va', fun _ => Dr'⟩
      · -- one place
        have small1 : ¬ (1 : Int) < (kvs5.length : Int) := by omega
        refine ⟨.ref aw, rfl, aw, kvs5, rfl, hk5, _, 1, rfl, rfl, _, rfl, iteDF small1 (iteF ?_)⟩
        refine ⟨.ref aw, rfl, aw, ns, pl, rfl, hW5, Va.nd, by omega, fun ab H7 s7 hW7 => ?_⟩
        refine ⟨ab, ns, rvP pl, rfl, hW7, VaR, by omega, fun vB H8 LB s8 hFB hTB => ?_⟩
        have s58 := s7.trans s8
        have hk8 := s58 _ _ hk5
        refine ⟨.ref aw, rfl, aw, kvs5, rfl, hk8, _, 1, rfl, rfl, _, rfl, iteDF small1 (iteF ?_)⟩
        refine ⟨fun σ' H' => σ' = [some (.ref a), some (.int (0 + i)), some (.ref p), some (.ref aw), some (.int (0 + j)), some vF, some vB, y7, some .non, y9, y10, y11, y12, none] ∧ H' = H8, ?_, ?_⟩
        · exact ⟨.ref aw, rfl, aw, kvs5, rfl, hk8, _, 1, rfl, rfl, _, rfl, iteDF small1 ⟨rfl, rfl⟩⟩
        · rintro σ' H' ⟨rfl, rfl⟩
          refine ⟨.non, rfl, rfl, _, rfl, ?_⟩
          rw [decide_eq_true rfl]
          have sz := s5.trans s58
          exact iteF ⟨aw, ns, pl, _, _, _, _, _, _, _, _, _, rfl, s4.trans sz, hp4.same sz, hW4.same sz, h1, h10, Va, Dr⟩
    · rintro σ H4 ⟨aw, ns, pl, y4, y5, y6, y7, y8, y9, y10, y11, y12, rfl, s4, _⟩
      exact ⟨_, _, _, _, _, _, _, _, _, _, _, _, rfl, s4⟩
end
end Wd
set_option maxHeartbeats 0

-- part WdZ
namespace Wd
open PySem PySem.Spec PyProof.Rows L2
/-! ## The end: every def by its name, and the law -/
theorem law_facts {P : Program} {w : World} {K : PySem.W.Frag} {h : Heap} {mg : Str → Option Value} {f : Addr} (X : K.In h) (Gn : h.Ns mainGlobals mg) (hfa : mg ("law" : Str) = some (.ref f)) (c : He.SaysD faList fnList K) :
    ∃ fd : FuncData, (∀ (s : Shared) (v : Value), BindsTo s fd ⟨[v], []⟩ [("_law_script", v)]) ∧ ∀ base : Heap, K.In base → base.Ns mainGlobals mg → FnOk P w K mg base CX0 7 f fd ["_law_script"] (spLaw K) := by
  have G : Glb mg := ⟨He.free_ok X Gn (c.fact 24 (f := .free "sorted") rfl), He.free_ok X Gn (c.fact 25 (f := .free "len") rfl), He.free_ok X Gn (c.fact 26 (f := .free "range") rfl), He.free_ok X Gn (c.fact 27 (f := .free "dict") rfl), He.free_ok X Gn (c.fact 28 (f := .free "list") rfl), He.free_ok X Gn (c.fact 29 (f := .free "int") rfl), He.free_ok X Gn (c.fact 30 (f := .free "max") rfl), He.free_ok X Gn (c.fact 31 (f := .free "min") rfl)⟩
  obtain ⟨fd0, F0⟩ := c.def_ 0 (d := dd "names_of" sNames) rfl
  have k0 : ∀ base : Heap, Kn P w K mg base 1 "names_of" spNames := fun base => ⟨⟨_, fd0, _, ok_names F0 G, He.glo_ok X Gn (c.fact 0 (f := .glo "names_of") rfl), F0.kp, F0.bindsN fun _ _ _ _ _ _ us hl => match us, hl with | [_], _ => rfl⟩⟩
  obtain ⟨fd1, F1⟩ := c.def_ 1 (d := dd "ties_of" sTies) rfl
  have k1 : ∀ base : Heap, Kn P w K mg base 2 "ties_of" spTies := fun base => ⟨⟨_, fd1, _, ok_ties F1 G (k0 base), He.glo_ok X Gn (c.fact 1 (f := .glo "ties_of") rfl), F1.kp, F1.bindsN fun _ _ _ _ _ _ us hl => match us, hl with | [_], _ => rfl⟩⟩
  obtain ⟨fd2, F2⟩ := c.def_ 2 (d := dd "neighbours_of" sNeigh) rfl
  have k2 : ∀ base : Heap, Kn P w K mg base 1 "neighbours_of" spNeigh := fun base => ⟨⟨_, fd2, _, ok_neigh F2, He.glo_ok X Gn (c.fact 2 (f := .glo "neighbours_of") rfl), F2.kp, F2.bindsN fun _ _ _ _ _ _ us hl => match us, hl with | [_, _], _ => rfl⟩⟩
  obtain ⟨fd3, F3⟩ := c.def_ 3 (d := dd "pair_behind" sBehind) rfl
  have k3 : ∀ base : Heap, Kn P w K mg base 2 "pair_behind" spBehind := fun base => ⟨⟨_, fd3, _, ok_behind F3 G (k2 base), He.glo_ok X Gn (c.fact 3 (f := .glo "pair_behind") rfl), F3.kp, F3.bindsN fun _ _ _ _ _ _ us hl => match us, hl with | [_, _], _ => rfl⟩⟩
  obtain ⟨fd4, F4⟩ := c.def_ 4 (d := dd "face_from" sFace) rfl
  have k4 : ∀ base : Heap, Kn P w K mg base 3 "face_from" spFace := fun base => ⟨⟨_, fd4, _, ok_face F4 (k3 base), He.glo_ok X Gn (c.fact 4 (f := .glo "face_from") rfl), F4.kp, F4.bindsN fun _ _ _ _ _ _ us hl => match us, hl with | [_, _], _ => rfl⟩⟩
  obtain ⟨fd5, F5⟩ := c.def_ 5 (d := dd "faces_of" sFaces) rfl
  have k5 : ∀ base : Heap, Kn P w K mg base 4 "faces_of" spFaces := fun base => ⟨⟨_, fd5, _, ok_faces F5 G (k0 base) (k2 base) (k4 base), He.glo_ok X Gn (c.fact 5 (f := .glo "faces_of") rfl), F5.kp, F5.bindsN fun _ _ _ _ _ _ us hl => match us, hl with | [_], _ => rfl⟩⟩
  obtain ⟨fd6, F6⟩ := c.def_ 6 (d := dd "is_ball" sBall) rfl
  have k6 : ∀ base : Heap, Kn P w K mg base 5 "is_ball" spBall := fun base => ⟨⟨_, fd6, _, ok_ball F6 G (k1 base) (k5 base), He.glo_ok X Gn (c.fact 6 (f := .glo "is_ball") rfl), F6.kp, F6.bindsN fun _ _ _ _ _ _ us hl => match us, hl with | [_], _ => rfl⟩⟩
  obtain ⟨fd7, F7⟩ := c.def_ 7 (d := dd "_law_cell_at" sCell) rfl
  have k7 : ∀ base : Heap, Kn P w K mg base 1 "_law_cell_at" (spCell K) := fun base => ⟨⟨_, fd7, _, ok_cell F7 G, He.glo_ok X Gn (c.fact 7 (f := .glo "_law_cell_at") rfl), F7.kp, F7.bindsN fun _ _ _ _ _ _ us hl => match us, hl with | [_, _], _ => rfl⟩⟩
  obtain ⟨fd8, F8⟩ := c.def_ 8 (d := dd "_law_pool" sPool) rfl
  have k8 : ∀ base : Heap, Kn P w K mg base 2 "_law_pool" (spPool K) := fun base => ⟨⟨_, fd8, _, ok_pool F8 (k7 base), He.glo_ok X Gn (c.fact 8 (f := .glo "_law_pool") rfl), F8.kp, F8.bindsN fun _ _ _ _ _ _ us hl => match us, hl with | [_, _], _ => rfl⟩⟩
  obtain ⟨fd9, F9⟩ := c.def_ 9 (d := dd "_law_take" sTake) rfl
  have k9 : ∀ base : Heap, Kn P w K mg base 1 "_law_take" spTake := fun base => ⟨⟨_, fd9, _, ok_take F9, He.glo_ok X Gn (c.fact 9 (f := .glo "_law_take") rfl), F9.kp, F9.bindsN fun _ _ _ _ _ _ us hl => match us, hl with | [_, _], _ => rfl⟩⟩
  obtain ⟨fd10, F10⟩ := c.def_ 10 (d := dd "_law_names" sLNames) rfl
  have k10 : ∀ base : Heap, Kn P w K mg base 2 "_law_names" spLNames := fun base => ⟨⟨_, fd10, _, ok_lnames F10 G (k9 base), He.glo_ok X Gn (c.fact 10 (f := .glo "_law_names") rfl), F10.kp, F10.bindsN fun _ _ _ _ _ _ us hl => match us, hl with | [_, _], _ => rfl⟩⟩
  obtain ⟨fd11, F11⟩ := c.def_ 11 (d := dd "_law_link" sLink) rfl
  have k11 : ∀ base : Heap, Kn P w K mg base 2 "_law_link" spLink := fun base => ⟨⟨_, fd11, _, ok_link F11 G (k9 base), He.glo_ok X Gn (c.fact 11 (f := .glo "_law_link") rfl), F11.kp, F11.bindsN fun _ _ _ _ _ _ us hl => match us, hl with | [_, _, _, _, _], _ => rfl⟩⟩
  obtain ⟨fd12, F12⟩ := c.def_ 12 (d := dd "_law_told" sTold) rfl
  have k12 : ∀ base : Heap, Kn P w K mg base 2 "_law_told" spTold := fun base => ⟨⟨_, fd12, _, ok_told F12 (k9 base), He.glo_ok X Gn (c.fact 12 (f := .glo "_law_told") rfl), F12.kp, F12.bindsN fun _ _ _ _ _ _ us hl => match us, hl with | [_, _, _], _ => rfl⟩⟩
  obtain ⟨fd13, F13⟩ := c.def_ 13 (d := dd "_law_web" sWeb) rfl
  have k13 : ∀ base : Heap, Kn P w K mg base 3 "_law_web" spWeb := fun base => ⟨⟨_, fd13, _, ok_web F13 G (k9 base) (k10 base) (k11 base) (k12 base), He.glo_ok X Gn (c.fact 13 (f := .glo "_law_web") rfl), F13.kp, F13.bindsN fun _ _ _ _ _ _ us hl => match us, hl with | [_, _, _], _ => rfl⟩⟩
  obtain ⟨fd14, F14⟩ := c.def_ 14 (d := dd "_law_copy" sCopy) rfl
  have k14 : ∀ base : Heap, Kn P w K mg base 1 "_law_copy" spCopy := fun base => ⟨⟨_, fd14, _, ok_copy F14 G, He.glo_ok X Gn (c.fact 14 (f := .glo "_law_copy") rfl), F14.kp, F14.bindsN fun _ _ _ _ _ _ us hl => match us, hl with | [_], _ => rfl⟩⟩
  obtain ⟨fd15, F15⟩ := c.def_ 15 (d := dd "_law_ties" sLTies) rfl
  have k15 : ∀ base : Heap, Kn P w K mg base 1 "_law_ties" spTies := fun base => ⟨⟨_, fd15, _, ok_lties F15 G, He.glo_ok X Gn (c.fact 15 (f := .glo "_law_ties") rfl), F15.kp, F15.bindsN fun _ _ _ _ _ _ us hl => match us, hl with | [_], _ => rfl⟩⟩
  obtain ⟨fd16, F16⟩ := c.def_ 16 (d := dd "_law_pairs" sPairs) rfl
  have k16 : ∀ base : Heap, Kn P w K mg base 1 "_law_pairs" spPairs := fun base => ⟨⟨_, fd16, _, ok_pairs F16 G, He.glo_ok X Gn (c.fact 16 (f := .glo "_law_pairs") rfl), F16.kp, F16.bindsN fun _ _ _ _ _ _ us hl => match us, hl with | [_], _ => rfl⟩⟩
  obtain ⟨fd17, F17⟩ := c.def_ 17 (d := dd "_law_flat" sFlat) rfl
  have k17 : ∀ base : Heap, Kn P w K mg base 1 "_law_flat" spFlat := fun base => ⟨⟨_, fd17, _, ok_flat F17 G, He.glo_ok X Gn (c.fact 17 (f := .glo "_law_flat") rfl), F17.kp, F17.bindsN fun _ _ _ _ _ _ us hl => match us, hl with | [_], _ => rfl⟩⟩
  obtain ⟨fd18, F18⟩ := c.def_ 18 (d := dd "_law_walked" sWalked) rfl
  have k18 : ∀ base : Heap, Kn P w K mg base 6 "_law_walked" spWalked := fun base => ⟨⟨_, fd18, _, ok_walked F18 G (k16 base) (k17 base) (k3 base) (k15 base) (k6 base), He.glo_ok X Gn (c.fact 18 (f := .glo "_law_walked") rfl), F18.kp, F18.bindsN fun _ _ _ _ _ _ us hl => match us, hl with | [_, _], _ => rfl⟩⟩
  obtain ⟨fd19, F19⟩ := c.def_ 19 (d := dd "_law_other_way" sOther) rfl
  have k19 : ∀ base : Heap, Kn P w K mg base 1 "_law_other_way" spOther := fun base => ⟨⟨_, fd19, _, ok_other F19 G, He.glo_ok X Gn (c.fact 19 (f := .glo "_law_other_way") rfl), F19.kp, F19.bindsN fun _ _ _ _ _ _ us hl => match us, hl with | [_], _ => rfl⟩⟩
  obtain ⟨fd20, F20⟩ := c.def_ 20 (d := dd "_law_backward" sBack) rfl
  have k20 : ∀ base : Heap, Kn P w K mg base 1 "_law_backward" spBack := fun base => ⟨⟨_, fd20, _, ok_back F20 G, He.glo_ok X Gn (c.fact 20 (f := .glo "_law_backward") rfl), F20.kp, F20.bindsN fun _ _ _ _ _ _ us hl => match us, hl with | [_], _ => rfl⟩⟩
  obtain ⟨fd21, F21⟩ := c.def_ 21 (d := dd "_law_tied" sTied) rfl
  have k21 : ∀ base : Heap, Kn P w K mg base 2 "_law_tied" spTied := fun base => ⟨⟨_, fd21, _, ok_tied F21 (k14 base), He.glo_ok X Gn (c.fact 21 (f := .glo "_law_tied") rfl), F21.kp, F21.bindsN fun _ _ _ _ _ _ us hl => match us, hl with | [_, _, _], _ => rfl⟩⟩
  obtain ⟨fd22, F22⟩ := c.def_ 22 (d := dd "_law_next" sNext) rfl
  have k22 : ∀ base : Heap, Kn P w K mg base 3 "_law_next" spNext := fun base => ⟨⟨_, fd22, _, ok_next F22 G (k9 base) (k21 base), He.glo_ok X Gn (c.fact 22 (f := .glo "_law_next") rfl), F22.kp, F22.bindsN fun _ _ _ _ _ _ us hl => match us, hl with | [_, _, _], _ => rfl⟩⟩
  obtain ⟨fd, F⟩ := c.def_ 23 (d := dd "law" sLaw) rfl
  have e := hfa.symm.trans (He.glo_ok X Gn (c.fact 23 (f := .glo "law") rfl))
  cases e
  have b := FunD.bindsA (ps := ["_law_script"]) F fun _ _ _ _ _ _ us hl => match us, hl with | [_], _ => rfl
  exact ⟨fd, fun s v => b s [v] rfl, fun base _ _ => ok_law F G (k8 base) (k13 base) (k5 base) (k18 base) (k19 base) (k20 base) (k22 base)⟩
end Wd
open PySem PySem.W PySem.Calls PyProof.Rows
theorem PySem.Challenge.cw_besidesay_k33_whole_drawings_holds : PySem.Challenge.rw_besidesay_k33_whole_drawings.Holds := by
  w_on; o_law
  refine HandSHeadRun.head_any (r := OpenLaw.row PySem.Challenge.rw_besidesay_k33_whole_drawings) (q := view (OpenLaw.row PySem.Challenge.rw_besidesay_k33_whole_drawings).prog [27]) (H := Wd.hkW) (ob := Wd.obW) (M := 4000) (loose := Wd.loose)
    (d := HandSHeadRun.topDef (OpenLaw.row PySem.Challenge.rw_besidesay_k33_whole_drawings).prog 27) (kwd := []) Wd.obW_eq
    (by kernel_rfl) (fun s => by kernel_rfl) Wd.runW (by kernel_rfl) (by kernel_rfl) (by kernel_rfl) (by rfl) (by first | assumption | decide +kernel) (by decide +kernel) ⟨rfl, rfl, rfl, rfl, rfl, by decide +kernel⟩ ?hw ?hc
  case hw => w_witness2
  case hc =>
    refine L2.walk_ofE (l := PySem.Challenge.rw_besidesay_k33_whole_drawings) (n := 63) (k := 7) (x := "_law_script") (CX := L2.CX0) rfl (by decide) (by kernel_rfl) ⟨rfl, by decide, by decide⟩ ?F (fun _ _ _ _ z => z)
    intro w mg fa h Y G hmg0
    obtain ⟨K, KX, c⟩ := Y
    have hmg : mg ("law" : PySem.Str) = some (.ref fa) := by
      have e : (HandSHeadRun.topDef (OpenLaw.row PySem.Challenge.rw_besidesay_k33_whole_drawings).prog 27).name = ("law" : PySem.Str) := by kernel_rfl
      rw [← e]
      exact hmg0
    obtain ⟨fd, hb, hF⟩ := Wd.law_facts (P := (PySem.Challenge.rw_besidesay_k33_whole_drawings).prog) (w := w) KX G hmg c
    exact ⟨K, fd, Wd.spLaw K, KX, hb, fun H a ns hl _ hS => ⟨a, ns, rfl, hS, hl, fun _ => rfl⟩, hF⟩
#print axioms PySem.Challenge.cw_besidesay_k33_whole_drawings_holds
