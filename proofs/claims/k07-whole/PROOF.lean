import PyProof.Rows.All
import Wide.All
import OpenK.AllK
import Wide.FinOn
import KE.KStateDown
import Lean
import HandS.Base
import HandS.Call
import HandS.Ends
import HandS.More
import HandS.Words
import HandS.WordsExc
import HandS.Defaults
import HandS.Head0
import HandS.Head1
import HandS.Head2
import HandS.Head3
import HandS.HeadEnd
import HandS.HeadHook1
import HandS.HeadHook2
import HandS.HeadHook3
import HandS.HeadHook4
import PyProof.EqAt
import PyProof.EqKinds
import PyProof.TupleCall
import HandS.ForMost
import HandS.Deep
import HandS.IsInst
import HandS.Gcd
import HandS.TupAny
import HandS.Strs
import HandS.Conv
import HandS.Zip
import HandS.Style
import HandS.Flow
import HandS.HotCalls
import HandS.ExcCtx
import PyProof.Rows.TupIter
import PyProof.Rows.SetFrom
import HandS.SortInts
import KE.GoesEnum
import HandS.SetFor
import HandS.ExcInit
import HandS.ExcField
import HandS.ExcOwn
import KE.SortData
import KE.DataMinMax
import HandS.ReCall
import HandS.SetKeys
import HandS.DictTup
import PyProof.DictMoreH
import PySem.Challenge.RW_likecuts_k07_whole_what_stands_by_all_cu

set_option Elab.async false
set_option linter.all false
set_option maxHeartbeats 4000000
/-! Bellman and Ford, with the ones that last raised each -/
namespace Lk.Bf
abbrev Hs := List (Nat × Nat × Int)
structure S where
  f : Nat → Int
  b : Nat → Option Nat
  l : Option Nat
def put {α : Type} (g : Nat → α) (v : Nat) (x : α) : Nat → α := fun u => if u = v then x else g u
@[simp] theorem put_same {α : Type} {g : Nat → α} {v : Nat} {x : α} : put g v x v = x := if_pos rfl
theorem put_ne {α : Type} {g : Nat → α} {u v : Nat} {x : α} (h : u ≠ v) : put g v x u = g u := if_neg h
/-- one rule looked at, the k-th -/
def relax (s : S) (k : Nat) (h : Nat × Nat × Int) : S := if s.f h.2.1 < s.f h.1 + h.2.2 then ⟨put s.f h.2.1 (s.f h.1 + h.2.2), put s.b h.2.1 (some k), some h.2.1⟩ else s
/-- back from v by t steps to u, the gaps' sum x -/
inductive Bk (hs : Hs) (b : Nat → Option Nat) : Nat → Nat → Int → Nat → Prop
  | zero {v : Nat} : Bk hs b v 0 0 v
  | succ {v k t : Nat} {h : Nat × Nat × Int} {x : Int} {u : Nat} : b v = some k → hs[k]? = some h → Bk hs b h.1 t x u → Bk hs b v (t + 1) (x + h.2.2) u
theorem Bk.trans {hs : Hs} {b : Nat → Option Nat} {v t : Nat} {x : Int} {u : Nat} (h : Bk hs b v t x u) {t' : Nat} {x' : Int} {u' : Nat} (h' : Bk hs b u t' x' u') : Bk hs b v (t + t') (x + x') u' := by
  induction h with
  | zero => simpa using h'
  | @succ v k t h x u hb hh _ ih =>
    have := Bk.succ hb hh (ih h')
    have e1 : t + 1 + t' = t + t' + 1 := by omega
    have e2 : x + h.2.2 + x' = x + x' + h.2.2 := by omega
    rw [e1, e2]
    exact this
theorem Bk.det {hs : Hs} {b : Nat → Option Nat} {v t : Nat} {x : Int} {u : Nat} (h : Bk hs b v t x u) : ∀ {x' : Int} {u' : Nat}, Bk hs b v t x' u' → x = x' ∧ u = u' := by
  induction h with
  | zero =>
    intro x' u' h'
    cases h'
    exact ⟨rfl, rfl⟩
  | @succ v k t h x u hb hh _ ih =>
    intro x' u' h'
    cases h' with
    | @succ _ k' _ h2 x2 _ hb' hh' q =>
      rw [hb] at hb'
      cases hb'
      rw [hh] at hh'
      cases hh'
      obtain ⟨e1, e2⟩ := ih q
      exact ⟨by rw [e1], e2⟩
theorem Bk.split {hs : Hs} {b : Nat → Option Nat} : ∀ (t1 : Nat) {t2 v : Nat} {x : Int} {u : Nat}, Bk hs b v (t1 + t2) x u → ∃ x1 x2 m, Bk hs b v t1 x1 m ∧ Bk hs b m t2 x2 u ∧ x = x1 + x2
  | 0, t2, v, x, u, h => ⟨0, x, v, .zero, by simpa using h, by omega⟩
  | t1 + 1, t2, v, x, u, h => by
    have e1 : t1 + 1 + t2 = t1 + t2 + 1 := by omega
    rw [e1] at h
    cases h with
    | @succ _ k _ h2 x2 _ hb hh q =>
      obtain ⟨x1, x3, m, h3, h4, h5⟩ := Bk.split t1 q
      exact ⟨x1 + h2.2.2, x3, m, .succ hb hh h3, h4, by omega⟩
/-- what stands while round r runs, n rules looked at; p: when each was last raised -/
structure Inv (hs : Hs) (r n : Nat) (p : Nat → Nat) (s : S) : Prop where
  b : ∀ v k, s.b v = some k → ∃ h, hs[k]? = some h ∧ h.2.1 = v ∧ s.f v ≤ s.f h.1 + h.2.2 ∧ p v ≤ p h.1 + 1
  pb : ∀ v, 1 ≤ p v → (s.b v).isSome
  pr : ∀ v, p v ≤ r
  A : ∀ (k : Nat) h, hs[k]? = some h → k < n → p h.1 < r → s.f h.1 + h.2.2 ≤ s.f h.2.1
  B : ∀ (k : Nat) h, hs[k]? = some h → p h.1 + 1 < r → s.f h.1 + h.2.2 ≤ s.f h.2.1
  L : ∀ v, s.l = some v → p v = r
  N : s.l = none → ∀ v, p v < r
  C : ∀ v t x, 1 ≤ t → Bk hs s.b v t x v → 0 < x
theorem Inv.tel {hs : Hs} {r n : Nat} {p : Nat → Nat} {s : S} (I : Inv hs r n p s) {v t : Nat} {x : Int} {u : Nat} (h : Bk hs s.b v t x u) : s.f v ≤ s.f u + x := by
  induction h with
  | zero => omega
  | @succ v k t h x u hb hh _ ih =>
    obtain ⟨h', e1, e2, e3, _⟩ := I.b v k hb
    rw [hh] at e1
    cases e1
    omega
theorem bk_put {hs : Hs} {b : Nat → Option Nat} {j k0 : Nat} {v t : Nat} {x : Int} {u : Nat} (h : Bk hs (put b j (some k0)) v t x u) :
    Bk hs b v t x u ∨ ∃ t1 t2 x1 x2, Bk hs b v t1 x1 j ∧ Bk hs (put b j (some k0)) v t1 x1 j ∧ Bk hs (put b j (some k0)) j t2 x2 u ∧ 1 ≤ t2 ∧ t = t1 + t2 ∧ x = x1 + x2 := by
  induction h with
  | zero => exact .inl .zero
  | @succ v k t h x u hb hh q ih =>
    by_cases e : v = j
    · subst e
      exact .inr ⟨0, t + 1, 0, x + h.2.2, .zero, .zero, .succ hb hh q, by omega, by omega, by omega⟩
    · have hb' : b v = some k := by rw [put_ne e] at hb; exact hb
      rcases ih with z | ⟨t1, t2, x1, x2, z1, z2, z3, z4, z5, z6⟩
      · exact .inl (.succ hb' hh z)
      · exact .inr ⟨t1 + 1, t2, x1 + h.2.2, x2, .succ hb' hh z1, .succ hb hh z2, z3, z4, by omega, by omega⟩
theorem Inv.step {hs : Hs} {r n : Nat} {p : Nat → Nat} {s : S} (I : Inv hs r n p s) {h : Nat × Nat × Int} (hh : hs[n]? = some h) (hr : 1 ≤ r) : ∃ p', Inv hs r (n + 1) p' (relax s n h) := by
  unfold relax
  by_cases q : s.f h.2.1 < s.f h.1 + h.2.2
  · rw [if_pos q]
    have hB : r ≤ p h.1 + 1 := by
      rcases Nat.lt_or_ge (p h.1 + 1) r with z | z
      · have := I.B n h hh z; omega
      · exact z
    have fle : ∀ u, s.f u ≤ put s.f h.2.1 (s.f h.1 + h.2.2) u := fun u => by
      by_cases e : u = h.2.1
      · subst e; rw [put_same]; omega
      · rw [put_ne e]; exact Int.le_refl _
    have ple : ∀ u, p u ≤ put p h.2.1 r u := fun u => by
      by_cases e : u = h.2.1
      · subst e; rw [put_same]; exact I.pr _
      · rw [put_ne e]; exact Nat.le_refl _
    refine ⟨put p h.2.1 r, ⟨fun v k hb => ?_, fun v hv => ?_, fun v => ?_, fun k h' hk hn hp => ?_, fun k h' hk hp => ?_, fun v hv => ?_, fun hv => ?_, fun v t x ht hc => ?_⟩⟩
    · by_cases e : v = h.2.1
      · subst e
        rw [show ({ f := put s.f h.2.1 (s.f h.1 + h.2.2), b := put s.b h.2.1 (some n), l := some h.2.1 } : S).b h.2.1 = some n from put_same] at hb
        cases hb
        refine ⟨h, hh, rfl, ?_, ?_⟩
        · show put s.f h.2.1 (s.f h.1 + h.2.2) h.2.1 ≤ put s.f h.2.1 (s.f h.1 + h.2.2) h.1 + h.2.2
          rw [put_same]
          have := fle h.1
          omega
        · rw [put_same]
          have := ple h.1
          omega
      · have hb : put s.b h.2.1 (some n) v = some k := hb
        rw [put_ne e] at hb
        obtain ⟨h', e1, e2, e3, e4⟩ := I.b v k hb
        refine ⟨h', e1, e2, ?_, ?_⟩
        · show put s.f h.2.1 (s.f h.1 + h.2.2) v ≤ put s.f h.2.1 (s.f h.1 + h.2.2) h'.1 + h'.2.2
          rw [put_ne e]
          have := fle h'.1
          omega
        · rw [put_ne e]
          have := ple h'.1
          omega
    · show (put s.b h.2.1 (some n) v).isSome
      by_cases e : v = h.2.1
      · subst e; rw [put_same]; rfl
      · rw [put_ne e]
        rw [put_ne e] at hv
        exact I.pb v hv
    · by_cases e : v = h.2.1
      · subst e; rw [put_same]; exact Nat.le_refl _
      · rw [put_ne e]; exact I.pr v
    · show put s.f h.2.1 (s.f h.1 + h.2.2) h'.1 + h'.2.2 ≤ put s.f h.2.1 (s.f h.1 + h.2.2) h'.2.1
      by_cases e : h'.1 = h.2.1
      · rw [e, put_same] at hp; omega
      · rw [put_ne e] at hp ⊢
        rcases Nat.lt_or_ge k n with z | z
        · have := I.A k h' hk z hp
          have := fle h'.2.1
          omega
        · have : k = n := by omega
          subst this
          rw [hh] at hk
          cases hk
          rw [put_same]
          omega
    · show put s.f h.2.1 (s.f h.1 + h.2.2) h'.1 + h'.2.2 ≤ put s.f h.2.1 (s.f h.1 + h.2.2) h'.2.1
      by_cases e : h'.1 = h.2.1
      · rw [e, put_same] at hp; omega
      · rw [put_ne e] at hp ⊢
        have := I.B k h' hk hp
        have := fle h'.2.1
        omega
    · cases hv
      exact put_same
    · cases hv
    · have hc : Bk hs (put s.b h.2.1 (some n)) v t x v := hc
      have jc : ∀ (m t : Nat) (x : Int), t ≤ m → 1 ≤ t → Bk hs (put s.b h.2.1 (some n)) h.2.1 t x h.2.1 → 0 < x := by
        intro m
        induction m with
        | zero => intro t x h1 h2; omega
        | succ m ih =>
          intro t x h1 h2 h3
          cases h3 with
          | zero => omega
          | @succ _ k t0 h0 x0 _ hb0 hh0 q0 =>
            rw [put_same] at hb0
            cases hb0
            rw [hh] at hh0
            cases hh0
            rcases bk_put q0 with z | ⟨t1, t2, x1, x2, z1, z2, z3, z4, z5, z6⟩
            · have := I.tel z
              omega
            · have a1 := I.tel z1
              have a2 := ih t2 x2 (by omega) z4 z3
              omega
      rcases bk_put hc with z | ⟨t1, t2, x1, x2, z1, z2, z3, z4, z5, z6⟩
      · exact I.C v t x ht z
      · have := jc _ _ _ (Nat.le_refl _) (by omega) (z3.trans z2)
        omega
  · rw [if_neg q]
    refine ⟨p, ⟨I.b, I.pb, I.pr, fun k h' hk hn hp => ?_, I.B, I.L, I.N, I.C⟩⟩
    rcases Nat.lt_or_ge k n with z | z
    · exact I.A k h' hk z hp
    · have : k = n := by omega
      subst this
      rw [hh] at hk
      cases hk
      omega
theorem Inv.start {hs : Hs} : Inv hs 1 0 (fun _ => 0) ⟨fun _ => 0, fun _ => none, none⟩ where
  b := fun v k h => nomatch h
  pb := fun v h => by omega
  pr := fun v => Nat.zero_le _
  A := fun k h hk hn => by omega
  B := fun k h hk hp => by omega
  L := fun v h => nomatch h
  N := fun h v => by omega
  C := fun v t x ht h => by
    cases h with
    | zero => omega
    | succ hb => cases hb
theorem Inv.next {hs : Hs} {r : Nat} {p : Nat → Nat} {s : S} (I : Inv hs r hs.length p s) : Inv hs (r + 1) 0 p ⟨s.f, s.b, none⟩ where
  b := I.b
  pb := I.pb
  pr := fun v => by have := I.pr v; omega
  A := fun k h hk hn => by omega
  B := fun k h hk hp => I.A k h hk (List.getElem?_eq_some_iff.mp hk).1 (by omega)
  L := fun v h => nomatch h
  N := fun h v => by have := I.pr v; omega
  C := I.C
/-- after r rounds -/
def J (hs : Hs) (r : Nat) (s : S) : Prop := (r = 0 ∧ s = ⟨fun _ => 0, fun _ => none, none⟩) ∨ (1 ≤ r ∧ ∃ p, Inv hs r hs.length p s)
theorem J.ready {hs : Hs} {r : Nat} {s : S} (j : J hs r s) : ∃ p, Inv hs (r + 1) 0 p ⟨s.f, s.b, none⟩ := by
  rcases j with ⟨rfl, rfl⟩ | ⟨_, p, I⟩
  · exact ⟨_, Inv.start⟩
  · exact ⟨p, I.next⟩
/-- none raised in the last round -/
theorem J.feas {hs : Hs} {r : Nat} {s : S} (j : J hs r s) (h0 : r = 0 → hs = []) (hl : s.l = none) : ∀ h ∈ hs, s.f h.1 + h.2.2 ≤ s.f h.2.1 := by
  intro h hh
  rcases j with ⟨e, _⟩ | ⟨_, p, I⟩
  · rw [h0 e] at hh; cases hh
  · obtain ⟨k, hk⟩ := List.getElem?_of_mem hh
    exact I.A k h hk (List.getElem?_eq_some_iff.mp hk).1 (I.N hl _)
theorem Inv.back {hs : Hs} {r n : Nat} {p : Nat → Nat} {s : S} (I : Inv hs r n p s) : ∀ (t v : Nat), t ≤ p v → ∃ x u, Bk hs s.b v t x u
  | 0, v, _ => ⟨0, v, .zero⟩
  | t + 1, v, h => by
    have := I.pb v (by omega)
    obtain ⟨k, hk⟩ := Option.isSome_iff_exists.mp this
    obtain ⟨h', e1, _, _, e4⟩ := I.b v k hk
    obtain ⟨x, u, q⟩ := I.back t h'.1 (by omega)
    exact ⟨_, u, .succ hk e1 q⟩
def nx (hs : Hs) (b : Nat → Option Nat) (v : Nat) : Nat := match b v with
  | none => v
  | some k => match hs[k]? with
    | none => v
    | some h => h.1
def it (f : Nat → Nat) : Nat → Nat → Nat
  | 0, v => v
  | n + 1, v => it f n (f v)
theorem it_add (f : Nat → Nat) : ∀ (m n v : Nat), it f (m + n) v = it f n (it f m v)
  | 0, n, v => by rw [Nat.zero_add]; rfl
  | m + 1, n, v => by
    have e : m + 1 + n = m + n + 1 := by omega
    rw [e]
    exact it_add f m n (f v)
theorem Bk.it {hs : Hs} {b : Nat → Option Nat} {v t : Nat} {x : Int} {u : Nat} (h : Bk hs b v t x u) : u = Bf.it (nx hs b) t v := by
  induction h with
  | zero => rfl
  | @succ v k t h x u hb hh _ ih =>
    have e : nx hs b v = h.1 := by unfold nx; rw [hb]; simp only [hh]
    show u = Bf.it (nx hs b) t (nx hs b v)
    rw [e]; exact ih
theorem Bk.rep {hs : Hs} {b : Nat → Option Nat} {w c : Nat} {y : Int} (h : Bk hs b w c y w) : ∀ q : Nat, ∃ z, Bk hs b w (c * q) z w
  | 0 => ⟨0, by simpa using Bk.zero⟩
  | q + 1 => by
    obtain ⟨z, k⟩ := Bk.rep h q
    exact ⟨y + z, by have := h.trans k; have e : c * (q + 1) = c + c * q := by rw [Nat.mul_add]; omega
                     rw [e]; exact this⟩
/-- so many steps back in so small a place lead to a ring -/
theorem Bk.ring {hs : Hs} {b : Nat → Option Nat} {dom : List Nat} {v m : Nat} {x : Int} {u : Nat} (h : Bk hs b v m x u) (hv : v ∈ dom) (hd : ∀ h ∈ hs, h.1 ∈ dom) (hl : dom.length ≤ m) : ∃ c y, 1 ≤ c ∧ c ≤ m ∧ Bk hs b u c y u := by
  have inD : ∀ {w t : Nat} {x : Int} {z : Nat}, w ∈ dom → Bk hs b w t x z → z ∈ dom := by
    intro w t x z hw q
    induction q with
    | zero => exact hw
    | succ hb hh _ ih => exact ih (hd _ (List.mem_of_getElem? hh))
  have hit : ∀ i, i ≤ m → Bf.it (nx hs b) i v ∈ dom := fun i hi => by
    obtain ⟨d, rfl⟩ : ∃ d, m = i + d := ⟨m - i, by omega⟩
    obtain ⟨x1, x2, w, h1, _, _⟩ := Bk.split i h
    rw [← h1.it]
    exact inD hv h1
  have hnd : ¬ ((List.range (m + 1)).map fun i => Bf.it (nx hs b) i v).Nodup := fun nd => by
    have := List.Nodup.length_le_of_subset (l₂ := dom) nd (fun z hz => by
      obtain ⟨i, hi, rfl⟩ := List.mem_map.mp hz
      exact hit i (by have := List.mem_range.mp hi; omega))
    simp at this
    omega
  have hex : ∃ i j, i < j ∧ j ≤ m ∧ Bf.it (nx hs b) i v = Bf.it (nx hs b) j v := by
    refine Classical.byContradiction fun hn => hnd ?_
    rw [List.Nodup, List.pairwise_iff_getElem]
    intro i j hi hj hij e
    simp at hi hj e
    exact hn ⟨i, j, hij, by omega, e⟩
  obtain ⟨i, j, hij, hjm, e⟩ := hex
  obtain ⟨d, rfl⟩ : ∃ d, m = i + d := ⟨m - i, by omega⟩
  obtain ⟨x1, x2, w, h1, h2, _⟩ := Bk.split i h
  have ew := h1.it
  obtain ⟨d2, rfl⟩ : ∃ d2, d = (j - i) + d2 := ⟨d - (j - i), by omega⟩
  obtain ⟨x3, x4, w2, h3, h4, _⟩ := Bk.split (j - i) h2
  have ew2 := h3.it
  have e2 : w2 = w := by
    rw [ew2, ew, ← it_add, e]
    congr 1
    omega
  rw [e2] at h3
  obtain ⟨z, k⟩ := h3.rep ((j - i + d2) + (j - i))
  have hc1 : 1 ≤ j - i := by omega
  have hge : (j - i + d2) + (j - i) ≤ (j - i) * ((j - i + d2) + (j - i)) := Nat.le_mul_of_pos_left _ (by omega)
  obtain ⟨d3, e3⟩ : ∃ d3, (j - i) * ((j - i + d2) + (j - i)) = ((j - i + d2) + (j - i)) + d3 := ⟨_ - _, (Nat.add_sub_cancel' hge).symm⟩
  rw [e3] at k
  obtain ⟨_, _, w3, k1, _, _⟩ := Bk.split _ k
  obtain ⟨_, y4, w4, k2, k3, _⟩ := Bk.split (j - i + d2) k1
  have e4 : w4 = u := (k2.det h2).2
  subst e4
  refine ⟨j - i, y4, hc1, by omega, ?_⟩
  have e5 : w3 = w4 := by
    rw [k3.it, k2.it, ← it_add, Nat.add_comm, it_add, ← h3.it]
  rw [e5] at k3
  exact k3
/-- the rules walked back through -/
inductive Bl (hs : Hs) (b : Nat → Option Nat) : Nat → List Nat → Nat → Prop
  | nil {v : Nat} : Bl hs b v [] v
  | cons {v k : Nat} {h : Nat × Nat × Int} {ks : List Nat} {u : Nat} : b v = some k → hs[k]? = some h → Bl hs b h.1 ks u → Bl hs b v (k :: ks) u
theorem Bl.snoc {hs : Hs} {b : Nat → Option Nat} {v : Nat} {ks : List Nat} {u : Nat} (q : Bl hs b v ks u) {k : Nat} {h : Nat × Nat × Int} (hb : b u = some k) (hh : hs[k]? = some h) : Bl hs b v (ks ++ [k]) h.1 := by
  induction q with
  | nil => exact .cons hb hh .nil
  | cons hb' hh' _ ih => exact .cons hb' hh' (ih hb)
def gapOf (hs : Hs) (k : Nat) : Int := ((hs[k]?).map (·.2.2)).getD 0
theorem Bl.bk {hs : Hs} {b : Nat → Option Nat} {v : Nat} {ks : List Nat} {u : Nat} (q : Bl hs b v ks u) : Bk hs b v ks.length (ks.map (gapOf hs)).sum u := by
  induction q with
  | nil => exact .zero
  | @cons v k h ks u hb hh _ ih =>
    have := Bk.succ hb hh ih
    have e : gapOf hs k = h.2.2 := by unfold gapOf; rw [hh]; rfl
    rw [List.length_cons, List.map_cons, List.sum_cons, e, Int.add_comm]
    exact this
theorem Bl.ends {hs : Hs} {r n : Nat} {p : Nat → Nat} {s : S} (I : Inv hs r n p s) {v : Nat} {ks : List Nat} {u : Nat} (q : Bl hs s.b v ks u) :
    (ks.map fun k => (hs[k]?).map fun h => (h.1, h.2.1)) = ((List.range ks.length).map fun i => (it (nx hs s.b) (i + 1) v, it (nx hs s.b) i v)).map some := by
  induction q with
  | nil => rfl
  | @cons v k h ks u hb hh _ ih =>
    have e : nx hs s.b v = h.1 := by unfold nx; rw [hb]; simp only [hh]
    obtain ⟨h', e1, e2, _⟩ := I.b v k hb
    rw [hh] at e1
    cases e1
    rw [List.map_cons, List.length_cons, List.range_succ_eq_map, List.map_cons, List.map_cons, ih, hh]
    simp only [List.map_map, Option.map_some]
    congr 1
    · show some (h.1, h.2.1) = some (nx hs s.b v, v)
      rw [e, e2]
    · refine List.map_congr_left fun i _ => ?_
      show some (it (nx hs s.b) (i + 1) h.1, it (nx hs s.b) i h.1) = some (it (nx hs s.b) (i + 1) (nx hs s.b v), it (nx hs s.b) i (nx hs s.b v))
      rw [e]
/-- rules in a ring: each starts where the one before it ends -/
def Chain (es : List (Nat × Nat)) : Prop := es ≠ [] ∧ es.map (·.2) = (es.map (·.1)).tail ++ (es.map (·.1)).take 1 ∧ (es.map (·.1)).Nodup
theorem chain_of {f : Nat → Nat} {u T : Nat} (hT : it f (T + 1) u = u) (hm : ∀ i, 1 ≤ i → i < T + 1 → it f i u ≠ u) : Chain ((List.range (T + 1)).map fun i => (it f (i + 1) u, it f i u)).reverse := by
  have e1 : (((List.range (T + 1)).map fun i => (it f (i + 1) u, it f i u)).reverse.map (·.1)) = u :: ((List.range T).map fun i => it f (i + 1) u).reverse := by
    rw [List.map_reverse, List.map_map, List.range_succ, List.map_append, List.reverse_append]
    show it f (T + 1) u :: _ = _
    rw [hT]
    rfl
  have e2 : (((List.range (T + 1)).map fun i => (it f (i + 1) u, it f i u)).reverse.map (·.2)) = ((List.range T).map fun i => it f (i + 1) u).reverse ++ [u] := by
    rw [List.map_reverse, List.map_map, List.range_succ_eq_map, List.map_cons, List.reverse_cons, List.map_map]
    rfl
  refine ⟨fun e => ?_, ?_, ?_⟩
  · rw [e] at e2
    simp at e2
  · rw [e1, e2]
    rfl
  · rw [List.map_reverse, List.map_map]
    have : ((List.range (T + 1)).map ((fun p : Nat × Nat => p.1) ∘ fun i => (it f (i + 1) u, it f i u))).Nodup := by
      rw [List.Nodup, List.pairwise_map]
      refine List.Pairwise.imp_of_mem (R := (· < ·)) (fun {i j} hi hj hij e => ?_) List.pairwise_lt_range
      have hj := List.mem_range.mp hj
      have e : it f (i + 1) u = it f (j + 1) u := e
      have h1 : it f (i + 1 + (T - j)) u = it f (j + 1 + (T - j)) u := by rw [it_add f (i + 1), it_add f (j + 1), e]
      have h2 : j + 1 + (T - j) = T + 1 := by omega
      rw [h2, hT] at h1
      exact hm _ (by omega) (by omega) h1
    rw [List.Nodup, List.pairwise_reverse]
    exact this.imp fun h e => h e.symm
theorem Bl.chain {hs : Hs} {r n : Nat} {p : Nat → Nat} {s : S} (I : Inv hs r n p s) {u : Nat} {ks : List Nat} (q : Bl hs s.b u ks u) (h0 : ks ≠ []) (hm : ∀ i, 1 ≤ i → i < ks.length → it (nx hs s.b) i u ≠ u) :
    ∃ es, (ks.reverse.map fun k => (hs[k]?).map fun h => (h.1, h.2.1)) = es.map some ∧ Chain es ∧ 0 < (ks.reverse.map (gapOf hs)).sum := by
  refine ⟨((List.range ks.length).map fun i => (it (nx hs s.b) (i + 1) u, it (nx hs s.b) i u)).reverse, ?_, ?_, ?_⟩
  · rw [List.map_reverse, q.ends I, List.map_reverse]
  · cases ks with
    | nil => exact absurd rfl h0
    | cons k ks => exact chain_of q.bk.it.symm hm
  · have := I.C u _ _ (by cases ks with
      | nil => exact absurd rfl h0
      | cons k ks => simp) q.bk
    have e : ∀ l : List Nat, (l.reverse.map (gapOf hs)).sum = (l.map (gapOf hs)).sum := fun l => by
      rw [List.map_reverse, List.sum_reverse]
    rw [e]
    exact this
end Lk.Bf

set_option Elab.async false
set_option linter.all false
set_option maxHeartbeats 4000000
/-! names that are merged -/
namespace Lk.Nm
def mergeN (ns : List Nat) (p : Nat × Nat) : List Nat := ns.map fun x => if x = max (ns.getD p.1 0) (ns.getD p.2 0) then min (ns.getD p.1 0) (ns.getD p.2 0) else x
def namesOf (n : Nat) (ts : List (Nat × Nat)) : List Nat := ts.foldl mergeN (List.range n)
inductive Conn (ts : List (Nat × Nat)) (k : Nat) : Nat → Prop
  | refl : Conn ts k k
  | step {x y : Nat} : Conn ts k x → (x, y) ∈ ts ∨ (y, x) ∈ ts → Conn ts k y
theorem Conn.trans {ts : List (Nat × Nat)} {a b c : Nat} (h : Conn ts a b) (k : Conn ts b c) : Conn ts a c := by
  induction k with
  | refl => exact h
  | step _ q ih => exact .step ih q
theorem Conn.symm {ts : List (Nat × Nat)} {a b : Nat} (h : Conn ts a b) : Conn ts b a := by
  induction h with
  | refl => exact .refl
  | step _ q ih => exact Conn.trans (.step .refl q.symm) ih
theorem Conn.mono {ts us : List (Nat × Nat)} (h : ∀ p ∈ ts, p ∈ us) {a b : Nat} (k : Conn ts a b) : Conn us a b := by
  induction k with
  | refl => exact .refl
  | step _ q ih => exact .step ih (q.imp (h _) (h _))
structure Ok (n : Nat) (ts : List (Nat × Nat)) (ns : List Nat) : Prop where
  len : ns.length = n
  eq : ∀ p ∈ ts, ns.getD p.1 0 = ns.getD p.2 0
  le : ∀ x, x < n → ns.getD x 0 ≤ x
  co : ∀ x, x < n → Conn ts x (ns.getD x 0)
theorem getD_map {ns : List Nat} {f : Nat → Nat} {x : Nat} (h : x < ns.length) : (ns.map f).getD x 0 = f (ns.getD x 0) := by
  rw [List.getD_eq_getElem?_getD, List.getD_eq_getElem?_getD, List.getElem?_map, List.getElem?_eq_getElem h]
  rfl
theorem Ok.step {n : Nat} {ts : List (Nat × Nat)} {ns : List Nat} (o : Ok n ts ns) (ht : ∀ p ∈ ts, p.1 < n ∧ p.2 < n) {p : Nat × Nat} (hp : p.1 < n ∧ p.2 < n) : Ok n (ts ++ [p]) (mergeN ns p) := by
  have at_ : ∀ x, x < n → (mergeN ns p).getD x 0 = if ns.getD x 0 = max (ns.getD p.1 0) (ns.getD p.2 0) then min (ns.getD p.1 0) (ns.getD p.2 0) else ns.getD x 0 := fun x hx => by
    unfold mergeN
    rw [getD_map (by rw [o.len]; exact hx)]
  have up : ∀ q ∈ ts, q ∈ ts ++ [p] := fun q hq => List.mem_append_left _ hq
  have ij : Conn (ts ++ [p]) p.1 p.2 := .step .refl (.inl (by simp))
  have c1 : Conn (ts ++ [p]) (ns.getD p.1 0) (ns.getD p.2 0) := ((o.co p.1 hp.1).mono up).symm.trans (ij.trans ((o.co p.2 hp.2).mono up))
  refine ⟨by unfold mergeN; rw [List.length_map, o.len], fun q hq => ?_, fun x hx => ?_, fun x hx => ?_⟩
  · rcases List.mem_append.mp hq with z | z
    · rw [at_ _ (ht q z).1, at_ _ (ht q z).2, o.eq q z]
    · have : q = p := by simpa using z
      subst this
      rw [at_ _ hp.1, at_ _ hp.2]
      rcases Nat.le_total (ns.getD q.1 0) (ns.getD q.2 0) with z | z
      · rw [Nat.max_eq_right z, Nat.min_eq_left z]
        split <;> simp_all
      · rw [Nat.max_eq_left z, Nat.min_eq_right z]
        split <;> simp_all
  · rw [at_ x hx]
    have := o.le x hx
    split
    · have h1 : min (ns.getD p.1 0) (ns.getD p.2 0) ≤ max (ns.getD p.1 0) (ns.getD p.2 0) := Nat.le_trans (Nat.min_le_left _ _) (Nat.le_max_left _ _)
      omega
    · exact this
  · rw [at_ x hx]
    have h0 := (o.co x hx).mono up
    split
    · rename_i e
      rw [e] at h0
      refine h0.trans ?_
      rcases Nat.le_total (ns.getD p.1 0) (ns.getD p.2 0) with z | z
      · rw [Nat.max_eq_right z, Nat.min_eq_left z]
        exact c1.symm
      · rw [Nat.max_eq_left z, Nat.min_eq_right z]
        exact c1
    · exact h0
theorem ok_start (n : Nat) : Ok n [] (List.range n) where
  len := List.length_range
  eq := fun p hp => nomatch hp
  le := fun x hx => by rw [List.getD_eq_getElem?_getD, List.getElem?_range hx]; exact Nat.le_refl _
  co := fun x hx => by
    have e : (List.range n).getD x 0 = x := by rw [List.getD_eq_getElem?_getD, List.getElem?_range hx]; rfl
    rw [e]; exact .refl
theorem ok_fold {n : Nat} : ∀ (us ts : List (Nat × Nat)) (ns : List Nat), Ok n ts ns → (∀ p ∈ ts, p.1 < n ∧ p.2 < n) → (∀ p ∈ us, p.1 < n ∧ p.2 < n) → Ok n (ts ++ us) (us.foldl mergeN ns)
  | [], ts, ns, o, _, _ => by simpa using o
  | p :: us, ts, ns, o, ht, hu => by
    have := ok_fold us (ts ++ [p]) (mergeN ns p) (o.step ht (hu p List.mem_cons_self)) (fun q hq => by
      rcases List.mem_append.mp hq with z | z
      · exact ht q z
      · have : q = p := by simpa using z
        rw [this]; exact hu p List.mem_cons_self) (fun q hq => hu q (List.mem_cons_of_mem _ hq))
    simpa using this
theorem names_ok {n : Nat} {ts : List (Nat × Nat)} (ht : ∀ p ∈ ts, p.1 < n ∧ p.2 < n) : Ok n ts (namesOf n ts) := by
  have := ok_fold ts [] (List.range n) (ok_start n) (fun p hp => nomatch hp) ht
  rw [List.nil_append] at this
  exact this
theorem Ok.conn {n : Nat} {ts : List (Nat × Nat)} {ns : List Nat} (o : Ok n ts ns) {a b : Nat} (h : Conn ts a b) : ns.getD a 0 = ns.getD b 0 := by
  induction h with
  | refl => rfl
  | step _ q ih =>
    rcases q with q | q
    · rw [ih, o.eq _ q]
    · rw [ih, ← o.eq _ q]
theorem Conn.lt {n : Nat} {ts : List (Nat × Nat)} (ht : ∀ p ∈ ts, p.1 < n ∧ p.2 < n) {a b : Nat} (h : Conn ts a b) (ha : a < n) : b < n := by
  cases h with
  | refl => exact ha
  | step _ q =>
    rcases q with q | q
    · exact (ht _ q).2
    · exact (ht _ q).1
/-- the names tell of the ties only what they join -/
theorem names_same {n : Nat} {ts us : List (Nat × Nat)} (ht : ∀ p ∈ ts, p.1 < n ∧ p.2 < n) (h : ∀ p, p ∈ ts ↔ p ∈ us) : namesOf n ts = namesOf n us := by
  have hu : ∀ p ∈ us, p.1 < n ∧ p.2 < n := fun p hp => ht p ((h p).mpr hp)
  have o1 := names_ok ht
  have o2 := names_ok hu
  refine List.ext_getElem? fun i => ?_
  by_cases hi : i < n
  · have key : ∀ {ts us : List (Nat × Nat)}, (∀ p ∈ ts, p.1 < n ∧ p.2 < n) → (∀ p ∈ us, p ∈ ts) → Ok n ts (namesOf n ts) → Ok n us (namesOf n us) → (namesOf n ts).getD i 0 ≤ (namesOf n us).getD i 0 := fun {ts us} ht hs o1 o2 => by
      have c := (o2.co i hi).mono hs
      rw [o1.conn c]
      exact o1.le _ (c.lt ht hi)
    have a := key ht (fun p hp => (h p).mpr hp) o1 o2
    have b := key hu (fun p hp => (h p).mp hp) o2 o1
    have e := Nat.le_antisymm a b
    rw [List.getD_eq_getElem?_getD, List.getD_eq_getElem?_getD, List.getElem?_eq_getElem (by rw [o1.len]; exact hi), List.getElem?_eq_getElem (by rw [o2.len]; exact hi)] at e
    rw [List.getElem?_eq_getElem (by rw [o1.len]; exact hi), List.getElem?_eq_getElem (by rw [o2.len]; exact hi)]
    simpa using e
  · rw [List.getElem?_eq_none (by rw [o1.len]; omega), List.getElem?_eq_none (by rw [o2.len]; omega)]
/-- the names that are left, in order -/
def kept (ns : List Nat) : List Nat := (List.range ns.length).filter fun x => decide (x ∈ ns)
def lotOf (ns : List Nat) (low : Nat) : List Nat := (List.range ns.length).filter fun k => decide (ns.getD k 0 = low)
def lotsOf (ns : List Nat) : List (List Nat) := (kept ns).map (lotOf ns)
theorem merge_len (ns : List Nat) (p : Nat × Nat) : (mergeN ns p).length = ns.length := by unfold mergeN; rw [List.length_map]
theorem kept_merge (ns : List Nat) (p : Nat × Nat) : (kept ns).length ≤ (kept (mergeN ns p)).length + 1 := by
  have h : ∀ x ∈ kept ns, x ∈ max (ns.getD p.1 0) (ns.getD p.2 0) :: kept (mergeN ns p) := fun x hx => by
    unfold kept at hx ⊢
    rw [List.mem_filter, List.mem_range, decide_eq_true_iff] at hx
    by_cases e : x = max (ns.getD p.1 0) (ns.getD p.2 0)
    · rw [e]; exact List.mem_cons_self
    · refine List.mem_cons_of_mem _ ?_
      rw [List.mem_filter, List.mem_range, decide_eq_true_iff, merge_len]
      refine ⟨hx.1, ?_⟩
      unfold mergeN
      exact List.mem_map.mpr ⟨x, hx.2, by rw [if_neg e]⟩
  have nd : (kept ns).Nodup := List.Pairwise.filter _ List.nodup_range
  have := List.Nodup.length_le_of_subset nd h
  simpa using this
theorem kept_fold : ∀ (us : List (Nat × Nat)) (ns : List Nat), (kept ns).length ≤ (kept (us.foldl mergeN ns)).length + us.length
  | [], ns => Nat.le_refl _
  | p :: us, ns => by
    have h1 := kept_merge ns p
    have h2 := kept_fold us (mergeN ns p)
    rw [List.foldl_cons, List.length_cons]
    omega
theorem kept_names (n : Nat) (ts : List (Nat × Nat)) : n ≤ (lotsOf (namesOf n ts)).length + ts.length := by
  have h := kept_fold ts (List.range n)
  have e : (kept (List.range n)).length = n := by
    unfold kept
    rw [List.filter_eq_self.mpr]
    · simp
    · intro a ha
      simpa using ha
  rw [e] at h
  unfold lotsOf namesOf
  rw [List.length_map]
  exact h
end Lk.Nm

set_option Elab.async false
set_option linter.all false
set_option maxHeartbeats 4000000
/-! paths and rings of marks -/
namespace Lk.Pt
section
variable {M : Type} (en : M → Option (Nat × Nat)) (ok : M → Prop)
/-- marks ms lead from the first place, over the places vs, to the last one -/
inductive Pa : Nat → List M → List Nat → Nat → Prop
  | nil {a : Nat} : Pa a [] [] a
  | cons {a b c : Nat} {m : M} {ms : List M} {vs : List Nat} : ok m → en m = some (a, b) → Pa b ms vs c → Pa a (m :: ms) (a :: vs) c
end
section
variable {M : Type} {en : M → Option (Nat × Nat)} {ok : M → Prop}
theorem Pa.len {a c : Nat} {ms : List M} {vs : List Nat} (h : Pa en ok a ms vs c) : vs.length = ms.length := by
  induction h with
  | nil => rfl
  | cons _ _ _ ih => rw [List.length_cons, List.length_cons, ih]
theorem Pa.app {a b c : Nat} {ms ns : List M} {vs us : List Nat} (h : Pa en ok a ms vs b) (k : Pa en ok b ns us c) : Pa en ok a (ms ++ ns) (vs ++ us) c := by
  induction h with
  | nil => exact k
  | cons h1 h2 _ ih => exact .cons h1 h2 (ih k)
theorem Pa.mono {ok' : M → Prop} (i : ∀ m, ok m → ok' m) {a c : Nat} {ms : List M} {vs : List Nat} (h : Pa en ok a ms vs c) : Pa en ok' a ms vs c := by
  induction h with
  | nil => exact .nil
  | cons h1 h2 _ ih => exact .cons (i _ h1) h2 ih
theorem Pa.oks {a c : Nat} {ms : List M} {vs : List Nat} (h : Pa en ok a ms vs c) : ∀ m ∈ ms, ok m := by
  induction h with
  | nil => intro m hm; cases hm
  | cons h1 h2 _ ih =>
    intro m hm
    rcases List.mem_cons.mp hm with rfl | hm
    · exact h1
    · exact ih m hm
theorem Pa.res {ok' : M → Prop} {a c : Nat} {ms : List M} {vs : List Nat} (h : Pa en ok a ms vs c) : (∀ m ∈ ms, ok' m) → Pa en ok' a ms vs c := by
  induction h with
  | nil => intro _; exact .nil
  | cons h1 h2 _ ih => intro k; exact .cons (k _ List.mem_cons_self) h2 (ih fun m hm => k m (List.mem_cons_of_mem _ hm))
theorem Pa.lt {n : Nat} (hn : ∀ m a b, ok m → en m = some (a, b) → a < n ∧ b < n) {a c : Nat} {ms : List M} {vs : List Nat} (h : Pa en ok a ms vs c) : ∀ x ∈ vs, x < n := by
  induction h with
  | nil => intro m hm; cases hm
  | cons h1 h2 _ ih =>
    intro x hx
    rcases List.mem_cons.mp hx with rfl | hx
    · exact (hn _ _ _ h1 h2).1
    · exact ih x hx
theorem Pa.split {a c : Nat} {ms : List M} {vs : List Nat} (h : Pa en ok a ms vs c) {x : Nat} (hx : x ∈ vs ++ [c]) :
    ∃ ms1 ms2 vs1 vs2, ms = ms1 ++ ms2 ∧ vs = vs1 ++ vs2 ∧ Pa en ok a ms1 vs1 x ∧ Pa en ok x ms2 vs2 c ∧ x ∉ vs1 := by
  induction h with
  | nil =>
    simp at hx
    subst hx
    exact ⟨[], [], [], [], rfl, rfl, .nil, .nil, fun h => nomatch h⟩
  | @cons a b c m ms vs h1 h2 h3 ih =>
    by_cases e : x = a
    · subst e
      exact ⟨[], m :: ms, [], x :: vs, rfl, rfl, .nil, .cons h1 h2 h3, fun h => nomatch h⟩
    · have hx' : x ∈ vs ++ [c] := by
        rw [List.cons_append] at hx
        rcases List.mem_cons.mp hx with z | z
        · exact absurd z e
        · exact z
      obtain ⟨ms1, ms2, vs1, vs2, e1, e2, p1, p2, n1⟩ := ih hx'
      refine ⟨m :: ms1, ms2, a :: vs1, vs2, by rw [e1]; rfl, by rw [e2]; rfl, .cons h1 h2 p1, p2, fun z => ?_⟩
      rcases List.mem_cons.mp z with z | z
      · exact e z
      · exact n1 z
theorem Pa.at_ {a c : Nat} {ms : List M} {vs : List Nat} (h : Pa en ok a ms vs c) {m : M} (hm : m ∈ ms) :
    ∃ ms1 ms2 vs1 vs2 i j, ms = ms1 ++ m :: ms2 ∧ vs = vs1 ++ i :: vs2 ∧ en m = some (i, j) ∧ ok m ∧ Pa en ok a ms1 vs1 i ∧ Pa en ok j ms2 vs2 c := by
  induction h with
  | nil => cases hm
  | @cons a b c m' ms vs h1 h2 h3 ih =>
    rcases List.mem_cons.mp hm with rfl | hm
    · exact ⟨[], ms, [], vs, a, b, rfl, rfl, h2, h1, .nil, h3⟩
    · obtain ⟨ms1, ms2, vs1, vs2, i, j, e1, e2, e3, e4, p1, p2⟩ := ih hm
      exact ⟨m' :: ms1, ms2, a :: vs1, vs2, i, j, by rw [e1]; rfl, by rw [e2]; rfl, e3, e4, .cons h1 h2 p1, p2⟩
/-- a ring -/
def Ring (en : M → Option (Nat × Nat)) (ok : M → Prop) (ms : List M) : Prop := ms ≠ [] ∧ ∃ a vs, Pa en ok a ms vs a ∧ vs.Nodup
def wt (gap : M → Int) (ms : List M) : Int := (ms.map gap).sum
theorem wt_cons (gap : M → Int) (m : M) (ms : List M) : wt gap (m :: ms) = gap m + wt gap ms := by simp [wt]
theorem wt_app (gap : M → Int) (ms ns : List M) : wt gap (ms ++ ns) = wt gap ms + wt gap ns := by simp [wt]
theorem wt_perm (gap : M → Int) {ms ns : List M} (p : ms.Perm ns) : wt gap ms = wt gap ns := by
  unfold wt
  induction p with
  | nil => rfl
  | cons x _ ih => simp only [List.map_cons, List.sum_cons, ih]
  | swap x y l => simp only [List.map_cons, List.sum_cons]; omega
  | trans _ _ ih1 ih2 => rw [ih1, ih2]
/-- each walk is led by a simple one of no less weight, if no ring is above 0 -/
theorem Pa.simple {gap : M → Int} (hr : ∀ ms, Ring en ok ms → wt gap ms ≤ 0) {a c : Nat} {ms : List M} {vs : List Nat} (h : Pa en ok a ms vs c) :
    ∃ ms' vs', Pa en ok a ms' vs' c ∧ (vs' ++ [c]).Nodup ∧ wt gap ms ≤ wt gap ms' := by
  induction h with
  | nil => exact ⟨[], [], .nil, by simp, Int.le_refl _⟩
  | @cons a b c m ms vs h1 h2 h3 ih =>
    obtain ⟨ms', vs', p, nd, w⟩ := ih
    by_cases e : a ∈ vs' ++ [c]
    · obtain ⟨ms1, ms2, vs1, vs2, e1, e2, p1, p2, n1⟩ := p.split e
      subst e1 e2
      rw [List.append_assoc] at nd
      have nd1 := (List.nodup_append.mp nd).1
      have nd2 := (List.nodup_append.mp nd).2.1
      have rg : Ring en ok (m :: ms1) := ⟨by simp, a, a :: vs1, .cons h1 h2 p1, List.nodup_cons.mpr ⟨n1, nd1⟩⟩
      have := hr _ rg
      rw [wt_cons] at this
      rw [wt_app] at w
      refine ⟨ms2, vs2, p2, nd2, ?_⟩
      rw [wt_cons]; omega
    · exact ⟨m :: ms', a :: vs', .cons h1 h2 p, List.nodup_cons.mpr ⟨e, nd⟩, by rw [wt_cons, wt_cons]; omega⟩
theorem Pa.tel {gap : M → Int} {f : Nat → Int} (hf : ∀ m a b, ok m → en m = some (a, b) → f a + gap m ≤ f b) {a c : Nat} {ms : List M} {vs : List Nat} (h : Pa en ok a ms vs c) : f a + wt gap ms ≤ f c := by
  induction h with
  | nil => simp [wt]
  | cons h1 h2 _ ih =>
    have := hf _ _ _ h1 h2
    rw [wt_cons]; omega
theorem Ring.le {gap : M → Int} {f : Nat → Int} (hf : ∀ m a b, ok m → en m = some (a, b) → f a + gap m ≤ f b) {ms : List M} (r : Ring en ok ms) : wt gap ms ≤ 0 := by
  obtain ⟨_, a, vs, p, _⟩ := r
  have := p.tel hf
  omega
/-- what is left of a ring behind one of its marks -/
theorem Ring.rest {ms : List M} (r : Ring en ok ms) {m : M} (hm : m ∈ ms) : ∃ i j ms' vs', en m = some (i, j) ∧ ok m ∧ Pa en ok j ms' vs' i ∧ (vs' ++ [i]).Nodup ∧ ms.Perm (m :: ms') := by
  obtain ⟨_, a, vs, p, nd⟩ := r
  obtain ⟨ms1, ms2, vs1, vs2, i, j, e1, e2, e3, e4, p1, p2⟩ := p.at_ hm
  subst e1 e2
  refine ⟨i, j, ms2 ++ ms1, vs2 ++ vs1, e3, e4, p2.app p1, ?_, ?_⟩
  · refine List.Perm.nodup (l := vs1 ++ i :: vs2) ?_ nd
    refine List.perm_middle.trans ?_
    refine List.Perm.trans ?_ (List.perm_append_comm (l₁ := [i]))
    exact List.Perm.cons _ List.perm_append_comm
  · refine List.perm_middle.trans ?_
    exact List.Perm.cons _ List.perm_append_comm
theorem Ring.close {m : M} {i j : Nat} (ho : ok m) (he : en m = some (i, j)) {ms : List M} {vs : List Nat} (p : Pa en ok j ms vs i) (nd : (vs ++ [i]).Nodup) : Ring en ok (m :: ms) :=
  ⟨by simp, i, i :: vs, .cons ho he p, by
    refine List.Perm.nodup (l := vs ++ [i]) ?_ nd
    exact List.perm_append_comm⟩
theorem Ring.perm_start {ms : List M} {a x : Nat} {vs : List Nat} (p : Pa en ok a ms vs a) (nd : vs.Nodup) (hx : x ∈ vs) : ∃ ms' vs', Pa en ok x ms' (x :: vs') x ∧ (x :: vs').Perm vs ∧ ms'.Perm ms := by
  obtain ⟨ms1, ms2, vs1, vs2, e1, e2, p1, p2, n1⟩ := p.split (x := x) (by simp [hx])
  subst e1 e2
  have q := p2.app p1
  have hx2 : x ∈ vs2 := by
    rcases List.mem_append.mp hx with z | z
    · exact absurd z n1
    · exact z
  cases p2 with
  | nil => cases hx2
  | @cons _ _ _ _ _ vs3 _ _ _ =>
    exact ⟨_, vs3 ++ vs1, q, List.perm_append_comm (l₁ := x :: vs3), List.perm_append_comm⟩
/-- a greatest number of a bounded set -/
theorem max_of {S : Int → Prop} {b : Int} (h0 : S 0) (hb : ∀ x, S x → x ≤ b) : ∃ m, S m ∧ ∀ x, S x → x ≤ m := by
  have key : ∀ (n : Nat) (y : Int), S y → b - y ≤ n → ∃ m, S m ∧ ∀ x, S x → x ≤ m := by
    intro n
    induction n with
    | zero => intro y hy hn; exact ⟨y, hy, fun x hx => by have := hb x hx; omega⟩
    | succ n ih =>
      intro y hy hn
      by_cases e : ∃ x, S x ∧ y < x
      · obtain ⟨x, hx, hl⟩ := e
        exact ih x hx (by omega)
      · exact ⟨y, hy, fun x hx => by
          rcases Int.lt_or_le y x with z | z
          · exact absurd ⟨x, hx, z⟩ e
          · exact z⟩
  exact key (b.toNat) 0 h0 (by omega)
theorem wt_le {gap : M → Int} {B : Int} (hB : 0 ≤ B) : ∀ {ms : List M}, (∀ m ∈ ms, gap m ≤ B) → wt gap ms ≤ ms.length * B
  | [], _ => by simp [wt]
  | m :: ms, h => by
    have h1 := wt_le hB (ms := ms) fun x hx => h x (List.mem_cons_of_mem _ hx)
    have h2 := h m List.mem_cons_self
    rw [wt_cons, List.length_cons]
    have : ((ms.length + 1 : Nat) : Int) * B = ms.length * B + B := by rw [Int.natCast_add, Int.add_mul]; simp
    omega
/-- no ring above 0: there are places -/
theorem feas {gap : M → Int} {B : Int} {n : Nat} (hB : 0 ≤ B) (hg : ∀ m, ok m → gap m ≤ B) (hn : ∀ m a b, ok m → en m = some (a, b) → a < n ∧ b < n) (hr : ∀ ms, Ring en ok ms → wt gap ms ≤ 0) :
    ∃ f : Nat → Int, ∀ m a b, ok m → en m = some (a, b) → f a + gap m ≤ f b := by
  have hm : ∀ v, ∃ m, (∃ a ms vs, Pa en ok a ms vs v ∧ wt gap ms = m) ∧ ∀ x, (∃ a ms vs, Pa en ok a ms vs v ∧ wt gap ms = x) → x ≤ m := fun v => by
    refine max_of (b := n * B) ⟨v, [], [], .nil, rfl⟩ ?_
    rintro x ⟨a, ms, vs, p, rfl⟩
    obtain ⟨ms', vs', p', nd, w⟩ := p.simple hr
    have h1 := wt_le hB (ms := ms') fun m hm => hg m (p'.oks m hm)
    have h2 : vs'.length ≤ n := by
      have nd' := (List.nodup_append.mp nd).1
      have := List.Nodup.length_le_of_subset (l₂ := List.range n) nd' fun x hx => List.mem_range.mpr (p'.lt hn x hx)
      simpa using this
    rw [p'.len] at h2
    have h3 : (ms'.length : Int) * B ≤ n * B := Int.mul_le_mul_of_nonneg_right (by omega) hB
    omega
  refine ⟨fun v => Classical.choose (hm v), fun m a b ho he => ?_⟩
  obtain ⟨⟨c, ms, vs, p, w⟩, _⟩ := Classical.choose_spec (hm a)
  obtain ⟨_, h2⟩ := Classical.choose_spec (hm b)
  have := h2 _ ⟨c, ms ++ [m], vs ++ [a], p.app (.cons ho he .nil), rfl⟩
  rw [wt_app] at this
  simp only [wt_cons] at this
  simp [wt] at this w ⊢
  omega
/-- from the ends to a path -/
theorem Pa.of_ends {c : Nat} : ∀ (ms : List M) (vs : List Nat), ms.length = vs.length → (∀ k (h : k < ms.length), ok (ms[k]'h) ∧ en (ms[k]'h) = some ((vs ++ [c]).getD k 0, (vs ++ [c]).getD (k + 1) 0)) → Pa en ok ((vs ++ [c]).getD 0 0) ms vs c
  | [], [], _, _ => .nil
  | m :: ms, v :: vs, e, h => by
    have h0 := h 0 (by simp)
    have ih := Pa.of_ends (c := c) ms vs (by simpa using e) fun k hk => by
      have := h (k + 1) (by simpa using hk)
      simpa using this
    exact .cons h0.1 (by simpa using h0.2) (by simpa using ih)
theorem Pa.ends {c : Nat} {a : Nat} {ms : List M} {vs : List Nat} (p : Pa en ok a ms vs c) : a = (vs ++ [c]).getD 0 0 ∧ ∀ k (h : k < ms.length), ok (ms[k]'h) ∧ en (ms[k]'h) = some ((vs ++ [c]).getD k 0, (vs ++ [c]).getD (k + 1) 0) := by
  induction p with
  | nil => exact ⟨rfl, fun k h => absurd h (Nat.not_lt_zero _)⟩
  | @cons a b c m ms vs h1 h2 h3 ih =>
    refine ⟨rfl, fun k h => ?_⟩
    cases k with
    | zero =>
      refine ⟨h1, ?_⟩
      simp only [List.getElem_cons_zero, List.cons_append, List.getD_cons_zero, List.getD_cons_succ]
      rw [← ih.1]; exact h2
    | succ k =>
      have := ih.2 k (by simpa using h)
      simpa using this
end
end Lk.Pt

set_option Elab.async false
set_option linter.all false
set_option maxHeartbeats 4000000
/-! greatest gaps -/
namespace Lk.Gp
open Lk.Pt
def step (f : List (Option Int)) (h : Nat × Nat × Int) : List (Option Int) :=
  match f.getD h.1 none with
  | none => f
  | some a => match f.getD h.2.1 none with
    | none => f.set h.2.1 (some (a + h.2.2))
    | some b => if b < a + h.2.2 then f.set h.2.1 (some (a + h.2.2)) else f
def gaps (n : Nat) (hs : List (Nat × Nat × Int)) (i : Nat) : List (Option Int) := (List.range (n - 1)).foldl (fun f _ => hs.foldl step f) ((List.replicate n none).set i (some 0))
theorem step_len (f : List (Option Int)) (h : Nat × Nat × Int) : (step f h).length = f.length := by
  unfold step
  split
  · rfl
  · split
    · simp
    · split <;> simp
theorem getD_set {f : List (Option Int)} {i v : Nat} {x : Option Int} (hi : i < f.length) : (f.set i x).getD v none = if v = i then x else f.getD v none := by
  simp only [List.getD_eq_getElem?_getD]
  by_cases e : v = i
  · subst e
    rw [List.getElem?_set_self hi, if_pos rfl]; rfl
  · rw [List.getElem?_set_ne (fun z => e z.symm), if_neg e]
/-- what a step does -/
theorem step_at {f : List (Option Int)} {h : Nat × Nat × Int} (hl : h.2.1 < f.length) (v : Nat) :
    (step f h).getD v none = f.getD v none ∨ ∃ a, v = h.2.1 ∧ f.getD h.1 none = some a ∧ (step f h).getD v none = some (a + h.2.2) ∧ ∀ b, f.getD v none = some b → b < a + h.2.2 := by
  unfold step
  split
  · exact .inl rfl
  · rename_i a ha
    split
    · rename_i hb
      rw [getD_set hl]
      by_cases e : v = h.2.1
      · rw [if_pos e]
        exact .inr ⟨a, e, ha, rfl, fun b q => by rw [e, hb] at q; cases q⟩
      · rw [if_neg e]; exact .inl rfl
    · rename_i b hb
      split
      · rename_i hlt
        rw [getD_set hl]
        by_cases e : v = h.2.1
        · rw [if_pos e]
          exact .inr ⟨a, e, ha, rfl, fun b' q => by rw [e, hb] at q; cases q; exact hlt⟩
        · rw [if_neg e]; exact .inl rfl
      · exact .inl rfl
theorem step_up {f : List (Option Int)} {h : Nat × Nat × Int} (hl : h.2.1 < f.length) {v : Nat} {x : Int} (e : f.getD v none = some x) : ∃ y, (step f h).getD v none = some y ∧ x ≤ y := by
  rcases step_at hl v with q | ⟨a, _, _, q, k⟩
  · exact ⟨x, by rw [q, e], Int.le_refl _⟩
  · exact ⟨_, q, Int.le_of_lt (k x e)⟩
theorem step_go {f : List (Option Int)} {h : Nat × Nat × Int} (hl : h.2.1 < f.length) {a : Int} (e : f.getD h.1 none = some a) : ∃ y, (step f h).getD h.2.1 none = some y ∧ a + h.2.2 ≤ y := by
  unfold step
  rw [e]
  dsimp only
  split
  · rw [getD_set hl, if_pos rfl]
    exact ⟨_, rfl, Int.le_refl _⟩
  · rename_i b hb
    split
    · rw [getD_set hl, if_pos rfl]
      exact ⟨_, rfl, Int.le_refl _⟩
    · exact ⟨b, hb, by omega⟩
theorem fold_len : ∀ (hs : List (Nat × Nat × Int)) (f : List (Option Int)), (hs.foldl step f).length = f.length
  | [], _ => rfl
  | h :: hs, f => by rw [List.foldl_cons, fold_len hs, step_len]
theorem fold_up : ∀ (hs : List (Nat × Nat × Int)) {f : List (Option Int)}, (∀ h ∈ hs, h.2.1 < f.length) → ∀ {v : Nat} {x : Int}, f.getD v none = some x → ∃ y, (hs.foldl step f).getD v none = some y ∧ x ≤ y
  | [], f, _, v, x, e => ⟨x, e, Int.le_refl _⟩
  | h :: hs, f, hl, v, x, e => by
    obtain ⟨y, e1, l1⟩ := step_up (hl h List.mem_cons_self) e
    obtain ⟨z, e2, l2⟩ := fold_up hs (f := step f h) (fun h' q => by rw [step_len]; exact hl h' (List.mem_cons_of_mem _ q)) e1
    exact ⟨z, e2, Int.le_trans l1 l2⟩
theorem fold_go : ∀ (hs : List (Nat × Nat × Int)) {f : List (Option Int)}, (∀ h ∈ hs, h.2.1 < f.length) → ∀ h ∈ hs, ∀ {a : Int}, f.getD h.1 none = some a → ∃ y, (hs.foldl step f).getD h.2.1 none = some y ∧ a + h.2.2 ≤ y
  | h0 :: hs, f, hl, h, hh, a, e => by
    have hl' : ∀ h' ∈ hs, h'.2.1 < (step f h0).length := fun h' q => by rw [step_len]; exact hl h' (List.mem_cons_of_mem _ q)
    rcases List.mem_cons.mp hh with rfl | hh
    · obtain ⟨y, e1, l1⟩ := step_go (hl h List.mem_cons_self) e
      obtain ⟨z, e2, l2⟩ := fold_up hs hl' e1
      exact ⟨z, e2, Int.le_trans l1 l2⟩
    · obtain ⟨y, e1, l1⟩ := step_up (hl h0 List.mem_cons_self) e
      obtain ⟨z, e2, l2⟩ := fold_go hs hl' h hh e1
      exact ⟨z, e2, by omega⟩
section
variable {M : Type} {en : M → Option (Nat × Nat)} {ok : M → Prop} {gap : M → Int}
theorem Pa.snoc {a c : Nat} {ms : List M} {vs : List Nat} (p : Pa en ok a ms vs c) : ms = [] ∧ a = c ∨ ∃ ms' m vs' b, ms = ms' ++ [m] ∧ Pa en ok a ms' vs' b ∧ ok m ∧ en m = some (b, c) := by
  induction p with
  | nil => exact .inl ⟨rfl, rfl⟩
  | @cons a b c m ms vs h1 h2 h3 ih =>
    rcases ih with ⟨rfl, rfl⟩ | ⟨ms', m', vs', b', e, p, o, q⟩
    · exact .inr ⟨[], m, [], a, rfl, .nil, h1, h2⟩
    · exact .inr ⟨m :: ms', m', a :: vs', b', by rw [e]; rfl, .cons h1 h2 p, o, q⟩
/-- what is told is a walk's -/
def Snd (en : M → Option (Nat × Nat)) (ok : M → Prop) (gap : M → Int) (i : Nat) (f : List (Option Int)) : Prop := ∀ v x, f.getD v none = some x → ∃ ms vs, Pa en ok i ms vs v ∧ wt gap ms = x
theorem snd_step {i : Nat} {f : List (Option Int)} {h : Nat × Nat × Int} (hl : h.2.1 < f.length) (hm : ∃ m, ok m ∧ en m = some (h.1, h.2.1) ∧ gap m = h.2.2) (s : Snd en ok gap i f) : Snd en ok gap i (step f h) := fun v x e => by
  rcases step_at hl v with q | ⟨a, rfl, e1, e2, _⟩
  · exact s v x (by rw [← q]; exact e)
  · rw [e2] at e
    cases e
    obtain ⟨m, h1, h2, h3⟩ := hm
    obtain ⟨ms, vs, p, w⟩ := s _ _ e1
    exact ⟨ms ++ [m], vs ++ [h.1], p.app (.cons h1 h2 .nil), by rw [wt_app, wt_cons, w, h3]; simp [wt]⟩
theorem snd_fold {i : Nat} : ∀ (hs : List (Nat × Nat × Int)) {f : List (Option Int)}, (∀ h ∈ hs, h.2.1 < f.length) → (∀ h ∈ hs, ∃ m, ok m ∧ en m = some (h.1, h.2.1) ∧ gap m = h.2.2) → Snd en ok gap i f → Snd en ok gap i (hs.foldl step f)
  | [], f, _, _, s => s
  | h :: hs, f, hl, hm, s => snd_fold hs (f := step f h) (fun h' q => by rw [step_len]; exact hl h' (List.mem_cons_of_mem _ q)) (fun h' q => hm h' (List.mem_cons_of_mem _ q)) (snd_step (hl h List.mem_cons_self) (hm h List.mem_cons_self) s)
theorem rounds {i n : Nat} {hs : List (Nat × Nat × Int)} (hi : i < n) (hl : ∀ h ∈ hs, h.2.1 < n) (hm : ∀ h ∈ hs, ∃ m, ok m ∧ en m = some (h.1, h.2.1) ∧ gap m = h.2.2)
    (hc : ∀ m a b, ok m → en m = some (a, b) → (a, b, gap m) ∈ hs) : ∀ r, let f := (List.range r).foldl (fun f _ => hs.foldl step f) ((List.replicate n none).set i (some 0))
      f.length = n ∧ Snd en ok gap i f ∧ ∀ v ms vs, Pa en ok i ms vs v → ms.length ≤ r → ∃ y, f.getD v none = some y ∧ wt gap ms ≤ y
  | 0 => by
    have e0 : ∀ v, ((List.replicate n (none : Option Int)).set i (some 0)).getD v none = if v = i then some 0 else none := fun v => by
      rw [getD_set (by simpa using hi)]
      split
      · rfl
      · simp only [List.getD_eq_getElem?_getD, List.getElem?_replicate]
        split <;> rfl
    refine ⟨by simp, fun v x e1 => ?_, fun v ms vs p l => ?_⟩
    · have e : ((List.replicate n (none : Option Int)).set i (some 0)).getD v none = some x := e1
      clear e1
      rw [e0] at e
      by_cases q : v = i
      · subst q
        rw [if_pos rfl] at e
        cases e
        exact ⟨[], [], .nil, rfl⟩
      · rw [if_neg q] at e
        cases e
    · cases p with
      | nil => exact ⟨0, by show ((List.replicate n (none : Option Int)).set i (some 0)).getD i none = some 0; rw [e0, if_pos rfl], by simp [wt]⟩
      | cons _ _ _ => simp at l
  | r + 1 => by
    obtain ⟨h1, h2, h3⟩ := rounds hi hl hm hc r
    rw [List.range_succ, List.foldl_append]
    generalize (List.range r).foldl (fun f _ => hs.foldl step f) ((List.replicate n none).set i (some 0)) = f at *
    show (hs.foldl step f).length = n ∧ Snd en ok gap i (hs.foldl step f) ∧ _
    have hl' : ∀ h ∈ hs, h.2.1 < f.length := fun h q => by rw [h1]; exact hl h q
    refine ⟨by rw [fold_len]; exact h1, snd_fold hs hl' hm h2, fun v ms vs p l => ?_⟩
    rcases Pa.snoc p with ⟨rfl, rfl⟩ | ⟨ms', m, vs', b, rfl, p', o, q⟩
    · obtain ⟨y, e, ly⟩ := h3 i [] vs p (by simp)
      obtain ⟨z, e2, lz⟩ := fold_up hs hl' e
      exact ⟨z, e2, Int.le_trans ly lz⟩
    · obtain ⟨y, e, ly⟩ := h3 b ms' vs' p' (by simp at l; omega)
      obtain ⟨z, e2, lz⟩ := fold_go hs hl' _ (hc m b v o q) e
      refine ⟨z, e2, ?_⟩
      rw [wt_app, wt_cons]
      have : wt gap ([] : List M) = 0 := rfl
      simp only at lz
      omega
theorem gaps_sound {i n : Nat} {hs : List (Nat × Nat × Int)} (hi : i < n) (hl : ∀ h ∈ hs, h.2.1 < n) (hm : ∀ h ∈ hs, ∃ m, ok m ∧ en m = some (h.1, h.2.1) ∧ gap m = h.2.2)
    (hc : ∀ m a b, ok m → en m = some (a, b) → (a, b, gap m) ∈ hs) {v : Nat} {x : Int} (e : (gaps n hs i).getD v none = some x) : ∃ ms vs, Pa en ok i ms vs v ∧ wt gap ms = x :=
  (rounds hi hl hm hc (n - 1)).2.1 v x e
theorem gaps_full {i n : Nat} {hs : List (Nat × Nat × Int)} (hi : i < n) (hl : ∀ h ∈ hs, h.2.1 < n) (hm : ∀ h ∈ hs, ∃ m, ok m ∧ en m = some (h.1, h.2.1) ∧ gap m = h.2.2)
    (hc : ∀ m a b, ok m → en m = some (a, b) → (a, b, gap m) ∈ hs) (hn : ∀ m a b, ok m → en m = some (a, b) → a < n ∧ b < n) {v : Nat} (hv : v < n) {ms : List M} {vs : List Nat} (p : Pa en ok i ms vs v) (nd : (vs ++ [v]).Nodup) : ∃ y, (gaps n hs i).getD v none = some y ∧ wt gap ms ≤ y := by
  refine (rounds hi hl hm hc (n - 1)).2.2 v ms vs p ?_
  have := List.Nodup.length_le_of_subset (l₂ := List.range n) nd fun x hx => by
    rcases List.mem_append.mp hx with z | z
    · exact List.mem_range.mpr (p.lt hn x z)
    · rw [List.mem_singleton.mp z]; exact List.mem_range.mpr hv
  rw [List.length_append, List.length_range, p.len] at this
  simp at this
  omega
/-- a rule is tight exactly if it lies on a ring that comes to 0 -/
theorem tight_iff {n : Nat} {hs : List (Nat × Nat × Int)} (hl : ∀ h ∈ hs, h.2.1 < n) (hm : ∀ h ∈ hs, ∃ m, ok m ∧ en m = some (h.1, h.2.1) ∧ gap m = h.2.2)
    (hc : ∀ m a b, ok m → en m = some (a, b) → (a, b, gap m) ∈ hs) (hn : ∀ m a b, ok m → en m = some (a, b) → a < n ∧ b < n) {F : Nat → Int} (hf : ∀ m a b, ok m → en m = some (a, b) → F a + gap m ≤ F b)
    {m : M} {i j : Nat} (ho : ok m) (he : en m = some (i, j)) : (gaps n hs j).getD i none = some (- gap m) ↔ ∃ ms, Ring en ok (m :: ms) ∧ wt gap (m :: ms) = 0 := by
  have hr : ∀ ms, Ring en ok ms → wt gap ms ≤ 0 := fun ms r => r.le hf
  obtain ⟨hi, hj⟩ := hn m i j ho he
  constructor
  · intro e
    obtain ⟨ms, vs, p, w⟩ := gaps_sound hj hl hm hc e
    obtain ⟨ms', vs', p', nd, w'⟩ := p.simple hr
    have rg := Ring.close ho he p' nd
    refine ⟨ms', rg, ?_⟩
    have := hr _ rg
    rw [wt_cons] at this ⊢
    omega
  · rintro ⟨ms, r, w⟩
    obtain ⟨i', j', ms', vs', e1, _, p, nd, pm⟩ := r.rest (m := m) List.mem_cons_self
    rw [he] at e1
    cases e1
    have w' := wt_perm gap pm
    rw [w, wt_cons] at w'
    obtain ⟨y, e, l⟩ := gaps_full hj hl hm hc hn hi p nd
    obtain ⟨ms2, vs2, p2, w2⟩ := gaps_sound hj hl hm hc e
    have h1 := p2.tel hf
    have h2 := hf m i j ho he
    rw [e]
    congr 1
    omega
end
end Lk.Gp

set_option Elab.async false
set_option linter.all false
set_option maxHeartbeats 4000000
/-! rows of places, ways along them, cuts -/
namespace Lk.Rw
open Lk.Pt
def ordStep (some : List Nat) (s : List (List Nat) × List (List Nat)) : List (List Nat) × List (List Nat) :=
  let later := s.2.flatMap fun row => (some.filter fun o => !decide (o ∈ row) && decide (row.headD 0 < o)).map fun o => row ++ [o]
  (s.1 ++ later, later)
def ordersN (n : Nat) : List (List Nat) := ((List.range (n - 1)).foldl (fun s _ => ordStep (List.range n) s) ([], (List.range n).map fun x => [x])).1
def Good (n : Nat) (r : List Nat) : Prop := r.Nodup ∧ (∀ x ∈ r, x < n) ∧ ∀ x ∈ r.tail, r.headD 0 < x
theorem good_snoc {n : Nat} {row : List Nat} {o : Nat} (h0 : row ≠ []) : Good n (row ++ [o]) ↔ Good n row ∧ o < n ∧ o ∉ row ∧ row.headD 0 < o := by
  cases row with
  | nil => exact absurd rfl h0
  | cons a row =>
    unfold Good
    rw [List.nodup_append]
    simp
    constructor
    · rintro ⟨⟨⟨h1, h2⟩, h3, h4⟩, ⟨h5, h6⟩, h7⟩
      refine ⟨⟨⟨h1, h2⟩, ⟨h5, fun x hx => h6 x (.inl hx)⟩, fun x hx => h7 x (.inl hx)⟩, h6 o (.inr rfl), ⟨fun e => h3 e.symm, fun h => h4 o h rfl⟩, h7 o (.inr rfl)⟩
    · rintro ⟨⟨⟨h1, h2⟩, ⟨h5, h6⟩, h7⟩, h8, ⟨h9, h10⟩, h11⟩
      refine ⟨⟨⟨h1, h2⟩, fun e => h9 e.symm, fun x hx e => h10 (e ▸ hx)⟩, ⟨h5, fun x hx => ?_⟩, fun x hx => ?_⟩
      · rcases hx with z | rfl
        · exact h6 x z
        · exact h8
      · rcases hx with z | rfl
        · exact h7 x z
        · exact h11
theorem ord_at (n : Nat) : ∀ j, let s := (List.range j).foldl (fun s _ => ordStep (List.range n) s) ([], (List.range n).map fun x => [x])
    (∀ r, r ∈ s.2 ↔ r.length = j + 1 ∧ Good n r) ∧ ∀ r, r ∈ s.1 ↔ 2 ≤ r.length ∧ r.length ≤ j + 1 ∧ Good n r
  | 0 => by
    refine ⟨fun r => ?_, fun r => ?_⟩
    · show r ∈ (List.range n).map (fun x => [x]) ↔ _
      rw [List.mem_map]
      constructor
      · rintro ⟨x, hx, rfl⟩
        exact ⟨rfl, by simp, fun y hy => by simp at hy; subst hy; exact List.mem_range.mp hx, fun y hy => by simp at hy⟩
      · rintro ⟨h1, _, h2, _⟩
        cases r with
        | nil => simp at h1
        | cons x r =>
          cases r with
          | nil => exact ⟨x, List.mem_range.mpr (h2 x (by simp)), rfl⟩
          | cons _ _ => simp at h1
    · constructor
      · intro h; cases h
      · rintro ⟨h1, h2, _⟩; omega
  | j + 1 => by
    obtain ⟨h1, h2⟩ := ord_at n j
    rw [List.range_succ, List.foldl_append]
    generalize (List.range j).foldl (fun s _ => ordStep (List.range n) s) ([], (List.range n).map fun x => [x]) = s at *
    show (∀ r, r ∈ (ordStep (List.range n) s).2 ↔ _) ∧ ∀ r, r ∈ (ordStep (List.range n) s).1 ↔ _
    have k1 : ∀ r, r ∈ (ordStep (List.range n) s).2 ↔ r.length = j + 1 + 1 ∧ Good n r := fun r => by
      show r ∈ s.2.flatMap (fun row => ((List.range n).filter fun o => !decide (o ∈ row) && decide (row.headD 0 < o)).map fun o => row ++ [o]) ↔ _
      rw [List.mem_flatMap]
      constructor
      · rintro ⟨row, hr, h⟩
        obtain ⟨o, ho, rfl⟩ := List.mem_map.mp h
        obtain ⟨l, g⟩ := (h1 row).mp hr
        rw [List.mem_filter, List.mem_range] at ho
        simp at ho
        exact ⟨by simp [l], (good_snoc (by rintro rfl; simp at l)).mpr ⟨g, ho.1, ho.2.1, by simpa using ho.2.2⟩⟩
      · rintro ⟨l, g⟩
        rcases List.eq_nil_or_concat r with rfl | ⟨row, o, rfl⟩
        · simp at l
        · have l' : row.length = j + 1 := by simpa using l
          rw [List.concat_eq_append] at g ⊢
          obtain ⟨g1, g2, g3, g4⟩ := (good_snoc (by rintro rfl; simp at l')).mp g
          refine ⟨row, (h1 row).mpr ⟨l', g1⟩, List.mem_map.mpr ⟨o, ?_, rfl⟩⟩
          rw [List.mem_filter, List.mem_range]
          simp
          exact ⟨g2, g3, by simpa using g4⟩
    refine ⟨k1, fun r => ?_⟩
    show r ∈ s.1 ++ (ordStep (List.range n) s).2 ↔ _
    rw [List.mem_append, h2, k1]
    constructor
    · rintro (⟨a, b, c⟩ | ⟨a, b⟩)
      · exact ⟨a, by omega, c⟩
      · exact ⟨by omega, by omega, b⟩
    · rintro ⟨a, b, c⟩
      by_cases e : r.length = j + 1 + 1
      · exact .inr ⟨e, c⟩
      · exact .inl ⟨a, by omega, c⟩
theorem good_len {n : Nat} {r : List Nat} (g : Good n r) : r.length ≤ n := by
  have := List.Nodup.length_le_of_subset (l₂ := List.range n) g.1 fun x hx => List.mem_range.mpr (g.2.1 x hx)
  simpa using this
theorem mem_orders {n : Nat} {r : List Nat} : r ∈ ordersN n ↔ 2 ≤ r.length ∧ Good n r := by
  have h := (ord_at n (n - 1)).2 r
  refine h.trans ⟨fun ⟨a, _, c⟩ => ⟨a, c⟩, fun ⟨a, c⟩ => ⟨a, ?_, c⟩⟩
  have := good_len c
  omega
section
variable {M : Type} (fr : Nat → Nat → List M)
def stepW (a b : Nat) (ws : List (List M)) : List (List M) := ws.flatMap fun w => (fr a b).map fun m => w ++ [m]
def waysTo (r : List Nat) (j : Nat) : List (List M) := (List.range j).foldl (fun ws k => stepW fr (r.getD k 0) (r.getD ((k + 1) % r.length) 0) ws) [[]]
end
section
variable {M : Type} {fr : Nat → Nat → List M} {en : M → Option (Nat × Nat)} {ok : M → Prop}
theorem waysTo_succ (r : List Nat) (j : Nat) : waysTo fr r (j + 1) = stepW fr (r.getD j 0) (r.getD ((j + 1) % r.length) 0) (waysTo fr r j) := by
  unfold waysTo
  rw [List.range_succ, List.foldl_append]
  rfl
theorem mem_ways (hf : ∀ a b m, m ∈ fr a b ↔ ok m ∧ en m = some (a, b)) (r : List Nat) : ∀ j (w : List M), w ∈ waysTo fr r j ↔ w.length = j ∧ ∀ k (h : k < w.length), ok (w[k]'h) ∧ en (w[k]'h) = some (r.getD k 0, r.getD ((k + 1) % r.length) 0)
  | 0, w => by
    simp only [waysTo, List.range_zero, List.foldl_nil, List.mem_singleton]
    constructor
    · rintro rfl
      exact ⟨rfl, fun k h => absurd h (Nat.not_lt_zero _)⟩
    · rintro ⟨h, _⟩
      exact List.eq_nil_of_length_eq_zero h
  | j + 1, w => by
    rw [waysTo_succ]
    unfold stepW
    rw [List.mem_flatMap]
    constructor
    · rintro ⟨v, hv, h⟩
      obtain ⟨m, hm, rfl⟩ := List.mem_map.mp h
      obtain ⟨l, q⟩ := (mem_ways hf r j v).mp hv
      refine ⟨by simp [l], fun k hk => ?_⟩
      by_cases e : k < v.length
      · rw [List.getElem_append_left e]
        exact q k e
      · have ek : k = j := by simp at hk; omega
        subst ek
        rw [List.getElem_append_right (by omega)]
        simp only [List.getElem_singleton]
        exact (hf _ _ _).mp hm
    · rintro ⟨l, q⟩
      rcases List.eq_nil_or_concat w with rfl | ⟨v, m, rfl⟩
      · simp at l
      · rw [List.concat_eq_append] at *
        have l' : v.length = j := by simpa using l
        refine ⟨v, (mem_ways hf r j v).mpr ⟨l', fun k h => ?_⟩, List.mem_map.mpr ⟨m, ?_, rfl⟩⟩
        · have := q k (by simp; omega)
          rw [List.getElem_append_left h] at this
          exact this
        · have := q j (by simp; omega)
          rw [List.getElem_append_right (by omega)] at this
          simp only [List.getElem_singleton] at this
          exact (hf _ _ _).mpr this
theorem getD_round {r : List Nat} (h0 : r ≠ []) {k : Nat} (hk : k < r.length) : (r ++ [r.getD 0 0]).getD (k + 1) 0 = r.getD ((k + 1) % r.length) 0 := by
  by_cases e : k + 1 < r.length
  · rw [Nat.mod_eq_of_lt e]
    simp only [List.getD_eq_getElem?_getD, List.getElem?_append_left e]
  · have : k + 1 = r.length := by omega
    rw [this, Nat.mod_self]
    simp only [List.getD_eq_getElem?_getD]
    rw [List.getElem?_append_right (Nat.le_refl _)]
    simp
theorem getD_in {r : List Nat} {x : Nat} {k : Nat} (hk : k < r.length) : (r ++ [x]).getD k 0 = r.getD k 0 := by
  simp only [List.getD_eq_getElem?_getD, List.getElem?_append_left hk]
/-- a way along a row is a ring -/
theorem ways_ring (hf : ∀ a b m, m ∈ fr a b ↔ ok m ∧ en m = some (a, b)) {n : Nat} {r : List Nat} (hr : r ∈ ordersN n) {w : List M} (hw : w ∈ waysTo fr r r.length) : Ring en ok w := by
  obtain ⟨l2, g⟩ := mem_orders.mp hr
  obtain ⟨l, q⟩ := (mem_ways hf r _ w).mp hw
  have h0 : r ≠ [] := by rintro rfl; simp at l2
  refine ⟨by rintro rfl; simp at l; omega, r.getD 0 0, r, ?_, g.1⟩
  have := Pa.of_ends (en := en) (ok := ok) (c := r.getD 0 0) w r l fun k hk => by
    have hk' : k < r.length := by omega
    rw [getD_round h0 hk', getD_in hk']
    exact q k hk
  rw [getD_in (by omega)] at this
  exact this
/-- the least of a row -/
theorem least_of : ∀ (vs : List Nat), vs ≠ [] → ∃ x ∈ vs, ∀ y ∈ vs, x ≤ y
  | [x], _ => ⟨x, by simp, fun y hy => by simp at hy; omega⟩
  | x :: y :: vs, _ => by
    obtain ⟨z, hz, h⟩ := least_of (y :: vs) (by simp)
    by_cases e : x ≤ z
    · exact ⟨x, by simp, fun u hu => by
        rcases List.mem_cons.mp hu with rfl | hu
        · exact Nat.le_refl _
        · exact Nat.le_trans e (h u hu)⟩
    · exact ⟨z, List.mem_cons_of_mem _ hz, fun u hu => by
        rcases List.mem_cons.mp hu with rfl | hu
        · omega
        · exact h u hu⟩
/-- a ring of two or more is a way along a row -/
theorem ring_ways (hf : ∀ a b m, m ∈ fr a b ↔ ok m ∧ en m = some (a, b)) {n : Nat} (hn : ∀ m a b, ok m → en m = some (a, b) → a < n ∧ b < n) (hu : ∀ m a, ok m → en m ≠ some (a, a)) {w : List M} (rg : Ring en ok w) : ∃ r ∈ ordersN n, ∃ v ∈ waysTo fr r r.length, v.Perm w := by
  obtain ⟨h0, a, vs, p, nd⟩ := rg
  have l2 : 2 ≤ w.length := by
    cases p with
    | nil => exact absurd rfl h0
    | @cons _ b _ m ms vs' h1 h2 h3 =>
      cases h3 with
      | nil => exact absurd h2 (hu _ _ h1)
      | cons _ _ _ => simp
  have lv := p.len
  obtain ⟨x, hx, hmin⟩ := least_of vs (by rintro rfl; simp at lv; omega)
  obtain ⟨ms', vs', p', pv, pm⟩ := Ring.perm_start p nd hx
  have nd' : (x :: vs').Nodup := pv.symm.nodup nd
  have l' := p'.len
  have lw : ms'.length = w.length := pm.length_eq
  have g : Good n (x :: vs') := by
    refine ⟨nd', p'.lt hn, fun y hy => ?_⟩
    have hy : y ∈ vs' := hy
    show x < y
    have h1 := hmin y (pv.subset (List.mem_cons_of_mem _ hy))
    have h2 : x ≠ y := fun e => (List.nodup_cons.mp nd').1 (e ▸ hy)
    omega
  refine ⟨x :: vs', mem_orders.mpr ⟨by omega, g⟩, ms', (mem_ways hf _ _ _).mpr ⟨l'.symm, fun k hk => ?_⟩, pm⟩
  have := p'.ends.2 k hk
  have hk' : k < (x :: vs').length := by omega
  have e0 : (x :: vs').getD 0 0 = x := rfl
  rw [← e0] at this
  simp only [e0] at this
  rw [getD_in hk'] at this
  have e1 := getD_round (r := x :: vs') (by simp) hk'
  rw [e0] at e1
  rw [e1] at this
  exact this
end
/-! ### cuts -/
def cutsL (n : Nat) : List (List Nat) := (List.range n).foldl (fun f k => f ++ f.map (fun o => o ++ [k])) [[]]
theorem cutsL_succ (n : Nat) : cutsL (n + 1) = cutsL n ++ (cutsL n).map fun o => o ++ [n] := by
  unfold cutsL
  rw [List.range_succ, List.foldl_append]
  rfl
theorem mem_cutsL : ∀ (n : Nat) (l : List Nat), l ∈ cutsL n ↔ l.Pairwise (· < ·) ∧ ∀ x ∈ l, x < n
  | 0, l => by
    simp only [cutsL, List.range_zero, List.foldl_nil, List.mem_singleton]
    constructor
    · rintro rfl
      exact ⟨.nil, fun x h => nomatch h⟩
    · rintro ⟨_, h⟩
      cases l with
      | nil => rfl
      | cons a l => exact absurd (h a (by simp)) (Nat.not_lt_zero _)
  | n + 1, l => by
    rw [cutsL_succ, List.mem_append, List.mem_map, mem_cutsL n l]
    constructor
    · rintro (⟨a, b⟩ | ⟨o, ho, rfl⟩)
      · exact ⟨a, fun x hx => Nat.lt_succ_of_lt (b x hx)⟩
      · obtain ⟨a, b⟩ := (mem_cutsL n o).mp ho
        refine ⟨List.pairwise_append.mpr ⟨a, by simp, fun x hx y hy => by simp at hy; rw [hy]; exact b x hx⟩, fun x hx => ?_⟩
        rcases List.mem_append.mp hx with z | z
        · exact Nat.lt_succ_of_lt (b x z)
        · rw [List.mem_singleton.mp z]; exact Nat.lt_succ_self _
    · rintro ⟨a, b⟩
      rcases List.eq_nil_or_concat l with rfl | ⟨o, k, rfl⟩
      · exact .inl ⟨.nil, fun x h => nomatch h⟩
      · rw [List.concat_eq_append] at *
        obtain ⟨a1, _, a2⟩ := List.pairwise_append.mp a
        by_cases e : k = n
        · subst e
          exact .inr ⟨o, (mem_cutsL k o).mpr ⟨a1, fun x hx => a2 x hx k (by simp)⟩, rfl⟩
        · have hk := b k (by simp)
          exact .inl ⟨a, fun x hx => by
            rcases List.mem_append.mp hx with z | z
            · have := a2 x z k (by simp); omega
            · rw [List.mem_singleton.mp z]; omega⟩
end Lk.Rw

set_option Elab.async false
set_option linter.all false
set_option maxRecDepth 100000
set_option maxHeartbeats 0
namespace LkHead
open PySem PySem.Spec PyProof.Rows L2
def top (i : Nat) : Stmt := PySem.Challenge.pw_likecuts_k07_whole_what_stands_by_all_cu.main.body.getD i (.Pass ⟨0, 0, 0, 0⟩)
abbrev s_is_number : Stmt := top 8
def d_is_number : He.DefD := ⟨("is_number", none), "is_number", "is_number", defArgs s_is_number, defBody s_is_number, defScope s_is_number, [], []⟩
abbrev s_tuple_of : Stmt := top 9
def d_tuple_of : He.DefD := ⟨("tuple_of", none), "tuple_of", "tuple_of", defArgs s_tuple_of, defBody s_tuple_of, defScope s_tuple_of, [], []⟩
abbrev s_is_tuple_of : Stmt := top 10
def d_is_tuple_of : He.DefD := ⟨("is_tuple_of", none), "is_tuple_of", "is_tuple_of", defArgs s_is_tuple_of, defBody s_is_tuple_of, defScope s_is_tuple_of, [], []⟩
abbrev s_fraction : Stmt := top 13
def d_fraction : He.DefD := ⟨("fraction", none), "fraction", "fraction", defArgs s_fraction, defBody s_fraction, defScope s_fraction, [], []⟩
abbrev s_plus : Stmt := top 14
def d_plus : He.DefD := ⟨("plus", none), "plus", "plus", defArgs s_plus, defBody s_plus, defScope s_plus, [], []⟩
abbrev s_order : Stmt := top 15
def d_order : He.DefD := ⟨("order", none), "order", "order", defArgs s_order, defBody s_order, defScope s_order, [], []⟩
abbrev s_is_thing_below : Stmt := top 19
def d_is_thing_below : He.DefD := ⟨("is_thing_below", none), "is_thing_below", "is_thing_below", defArgs s_is_thing_below, defBody s_is_thing_below, defScope s_is_thing_below, [], []⟩
abbrev s_has_mark : Stmt := top 20
def d_has_mark : He.DefD := ⟨("has_mark", none), "has_mark", "has_mark", defArgs s_has_mark, defBody s_has_mark, defScope s_has_mark, [], []⟩
abbrev s_rule_of : Stmt := top 21
def d_rule_of : He.DefD := ⟨("rule_of", none), "rule_of", "rule_of", defArgs s_rule_of, defBody s_rule_of, defScope s_rule_of, [], []⟩
abbrev s_is_ring : Stmt := top 22
def d_is_ring : He.DefD := ⟨("is_ring", none), "is_ring", "is_ring", defArgs s_is_ring, defBody s_is_ring, defScope s_is_ring, [], []⟩
abbrev s_ring_far : Stmt := top 23
def d_ring_far : He.DefD := ⟨("ring_far", none), "ring_far", "ring_far", defArgs s_ring_far, defBody s_ring_far, defScope s_ring_far, [], []⟩
abbrev s_no_room : Stmt := top 24
def d_no_room : He.DefD := ⟨("no_room", none), "no_room", "no_room", defArgs s_no_room, defBody s_no_room, defScope s_no_room, [], []⟩
abbrev s_is_no_room : Stmt := top 25
def d_is_no_room : He.DefD := ⟨("is_no_room", none), "is_no_room", "is_no_room", defArgs s_is_no_room, defBody s_is_no_room, defScope s_is_no_room, [], []⟩
abbrev s_sure_room : Stmt := top 26
def d_sure_room : He.DefD := ⟨("sure_room", none), "sure_room", "sure_room", defArgs s_sure_room, defBody s_sure_room, defScope s_sure_room, [], []⟩
abbrev s_gaps_from : Stmt := top 27
def d_gaps_from : He.DefD := ⟨("gaps_from", none), "gaps_from", "gaps_from", defArgs s_gaps_from, defBody s_gaps_from, defScope s_gaps_from, [], []⟩
abbrev s_ties_of : Stmt := top 28
def d_ties_of : He.DefD := ⟨("ties_of", none), "ties_of", "ties_of", defArgs s_ties_of, defBody s_ties_of, defScope s_ties_of, [], []⟩
abbrev s_hung_lots : Stmt := top 29
def d_hung_lots : He.DefD := ⟨("hung_lots", none), "hung_lots", "hung_lots", defArgs s_hung_lots, defBody s_hung_lots, defScope s_hung_lots, [], []⟩
abbrev s_come_to : Stmt := top 30
def d_come_to : He.DefD := ⟨("come_to", none), "come_to", "come_to", defArgs s_come_to, defBody s_come_to, defScope s_come_to, [], []⟩
abbrev s_loose_lot : Stmt := top 31
def d_loose_lot : He.DefD := ⟨("loose_lot", none), "loose_lot", "loose_lot", defArgs s_loose_lot, defBody s_loose_lot, defScope s_loose_lot, [], []⟩
abbrev s_is_loose_lot : Stmt := top 32
def d_is_loose_lot : He.DefD := ⟨("is_loose_lot", none), "is_loose_lot", "is_loose_lot", defArgs s_is_loose_lot, defBody s_is_loose_lot, defScope s_is_loose_lot, [], []⟩
abbrev s_standing : Stmt := top 33
def d_standing : He.DefD := ⟨("standing", none), "standing", "standing", defArgs s_standing, defBody s_standing, defScope s_standing, [], []⟩
abbrev s_stands : Stmt := top 34
def d_stands : He.DefD := ⟨("stands", none), "stands", "stands", defArgs s_stands, defBody s_stands, defScope s_stands, [], []⟩
abbrev s_law_box : Stmt := top 36
def d_law_box : He.DefD := ⟨("_law_box", none), "_law_box", "_law_box", defArgs s_law_box, defBody s_law_box, defScope s_law_box, [], []⟩
abbrev s_law_take : Stmt := top 37
def d_law_take : He.DefD := ⟨("_law_take", none), "_law_take", "_law_take", defArgs s_law_take, defBody s_law_take, defScope s_law_take, [], []⟩
abbrev s_law_cells : Stmt := top 38
def d_law_cells : He.DefD := ⟨("_law_cells", none), "_law_cells", "_law_cells", defArgs s_law_cells, defBody s_law_cells, defScope s_law_cells, [], []⟩
abbrev s_law_of : Stmt := top 39
def d_law_of : He.DefD := ⟨("_law_of", none), "_law_of", "_law_of", defArgs s_law_of, defBody s_law_of, defScope s_law_of, [], []⟩
abbrev s_law_pick : Stmt := top 40
def d_law_pick : He.DefD := ⟨("_law_pick", none), "_law_pick", "_law_pick", defArgs s_law_pick, defBody s_law_pick, defScope s_law_pick, [], []⟩
abbrev s_law_lists : Stmt := top 41
def d_law_lists : He.DefD := ⟨("_law_lists", none), "_law_lists", "_law_lists", defArgs s_law_lists, defBody s_law_lists, defScope s_law_lists, [], []⟩
abbrev s_law_same : Stmt := top 42
def d_law_same : He.DefD := ⟨("_law_same", none), "_law_same", "_law_same", defArgs s_law_same, defBody s_law_same, defScope s_law_same, [], []⟩
abbrev s_law_frac : Stmt := top 43
def d_law_frac : He.DefD := ⟨("_law_frac", none), "_law_frac", "_law_frac", defArgs s_law_frac, defBody s_law_frac, defScope s_law_frac, [], []⟩
abbrev s_law_add : Stmt := top 44
def d_law_add : He.DefD := ⟨("_law_add", none), "_law_add", "_law_add", defArgs s_law_add, defBody s_law_add, defScope s_law_add, [], []⟩
abbrev s_law_off : Stmt := top 45
def d_law_off : He.DefD := ⟨("_law_off", none), "_law_off", "_law_off", defArgs s_law_off, defBody s_law_off, defScope s_law_off, [], []⟩
abbrev s_law_sum : Stmt := top 46
def d_law_sum : He.DefD := ⟨("_law_sum", none), "_law_sum", "_law_sum", defArgs s_law_sum, defBody s_law_sum, defScope s_law_sum, [], []⟩
abbrev s_law_below : Stmt := top 47
def d_law_below : He.DefD := ⟨("_law_below", none), "_law_below", "_law_below", defArgs s_law_below, defBody s_law_below, defScope s_law_below, [], []⟩
abbrev s_law_plain : Stmt := top 48
def d_law_plain : He.DefD := ⟨("_law_plain", none), "_law_plain", "_law_plain", defArgs s_law_plain, defBody s_law_plain, defScope s_law_plain, [], []⟩
abbrev s_law_scale : Stmt := top 49
def d_law_scale : He.DefD := ⟨("_law_scale", none), "_law_scale", "_law_scale", defArgs s_law_scale, defBody s_law_scale, defScope s_law_scale, [], []⟩
abbrev s_law_two : Stmt := top 50
def d_law_two : He.DefD := ⟨("_law_two", none), "_law_two", "_law_two", defArgs s_law_two, defBody s_law_two, defScope s_law_two, [], []⟩
abbrev s_law_hards : Stmt := top 51
def d_law_hards : He.DefD := ⟨("_law_hards", none), "_law_hards", "_law_hards", defArgs s_law_hards, defBody s_law_hards, defScope s_law_hards, [], []⟩
abbrev s_law_spots : Stmt := top 52
def d_law_spots : He.DefD := ⟨("_law_spots", none), "_law_spots", "_law_spots", defArgs s_law_spots, defBody s_law_spots, defScope s_law_spots, [], []⟩
abbrev s_law_counts : Stmt := top 53
def d_law_counts : He.DefD := ⟨("_law_counts", none), "_law_counts", "_law_counts", defArgs s_law_counts, defBody s_law_counts, defScope s_law_counts, [], []⟩
abbrev s_law_ends : Stmt := top 54
def d_law_ends : He.DefD := ⟨("_law_ends", none), "_law_ends", "_law_ends", defArgs s_law_ends, defBody s_law_ends, defScope s_law_ends, [], []⟩
abbrev s_law_marks : Stmt := top 55
def d_law_marks : He.DefD := ⟨("_law_marks", none), "_law_marks", "_law_marks", defArgs s_law_marks, defBody s_law_marks, defScope s_law_marks, [], []⟩
abbrev s_law_orders : Stmt := top 56
def d_law_orders : He.DefD := ⟨("_law_orders", none), "_law_orders", "_law_orders", defArgs s_law_orders, defBody s_law_orders, defScope s_law_orders, [], []⟩
abbrev s_law_all_rings : Stmt := top 57
def d_law_all_rings : He.DefD := ⟨("_law_all_rings", none), "_law_all_rings", "_law_all_rings", defArgs s_law_all_rings, defBody s_law_all_rings, defScope s_law_all_rings, [], []⟩
abbrev s_law_far : Stmt := top 58
def d_law_far : He.DefD := ⟨("_law_far", none), "_law_far", "_law_far", defArgs s_law_far, defBody s_law_far, defScope s_law_far, [], []⟩
abbrev s_law_is_hard : Stmt := top 59
def d_law_is_hard : He.DefD := ⟨("_law_is_hard", none), "_law_is_hard", "_law_is_hard", defArgs s_law_is_hard, defBody s_law_is_hard, defScope s_law_is_hard, [], []⟩
abbrev s_law_lone_lots : Stmt := top 60
def d_law_lone_lots : He.DefD := ⟨("_law_lone_lots", none), "_law_lone_lots", "_law_lone_lots", defArgs s_law_lone_lots, defBody s_law_lone_lots, defScope s_law_lone_lots, [], []⟩
abbrev s_law_cuts : Stmt := top 61
def d_law_cuts : He.DefD := ⟨("_law_cuts", none), "_law_cuts", "_law_cuts", defArgs s_law_cuts, defBody s_law_cuts, defScope s_law_cuts, [], []⟩
abbrev s_law_is_loose : Stmt := top 62
def d_law_is_loose : He.DefD := ⟨("_law_is_loose", none), "_law_is_loose", "_law_is_loose", defArgs s_law_is_loose, defBody s_law_is_loose, defScope s_law_is_loose, [], []⟩
abbrev s_law_frame : Stmt := top 63
def d_law_frame : He.DefD := ⟨("_law_frame", none), "_law_frame", "_law_frame", defArgs s_law_frame, defBody s_law_frame, defScope s_law_frame, [], []⟩
abbrev s_law_front_right : Stmt := top 64
def d_law_front_right : He.DefD := ⟨("_law_front_right", none), "_law_front_right", "_law_front_right", defArgs s_law_front_right, defBody s_law_front_right, defScope s_law_front_right, [], []⟩
abbrev s_law_heard : Stmt := top 65
def d_law_heard : He.DefD := ⟨("_law_heard", none), "_law_heard", "_law_heard", defArgs s_law_heard, defBody s_law_heard, defScope s_law_heard, [], []⟩
abbrev s_law_right : Stmt := top 66
def d_law_right : He.DefD := ⟨("_law_right", none), "_law_right", "_law_right", defArgs s_law_right, defBody s_law_right, defScope s_law_right, [], []⟩
abbrev s_law : Stmt := top 67
def d_law : He.DefD := ⟨("law", none), "law", "law", defArgs s_law, defBody s_law, defScope s_law, [], []⟩
def fnA : List He.DefD := [d_is_number, d_tuple_of, d_is_tuple_of, d_fraction, d_plus, d_order, d_is_thing_below, d_has_mark, d_rule_of, d_is_ring, d_ring_far, d_no_room, d_is_no_room, d_sure_room, d_gaps_from, d_ties_of, d_hung_lots, d_come_to, d_loose_lot, d_is_loose_lot, d_standing, d_stands, d_law_box, d_law_take, d_law_cells, d_law_of, d_law_pick]
def fnB : List He.DefD := [d_law_lists, d_law_same, d_law_frac, d_law_add, d_law_off, d_law_sum, d_law_below, d_law_plain, d_law_scale, d_law_two, d_law_hards, d_law_spots, d_law_counts, d_law_ends, d_law_marks, d_law_orders, d_law_all_rings, d_law_far, d_law_is_hard, d_law_lone_lots, d_law_cuts, d_law_is_loose, d_law_frame, d_law_front_right, d_law_heard, d_law_right, d_law]
def fn : List He.DefD := fnA ++ fnB
def faA : List He.Fa := [.glo "is_number", .glo "tuple_of", .glo "is_tuple_of", .glo "fraction", .glo "plus", .glo "order", .glo "is_thing_below", .glo "has_mark", .glo "rule_of", .glo "is_ring", .glo "ring_far", .glo "no_room", .glo "is_no_room", .glo "sure_room", .glo "gaps_from", .glo "ties_of", .glo "hung_lots", .glo "come_to", .glo "loose_lot", .glo "is_loose_lot", .glo "standing", .glo "stands", .glo "_law_box", .glo "_law_take", .glo "_law_cells", .glo "_law_of", .glo "_law_pick"]
def faB : List He.Fa := [.glo "_law_lists", .glo "_law_same", .glo "_law_frac", .glo "_law_add", .glo "_law_off", .glo "_law_sum", .glo "_law_below", .glo "_law_plain", .glo "_law_scale", .glo "_law_two", .glo "_law_hards", .glo "_law_spots", .glo "_law_counts", .glo "_law_ends", .glo "_law_marks", .glo "_law_orders", .glo "_law_all_rings", .glo "_law_far", .glo "_law_is_hard", .glo "_law_lone_lots", .glo "_law_cuts", .glo "_law_is_loose", .glo "_law_frame", .glo "_law_front_right", .glo "_law_heard", .glo "_law_right", .glo "law"]
def faC : List He.Fa := [.free "isinstance", .free "int", .free "bool", .free "tuple", .free "list", .free "len", .free "str", .free "all", .free "any", .free "set", .free "sorted", .free "range", .free "enumerate", .free "zip", .free "min", .free "max", .free "abs"]
def faD : List He.Fa := [.str "HARD" "hard", .str "EASE" "ease", .glo "NONE", .glo "NoRoom", .glo "Loose", .glo "Afloat", .glo "NoPlace", .glo "Unfit"]
def fa : List He.Fa := faA ++ faB ++ faC ++ faD
def ex (K : PySem.W.Frag) : Bool := He.tupB K "NONE" [.int 0, .int 1] && He.eqO (PySem.W.nsIn K mainGlobals "gcd") (some (some (.builtin "math.gcd")))
abbrev R : PySem.W.OpenRow := PySem.W.OpenLaw.row PySem.Challenge.rw_likecuts_k07_whole_what_stands_by_all_cu
def obsY (fa : List He.Fa) (fn : List He.DefD) (ex : PySem.W.Frag → Bool) (K : PySem.W.Frag) : He.AlD × Bool := (He.obsD fa fn K, ex K)
def obsYG (n : Nat) (fa : List He.Fa) (fn : List He.DefD) (ex : PySem.W.Frag → Bool) (g : Addr → Option Obj) : He.AlD × Bool := obsY fa fn ex (He.frG g (He.asD g n))
structure SaysY (fa : List He.Fa) (fn : List He.DefD) (ex : PySem.W.Frag → Bool) (K : PySem.W.Frag) : Prop where
  d : He.SaysD fa fn K
  more : ex K = true
def hookY (n : Nat) (fa : List He.Fa) (fn : List He.DefD) (ex : PySem.W.Frag → Bool) : PySem.W.Hook where
  α := He.AlD × Bool
  obs := fun s => obsYG n fa fn ex s.heap.get?
  val := fun _ => (He.valD fn, true)
  says := fun _ h => ∃ K : PySem.W.Frag, K.In h ∧ SaysY fa fn ex K
  of := fun _ _ e => ⟨_, He.frG_in, ⟨congrArg Prod.fst e, congrArg Prod.snd e⟩⟩
  keeps := fun _ _ _ ⟨K, hK, c⟩ k => ⟨K, PySem.W.Frag.In.keeps hK k, c⟩
theorem obsY_eq {n : Nat} {fa : List He.Fa} {fn : List He.DefD} {ex : PySem.W.Frag → Bool} {g : Addr → Option Obj} {s : Shared} (h : ∀ a, g a = s.heap.get? a) : obsYG n fa fn ex g = (hookY n fa fn ex).obs s := by
  have e : g = s.heap.get? := funext h
  rw [e] <;> rfl
def looseA : List PySem.Str := [("NoPlace" : PySem.Str), ("Unfit" : PySem.Str), ("NoRoom" : PySem.Str), ("Loose" : PySem.Str), ("Afloat" : PySem.Str), ("is_number" : PySem.Str), ("tuple_of" : PySem.Str), ("is_tuple_of" : PySem.Str), ("NONE" : PySem.Str), ("fraction" : PySem.Str), ("plus" : PySem.Str), ("order" : PySem.Str), ("HARD" : PySem.Str), ("EASE" : PySem.Str), ("is_thing_below" : PySem.Str), ("has_mark" : PySem.Str), ("rule_of" : PySem.Str), ("is_ring" : PySem.Str), ("ring_far" : PySem.Str), ("no_room" : PySem.Str), ("is_no_room" : PySem.Str), ("sure_room" : PySem.Str), ("gaps_from" : PySem.Str), ("ties_of" : PySem.Str), ("hung_lots" : PySem.Str), ("come_to" : PySem.Str), ("loose_lot" : PySem.Str), ("is_loose_lot" : PySem.Str), ("standing" : PySem.Str), ("stands" : PySem.Str), ("_law_box" : PySem.Str), ("_law_take" : PySem.Str), ("_law_cells" : PySem.Str)]
def looseB : List PySem.Str := [("_law_of" : PySem.Str), ("_law_pick" : PySem.Str), ("_law_lists" : PySem.Str), ("_law_same" : PySem.Str), ("_law_frac" : PySem.Str), ("_law_add" : PySem.Str), ("_law_off" : PySem.Str), ("_law_sum" : PySem.Str), ("_law_below" : PySem.Str), ("_law_plain" : PySem.Str), ("_law_scale" : PySem.Str), ("_law_two" : PySem.Str), ("_law_hards" : PySem.Str), ("_law_spots" : PySem.Str), ("_law_counts" : PySem.Str), ("_law_ends" : PySem.Str), ("_law_marks" : PySem.Str), ("_law_orders" : PySem.Str), ("_law_all_rings" : PySem.Str), ("_law_far" : PySem.Str), ("_law_is_hard" : PySem.Str), ("_law_lone_lots" : PySem.Str), ("_law_cuts" : PySem.Str), ("_law_is_loose" : PySem.Str), ("_law_frame" : PySem.Str), ("_law_front_right" : PySem.Str), ("_law_heard" : PySem.Str), ("_law_right" : PySem.Str)]
def loose : List PySem.Str := looseA ++ looseB
abbrev qv : Program := PySem.W.view R.prog [0, 67]
end LkHead

set_option Elab.async false
set_option linter.all false
set_option maxRecDepth 100000
set_option maxHeartbeats 4000000
/-! the data level: values as PyData, the heap hidden -/
namespace Lk
open PySem PySem.Spec PyProof.Rows L2

/-! ### heaps without the owned -/
abbrev Own := Addr → Bool
def hid (O : Own) (H : Hp) : Hp := fun a => if O a = true then none else H a
theorem hid_same {O : Own} {H : Hp} : Same (hid O H) H := fun a o h => by
  unfold hid at h
  split at h
  · cases h
  · exact h
theorem same_hid {O : Own} {H H' : Hp} (s : Same H H') : Same (hid O H) (hid O H') := fun a o h => by
  unfold hid at h ⊢
  split at h
  · cases h
  · rename_i q
    rw [if_neg q]
    exact s a o h
theorem hid_no {O : Own} {H : Hp} {a : Addr} (h : O a = false) : hid O H a = H a := by
  unfold hid
  rw [if_neg (by rw [h]; decide)]
theorem hid_yes {O : Own} {H : Hp} {a : Addr} (h : O a = true) : hid O H a = none := by
  unfold hid
  rw [if_pos h]
theorem hid_upd {O : Own} {H : Hp} {a : Addr} {o : HO} (h : O a = true) : hid O (upd H a o) = hid O H := by
  funext b
  unfold hid
  by_cases q : O b = true
  · rw [if_pos q, if_pos q]
  · rw [if_neg q, if_neg q, upd_ne (by rintro rfl; exact q h)]
theorem hid_less {O O' : Own} {H : Hp} (s : ∀ a, O' a = true → O a = true) : Same (hid O H) (hid O' H) := fun a o h => by
  unfold hid at h ⊢
  split at h
  · cases h
  · rename_i q
    rw [if_neg (fun z => q (s a z))]
    exact h
theorem same_new {H : Hp} {p : Addr} {o : HO} (n : H p = none) : Same H (upd H p o) := fun a u h => by
  rw [upd_ne (ne_of_none h n)]
  exact h
theorem seqT_keep {K : PySem.W.Frag} {H H' : Hp} {a : Addr} {xs : List V} (e : Same H H') (h : SqT K H a xs) : SqT K H' a xs := by
  rcases h with (h | ⟨o, h⟩) | h
  · exact .inl (.inl (e _ _ h))
  · exact .inl (.inr ⟨o, e _ _ h⟩)
  · exact .inr h
mutual
theorem dp_keep {K : PySem.W.Frag} {H H' : Hp} (e : Same H H') : ∀ (d : PyData) (v : V), Dp K H v d → Dp K H' v d
  | .none, v, h => by cases h; exact .non
  | .bool b, v, h => by cases h; exact .bl b
  | .int b, v, h => by cases h; exact .int b
  | .str b, v, h => by cases h; exact .str b
  | .list ds, v, h => by
    cases h with
    | lst hs ha => exact .lst (e.seq hs) (dpAll_keep e ds _ ha)
  | .tuple ds, v, h => by
    cases h with
    | tup hs ha => exact .tup (seqT_keep e hs) (dpAll_keep e ds _ ha)
  | .dict _, v, h => by cases h
theorem dpAll_keep {K : PySem.W.Frag} {H H' : Hp} (e : Same H H') : ∀ (ds : List PyData) (vs : List V), DpAll K H vs ds → DpAll K H' vs ds
  | [], vs, h => by cases h; exact .nil
  | d :: ds, vs, h => by
    cases h with
    | cons h1 h2 => exact .cons (dp_keep e d _ h1) (dpAll_keep e ds _ h2)
end
section
variable {K : PySem.W.Frag} {H H' : Hp}
theorem _root_.L2.Dp.keep {v : V} {d : PyData} (h : Dp K H v d) (e : Same H H') : Dp K H' v d := dp_keep e d v h
theorem _root_.L2.DpAll.keep {vs : List V} {ds : List PyData} (h : DpAll K H vs ds) (e : Same H H') : DpAll K H' vs ds := dpAll_keep e ds vs h
theorem dpAll_len : ∀ {vs : List V} {ds : List PyData}, DpAll K H vs ds → vs.length = ds.length
  | [], [], _ => rfl
  | _ :: _, _ :: _, .cons _ t => congrArg (· + 1) (dpAll_len t)
theorem dpAll_app : ∀ {vs ws : List V} {ds es : List PyData}, DpAll K H vs ds → DpAll K H ws es → DpAll K H (vs ++ ws) (ds ++ es)
  | [], _, [], _, _, h => h
  | _ :: _, _, _ :: _, _, .cons a t, h => .cons a (dpAll_app t h)
theorem dpAll_take : ∀ (n : Nat) {vs : List V} {ds : List PyData}, DpAll K H vs ds → DpAll K H (vs.take n) (ds.take n)
  | 0, _, _, _ => .nil
  | n + 1, [], [], _ => .nil
  | n + 1, _ :: _, _ :: _, .cons a t => .cons a (dpAll_take n t)
theorem dpAll_drop : ∀ (n : Nat) {vs : List V} {ds : List PyData}, DpAll K H vs ds → DpAll K H (vs.drop n) (ds.drop n)
  | 0, _, _, h => h
  | n + 1, [], [], _ => .nil
  | n + 1, _ :: _, _ :: _, .cons _ t => dpAll_drop n t
theorem dpAll_get : ∀ {vs : List V} {ds : List PyData} {i : Nat} {v : V}, DpAll K H vs ds → vs[i]? = some v → ∃ d, ds[i]? = some d ∧ Dp K H v d
  | v :: _, d :: _, 0, w, .cons a _, e => by
    have e' : v = w := by simpa using e
    subst e'
    exact ⟨d, rfl, a⟩
  | _ :: _, _ :: _, i + 1, w, .cons _ t, e => by
    obtain ⟨d, h1, h2⟩ := dpAll_get (i := i) t (by simpa using e)
    exact ⟨d, by simpa using h1, h2⟩
theorem dpAll_get2 : ∀ {vs : List V} {ds : List PyData} {i : Nat} {d : PyData}, DpAll K H vs ds → ds[i]? = some d → ∃ v, vs[i]? = some v ∧ Dp K H v d
  | [], [], _, _, _, e => by simp at e
  | v :: _, d :: _, 0, w, .cons a _, e => by
    have e' : d = w := by simpa using e
    subst e'
    exact ⟨v, rfl, a⟩
  | _ :: _, _ :: _, i + 1, w, .cons _ t, e => by
    obtain ⟨d, h1, h2⟩ := dpAll_get2 (i := i) t (by simpa using e)
    exact ⟨d, by simpa using h1, h2⟩
theorem dpAll_set {v : V} {d : PyData} (h : Dp K H v d) : ∀ {vs : List V} {ds : List PyData} (i : Nat), DpAll K H vs ds → DpAll K H (vs.set i v) (ds.set i d)
  | [], [], _, _ => .nil
  | _ :: _, _ :: _, 0, .cons _ t => .cons h t
  | _ :: _, _ :: _, i + 1, .cons a t => .cons a (dpAll_set h i t)
theorem dpAll_erase : ∀ {vs : List V} {ds : List PyData} (i : Nat), DpAll K H vs ds → DpAll K H (vs.eraseIdx i) (ds.eraseIdx i)
  | [], [], _, _ => .nil
  | _ :: _, _ :: _, 0, .cons _ t => t
  | _ :: _, _ :: _, i + 1, .cons a t => .cons a (dpAll_erase i t)
theorem dpAll_one {v : V} {d : PyData} (h : Dp K H v d) : DpAll K H [v] [d] := .cons h .nil
theorem dpAll_rev : ∀ {vs : List V} {ds : List PyData}, DpAll K H vs ds → DpAll K H vs.reverse ds.reverse
  | [], [], _ => .nil
  | v :: vs, d :: ds, .cons a t => by
    rw [List.reverse_cons, List.reverse_cons]
    exact dpAll_app (dpAll_rev t) (dpAll_one a)
theorem dpAll_rep : ∀ (n : Nat) {v : V} {d : PyData}, Dp K H v d → DpAll K H (List.replicate n v) (List.replicate n d)
  | 0, _, _, _ => .nil
  | n + 1, _, _, h => .cons h (dpAll_rep n h)
theorem dpAll_ints : ∀ {vs : List V} (is : List Int), DpAll K H vs (is.map PyData.int) → vs = is.map V.int
  | [], [], _ => rfl
  | v :: vs, i :: is, h => by
    cases h with
    | cons a t =>
      cases a
      rw [List.map_cons, dpAll_ints is t]
theorem dpAll_bools : ∀ {vs : List V} (is : List Bool), DpAll K H vs (is.map PyData.bool) → vs = is.map V.bl
  | [], [], _ => rfl
  | v :: vs, i :: is, h => by
    cases h with
    | cons a t =>
      cases a
      rw [List.map_cons, dpAll_bools is t]
theorem ints_dp : ∀ (is : List Int), DpAll K H (is.map V.int) (is.map PyData.int)
  | [] => .nil
  | i :: is => .cons (.int i) (ints_dp is)
end

/-! ### slots -/
/-- what a slot holds: nothing known; this value; data; a list of one's own; a dict of one's own (int keys; keys that are pairs of ints) -/
inductive Sv where
  | emp | exc (a dd : Addr) (f : Str) (d : PyData) | raw (v : V) | dat (d : PyData) | own (ds : List PyData) | dic (kvs : List (Int × PyData)) | dtp (kvs : List ((Int × Int) × PyData)) | wy (d : PyData)
def Sv.isOwn : Sv → Bool
  | .own _ | .dic _ | .dtp _ => true
  | _ => false
/-- a tuple on which no dict hangs; a list of such -/
def Nd (H : Hp) (v : V) : Prop := ∃ (a : Addr) (o : Obj) (xs : List V), v = .ref a ∧ H a = some (.frz o (.tup xs)) ∧ o.dict = none
def Nds (K : PySem.W.Frag) (H : Hp) (v : V) (d : PyData) : Prop := (∃ ds, d = .tuple ds ∧ Nd H v) ∨ ∃ (ds : List PyData) (a : Addr) (vs : List V), d = .list ds ∧ v = .ref a ∧ SqL K H a vs ∧ DpAll K H vs ds ∧ ∀ w ∈ vs, Nd H w
theorem Nd.keep {H H' : Hp} {v : V} (h : Nd H v) (e : Same H H') : Nd H' v := by
  obtain ⟨a, o, xs, h1, h2, h3⟩ := h
  exact ⟨a, o, xs, h1, e _ _ h2, h3⟩
theorem Nds.keep {K : PySem.W.Frag} {H H' : Hp} {v : V} {d : PyData} (h : Nds K H v d) (e : Same H H') : Nds K H' v d := by
  rcases h with ⟨ds, h0, h⟩ | ⟨ds, a, vs, h0, h1, h2, h3, h4⟩
  · exact .inl ⟨ds, h0, h.keep e⟩
  · exact .inr ⟨ds, a, vs, h0, h1, e.seq h2, h3.keep e, fun w hw => (h4 w hw).keep e⟩
def Sl (K : PySem.W.Frag) (O : Own) (H : Hp) (y : Option V) : Sv → Prop
  | .emp => True
  | .exc a dd f d => y = some (.ref a) ∧ ∃ v, hid O H dd = some (.xd [(f, v)]) ∧ Dp K (hid O H) v d
  | .raw v => y = some v
  | .dat d => ∃ v, y = some v ∧ Dp K (hid O H) v d
  | .wy d => ∃ v, y = some v ∧ Dp K (hid O H) v d ∧ Nds K (hid O H) v d
  | .own ds => ∃ a vs, y = some (.ref a) ∧ O a = true ∧ H a = some (.lst vs) ∧ DpAll K (hid O H) vs ds
  | .dic kvs => ∃ a vs, y = some (.ref a) ∧ O a = true ∧ H a = some (.dK vs) ∧ Paired (fun (p : Key × V) (q : Int × PyData) => p.1 = .inl q.1 ∧ Dp K (hid O H) p.2 q.2) vs kvs
  | .dtp kvs => ∃ a vs, y = some (.ref a) ∧ O a = true ∧ H a = some (.dT vs) ∧ Paired (fun (p : List Key × V) (q : (Int × Int) × PyData) => p.1 = [.inl q.1.1, .inl q.1.2] ∧ Dp K (hid O H) p.2 q.2) vs kvs
/-- the entry: what was owned, the heap -/
structure En where
  O : Own
  H : Hp
/-- the urn of draws at u: g bounds how many were drawn -/
def UrnAt (H : Hp) (u : Addr) (g : Nat) : Prop := ∃ a b c : Int, H u = some (.lst [.int a, .int b, .int c]) ∧ 0 ≤ a ∧ 0 ≤ b ∧ b < 2 ^ 62 ∧ 0 ≤ c ∧ c ≤ (g : Int)
structure Rel (K : PySem.W.Frag) (W : Option Addr) (E : En) (O : Own) (g : Nat) (H : Hp) (σ : L2.St) (δ : List Sv) : Prop where
  len : σ.length = δ.length
  same : ∀ a o, W ≠ some a → E.H a = some o → H a = some o
  sub : ∀ a, E.O a = true → O a = true
  new : ∀ a, O a = true → E.O a = true ∨ E.H a = none
  there : ∀ a, O a = true → H a ≠ none
  urn : ∀ u, W = some u → E.O u = true ∧ UrnAt H u g
  sl : ∀ (i : Nat) x, δ[i]? = some x → ∃ y, σ[i]? = some y ∧ Sl K O H y x
  own0 : ∀ (i : Nat) x a, δ[i]? = some x → x.isOwn = true → σ[i]? = some (some (V.ref a)) → E.H a = none ∧ E.O a = false
  apart : ∀ (i j : Nat) x y a, i ≠ j → δ[i]? = some x → δ[j]? = some y → x.isOwn = true → y.isOwn = true → σ[i]? = some (some (V.ref a)) → σ[j]? ≠ some (some (V.ref a))
section
variable {K : PySem.W.Frag} {W : Option Addr} {E : En} {O : Own} {g : Nat} {H H' : Hp} {σ : L2.St} {δ : List Sv} {i : Nat}
theorem Sl.keep {y : Option V} {x : Sv} (h : Sl K O H y x) (e : Same H H') : Sl K O H' y x := by
  cases x with
  | emp => trivial
  | exc a dd f d =>
    obtain ⟨h0, v, h1, h2⟩ := h
    exact ⟨h0, v, same_hid e _ _ h1, h2.keep (same_hid e)⟩
  | raw v => exact h
  | dat d =>
    obtain ⟨v, h1, h2⟩ := h
    exact ⟨v, h1, h2.keep (same_hid e)⟩
  | wy d =>
    obtain ⟨v, h1, h2, h3⟩ := h
    exact ⟨v, h1, h2.keep (same_hid e), h3.keep (same_hid e)⟩
  | own ds =>
    obtain ⟨a, vs, h1, h2, h3, h4⟩ := h
    exact ⟨a, vs, h1, h2, e _ _ h3, h4.keep (same_hid e)⟩
  | dic ds =>
    obtain ⟨a, vs, h1, h2, h3, h4⟩ := h
    exact ⟨a, vs, h1, h2, e _ _ h3, Paired.mapP h4 fun p q z => ⟨z.1, z.2.keep (same_hid e)⟩⟩
  | dtp ds =>
    obtain ⟨a, vs, h1, h2, h3, h4⟩ := h
    exact ⟨a, vs, h1, h2, e _ _ h3, Paired.mapP h4 fun p q z => ⟨z.1, z.2.keep (same_hid e)⟩⟩
theorem Rel.free (R : Rel K W E O g H σ δ) {p : Addr} (n : H p = none) : O p = false := by
  cases q : O p with
  | false => rfl
  | true => exact absurd n (R.there p q)
theorem Rel.grow (R : Rel K W E O g H σ δ) (e : Same H H') : Rel K W E O g H' σ δ where
  len := R.len
  same := fun a o n h => e _ _ (R.same a o n h)
  sub := R.sub
  new := R.new
  there := fun a h => by
    cases q : H a with
    | none => exact absurd q (R.there a h)
    | some o => rw [e _ _ q]; exact fun z => nomatch z
  urn := fun u h => by
    obtain ⟨h1, a, b, c, h2, h3⟩ := R.urn u h
    exact ⟨h1, a, b, c, e _ _ h2, h3⟩
  sl := fun i x h => by
    obtain ⟨y, h1, h2⟩ := R.sl i x h
    exact ⟨y, h1, h2.keep e⟩
  own0 := R.own0
  apart := R.apart
/-- a slot gets data -/
theorem Rel.setD (R : Rel K W E O g H σ δ) {v : V} {d : PyData} (h : Dp K (hid O H) v d) : Rel K W E O g H (σ.set i (some v)) (δ.set i (.dat d)) where
  len := by rw [List.length_set, List.length_set]; exact R.len
  same := R.same
  sub := R.sub
  new := R.new
  there := R.there
  urn := R.urn
  sl := fun j x q => by
    by_cases e : i = j
    · subst e
      have hi : i < δ.length := by
        rcases Nat.lt_or_ge i δ.length with z | z
        · exact z
        · rw [List.getElem?_eq_none (by simpa using z)] at q; cases q
      rw [List.getElem?_set_self hi] at q
      cases q
      exact ⟨some v, by rw [List.getElem?_set_self (by rw [R.len]; exact hi)], v, rfl, h⟩
    · rw [List.getElem?_set_ne e] at q
      obtain ⟨y, h1, h2⟩ := R.sl j x q
      exact ⟨y, by rw [List.getElem?_set_ne e]; exact h1, h2⟩
  own0 := fun j x a q o z => by
    by_cases e : i = j
    · subst e
      by_cases hi : i < δ.length
      · rw [List.getElem?_set_self hi] at q
        cases q; cases o
      · rw [List.getElem?_eq_none (by simpa using hi)] at q; cases q
    · rw [List.getElem?_set_ne e] at q z
      exact R.own0 j x a q o z
  apart := fun j k x y a n q q' o o' z => by
    by_cases e : i = j
    · subst e
      by_cases hi : i < δ.length
      · rw [List.getElem?_set_self hi] at q
        cases q; cases o
      · rw [List.getElem?_eq_none (by simpa using hi)] at q; cases q
    · by_cases e' : i = k
      · subst e'
        by_cases hi : i < δ.length
        · rw [List.getElem?_set_self hi] at q'
          cases q'; cases o'
        · rw [List.getElem?_eq_none (by simpa using hi)] at q'; cases q'
      · rw [List.getElem?_set_ne e] at q z
        rw [List.getElem?_set_ne e'] at q' ⊢
        exact R.apart j k x y a n q q' o o' z
/-- more owned: the new address p, H p = none -/
def addO (O : Own) (p : Addr) : Own := fun a => O a || decide (a = p)
theorem addO_self {O : Own} {p : Addr} : addO O p p = true := by unfold addO; simp
theorem addO_old {O : Own} {p a : Addr} (h : O a = true) : addO O p a = true := by unfold addO; rw [h]; rfl
theorem hid_add {p : Addr} {o : HO} (n : H p = none) : Same (hid O H) (hid (addO O p) (upd H p o)) := fun a u h => by
  have hn : a ≠ p := by
    rintro rfl
    have := hid_same _ _ h
    rw [n] at this; cases this
  unfold hid addO at *
  split at h
  · cases h
  · rename_i q
    rw [if_neg (by simp [hn]; simpa using q), upd_ne hn]
    exact h
theorem Rel.ent (R : Rel K W E O g H σ δ) {p : Addr} (n : H p = none) : E.H p = none ∧ E.O p = false := by
  refine ⟨?_, ?_⟩
  · cases q : E.H p with
    | none => rfl
    | some o =>
      by_cases w : W = some p
      · obtain ⟨_, _, _, _, h, _⟩ := R.urn p w
        rw [n] at h; cases h
      · have := R.same p o w q
        rw [n] at this; cases this
  · cases q : E.O p with
    | false => rfl
    | true =>
      have := R.free n
      rw [R.sub p q] at this; cases this
theorem Sl.add {p : Addr} {o : HO} (n : H p = none) {y : Option V} {x : Sv} (h : Sl K O H y x) : Sl K (addO O p) (upd H p o) y x := by
  have e : Same (hid O H) (hid (addO O p) (upd H p o)) := hid_add n
  cases x with
  | emp => trivial
  | exc a dd f d =>
    obtain ⟨h0, v, h1, h2⟩ := h
    exact ⟨h0, v, e _ _ h1, h2.keep e⟩
  | raw v => exact h
  | dat d =>
    obtain ⟨v, h1, h2⟩ := h
    exact ⟨v, h1, h2.keep e⟩
  | wy d =>
    obtain ⟨v, h1, h2, h3⟩ := h
    exact ⟨v, h1, h2.keep e, h3.keep e⟩
  | own ds =>
    obtain ⟨a, vs, h1, h2, h3, h4⟩ := h
    exact ⟨a, vs, h1, addO_old h2, same_new n _ _ h3, h4.keep e⟩
  | dic ds =>
    obtain ⟨a, vs, h1, h2, h3, h4⟩ := h
    exact ⟨a, vs, h1, addO_old h2, same_new n _ _ h3, Paired.mapP h4 fun p q z => ⟨z.1, z.2.keep e⟩⟩
  | dtp ds =>
    obtain ⟨a, vs, h1, h2, h3, h4⟩ := h
    exact ⟨a, vs, h1, addO_old h2, same_new n _ _ h3, Paired.mapP h4 fun p q z => ⟨z.1, z.2.keep e⟩⟩
theorem Rel.add (R : Rel K W E O g H σ δ) {p : Addr} {o : HO} (n : H p = none) : Rel K W E (addO O p) g (upd H p o) σ δ where
  len := R.len
  same := fun a u w h => same_new n _ _ (R.same a u w h)
  sub := fun a h => addO_old (R.sub a h)
  new := fun a h => by
    by_cases e : a = p
    · rw [e]; exact .inr (R.ent n).1
    · refine R.new a ?_
      unfold addO at h
      simpa [e] using h
  there := fun a h => by
    by_cases e : a = p
    · rw [e, upd_same]; exact fun z => nomatch z
    · rw [upd_ne e]
      refine R.there a ?_
      unfold addO at h
      simpa [e] using h
  urn := fun u h => by
    obtain ⟨h1, a, b, c, h2, h3⟩ := R.urn u h
    exact ⟨h1, a, b, c, same_new n _ _ h2, h3⟩
  sl := fun i x h => by
    obtain ⟨y, h1, h2⟩ := R.sl i x h
    exact ⟨y, h1, h2.add n⟩
  own0 := R.own0
  apart := R.apart
/-- the slot i takes what is owned at p, which no slot holds -/
theorem Rel.setO (R : Rel K W E O g H σ δ) {p : Addr} {x : Sv} (h : Sl K O H (some (.ref p)) x) (h0 : E.H p = none ∧ E.O p = false)
    (ha : ∀ (j : Nat) y, j ≠ i → δ[j]? = some y → y.isOwn = true → σ[j]? ≠ some (some (V.ref p))) : Rel K W E O g H (σ.set i (some (.ref p))) (δ.set i x) where
  len := by rw [List.length_set, List.length_set]; exact R.len
  same := R.same
  sub := R.sub
  new := R.new
  there := R.there
  urn := R.urn
  sl := fun j y q => by
    by_cases e : i = j
    · subst e
      have hi : i < δ.length := by
        rcases Nat.lt_or_ge i δ.length with z | z
        · exact z
        · rw [List.getElem?_eq_none (by simpa using z)] at q; cases q
      rw [List.getElem?_set_self hi] at q
      cases q
      exact ⟨some (.ref p), by rw [List.getElem?_set_self (by rw [R.len]; exact hi)], h⟩
    · rw [List.getElem?_set_ne e] at q
      obtain ⟨z, h1, h2⟩ := R.sl j y q
      exact ⟨z, by rw [List.getElem?_set_ne e]; exact h1, h2⟩
  own0 := fun j y a q o z => by
    by_cases e : i = j
    · subst e
      by_cases hi : i < σ.length
      · rw [List.getElem?_set_self hi] at z
        cases z
        exact h0
      · rw [List.getElem?_eq_none (by simpa using hi)] at z; cases z
    · rw [List.getElem?_set_ne e] at q z
      exact R.own0 j y a q o z
  apart := fun j k y y' a n q q' o o' z => by
    by_cases e : i = j
    · subst e
      by_cases hi : i < σ.length
      · rw [List.getElem?_set_self hi] at z
        cases z
        rw [List.getElem?_set_ne n] at q' ⊢
        exact ha k y' (Ne.symm n) q' o'
      · rw [List.getElem?_eq_none (by simpa using hi)] at z; cases z
    · rw [List.getElem?_set_ne e] at q z
      by_cases e' : i = k
      · subst e'
        by_cases hi : i < σ.length
        · rw [List.getElem?_set_self hi]
          intro w
          cases w
          exact ha j y (Ne.symm e) q o z
        · rw [List.getElem?_eq_none (by simpa using hi)]; exact fun w => nomatch w
      · rw [List.getElem?_set_ne e'] at q' ⊢
        exact R.apart j k y y' a n q q' o o' z
/-- a new object, owned from now on, at slot i -/
theorem Rel.fresh (R : Rel K W E O g H σ δ) {p : Addr} {o : HO} {x : Sv} (n : H p = none) (h : Sl K (addO O p) (upd H p o) (some (.ref p)) x) :
    Rel K W E (addO O p) g (upd H p o) (σ.set i (some (.ref p))) (δ.set i x) :=
  (R.add n).setO h (R.ent n) fun j y _ q ho z => by
    obtain ⟨w, h1, h2⟩ := R.sl j y q
    rw [z] at h1; cases h1
    cases y with
    | own ds => obtain ⟨a, vs, e, _, e2, _⟩ := h2; cases e; rw [n] at e2; cases e2
    | dic ds => obtain ⟨a, vs, e, _, e2, _⟩ := h2; cases e; rw [n] at e2; cases e2
    | dtp ds => obtain ⟨a, vs, e, _, e2, _⟩ := h2; cases e; rw [n] at e2; cases e2
    | _ => cases ho
/-- what slot i owns at a is changed -/
theorem Rel.write (R : Rel K W E O g H σ δ) {a : Addr} {o : HO} {x0 x : Sv} (h0 : δ[i]? = some x0) (ho : x0.isOwn = true) (hs : σ[i]? = some (some (.ref a))) (hO : O a = true)
    (h : Sl K O (upd H a o) (some (.ref a)) x) (hx : x.isOwn = true) : Rel K W E O g (upd H a o) σ (δ.set i x) where
  len := by rw [List.length_set]; exact R.len
  same := fun b u w q => by
    have z := R.same b u w q
    have e := (R.own0 i x0 a h0 ho hs).1
    rw [upd_ne (by rintro rfl; rw [e] at q; cases q)]
    exact z
  sub := R.sub
  new := R.new
  there := fun b q => by
    by_cases e : b = a
    · rw [e, upd_same]; exact fun z => nomatch z
    · rw [upd_ne e]; exact R.there b q
  urn := fun u w => by
    obtain ⟨h1, k, b, c, h2, h3⟩ := R.urn u w
    refine ⟨h1, k, b, c, ?_, h3⟩
    have e := (R.own0 i x0 a h0 ho hs).2
    rw [upd_ne (by rintro rfl; rw [e] at h1; cases h1)]
    exact h2
  sl := fun j y q => by
    by_cases e : i = j
    · subst e
      have hi : i < δ.length := by
        rcases Nat.lt_or_ge i δ.length with z | z
        · exact z
        · rw [List.getElem?_eq_none (by simpa using z)] at q; cases q
      rw [List.getElem?_set_self hi] at q
      cases q
      exact ⟨_, hs, h⟩
    · rw [List.getElem?_set_ne e] at q
      obtain ⟨z, h1, h2⟩ := R.sl j y q
      refine ⟨z, h1, ?_⟩
      have ap : ∀ b, y.isOwn = true → z = some (.ref b) → b ≠ a := fun b o1 e1 e2 => by
        subst e1 e2
        exact R.apart i j x0 y b e h0 q ho o1 hs h1
      cases y with
      | emp => trivial
      | exc a dd f d =>
        obtain ⟨k0, v, k1, k2⟩ := h2
        exact ⟨k0, v, by rw [hid_upd hO]; exact k1, by rw [hid_upd hO]; exact k2⟩
      | raw v => exact h2
      | dat d =>
        obtain ⟨v, k1, k2⟩ := h2
        exact ⟨v, k1, by rw [hid_upd hO]; exact k2⟩
      | wy d =>
        obtain ⟨v, k1, k2, k3⟩ := h2
        exact ⟨v, k1, by rw [hid_upd hO]; exact k2, by rw [hid_upd hO]; exact k3⟩
      | own ds =>
        obtain ⟨b, vs, k1, k2, k3, k4⟩ := h2
        exact ⟨b, vs, k1, k2, by rw [upd_ne (ap b rfl k1)]; exact k3, by rw [hid_upd hO]; exact k4⟩
      | dic ds =>
        obtain ⟨b, vs, k1, k2, k3, k4⟩ := h2
        exact ⟨b, vs, k1, k2, by rw [upd_ne (ap b rfl k1)]; exact k3, by rw [hid_upd hO]; exact k4⟩
      | dtp ds =>
        obtain ⟨b, vs, k1, k2, k3, k4⟩ := h2
        exact ⟨b, vs, k1, k2, by rw [upd_ne (ap b rfl k1)]; exact k3, by rw [hid_upd hO]; exact k4⟩
  own0 := fun j y b q o1 z => by
    by_cases e : i = j
    · subst e
      exact R.own0 i x0 b h0 ho z
    · rw [List.getElem?_set_ne e] at q
      exact R.own0 j y b q o1 z
  apart := fun j k y y' b n q q' o1 o2 z => by
    by_cases e : i = j
    · subst e
      rw [List.getElem?_set_ne n] at q'
      exact R.apart i k x0 y' b n h0 q' ho o2 z
    · rw [List.getElem?_set_ne e] at q
      by_cases e' : i = k
      · subst e'
        exact R.apart j i y x0 b n q h0 o1 ho z
      · rw [List.getElem?_set_ne e'] at q'
        exact R.apart j k y y' b n q q' o1 o2 z
theorem Rel.forget (R : Rel K W E O g H σ δ) {σ' : L2.St} {δ' : List Sv} (hl : σ'.length = σ.length) (hl' : δ'.length = δ.length)
    (h : ∀ (i : Nat) x, δ'[i]? = some x → x = .emp ∨ (δ[i]? = some x ∧ σ'[i]? = σ[i]?)) : Rel K W E O g H σ' δ' where
  len := by rw [hl, hl']; exact R.len
  same := R.same
  sub := R.sub
  new := R.new
  there := R.there
  urn := R.urn
  sl := fun i x q => by
    rcases h i x q with e | ⟨e, e'⟩
    · have hi : i < σ'.length := by
        rw [hl, R.len, ← hl']
        exact (List.getElem?_eq_some_iff.mp q).1
      exact ⟨σ'[i], List.getElem?_eq_getElem hi, by rw [e]; trivial⟩
    · rw [e']; exact R.sl i x e
  own0 := fun i x a q o z => by
    rcases h i x q with e | ⟨e, e'⟩
    · rw [e] at o; cases o
    · rw [e'] at z; exact R.own0 i x a e o z
  apart := fun i j x y a n q q' o o' z => by
    rcases h i x q with e | ⟨e, e'⟩
    · rw [e] at o; cases o
    · rcases h j y q' with k | ⟨k, k'⟩
      · rw [k] at o'; cases o'
      · rw [e'] at z
        rw [k']
        exact R.apart i j x y a n e k o o' z
end
end Lk

set_option Elab.async false
set_option linter.all false
set_option maxRecDepth 100000
set_option maxHeartbeats 4000000
namespace Lk
open PySem PySem.Spec PyProof.Rows L2

/-! ### judgements over data -/
abbrev DT := Nat → List Sv → (Nat → PyData → Prop) → Prop
abbrev DB := Nat → List Sv → (Nat → Bool → Prop) → Prop
abbrev DL := Nat → List Sv → (Nat → List PyData → Prop) → Prop
structure DEn where
  nx : Nat → List Sv → Prop
  rt : Nat → PyData → Prop
abbrev DSt := DEn → Nat → List Sv → Prop
/-- what an expression does to the heap: what was tracked stays (but the urn), new things may come -/
structure Ext (W : Option Addr) (O : Own) (H H' : Hp) : Prop where
  all : ∀ a o, W ≠ some a → H a = some o → H' a = some o
  hid : Same (hid O H) (hid O H')
theorem Ext.refl {W : Option Addr} {O : Own} {H : Hp} : Ext W O H H := ⟨fun _ _ _ h => h, Same.refl _⟩
theorem Ext.of {W : Option Addr} {O : Own} {H H' : Hp} (s : Same H H') : Ext W O H H' := ⟨fun a o _ h => s a o h, same_hid s⟩
theorem Ext.trans {W : Option Addr} {O : Own} {H H1 H2 : Hp} (a : Ext W O H H1) (b : Ext W O H1 H2) : Ext W O H H2 := ⟨fun c o n h => b.all c o n (a.all c o n h), Same.trans a.hid b.hid⟩
section
variable (K : PySem.W.Frag) (W : Option Addr)
def tD (F : DT) : TE := fun σ H Q => ∃ E O g δ P, Rel K W E O g H σ δ ∧ F g δ P ∧
  ∀ g' d v H', P g' d → Rel K W E O g' H' σ δ → Ext W O H H' → Dp K (hid O H') v d → Q v H'
def tDb (F : DB) : TT := fun σ H Q => ∃ E O g δ P, Rel K W E O g H σ δ ∧ F g δ P ∧
  ∀ g' b H', P g' b → Rel K W E O g' H' σ δ → Ext W O H H' → Q b H'
def tDl (F : DL) : TA := fun σ H Q => ∃ E O g δ P, Rel K W E O g H σ δ ∧ F g δ P ∧
  ∀ g' ds vs H', P g' ds → Rel K W E O g' H' σ δ → Ext W O H H' → DpAll K (hid O H') vs ds → Q vs H'
/-- behind a def's end: what was at the entry, the urn, the result -/
structure Fin (E : En) (g : Nat) (H : Hp) (v : V) (d : PyData) : Prop where
  same : ∀ a o, W ≠ some a → E.H a = some o → H a = some o
  urn : ∀ u, W = some u → UrnAt H u g
  dat : Dp K (hid E.O H) v d
def tS (G : DSt) : TS := fun D σ H => ∃ E O g δ P, Rel K W E O g H σ δ ∧ G P g δ ∧
  (∀ O' g' δ' σ' H', P.nx g' δ' → Rel K W E O' g' H' σ' δ' → (∀ a, O a = true → O' a = true) → Same (hid O H) (hid O' H') → D.nx σ' H') ∧
  (∀ g' d v H', P.rt g' d → Fin K W E g' H' v d → D.rt v H')
/-- a fresh list: its address was nothing -/
def tF (F : DL) : TE := fun σ H Q => ∃ E O g δ P, Rel K W E O g H σ δ ∧ F g δ P ∧
  ∀ g' ds vs p H', P g' ds → Rel K W E O g' H' σ δ → Ext W O H H' → H' p = none → DpAll K (hid O H') vs ds → Q (.ref p) (upd H' p (.lst vs))
end
section
variable {X : Cx} {W : Option Addr}
abbrev DE (X : Cx) (W : Option Addr) (e : Expr) (F : DT) : Prop := PE X e (tD X.K W F)
abbrev DTs (X : Cx) (W : Option Addr) (e : Expr) (F : DB) : Prop := PT X e (tDb X.K W F)
abbrev DWs (X : Cx) (W : Option Addr) (e : Expr) (F : DB) : Prop := PW X e (tDb X.K W F)
abbrev DA (X : Cx) (W : Option Addr) (es : List Expr) (F : DL) : Prop := PA X es (tDl X.K W F)
abbrev DS (X : Cx) (W : Option Addr) (st : Stmt) (G : DSt) : Prop := PS X st (tS X.K W G)
abbrev DSs (X : Cx) (W : Option Addr) (st : List Stmt) (G : DSt) : Prop := PSs X st (tS X.K W G)
abbrev DF (X : Cx) (W : Option Addr) (e : Expr) (F : DL) : Prop := PE X e (tF X.K W F)

theorem pe_mono {e : Expr} {t t' : TE} (h : PE X e t) (m : ∀ σ H Q, t' σ H Q → t σ H Q) : PE X e t' := ⟨fun pins s σ H Q I q => h.run pins s σ H Q I (m σ H Q q)⟩
theorem pt_mono {e : Expr} {t t' : TT} (h : PT X e t) (m : ∀ σ H Q, t' σ H Q → t σ H Q) : PT X e t' := ⟨fun pins s σ H Q I q => h.run pins s σ H Q I (m σ H Q q)⟩
theorem pw_mono {e : Expr} {t t' : TT} (h : PW X e t) (m : ∀ σ H Q, t' σ H Q → t σ H Q) : PW X e t' := ⟨fun wh pins s σ H Q I q => h.run wh pins s σ H Q I (m σ H Q q)⟩
theorem pa_mono {e : List Expr} {t t' : TA} (h : PA X e t) (m : ∀ σ H Q, t' σ H Q → t σ H Q) : PA X e t' := ⟨fun pos pins s σ H Q I q => h.run pos pins s σ H Q I (m σ H Q q)⟩
theorem ps_mono {st : Stmt} {t t' : TS} (h : PS X st t) (m : ∀ D σ H, t' D σ H → t D σ H) : PS X st t' := ⟨fun pins s σ H D I q => h.run pins s σ H D I (m D σ H q)⟩
theorem pss_mono {st : List Stmt} {t t' : TS} (h : PSs X st t) (m : ∀ D σ H, t' D σ H → t D σ H) : PSs X st t' := ⟨fun pins s σ H D I q => h.run pins s σ H D I (m D σ H q)⟩
theorem same_trans {H H1 H2 : Hp} (a : Same H H1) (b : Same H1 H2) : Same H H2 := a.trans b

/-- an expression without effect whose value is known -/
theorem tD_val {K : PySem.W.Frag} {F : DT} {t : TE} (h : ∀ E O g δ P σ H, Rel K W E O g H σ δ → F g δ P → ∃ d v H', P g d ∧ Same H H' ∧ Dp K (hid O H') v d ∧ ∀ Q : VK, Q v H' → t σ H Q) :
    ∀ σ H Q, tD K W F σ H Q → t σ H Q := fun σ H Q ⟨E, O, g, δ, P, R, f, k⟩ => by
  obtain ⟨d, v, H', p, s, x, q⟩ := h E O g δ P σ H R f
  exact q Q (k g d v H' p (R.grow s) (.of s) x)

/-! ### names, constants -/
theorem de_var (i : Nat) {x : Str} {pos : Pos} (hN : X.N[i]? = some x := by rfl) (hv : Vis X.env.scope x := by first | exact Or.inl rfl | exact Or.inr (Or.inl rfl) | exact Or.inr (Or.inr rfl)) (hd : (x == ("__debug__" : Str)) = false := by decide)
    (hcd : (x == ("__classdict__" : Str)) = false := by decide) : DE X W (.Name x pos) (fun g δ P => ∃ d, δ[i]? = some (.dat d) ∧ P g d) :=
  pe_mono (pe_var hN hv hd hcd) (tD_val fun E O g δ P σ H R ⟨d, h, p⟩ => by
    obtain ⟨y, h1, v, h2, h3⟩ := R.sl i _ h
    subst h2
    exact ⟨d, v, H, p, Same.refl _, h3, fun Q q => ⟨v, h1, q⟩⟩)
theorem de_const {e : Expr} {v : V} {d : PyData} (h : PE X e (tC v)) (hd : ∀ H, Dp X.K H v d) : DE X W e (fun g _ P => P g d) :=
  pe_mono h (tD_val fun E O g δ P σ H R p => ⟨d, v, H, p, Same.refl _, hd _, fun Q q => q⟩)
theorem de_int {i : Int} {j pos} : DE X W (.Constant (.int i) j pos) (fun g _ P => P g (.int i)) := de_const pe_int fun _ => .int _
theorem de_bl {b : Bool} {j pos} : DE X W (.Constant (.bool b) j pos) (fun g _ P => P g (.bool b)) := de_const pe_bl fun _ => .bl _
theorem de_non {j pos} : DE X W (.Constant .none j pos) (fun g _ P => P g .none) := de_const pe_non fun _ => .non
theorem de_str {x : Str} {j pos} : DE X W (.Constant (.str x) j pos) (fun g _ P => P g (.str x)) := de_const pe_str fun _ => .str _
theorem de_glob {x : Str} {v : V} {u : Value} {d : PyData} {pos : Pos} (hm : X.mg x = some u) (r : RelV v u) (hd : ∀ H, Dp X.K H v d) (hg : Gl X x := by rfl) (hdb : (x == ("__debug__" : Str)) = false := by decide) :
    DE X W (.Name x pos) (fun g _ P => P g d) := de_const (pe_glob hg hm r hdb) hd

/-! ### arguments -/
theorem da_nil : DA X W [] (fun g _ P => P g []) := pa_mono pa_nil fun σ H Q ⟨E, O, g, δ, P, R, f, k⟩ => k g [] [] H f R .refl .nil
theorem da_cons {e : Expr} {es : List Expr} {F : DT} {Fs : DL} (h1 : DE X W e F) (h2 : DA X W es Fs) (hs : starEach (e :: es) X.env = (false, eval e X.env) :: starEach es X.env := by rfl) :
    DA X W (e :: es) (fun g δ P => F g δ fun g1 d => Fs g1 δ fun g2 ds => P g2 (d :: ds)) :=
  pa_mono (pa_cons h1 h2 hs) fun σ H Q ⟨E, O, g, δ, P, R, f, k⟩ => ⟨E, O, g, δ, _, R, f, fun g1 d v H1 f1 R1 s1 x1 => ⟨E, O, g1, δ, _, R1, f1, fun g2 ds vs H2 p R2 s2 x2 =>
    k g2 _ _ H2 p R2 (s1.trans s2) (.cons (x1.keep s2.hid) x2)⟩⟩

/-! ### operators -/
def Good2 (K : PySem.W.Frag) (r : R2) (w : PyData → PyData → (PyData → Prop) → Prop) : Prop := ∀ (O : Own) (H : Hp) (x y : V) (d e : PyData) (Pz : PyData → Prop) (Q : VK), (∀ a, O a = true → H a ≠ none) →
  Dp K (hid O H) x d → Dp K (hid O H) y e → w d e Pz → (∀ z v H', Pz z → Same H H' → Dp K (hid O H') v z → Q v H') → r x y H Q
def GoodL (K : PySem.W.Frag) (r : List V → Hp → VK → Prop) (w : List PyData → (PyData → Prop) → Prop) : Prop := ∀ (O : Own) (H : Hp) (xs : List V) (ds : List PyData) (Pz : PyData → Prop) (Q : VK), (∀ a, O a = true → H a ≠ none) →
  DpAll K (hid O H) xs ds → w ds Pz → (∀ z v H', Pz z → Same H H' → Dp K (hid O H') v z → Q v H') → r xs H Q
section
variable {a b : Expr} {Fa Fb : DT} {pos : Pos} {r : R2} {w : PyData → PyData → (PyData → Prop) → Prop}
theorem tOp_of {K : PySem.W.Frag} (gd : Good2 K r w) : ∀ σ H Q, tD K W (fun g δ P => Fa g δ fun g1 d => Fb g1 δ fun g2 e => w d e (P g2)) σ H Q → tOp r (tD K W Fa) (tD K W Fb) σ H Q :=
  fun σ H Q ⟨E, O, g, δ, P, R, f, k⟩ => ⟨E, O, g, δ, _, R, f, fun g1 d v H1 f1 R1 s1 x1 => ⟨E, O, g1, δ, _, R1, f1, fun g2 e v2 H2 f2 R2 s2 x2 =>
    gd O H2 v v2 d e _ Q R2.there (x1.keep s2.hid) x2 f2 fun z v3 H3 p s3 x3 => k g2 z v3 H3 p (R2.grow s3) ((s1.trans s2).trans (.of s3)) x3⟩⟩
theorem de_op {op : Operator} (ho : OpR X (binaryOp op) r) (gd : Good2 X.K r w) (ha : DE X W a Fa) (hb : DE X W b Fb) : DE X W (.BinOp a op b pos) (fun g δ P => Fa g δ fun g1 d => Fb g1 δ fun g2 e => w d e (P g2)) :=
  pe_mono (pe_op ho ha hb) (tOp_of gd)
theorem de_cmp {op : CmpOp} (ho : OpR X (compareOp op) r) (gd : Good2 X.K r w) (ha : DE X W a Fa) (hb : DE X W b Fb) (hm : behindInMarks op b = false := by first | exact nomark _ | rfl) :
    DE X W (.Compare a [op] [b] pos) (fun g δ P => Fa g δ fun g1 d => Fb g1 δ fun g2 e => w d e (P g2)) := pe_mono (pe_cmpR ho ha hb hm) (tOp_of gd)
theorem dt_cmp {op : CmpOp} (ho : OpR X (compareOp op) r) (gd : Good2 X.K r w) (ha : DE X W a Fa) (hb : DE X W b Fb) (hm : behindInMarks op b = false := by first | exact nomark _ | rfl) :
    DTs X W (.Compare a [op] [b] pos) (fun g δ P => Fa g δ fun g1 d => Fb g1 δ fun g2 e => w d e fun z => ∃ c, z = .bool c ∧ P g2 c) :=
  pt_mono (pt_cmpR ho ha hb hm) fun σ H Q ⟨E, O, g, δ, P, R, f, k⟩ => tOp_of gd σ H _ ⟨E, O, g, δ, _, R, f, fun g' z v H' ⟨c, e, p⟩ R' s' x' => by
    subst e
    cases x'
    exact ⟨c, rfl, k g' c H' p R' s'⟩⟩
end
section
variable {K : PySem.W.Frag}
/-- ints in, a scalar out -/
def wI (C : Int → Int → Prop) (f : Int → Int → PyData) : PyData → PyData → (PyData → Prop) → Prop := fun d e P => ∃ i j, d = .int i ∧ e = .int j ∧ C i j ∧ P (f i j)
def wI0 (f : Int → Int → PyData) : PyData → PyData → (PyData → Prop) → Prop := fun d e P => ∃ i j, d = .int i ∧ e = .int j ∧ P (f i j)
theorem good_I {C : Int → Int → Prop} {f : Int → Int → PyData} {h : Int → Int → V} (hf : ∀ i j H, Dp K H (h i j) (f i j)) : Good2 K (rI C h) (wI C f) := fun O H x y d e Pz Q _ hx hy ⟨i, j, e1, e2, c, p⟩ k => by
  subst e1 e2
  cases hx
  cases hy
  exact ⟨i, j, rfl, rfl, c, k _ _ H p (Same.refl _) (hf i j _)⟩
theorem good_I0 {f : Int → Int → PyData} {h : Int → Int → V} (hf : ∀ i j H, Dp K H (h i j) (f i j)) : Good2 K (rI0 h) (wI0 f) := fun O H x y d e Pz Q _ hx hy ⟨i, j, e1, e2, p⟩ k => by
  subst e1 e2
  cases hx
  cases hy
  exact ⟨i, j, rfl, rfl, k _ _ H p (Same.refl _) (hf i j _)⟩
theorem good_add : Good2 K (rI0 fun i j => .int (i + j)) (wI0 fun i j => .int (i + j)) := good_I0 fun _ _ _ => .int _
theorem good_sub : Good2 K (rI0 fun i j => .int (i - j)) (wI0 fun i j => .int (i - j)) := good_I0 fun _ _ _ => .int _
theorem good_mul : Good2 K (rI CMul fun i j => .int (i * j)) (wI CMul fun i j => .int (i * j)) := good_I fun _ _ _ => .int _
theorem good_mod : Good2 K (rI (fun _ j => 0 < j) fun i j => .int (i % j)) (wI (fun _ j => 0 < j) fun i j => .int (i % j)) := good_I fun _ _ _ => .int _
theorem good_fdivN : Good2 K (rI CDivN fun i j => .int (i.fdiv j)) (wI CDivN fun i j => .int (i.fdiv j)) := good_I fun _ _ _ => .int _
theorem good_fdiv : Good2 K (rI CDiv fun i j => .int (i / j)) (wI CDiv fun i j => .int (i / j)) := good_I fun _ _ _ => .int _
theorem good_pow : Good2 K (rI CPow fun i j => .int (i ^ j.toNat)) (wI CPow fun i j => .int (i ^ j.toNat)) := good_I fun _ _ _ => .int _
theorem good_lt : Good2 K (rI0 fun i j => .bl (decide (i < j))) (wI0 fun i j => .bool (decide (i < j))) := good_I0 fun _ _ _ => .bl _
theorem good_le : Good2 K (rI0 fun i j => .bl (decide (i ≤ j))) (wI0 fun i j => .bool (decide (i ≤ j))) := good_I0 fun _ _ _ => .bl _
theorem good_gt : Good2 K (rI0 fun i j => .bl (decide (j < i))) (wI0 fun i j => .bool (decide (j < i))) := good_I0 fun _ _ _ => .bl _
theorem good_ge : Good2 K (rI0 fun i j => .bl (decide (j ≤ i))) (wI0 fun i j => .bool (decide (j ≤ i))) := good_I0 fun _ _ _ => .bl _
/-- == and != of data -/
def wEq : PyData → PyData → (PyData → Prop) → Prop := fun d e P => SeqAt.shaped d = true ∧ SeqAt.shaped e = true ∧ P (.bool (PyData.eqv d e))
def wNe : PyData → PyData → (PyData → Prop) → Prop := fun d e P => SeqAt.shaped d = true ∧ SeqAt.shaped e = true ∧ P (.bool (!PyData.eqv d e))
theorem good_eq : Good2 K (rEqD K) wEq := fun O H x y d e Pz Q _ hx hy ⟨s1, s2, p⟩ k => ⟨d, e, hx.keep hid_same, hy.keep hid_same, s1, s2, k _ _ H p (Same.refl _) (.bl _)⟩
theorem good_ne : Good2 K (rNeD K) wNe := fun O H x y d e Pz Q _ hx hy ⟨s1, s2, p⟩ k => ⟨d, e, hx.keep hid_same, hy.keep hid_same, s1, s2, k _ _ H p (Same.refl _) (.bl _)⟩
/-- is None -/
def isNon : PyData → Bool
  | .none => true
  | _ => false
theorem dp_non {H : Hp} {v : V} {d : PyData} (h : Dp K H v d) : decide (v = .non) = isNon d := by cases h <;> simp [isNon]
def wIsN : PyData → PyData → (PyData → Prop) → Prop := fun d e P => e = .none ∧ P (.bool (isNon d))
def wNotN : PyData → PyData → (PyData → Prop) → Prop := fun d e P => e = .none ∧ P (.bool (!isNon d))
theorem good_isN : Good2 K (fun x y H Q => y = .non ∧ Q (.bl (decide (x = .non))) H) wIsN := fun O H x y d e Pz Q _ hx hy ⟨s1, p⟩ k => by
  subst s1
  cases hy
  exact ⟨rfl, k _ _ H p (Same.refl _) (by rw [dp_non hx]; exact .bl _)⟩
theorem good_notN : Good2 K (fun x y H Q => y = .non ∧ Q (.bl (!decide (x = .non))) H) wNotN := fun O H x y d e Pz Q _ hx hy ⟨s1, p⟩ k => by
  subst s1
  cases hy
  exact ⟨rfl, k _ _ H p (Same.refl _) (by rw [dp_non hx]; exact .bl _)⟩
/-- in a list or tuple of ints (or other flat things) -/
def wInI (neg : Bool) : PyData → PyData → (PyData → Prop) → Prop := fun d e P => ∃ (i : Int) (ns : List Int), d = .int i ∧ (e = .list (ns.map PyData.int) ∨ e = .tuple (ns.map PyData.int)) ∧ P (.bool (if neg then !decide (i ∈ ns) else decide (i ∈ ns)))
theorem inV_ints (i : Int) : ∀ ns : List Int, inV (.int i) (ns.map V.int) = decide (i ∈ ns)
  | [] => rfl
  | n :: ns => by
    have ih := inV_ints i ns
    unfold inV at ih ⊢
    rw [List.map_cons, List.any_cons, ih]
    have e : eqV (.int n) (.int i) = decide (i = n) := by
      unfold eqV
      by_cases q : n = i
      · simp [q]
      · have q' : ¬ i = n := fun z => q z.symm
        simp [q, q']
    rw [e]
    simp only [List.mem_cons, Bool.decide_or]
theorem flat_ints : ∀ ns : List Int, (ns.map V.int).all flatV = true
  | [] => rfl
  | n :: ns => by rw [List.map_cons, List.all_cons, flat_ints ns]; rfl
theorem good_inI {neg : Bool} : Good2 K (rIn K neg) (wInI neg) := fun O H x y d e Pz Q _ hx hy ⟨i, ns, e1, e2, p⟩ k => by
  subst e1
  cases hx
  rcases e2 with e2 | e2
  · subst e2
    cases hy with
    | lst hs ha =>
      have q := dpAll_ints ns ha
      subst q
      refine ⟨_, _, rfl, .inl (Same.seq hid_same hs), rfl, flat_ints ns, ?_⟩
      rw [inV_ints]
      exact k _ _ H p (Same.refl _) (.bl _)
  · subst e2
    cases hy with
    | tup hs ha =>
      have q := dpAll_ints ns ha
      subst q
      refine ⟨_, _, rfl, .inr (seqT_keep hid_same hs), rfl, flat_ints ns, ?_⟩
      rw [inV_ints]
      exact k _ _ H p (Same.refl _) (.bl _)
/-- in a list of data -/
def wInD : PyData → PyData → (PyData → Prop) → Prop := fun d e P => ∃ ds, e = .list ds ∧ SeqAt.shaped d = true ∧ SeqAt.shaped (.list ds) = true ∧ P (.bool (ds.any fun z => PyData.eqv z d))
def wNotInD : PyData → PyData → (PyData → Prop) → Prop := fun d e P => ∃ ds, e = .list ds ∧ SeqAt.shaped d = true ∧ SeqAt.shaped (.list ds) = true ∧ P (.bool (!ds.any fun z => PyData.eqv z d))
theorem good_inD : Good2 K (rInD K) wInD := fun O H x y d e Pz Q _ hx hy ⟨ds, e1, s1, s2, p⟩ k => by
  subst e1
  exact ⟨d, ds, hx.keep hid_same, hy.keep hid_same, s1, s2, k _ _ H p (Same.refl _) (.bl _)⟩
theorem good_notInD : Good2 K (rNotInD K) wNotInD := fun O H x y d e Pz Q _ hx hy ⟨ds, e1, s1, s2, p⟩ k => by
  subst e1
  exact ⟨d, ds, hx.keep hid_same, hy.keep hid_same, s1, s2, k _ _ H p (Same.refl _) (.bl _)⟩
/-- a new object of data -/
theorem dp_newT {O : Own} {H : Hp} {p : Addr} {vs : List V} {ds : List PyData} (t : ∀ a, O a = true → H a ≠ none) (n : H p = none) (h : DpAll K (hid O H) vs ds) : Dp K (hid O (upd H p (.tup vs))) (.ref p) (.tuple ds) := by
  have op : O p = false := by
    cases q : O p with
    | false => rfl
    | true => exact absurd n (t p q)
  exact .tup (SqT.of (by rw [hid_no op, upd_same])) (h.keep (same_hid (same_new n)))
theorem dp_newL {O : Own} {H : Hp} {p : Addr} {vs : List V} {ds : List PyData} (t : ∀ a, O a = true → H a ≠ none) (n : H p = none) (h : DpAll K (hid O H) vs ds) : Dp K (hid O (upd H p (.lst vs))) (.ref p) (.list ds) := by
  have op : O p = false := by
    cases q : O p with
    | false => rfl
    | true => exact absurd n (t p q)
  exact .lst (SqL.of (by rw [hid_no op, upd_same])) (h.keep (same_hid (same_new n)))
/-- tuple + tuple -/
def wCatT : PyData → PyData → (PyData → Prop) → Prop := fun d e P => ∃ xs ys, d = .tuple xs ∧ e = .tuple ys ∧ xs.length + ys.length ≤ sizeLine ∧ P (.tuple (xs ++ ys))
theorem good_catT : Good2 K (rCatA K) wCatT := fun O H x y d e Pz Q t hx hy ⟨xs, ys, e1, e2, l, p⟩ k => by
  subst e1 e2
  cases hx with
  | tup hs ha =>
    cases hy with
    | tup hs' ha' =>
      have l1 := dpAll_len ha
      have l2 := dpAll_len ha'
      refine ⟨_, _, _, _, rfl, rfl, seqT_keep hid_same hs, seqT_keep hid_same hs', by omega, fun z => ?_, fun z z' => ?_, fun z z' p' n => ?_⟩
      · subst z
        cases xs with
        | nil => exact k _ _ H p (Same.refl _) (.tup hs' ha')
        | cons _ _ => cases l1
      · subst z'
        cases ys with
        | nil =>
          rw [List.append_nil] at p
          exact k _ _ H p (Same.refl _) (.tup hs ha)
        | cons _ _ => cases l2
      · exact k _ _ _ p (same_new n) (dp_newT t n (dpAll_app ha ha'))
end
end
end Lk

set_option Elab.async false
set_option linter.all false
set_option maxRecDepth 100000
set_option maxHeartbeats 4000000
namespace Lk
open PySem PySem.Spec PyProof.Rows L2
section
variable {X : Cx} {W : Option Addr} {K : PySem.W.Frag}

/-! ### list + list -/
def rCatL (K : PySem.W.Frag) : R2 := fun x y H Q => ∃ l b xs zs, x = .ref l ∧ y = .ref b ∧ SqL K H l xs ∧ SqL K H b zs ∧ xs.length + zs.length ≤ sizeLine ∧ ∀ p, H p = none → Q (.ref p) (upd H p (.lst (xs ++ zs)))
theorem op_catL : OpR X (binaryOp .Add) (rCatL X.K) := by
  intro pins s σ H x y v u Q I rx ry h
  obtain ⟨l, b, xs, zs, rfl, rfl, hH, hB, hz, q⟩ := h
  cases rx
  cases ry
  obtain ⟨its, r, pl, z⟩ := I.list hH
  obtain ⟨its2, r2, pl2, z2⟩ := I.list hB
  obtain ⟨⟨cls, dd, data, sl⟩, ho, hc, n, hd⟩ := id pl.isList
  obtain ⟨⟨cls2, dd2, data2, sl2⟩, ho2, hc2, n2, hd2⟩ := id pl2.isList
  simp only at hc hd hc2 hd2
  subst hc hd hc2 hd2
  have l1 := r.length
  have l2 := r2.length
  refine concat_meets ⟨_, ho, rfl⟩ ⟨_, ho2, rfl⟩ noFill_list_add seq_list_add PySem.F.slot_list_add PySem.F.entry_list_add (PySem.F.args_list_add_2 _ _)
    (list_addW l b its.toArray its2.toArray n n2 dd dd2 sl sl2 (by simpa using (by omega))) ⟨ho, ho2, ?_⟩
  have ea : its.toArray ++ its2.toArray = (its ++ its2).toArray := by simp
  rw [ea]
  exact ⟨.ref _, _, I.lnew (t' := s.toks) (r.append r2) (by rw [List.length_append]; omega), rfl, q _ I.fresh⟩
def wCatL : PyData → PyData → (PyData → Prop) → Prop := fun d e P => ∃ xs ys, d = .list xs ∧ e = .list ys ∧ xs.length + ys.length ≤ sizeLine ∧ P (.list (xs ++ ys))
theorem good_catL : Good2 K (rCatL K) wCatL := fun O H x y d e Pz Q t hx hy ⟨xs, ys, e1, e2, l, p⟩ k => by
  subst e1 e2
  cases hx with
  | lst hs ha =>
    cases hy with
    | lst hs' ha' =>
      have l1 := dpAll_len ha
      have l2 := dpAll_len ha'
      exact ⟨_, _, _, _, rfl, rfl, Same.seq hid_same hs, Same.seq hid_same hs', by omega, fun p' n => k _ _ _ p (same_new n) (dp_newL t n (dpAll_app ha ha'))⟩

/-! ### displays -/
theorem de_tup {es : List Expr} {Fs : DL} {pos k} (h : DA X W es Fs) : DE X W (.Tuple es k pos) (fun g δ P => Fs g δ fun g1 ds => ds.length ≤ sizeLine ∧ P g1 (.tuple ds)) :=
  pe_mono (pe_tup h) fun σ H Q ⟨E, O, g, δ, P, R, f, k⟩ => ⟨E, O, g, δ, _, R, f, fun g1 ds vs H1 ⟨l, p⟩ R1 s1 x1 => ⟨by rw [dpAll_len x1]; exact l, fun p' n =>
    k g1 _ _ _ p (R1.grow (same_new n)) (s1.trans (.of (same_new n))) (dp_newT R1.there n x1)⟩⟩
theorem df_lst {es : List Expr} {Fs : DL} {pos} (h : DA X W es Fs) : DF X W (.List es pos) (fun g δ P => Fs g δ fun g1 ds => ds.length ≤ sizeLine ∧ P g1 ds) :=
  pe_mono (pe_lst h) fun σ H Q ⟨E, O, g, δ, P, R, f, k⟩ => ⟨E, O, g, δ, _, R, f, fun g1 ds vs H1 ⟨l, p⟩ R1 s1 x1 => ⟨by rw [dpAll_len x1]; exact l, fun p' n =>
    k g1 _ _ _ _ p R1 s1 n x1⟩⟩
/-- a fresh list as data -/
theorem de_of {e : Expr} {F : DL} (h : DF X W e F) : DE X W e (fun g δ P => F g δ fun g1 ds => P g1 (.list ds)) :=
  pe_mono h fun σ H Q ⟨E, O, g, δ, P, R, f, k⟩ => ⟨E, O, g, δ, _, R, f, fun g1 ds vs p H1 q R1 s1 n x1 =>
    k g1 _ _ _ q (R1.grow (same_new n)) (s1.trans (.of (same_new n))) (dp_newL R1.there n x1)⟩
theorem de_lst {es : List Expr} {Fs : DL} {pos} (h : DA X W es Fs) : DE X W (.List es pos) (fun g δ P => Fs g δ fun g1 ds => ds.length ≤ sizeLine ∧ P g1 (.list ds)) := de_of (df_lst h)
/-- [e] * n -/
theorem rep_one (n : Nat) (v : V) : (List.replicate n [v]).flatten = List.replicate n v := by
  induction n with
  | zero => rfl
  | succ n ih => rw [List.replicate_succ, List.flatten_cons, ih]; rfl
theorem df_rep {a b : Expr} {Fa Fb : DT} {p1 pos : Pos} (ha : DE X W a Fa) (hb : DE X W b Fb) (hst : starEach [a] X.env = (false, eval a X.env) :: starEach [] X.env := by rfl) :
    DF X W (.BinOp (.List [a] p1) .Mult b pos) (fun g δ P => Fa g δ fun g1 d => Fb g1 δ fun g2 e => ∃ n : Nat, e = .int n ∧ n ≤ 1000 ∧ P g2 (List.replicate n d)) :=
  pe_mono (pe_op op_rep (pe_lst (pa_cons ha pa_nil hst)) hb) fun σ H Q ⟨E, O, g, δ, P, R, f, k⟩ => ⟨E, O, g, δ, _, R, f, fun g1 d v H1 f1 R1 s1 x1 => by
    refine ⟨by show 1 ≤ sizeLine; decide, fun p n => ?_⟩
    have R2 := R1.grow (same_new (o := .lst [v]) n)
    have x2 := x1.keep (same_hid (same_new (o := .lst [v]) n))
    have op : O p = false := R1.free n
    refine ⟨E, O, g1, δ, _, R2, f1, fun g2 e v2 H2 ⟨m, e1, hm, q⟩ R3 s3 x3 => ?_⟩
    subst e1
    cases x3
    have hp : H2 p = some (.lst [v]) := by
      have z := s3.hid p (.lst [v]) (by rw [hid_no op, upd_same])
      exact hid_same _ _ z
    refine ⟨p, m, [v], rfl, rfl, hp, by omega, by omega, ?_, fun p2 n2 => ?_⟩
    · show 1 * (m : Int).toNat ≤ sizeLine
      have : (1000 : Nat) ≤ sizeLine := by decide
      rw [Int.toNat_natCast]
      omega
    · rw [Int.toNat_natCast, rep_one]
      exact k g2 _ _ p2 H2 q R3 ((s1.trans (.of (same_new n))).trans s3) n2 (dpAll_rep m (x2.keep s3.hid))⟩

/-! ### subscripts -/
def wIx : PyData → PyData → (PyData → Prop) → Prop := fun d e P => ∃ xs i z, (d = .list xs ∨ d = .tuple xs) ∧ e = .int i ∧ atI xs i = some z ∧ P z
theorem at_dp {H : Hp} {vs : List V} {ds : List PyData} {i : Int} {z : PyData} (h : DpAll K H vs ds) (e : atI ds i = some z) : ∃ v, atI vs i = some v ∧ Dp K H v z := by
  unfold atI at e ⊢
  rw [dpAll_len h]
  cases q : ixN ds.length i with
  | none => rw [q] at e; cases e
  | some j =>
    rw [q] at e
    obtain ⟨v, h1, h2⟩ := dpAll_get2 h (show ds[j]? = some z from e)
    exact ⟨v, h1, h2⟩
theorem good_ix : Good2 K (rIx K) wIx := fun O H x y d e Pz Q t hx hy ⟨xs, i, z, e1, e2, a, p⟩ k => by
  subst e2
  cases hy
  rcases e1 with e1 | e1
  · subst e1
    cases hx with
    | lst hs ha =>
      obtain ⟨v, h1, h2⟩ := at_dp ha a
      exact .inl ⟨_, _, _, _, rfl, rfl, Same.seq hid_same hs, h1, k _ _ H p (Same.refl _) h2⟩
  · subst e1
    cases hx with
    | tup hs ha =>
      obtain ⟨v, h1, h2⟩ := at_dp ha a
      exact .inr (.inl ⟨_, _, _, _, rfl, rfl, seqT_keep hid_same hs, h1, k _ _ H p (Same.refl _) h2⟩)
theorem de_ix {a b : Expr} {Fa Fb : DT} {pos : Pos} (ha : DE X W a Fa) (hb : DE X W b Fb) (hs : PlainIx b := by exact fun _ _ => rfl) : DE X W (.Subscript a b pos) (fun g δ P => Fa g δ fun g1 d => Fb g1 δ fun g2 e => wIx d e (P g2)) :=
  pe_mono (pe_ix ix_seq ha hb hs) (tOp_of good_ix)
/-- slices -/
abbrev DPt := Nat → List Sv → (Nat → Option Int → Prop) → Prop
def tDp (K : PySem.W.Frag) (W : Option Addr) (F : DPt) : TO := fun σ H Q => ∃ E O g δ P, Rel K W E O g H σ δ ∧ F g δ P ∧
  ∀ g' o H', P g' o → Rel K W E O g' H' σ δ → Ext W O H H' → Q o H'
theorem po_mono {e : Option Expr} {t t' : TO} (h : PO X e t) (m : ∀ σ H Q, t' σ H Q → t σ H Q) : PO X e t' := ⟨fun pins s σ H Q I q => h.run pins s σ H Q I (m σ H Q q)⟩
theorem dp_none : PO X none (tDp X.K W fun g _ P => P g none) := po_mono po_none fun σ H Q ⟨E, O, g, δ, P, R, f, k⟩ => k g none H f R .refl
theorem dp_some {e : Expr} {F : DT} (h : DE X W e F) : PO X (some e) (tDp X.K W fun g δ P => F g δ fun g1 d => ∃ i, d = .int i ∧ P g1 (some i)) :=
  po_mono (po_some h) fun σ H Q ⟨E, O, g, δ, P, R, f, k⟩ => ⟨E, O, g, δ, _, R, f, fun g1 d v H1 ⟨i, e, p⟩ R1 s1 x1 => by
    subst e
    cases x1
    exact ⟨i, rfl, k g1 _ H1 p R1 s1⟩⟩
def cutD (xs : List PyData) (lo hi : Option Int) : List PyData := (xs.drop (HT.sIx xs.length 0 lo)).take (HT.sIx xs.length xs.length hi - HT.sIx xs.length 0 lo)
theorem cut_dp {H : Hp} {vs : List V} {ds : List PyData} {lo hi : Option Int} (h : DpAll K H vs ds) : DpAll K H (cutV vs lo hi) (cutD ds lo hi) := by
  unfold cutV cutD
  rw [dpAll_len h]
  exact dpAll_take _ (dpAll_drop _ h)
theorem cut_all {ds : List PyData} {lo hi : Option Int} (h : HT.sIx ds.length 0 lo = 0 ∧ HT.sIx ds.length ds.length hi = ds.length) : cutD ds lo hi = ds := by
  unfold cutD
  rw [h.1, h.2]
  simp
theorem de_slT {a : Expr} {lo hi : Option Expr} {Fa : DT} {Fl Fh : DPt} {p2 pos : Pos} (ha : DE X W a Fa) (hl : PO X lo (tDp X.K W Fl)) (hh : PO X hi (tDp X.K W Fh)) :
    DE X W (.Subscript a (.Slice lo hi none p2) pos) (fun g δ P => Fa g δ fun g1 d => Fl g1 δ fun g2 l => Fh g2 δ fun g3 u => ∃ xs, d = .tuple xs ∧ P g3 (.tuple (cutD xs l u))) :=
  pe_mono (pe_slice sl_tupA ha hl hh) fun σ H Q ⟨E, O, g, δ, P, R, f, k⟩ => ⟨E, O, g, δ, _, R, f, fun g1 d v H1 f1 R1 s1 x1 => ⟨E, O, g1, δ, _, R1, f1, fun g2 l H2 f2 R2 s2 => ⟨E, O, g2, δ, _, R2, f2, fun g3 u H3 ⟨xs, e, p⟩ R3 s3 => by
    subst e
    have x3 := x1.keep (s2.trans s3).hid
    have ss := (s1.trans s2).trans s3
    cases x3 with
    | tup hs ha =>
      have l1 := dpAll_len ha
      refine ⟨_, _, rfl, seqT_keep hid_same hs, fun w => ?_, fun w p' n => ?_⟩
      · rw [l1] at w
        rw [cut_all w] at p
        exact k g3 _ _ H3 p R3 ss (.tup hs ha)
      · exact k g3 _ _ _ p (R3.grow (same_new n)) (ss.trans (.of (same_new n))) (dp_newT R3.there n (cut_dp ha))⟩⟩⟩
theorem df_slL {a : Expr} {lo hi : Option Expr} {Fa : DT} {Fl Fh : DPt} {p2 pos : Pos} (ha : DE X W a Fa) (hl : PO X lo (tDp X.K W Fl)) (hh : PO X hi (tDp X.K W Fh)) :
    DF X W (.Subscript a (.Slice lo hi none p2) pos) (fun g δ P => Fa g δ fun g1 d => Fl g1 δ fun g2 l => Fh g2 δ fun g3 u => ∃ xs, d = .list xs ∧ P g3 (cutD xs l u)) :=
  pe_mono (pe_slice sl_list ha hl hh) fun σ H Q ⟨E, O, g, δ, P, R, f, k⟩ => ⟨E, O, g, δ, _, R, f, fun g1 d v H1 f1 R1 s1 x1 => ⟨E, O, g1, δ, _, R1, f1, fun g2 l H2 f2 R2 s2 => ⟨E, O, g2, δ, _, R2, f2, fun g3 u H3 ⟨xs, e, p⟩ R3 s3 => by
    subst e
    have x3 := x1.keep (s2.trans s3).hid
    have ss := (s1.trans s2).trans s3
    cases x3 with
    | lst hs ha => exact ⟨_, _, rfl, Same.seq hid_same hs, fun p' n => k g3 _ _ _ _ p R3 ss n (cut_dp ha)⟩⟩⟩⟩

/-! ### calls of built-ins -/
theorem de_callB {id : String} {r : List V → Hp → VK → Prop} {w : List PyData → (PyData → Prop) → Prop} {x : Str} {p pos : Pos} {e : Expr} {es : List Expr} {Fs : DL} (hc : CallR X (.builtin id) r) (gd : GoodL X.K r w) (hm : X.mg x = none) (ha : DA X W (e :: es) Fs)
    (hv : bootBuiltins x = some (.builtin id) := by decide +kernel) (hg : Gl X x := by rfl) (hn : x ≠ "__name__" := by decide) (hdb : (x == ("__debug__" : Str)) = false := by decide) (he : starEach (e :: es) X.env = (false, eval e X.env) :: starEach es X.env := by rfl)
    (hpl : (backTo pos (starEach es X.env)).any (·.1) = false := by rfl) : DE X W (.Call (.Name x p) (e :: es) [] pos) (fun g δ P => Fs g δ fun g1 ds => w ds (P g1)) :=
  pe_mono (pe_callB hc hg hm hv ha (hn := hn) (hdb := hdb) (he := he) (hpl := hpl)) fun σ H Q ⟨E, O, g, δ, P, R, f, k⟩ => ⟨E, O, g, δ, _, R, f, fun g1 ds vs H1 f1 R1 s1 x1 =>
    gd O H1 vs ds _ Q R1.there x1 f1 fun z v H2 p s2 x2 => k g1 z v H2 p (R1.grow s2) (s1.trans (.of s2)) x2⟩
theorem de_callTy {T : String} {r : List V → Hp → VK → Prop} {w : List PyData → (PyData → Prop) → Prop} {x : Str} {p pos : Pos} {e : Expr} {es : List Expr} {Fs : DL} (hc : CallR X (.type T) r) (gd : GoodL X.K r w) (hm : X.mg x = none) (ha : DA X W (e :: es) Fs)
    (hv : bootBuiltins x = some (.type T) := by decide +kernel) (hg : Gl X x := by rfl) (hn : x ≠ "__name__" := by decide) (hdb : (x == ("__debug__" : Str)) = false := by decide) (he : starEach (e :: es) X.env = (false, eval e X.env) :: starEach es X.env := by rfl)
    (hpl : (backTo pos (starEach es X.env)).any (·.1) = false := by rfl) : DE X W (.Call (.Name x p) (e :: es) [] pos) (fun g δ P => Fs g δ fun g1 ds => w ds (P g1)) :=
  pe_mono (pe_callTy hc hg hm hv ha (hn := hn) (hdb := hdb) (he := he) (hpl := hpl)) fun σ H Q ⟨E, O, g, δ, P, R, f, k⟩ => ⟨E, O, g, δ, _, R, f, fun g1 ds vs H1 f1 R1 s1 x1 =>
    gd O H1 vs ds _ Q R1.there x1 f1 fun z v H2 p s2 x2 => k g1 z v H2 p (R1.grow s2) (s1.trans (.of s2)) x2⟩
theorem de_callF {id : String} {r : List V → Hp → VK → Prop} {w : List PyData → (PyData → Prop) → Prop} {x : Str} {p pos : Pos} {e : Expr} {es : List Expr} {Fs : DL} (hc : CallR X (.builtin id) r) (gd : GoodL X.K r w) (hm : X.mg x = some (.builtin id)) (ha : DA X W (e :: es) Fs)
    (hg : Gl X x := by rfl) (hdb : (x == ("__debug__" : Str)) = false := by decide) (he : starEach (e :: es) X.env = (false, eval e X.env) :: starEach es X.env := by rfl)
    (hpl : (backTo pos (starEach es X.env)).any (·.1) = false := by rfl) : DE X W (.Call (.Name x p) (e :: es) [] pos) (fun g δ P => Fs g δ fun g1 ds => w ds (P g1)) :=
  pe_mono (pe_callBfun hc hg hm ha (hdb := hdb) (he := he) (hpl := hpl)) fun σ H Q ⟨E, O, g, δ, P, R, f, k⟩ => ⟨E, O, g, δ, _, R, f, fun g1 ds vs H1 f1 R1 s1 x1 =>
    gd O H1 vs ds _ Q R1.there x1 f1 fun z v H2 p s2 x2 => k g1 z v H2 p (R1.grow s2) (s1.trans (.of s2)) x2⟩
theorem good_gcd : GoodL K rGcd (fun ds P => ∃ a b : Int, ds = [.int a, .int b] ∧ P (.int ((Nat.gcd a.natAbs b.natAbs : Nat) : Int))) := fun O H xs ds Pz Q t hx ⟨a, b, e, p⟩ k => by
  subst e
  cases hx with
  | cons h1 h2 =>
    cases h2 with
    | cons h3 h4 =>
      cases h1; cases h3; cases h4
      exact ⟨a, b, rfl, k _ _ H p (Same.refl _) (.int _)⟩
def wLen : List PyData → (PyData → Prop) → Prop := fun ds P => ∃ xs, (ds = [.list xs] ∨ ds = [.tuple xs]) ∧ P (.int (xs.length : Nat))
theorem good_len : GoodL K (fun xs H Q => ∃ x n, xs = [x] ∧ LenV K x H n ∧ Q (.int n) H) wLen := fun O H xs ds Pz Q t hx ⟨ys, e, p⟩ k => by
  rcases e with e | e
  · subst e
    cases hx with
    | cons h1 h2 =>
      cases h2
      cases h1 with
      | lst hs ha => exact ⟨_, ys.length, rfl, .inl ⟨_, Same.seq hid_same hs, (dpAll_len ha).symm⟩, k _ _ H p (Same.refl _) (.int _)⟩
  · subst e
    cases hx with
    | cons h1 h2 =>
      cases h2
      cases h1 with
      | tup hs ha => exact ⟨_, ys.length, rfl, .inr ⟨_, seqT_keep hid_same hs, (dpAll_len ha).symm⟩, k _ _ H p (Same.refl _) (.int _)⟩
def wTup : List PyData → (PyData → Prop) → Prop := fun ds P => ∃ xs, (ds = [.list xs] ∨ ds = [.tuple xs]) ∧ P (.tuple xs)
theorem good_tup : GoodL K (fun xs H Q => ∃ p ys, xs = [.ref p] ∧ ((SqL K H p ys ∧ ∀ l, H l = none → Q (.ref l) (upd H l (.tup ys))) ∨ (SqT K H p ys ∧ Q (.ref p) H))) wTup := fun O H xs ds Pz Q t hx ⟨ys, e, p⟩ k => by
  rcases e with e | e
  · subst e
    cases hx with
    | cons h1 h2 =>
      cases h2
      cases h1 with
      | lst hs ha => exact ⟨_, _, rfl, .inl ⟨Same.seq hid_same hs, fun l n => k _ _ _ p (same_new n) (dp_newT t n ha)⟩⟩
  · subst e
    cases hx with
    | cons h1 h2 =>
      cases h2
      cases h1 with
      | tup hs ha => exact ⟨_, _, rfl, .inr ⟨seqT_keep hid_same hs, k _ _ H p (Same.refl _) (.tup hs ha)⟩⟩
theorem good_abs : GoodL K (fun xs H Q => ∃ i, xs = [.int i] ∧ Q (.int (if i < 0 then -i else i)) H) (fun ds P => ∃ i : Int, ds = [.int i] ∧ P (.int (if i < 0 then -i else i))) := fun O H xs ds Pz Q t hx ⟨a, e, p⟩ k => by
  subst e
  cases hx with
  | cons h1 h2 =>
    cases h1; cases h2
    exact ⟨a, rfl, k _ _ H p (Same.refl _) (.int _)⟩
def wInt : List PyData → (PyData → Prop) → Prop := fun ds P => (∃ i : Int, ds = [.int i] ∧ P (.int i)) ∨ ∃ b : Bool, ds = [.bool b] ∧ P (.int (if b then 1 else 0))
theorem good_int : GoodL K (fun xs H Q => (∃ i, xs = [.int i] ∧ Q (.int i) H) ∨ ∃ k, xs = [.bl k] ∧ Q (.int (if k then 1 else 0)) H) wInt := fun O H xs ds Pz Q t hx h k => by
  rcases h with ⟨a, e, p⟩ | ⟨a, e, p⟩
  · subst e
    cases hx with
    | cons h1 h2 =>
      cases h1; cases h2
      exact .inl ⟨a, rfl, k _ _ H p (Same.refl _) (.int _)⟩
  · subst e
    cases hx with
    | cons h1 h2 =>
      cases h1; cases h2
      exact .inr ⟨a, rfl, k _ _ H p (Same.refl _) (.int _)⟩
def wMin : List PyData → (PyData → Prop) → Prop := fun ds P => ∃ i j : Int, ds = [.int i, .int j] ∧ P (.int (if j < i then j else i))
def wMax : List PyData → (PyData → Prop) → Prop := fun ds P => ∃ i j : Int, ds = [.int i, .int j] ∧ P (.int (if j > i then j else i))
theorem good_min : GoodL K (fun xs H Q => ∃ i j, xs = [.int i, .int j] ∧ Q (.int (if j < i then j else i)) H) wMin := fun O H xs ds Pz Q t hx ⟨a, b, e, p⟩ k => by
  subst e
  cases hx with
  | cons h1 h2 =>
    cases h2 with
    | cons h3 h4 =>
      cases h1; cases h3; cases h4
      exact ⟨a, b, rfl, k _ _ H p (Same.refl _) (.int _)⟩
theorem good_max : GoodL K (fun xs H Q => ∃ i j, xs = [.int i, .int j] ∧ Q (.int (if j > i then j else i)) H) wMax := fun O H xs ds Pz Q t hx ⟨a, b, e, p⟩ k => by
  subst e
  cases hx with
  | cons h1 h2 =>
    cases h2 with
    | cons h3 h4 =>
      cases h1; cases h3; cases h4
      exact ⟨a, b, rfl, k _ _ H p (Same.refl _) (.int _)⟩
def wAll : List PyData → (PyData → Prop) → Prop := fun ds P => ∃ bs : List Bool, ds = [.list (bs.map PyData.bool)] ∧ P (.bool (bs.all id))
def wAny : List PyData → (PyData → Prop) → Prop := fun ds P => ∃ bs : List Bool, ds = [.list (bs.map PyData.bool)] ∧ P (.bool (bs.any id))
theorem good_all : GoodL K (rAll K) wAll := fun O H xs ds Pz Q t hx ⟨bs, e, p⟩ k => by
  subst e
  cases hx with
  | cons h1 h2 =>
    cases h2
    cases h1 with
    | lst hs ha =>
      have q := dpAll_bools bs ha
      subst q
      exact ⟨_, bs, rfl, Same.seq hid_same hs, k _ _ H p (Same.refl _) (.bl _)⟩
theorem good_any : GoodL K (rAny K) wAny := fun O H xs ds Pz Q t hx ⟨bs, e, p⟩ k => by
  subst e
  cases hx with
  | cons h1 h2 =>
    cases h2
    cases h1 with
    | lst hs ha =>
      have q := dpAll_bools bs ha
      subst q
      exact ⟨_, bs, rfl, Same.seq hid_same hs, k _ _ H p (Same.refl _) (.bl _)⟩
/-- list(xs): a fresh list -/
theorem df_list {x : Str} {p pos : Pos} {e : Expr} {F : DT} (hm : X.mg x = none) (ha : DE X W e F)
    (hv : bootBuiltins x = some (.type "list") := by decide +kernel) (hg : Gl X x := by rfl) (hn : x ≠ "__name__" := by decide) (hdb : (x == ("__debug__" : Str)) = false := by decide) (he : starEach [e] X.env = (false, eval e X.env) :: starEach [] X.env := by rfl) :
    DF X W (.Call (.Name x p) [e] [] pos) (fun g δ P => F g δ fun g1 d => ∃ xs, (d = .list xs ∨ d = .tuple xs) ∧ P g1 xs) :=
  pe_mono (pe_callTy call_list_of hg hm hv (pa_cons ha pa_nil he) (hn := hn) (hdb := hdb) (he := he)) fun σ H Q ⟨E, O, g, δ, P, R, f, k⟩ => ⟨E, O, g, δ, _, R, f, fun g1 d v H1 ⟨xs, e1, q⟩ R1 s1 x1 => by
    rcases e1 with e1 | e1
    · subst e1
      cases x1 with
      | lst hs ha => exact ⟨_, _, rfl, .inl (Same.seq hid_same hs), fun l n => k g1 _ _ _ _ q R1 s1 n ha⟩
    · subst e1
      cases x1 with
      | tup hs ha => exact ⟨_, _, rfl, .inr (seqT_keep hid_same hs), fun l n => k g1 _ _ _ _ q R1 s1 n ha⟩⟩
/-- list(range(n)) -/
def rgI (a b : Int) : List Int := (List.range (b - a).toNat).map fun (i : Nat) => a + (i : Int)
theorem rgV_eq (a b : Int) : rgV a b = (rgI a b).map V.int := by
  unfold rgV rgI
  simp
theorem df_listRg1 {p1 p pos pos' : Pos} {e : Expr} {F : DT} (hc : X.calm = true) (hm : X.mg "list" = none) (hm2 : X.mg "range" = none) (ha : DE X W e F) (hg : Gl X "list" := by rfl) (hg2 : Gl X "range" := by rfl)
    (hs : starEach [e] X.env = [(false, eval e X.env)] := by rfl) (na : starEach [Expr.Call (.Name "range" p1) [e] [] pos'] X.env = (false, eval (Expr.Call (.Name "range" p1) [e] [] pos') X.env) :: starEach [] X.env := by rfl) :
    DF X W (.Call (.Name "list" p) [.Call (.Name "range" p1) [e] [] pos'] [] pos) (fun g δ P => F g δ fun g1 d => ∃ n : Int, d = .int n ∧ n ≤ 1000 ∧ 0 ≤ n ∧ P g1 ((rgI 0 n).map PyData.int)) :=
  pe_mono (pe_listRg hc hg hm (prg_1 hg2 hm2 ha hs) na) fun σ H Q ⟨E, O, g, δ, P, R, f, k⟩ => ⟨E, O, g, δ, _, R, f, fun g1 d v H1 ⟨n, e1, hn, h0, q⟩ R1 s1 x1 => by
    subst e1
    cases x1
    refine ⟨n, rfl, ?_, fun l nl => ?_⟩
    · unfold RgOk
      have : sizeLine = 16777216 := sizeLine_eq
      omega
    · rw [rgV_eq]
      exact k g1 _ _ _ _ q R1 s1 nl (ints_dp _)⟩
theorem df_listRg2 {p1 p pos pos' : Pos} {a b : Expr} {Fa Fb : DT} (hc : X.calm = true) (hm : X.mg "list" = none) (hm2 : X.mg "range" = none) (ha : DE X W a Fa) (hb : DE X W b Fb) (hg : Gl X "list" := by rfl) (hg2 : Gl X "range" := by rfl)
    (hs : starEach [a, b] X.env = (false, eval a X.env) :: starEach [b] X.env := by rfl) (hs2 : starEach [b] X.env = (false, eval b X.env) :: starEach [] X.env := by rfl) (hp : (backTo pos' (starEach [b] X.env)).any (·.1) = false := by rfl) (na : starEach [Expr.Call (.Name "range" p1) [a, b] [] pos'] X.env = (false, eval (Expr.Call (.Name "range" p1) [a, b] [] pos') X.env) :: starEach [] X.env := by rfl) :
    DF X W (.Call (.Name "list" p) [.Call (.Name "range" p1) [a, b] [] pos'] [] pos) (fun g δ P => Fa g δ fun g1 d => Fb g1 δ fun g2 e => ∃ m n : Int, d = .int m ∧ e = .int n ∧ -1000 ≤ m ∧ m ≤ n ∧ n ≤ 1000 ∧ P g2 ((rgI m n).map PyData.int)) :=
  pe_mono (pe_listRg hc hg hm (prg_2 hg2 hm2 ha hb hs hs2 hp) na) fun σ H Q ⟨E, O, g, δ, P, R, f, k⟩ => ⟨E, O, g, δ, _, R, f, fun g1 d v H1 f1 R1 s1 x1 => ⟨E, O, g1, δ, _, R1, f1, fun g2 e v2 H2 ⟨m, n, e1, e2, h1, h2, h3, q⟩ R2 s2 x2 => by
    subst e1 e2
    cases x1
    cases x2
    refine ⟨m, n, rfl, rfl, ?_, fun l nl => ?_⟩
    · unfold RgOk
      have : sizeLine = 16777216 := sizeLine_eq
      omega
    · rw [rgV_eq]
      exact k g2 _ _ _ _ q R2 (s1.trans s2) nl (ints_dp _)⟩⟩
end
end Lk

set_option Elab.async false
set_option linter.all false
set_option maxRecDepth 100000
set_option maxHeartbeats 4000000
/-! walks while an exception is handled -/
namespace LkHot
open PySem PySem.Spec PyProof.Rows HotX
section
variable {prog : Program} {w : World} {A : Around} {E : Value → Shared → Prop} {s : Shared}
/-- the end of a walk: StopIteration is made and raised while x1 is handled -/
theorem stop_hot {α : Type} {x1 : Addr} {Q : α → Shared → Prop} {E : Value → Shared → Prop} (hot : HotAt A x1 s.heap)
    (h : ∀ e h', (∀ b o, s.heap.get? b = some o → h'.get? b = some o) → (∃ o, h'.get? e = some o ∧ o.cls = .type "StopIteration") → E (.ref e) { s with heap := h' }) :
    wpAny (model prog w) A (do raiseNew (← newExc (.type "StopIteration") []) : Sem α) Q E s := by
  obtain ⟨hh, o1, vs1, h1, d1, c1⟩ := hot
  refine wpAny_bind ?_
  simp only [newExc, newTuple]
  refine wpAny_bind (wpAny_newObj_type ?_ (by size_fits)); refine wpAny_bind (m := firstArgMember _ _) (wpAny_of_eq (a := Value.none) (by first | rfl | (simp only [firstArgMember]; rfl)) (wpAny_newObj_type ?_ (by size_fits)))
  have k1 := Heap.get?_push_of_some { cls := .type "StopIteration", data := .fields (#[Value.ref s.heap.objs.size, .none, .none, .none, .bool false, .none] ++ ownMembersOf (.type "StopIteration") []) } (Heap.get?_push_of_some { cls := .type "tuple", data := .seq ([] : List Value).toArray } h1)
  refine raiseNew_hot ⟨hh, o1, vs1, k1, d1, c1⟩ (Nat.ne_of_lt (Heap.lt_size (Heap.get?_push_of_some _ h1))) (Heap.get?_push_size _ rfl) rfl (by first | (simp; done) | (simp; omega) | (simp only [Array.size_append]; simp; omega)) ?_
  refine h _ _ (fun b o e => ?_) ⟨_, Heap.get?_update_self _ (Heap.get?_push_size _ rfl) rfl, rfl⟩
  have k2 := Heap.get?_push_of_some { cls := .type "tuple", data := .seq ([] : List Value).toArray } e
  rw [Heap.get?_update_other _ _ (Nat.ne_of_gt (Heap.lt_size k2))]
  exact Heap.get?_push_of_some _ k2
theorem list_end_hot {it l x1 : Addr} {i : Nat} {items} {Q : Option Value → Shared → Prop} (hot : HotAt A x1 s.heap) (hne : x1 ≠ it) (hit : s.heap.IsListIter it l i) (hl : s.heap.IsList l items) (hx : items[i]? = none)
    (hQ : ∀ h', (∀ b o, b ≠ it → s.heap.get? b = some o → h'.get? b = some o) → Q none { s with heap := h' }) : wpAny (model prog w) A (pyNext (.ref it)) Q E s := by
  obtain ⟨o, ho, hc, hd⟩ := id hit
  obtain ⟨ol, hol, _, nl, hdl⟩ := hl
  obtain ⟨hh, o1, vs1, h1, d1, c1⟩ := hot
  unfold pyNext
  refine wpAny_bind (wpAny_attempt (wpAny_callSpecial?_slot (name := Str.ofString "__next__") hit.typeIs slot_listiter_next (wpAny_call_entry slot_listiter_next hit.typeIs entry_listiter_next ?_ (args_listiter_next _))))
  show wpAny _ _ (field (.ref it) 0 >>= _) _ _ s; refine wpAny_bind (wpAny_field ho hd (x := .ref l) rfl ?_)
  show wpAny _ _ (if (Value.ref l == Value.none) = true then _ else _) _ _ s; rw [if_neg (show ¬ ((Value.ref l == Value.none) = true) from Bool.false_ne_true)]
  show wpAny _ _ (field (.ref it) 1 >>= _) _ _ s; refine wpAny_bind (wpAny_field ho hd (x := .int i 0) rfl ?_)
  show wpAny _ _ (seqItems? (.ref l) >>= _) _ _ s; refine wpAny_bind (wpAny_seqItems hol hdl ?_)
  simp only [Int.toNat_natCast, hx]
  refine wpAny_bind (wpAny_rule (wpAny_bind (wpAny_setField ho hd (by simp) (stop_hot (x1 := x1) ⟨hh, o1, vs1, ?_, d1, c1⟩ fun e h' k hc' => ?_))))
  · rw [Heap.get?_update_other _ _ (Ne.symm hne)]; exact h1
  · refine wpAny_bind (wpAny_isInstance (T := "StopIteration") (b := true) hc' isSubtype_stop (wpAny_pure (hQ _ fun b u hb e' => ?_)))
    exact k b u (by rw [Heap.get?_update_other _ _ (Ne.symm hb)]; exact e')
theorem tuple_end_hot {it t x1 : Addr} {i : Nat} {items} {Q : Option Value → Shared → Prop} (hot : HotAt A x1 s.heap) (hne : x1 ≠ it) (hit : s.heap.IsTupleIter it t i) (ht : s.heap.IsTuple t items) (hx : items[i]? = none)
    (hQ : ∀ h', (∀ b o, b ≠ it → s.heap.get? b = some o → h'.get? b = some o) → Q none { s with heap := h' }) : wpAny (model prog w) A (pyNext (.ref it)) Q E s := by
  obtain ⟨o, ho, hc, hd⟩ := id hit
  obtain ⟨ol, hol, _, nl, hdl⟩ := ht
  obtain ⟨hh, o1, vs1, h1, d1, c1⟩ := hot
  unfold pyNext
  refine wpAny_bind (wpAny_attempt (wpAny_callSpecial?_slot (name := Str.ofString "__next__") hit.typeIs PySem.F.slot_tuple_iterator_next (wpAny_call_entry PySem.F.slot_tuple_iterator_next hit.typeIs PySem.F.entry_tuple_iterator_next ?_ (PySem.F.args_tuple_iterator_next_1 _))))
  show wpAny _ _ (field (.ref it) 0 >>= _) _ _ s; refine wpAny_bind (wpAny_field ho hd (x := .ref t) rfl ?_)
  show wpAny _ _ (if (Value.ref t == Value.none) = true then _ else _) _ _ s; rw [if_neg (show ¬ ((Value.ref t == Value.none) = true) from Bool.false_ne_true)]
  show wpAny _ _ (field (.ref it) 1 >>= _) _ _ s; refine wpAny_bind (wpAny_field ho hd (x := .int i 0) rfl ?_)
  show wpAny _ _ (seqItems? (.ref t) >>= _) _ _ s; refine wpAny_bind (wpAny_seqItems hol hdl ?_)
  simp only [Int.toNat_natCast, hx]
  refine wpAny_bind (wpAny_rule (wpAny_bind (wpAny_setField ho hd (by simp) (stop_hot (x1 := x1) ⟨hh, o1, vs1, ?_, d1, c1⟩ fun e h' k hc' => ?_))))
  · rw [Heap.get?_update_other _ _ (Ne.symm hne)]; exact h1
  · refine wpAny_bind (wpAny_isInstance (T := "StopIteration") (b := true) hc' isSubtype_stop (wpAny_pure (hQ _ fun b u hb e' => ?_)))
    exact k b u (by rw [Heap.get?_update_other _ _ (Ne.symm hb)]; exact e')
end
end LkHot

set_option Elab.async false
set_option linter.all false
set_option maxRecDepth 100000
set_option maxHeartbeats 4000000
namespace Lk
open PySem PySem.Spec PyProof.Rows L2 L2H HotX LkHot
/-- calm, or the handled exception is known -/
def Md (X : Cx) : Prop := (X.calm = true ∧ X.pn = []) ∨ (X.calm = false ∧ HotC X)
theorem hot_ne {X : Cx} {pins : List (Addr × Obj)} {σ : L2.St} {H : Hp} {s : Shared} (c : HotC X) (I : Inv X pins σ H s) {it : Addr} (f : FpOk X pins H it) : ∃ x1, HotAt X.A x1 s.heap ∧ x1 ≠ it := by
  obtain ⟨p, ⟨hh, v1, e1, c1⟩, hp⟩ := c
  exact ⟨p.1, ⟨hh, p.2, v1, (I.pin p (List.mem_append_left _ hp)).1, e1, c1⟩, f.2.2.2.2.2 p (List.mem_append_left _ hp)⟩
section
variable {P : Program} {w : World} {K : PySem.W.Frag} {tg : Expr}
theorem turnH_list (a it : Addr) : TurnH P w K tg (Itl K a) [it] it (fun i h => h.IsListIter it a i) where
  mem := List.mem_singleton_self _
  obj := fun i h st b hb => by
    rw [List.mem_singleton.mp hb]
    obtain ⟨o, e, c, d⟩ := st
    exact ⟨o, e, fun v z => by rw [d] at z; cases z⟩
  keep := fun i h h' st k => st.at fun o e => k it (List.mem_singleton_self _) o e
  item := by
    intro X hP hw hK hc i pins s σ H E I hf st hg
    subst hP hw hK
    obtain ⟨xs, x, hq, hx⟩ := hg
    obtain ⟨its, rv, p, hz⟩ := I.list hq
    obtain ⟨u, hu, ru⟩ := rv.get hx
    obtain ⟨f0, f1, f2, f3, f4, f5⟩ := hf it (List.mem_singleton_self _)
    refine wpAny_pyNext_list_item st p.isList (x := u) (by simpa using hu) fun h' st' sb => ⟨u, rfl, ?_⟩
    obtain ⟨o, e, c, d⟩ := id st'
    exact go_of (s := { s with heap := h' }) e c d (by decide) ⟨x, H, I.turned (t' := s.toks) (fun b o hb e => (sb.2 b hb).trans e) f0 f1 f3 f4 f5, ru, ⟨rfl, fun ys hy => by rw [I.list_inj hy hq]; exact hx⟩, st', fun b hb => (hf b hb).1⟩
  done := by
    intro X hP hw hK hc i pins s σ H E I hf st hg
    subst hP hw hK
    obtain ⟨xs, hq, hx⟩ := hg
    obtain ⟨its, rv, p, hz⟩ := I.list hq
    have f := hf it (List.mem_singleton_self _)
    obtain ⟨x1, hot, ne⟩ := hot_ne hc I f
    obtain ⟨f0, f1, f2, f3, f4, f5⟩ := f
    have hl := rv.length
    exact list_end_hot hot ne st p.isList (by simp; omega) fun h' eb => ⟨rfl, I.turned (t' := s.toks) (fun b o hb e => eb b o hb e) f0 f1 f3 f4 f5⟩
  self := fun _ _ _ _ _ st h => wpAny_pyIter_listiter st h
theorem turnH_tuple (a it : Addr) : TurnH P w K tg (Itt K a) [it] it (fun i h => h.IsTupleIter it a i) where
  mem := List.mem_singleton_self _
  obj := fun i h st b hb => by
    rw [List.mem_singleton.mp hb]
    obtain ⟨o, e, c, d⟩ := st
    exact ⟨o, e, fun v z => by rw [d] at z; cases z⟩
  keep := fun i h h' st k => st.at fun o e => k it (List.mem_singleton_self _) o e
  item := by
    intro X hP hw hK hc i pins s σ H E I hf st hg
    subst hP hw hK
    obtain ⟨xs, x, hq, hx⟩ := hg
    obtain ⟨its, rv, p, hz⟩ := I.tuple hq
    obtain ⟨u, hu, ru⟩ := rv.get hx
    obtain ⟨f0, f1, f2, f3, f4, f5⟩ := hf it (List.mem_singleton_self _)
    refine wpAny_pyNext_tuple_item st (show s.heap.IsTuple a its.toArray from p) (x := u) (by simpa using hu) fun h' st' sb => ⟨u, rfl, ?_⟩
    obtain ⟨o, e, c, d⟩ := id st'
    exact go_of (s := { s with heap := h' }) e c d (by decide) ⟨x, H, I.turned (t' := s.toks) (fun b o hb e => (sb.2 b hb).trans e) f0 f1 f3 f4 f5, ru, ⟨rfl, fun ys hy => by rw [I.tuple_inj hy hq]; exact hx⟩, st', fun b hb => (hf b hb).1⟩
  done := by
    intro X hP hw hK hc i pins s σ H E I hf st hg
    subst hP hw hK
    obtain ⟨xs, hq, hx⟩ := hg
    obtain ⟨its, rv, p, hz⟩ := I.tuple hq
    have f := hf it (List.mem_singleton_self _)
    obtain ⟨x1, hot, ne⟩ := hot_ne hc I f
    obtain ⟨f0, f1, f2, f3, f4, f5⟩ := f
    have hl := rv.length
    exact tuple_end_hot hot ne st (show s.heap.IsTuple a its.toArray from p) (by simp; omega) fun h' eb => ⟨rfl, I.turned (t' := s.toks) (fun b o hb e => eb b o hb e) f0 f1 f3 f4 f5⟩
  self := fun _ _ _ _ _ st h => wpAny_pyIter_tupleiter st h
end
section
variable {X : Cx} {tg : Expr}
theorem piH_list {l : Expr} {tl : TE} (hl : PE X l tl) : PIH X tg l (iList X.K tl) := by
  refine ⟨fun pins s σ H R I h => thn (hl.run pins s σ H _ I h) fun v s1 ⟨x, H1, I1, r1, a, e, ⟨xs, hq⟩, q⟩ => ?_⟩
  subst e
  cases r1
  obtain ⟨its, rv, p, hz⟩ := I1.list hq
  refine wpAny_pyIter_list p.isList ⟨s1.heap.objs.size, [s1.heap.objs.size], _, _, H1, rfl, I1.kept (t' := s1.toks) fun b o e => Heap.get?_push_of_some _ e, turnH_list a _, ⟨_, Heap.get?_push_size _ rfl, rfl, rfl⟩, fun b hb => ?_, q⟩
  rw [List.mem_singleton.mp hb]
  exact I1.fpOk (Nat.le_refl _) (I1.hok.fresh (Nat.le_refl _))
theorem piH_tup {l : Expr} {tl : TE} (hl : PE X l tl) : PIH X tg l (iTup X.K tl) := by
  refine ⟨fun pins s σ H R I h => thn (hl.run pins s σ H _ I h) fun v s1 ⟨x, H1, I1, r1, a, e, ⟨xs, hq⟩, q⟩ => ?_⟩
  subst e
  cases r1
  obtain ⟨its, rv, p, hz⟩ := I1.tuple hq
  refine wpAny_pyIter_tuple (show s1.heap.IsTuple a its.toArray from p) ⟨s1.heap.objs.size, [s1.heap.objs.size], _, _, H1, rfl, I1.kept (t' := s1.toks) fun b o e => Heap.get?_push_of_some _ e, turnH_tuple a _, ⟨_, Heap.get?_push_size _ rfl, rfl, rfl⟩, fun b hb => ?_, q⟩
  rw [List.mem_singleton.mp hb]
  exact I1.fpOk (Nat.le_refl _) (I1.hok.fresh (Nat.le_refl _))
/-! ### a, b, .. = a tuple -/
theorem unpackH {prog : Program} {w : World} {A : Around} {E : Value → Shared → Prop} {s : Shared} {t x1 : Addr} {items : Array Value} {targets : List (Bool × (Value → Sem Unit))} {Q : Unit → Shared → Prop} (hot : HotAt A x1 s.heap) (ht : IsTup s.heap t items)
    (hn : targets.length = items.size) (hstar : targets.findIdx? (·.1) = none)
    (h : ∀ h', Heap.ExtBut s.heap.objs.size s.heap h' → wpAny (model prog w) A (assignInOrder (targets.map (·.2)) items.toList) Q E { s with heap := h' }) :
    wpAny (model prog w) A (unpack (.ref t) targets) Q E s := by
  have hlt : t ≠ s.heap.objs.size := by obtain ⟨o, ho, _⟩ := ht; exact Nat.ne_of_lt (Heap.lt_size ho)
  obtain ⟨hh, o1, vs1, h1, d1, c1⟩ := hot
  have hx1 : x1 ≠ s.heap.objs.size := Nat.ne_of_lt (Heap.lt_size h1)
  unfold unpack
  rw [hn, hstar]
  refine wpAny_bind (wpAny_holding ?_)
  unfold unpackItems
  refine wpAny_bind ?_
  unfold notIterableAtAll
  refine wpAny_bind (wpAny_specialOf ht.typeIs slot_tuple_iter.lookup (wpAny_pure ?_))
  simp only [Bool.false_eq_true, if_false]
  refine wpAny_bind (wpAny_holding (iter_tuple ht (wpAny_bind (wpAny_holding (draw_tuple hlt items.size 0 _ _ ⟨_, Heap.get?_push_size _ rfl, rfl, rfl⟩ (ht.push _) (by omega) fun h₁ hit₁ hs₁ => ?_)))))
  rw [show List.take items.size (List.drop 0 items.toList) = items.toList by rw [List.drop_zero]; exact List.take_of_length_le (by simp), if_neg (by simp)]
  have ht₁ : IsTup h₁ t items := (ht.push _).extBut hs₁.extBut hlt
  have q1 : h₁.get? x1 = some o1 := hs₁.extBut x1 o1 hx1 (Heap.get?_push_of_some _ h1)
  refine wpAny_bind (wpAny_holding (tuple_end_hot (x1 := x1) ⟨hh, o1, vs1, q1, d1, c1⟩ hx1 hit₁ ht₁ (by simp) fun h₂ he₂ => ?_))
  simp only [Option.isSome_none, Bool.false_eq_true, if_false]
  exact wpAny_pure (h h₂ fun b o hb e => he₂ b o hb (hs₁.extBut b o hb (Heap.get?_push_of_some _ e)))
theorem pgH_tup {es : List Expr} {k : Nat} {pos : Pos} {t : TGs} {n : Nat} (hc : HotC X) (h : PGs X es t)
    (hn : (assignEach es X.env).length = n := by rfl) (hst : (assignEach es X.env).findIdx? (·.1) = none := by rfl) : PG X (.Tuple es k pos) (gTup X.K n t) := by
  refine ⟨fun pins s σ H v u Q I r ⟨a, xs, e1, hq, hl, hw⟩ => ?_⟩
  subst e1
  cases r
  obtain ⟨its, rv, ht, hz⟩ := I.tuple hq
  obtain ⟨x1, hot⟩ := hc.at I
  rw [assign_Tuple]
  refine wpAny_bind (wpAny_standAt (unpackH hot ht (by simp [hn, ← hl, rv.length]) hst fun h' hx => ?_))
  have I1 : Inv X pins σ H { s with heap := h' } := I.kept (t' := s.toks) fun b o e => hx b o (Nat.ne_of_lt (Heap.lt_size e)) e
  exact h.run pins _ σ H xs _ Q I1 (by simpa using rv) hw
/-! ### all, any, set -/
theorem walksH {prog : Program} {w : World} {A : Around} {x1 : Addr} (I ax : Addr) (hne : ax ≠ I) (hx : x1 ≠ I) (items : Array Value) :
    Walks prog w A I [I, ax, x1] [I] items.size (fun i v => items[i]? = some v) (fun i h => h.IsListIter I ax i ∧ h.IsList ax items ∧ HotAt A x1 h) where
  sub := fun b hb => by rw [List.mem_singleton.mp hb]; exact List.mem_cons_self
  frame := fun _ _ _ st hk => ⟨st.1.at fun o e => hk I (by simp) o e, st.2.1.at fun o e => hk ax (by simp) o e, st.2.2.1, let ⟨o, vs, e, r⟩ := st.2.2.2; ⟨o, vs, hk x1 (by simp) o e, r⟩⟩
  item := fun i s Q E hi st hQ => by
    obtain ⟨hh, o, vs, e, r⟩ := st.2.2
    refine wpAny_pyNext_list_item st.1 st.2.1 (x := items[i]) (by simp [hi]) fun h' hit' hs' => hQ _ h' s.toks (by simp [hi]) ⟨hit', st.2.1.extBut hs'.extBut hne, hh, o, vs, hs'.extBut x1 o hx e, r⟩ fun b o hb e => hs'.extBut b o (fun h => hb (by simp [h])) e
  done := fun s Q E st hQ => list_end_hot st.2.2 hx st.1 st.2.1 (by simp) fun h' he' => hQ h' s.toks fun b o hb e => he' b o (fun h => hb (by simp [h])) e
  self := fun _ _ _ _ st hQ => wpAny_pyIter_listiter st.1 hQ
theorem hot_in {A A' : Around} {x1 : Addr} {h h' : Heap} (hot : HotAt A x1 h) (e : A'.handled = A.handled) (k : ∀ b o, h.get? b = some o → h'.get? b = some o) : HotAt A' x1 h' :=
  let ⟨hh, o, vs, q, r⟩ := hot
  ⟨e.trans hh, o, vs, k _ _ q, r⟩
theorem crH_any (hc : HotC X) : CallR X (.builtin "any") (rAny X.K) := by
  intro pins s σ H vs us Q I r ⟨a, bs, e0, hs, q⟩
  subst e0
  obtain ⟨its, rv, hl, _⟩ := I.list hs
  rw [Vals.ref1 r]
  have hb := rv.bls
  obtain ⟨x1, hot⟩ := hc.at I
  have hx : x1 < s.heap.objs.size := let ⟨_, o, _, e, _⟩ := hot; Heap.lt_size e
  refine call_any_walk (iter_any hl.isList fun s₂ e2 st hne => ?_)
  subst e2
  refine ⟨_, _, _, _, _, _, _, rfl, walksH (A := X.A.in1) (x1 := x1) _ a hne (Nat.ne_of_lt hx) its.toArray, ⟨st.1, st.2, hot_in hot rfl fun b o e => Heap.get?_push_of_some _ e⟩, truth_bools hb, fun h' tk hk => ?_⟩
  refine ⟨.bl _, H, I.kept fun b o eo => hk b o (fun hm => absurd ((List.mem_singleton.mp hm) ▸ Heap.lt_size eo) (Nat.lt_irrefl _)) (Heap.get?_push_of_some _ eo), ?_, q⟩
  show Value.bool _ = Value.bool _
  rw [← L2.any_range, hb, List.size_toArray, List.length_map]
theorem crH_all (hc : HotC X) : CallR X (.builtin "all") (rAll X.K) := by
  intro pins s σ H vs us Q I r ⟨a, bs, e0, hs, q⟩
  subst e0
  obtain ⟨its, rv, hl, _⟩ := I.list hs
  rw [Vals.ref1 r]
  have hb := rv.bls
  obtain ⟨x1, hot⟩ := hc.at I
  have hx : x1 < s.heap.objs.size := let ⟨_, o, _, e, _⟩ := hot; Heap.lt_size e
  refine call_all_walk (iter_any hl.isList fun s₂ e2 st hne => ?_)
  subst e2
  refine ⟨_, _, _, _, _, _, _, rfl, walksH (A := X.A.in1) (x1 := x1) _ a hne (Nat.ne_of_lt hx) its.toArray, ⟨st.1, st.2, hot_in hot rfl fun b o e => Heap.get?_push_of_some _ e⟩, truth_bools hb, fun h' tk hk => ?_⟩
  refine ⟨.bl _, H, I.kept fun b o eo => hk b o (fun hm => absurd ((List.mem_singleton.mp hm) ▸ Heap.lt_size eo) (Nat.lt_irrefl _)) (Heap.get?_push_of_some _ eo), ?_, q⟩
  show Value.bool _ = Value.bool _
  rw [← L2.all_range, hb, List.size_toArray, List.length_map]
end
end Lk

set_option Elab.async false
set_option linter.all false
set_option maxRecDepth 100000
set_option maxHeartbeats 4000000
/-! comprehensions while an exception is handled -/
namespace Lk
open PySem PySem.Spec PyProof.Rows L2 L2H HotX LkHot
/-- the context of a comprehension's block; the handled exception stays known -/
abbrev blk2 (X : Cx) (s : Shared) (H : Hp) (scope : Scope) (cenv : Env) (fp : List Addr) : Cx := { X.blk s H scope cenv fp with pn := X.pn }
theorem blk2_calm {X : Cx} (h : X.pn = []) (s : Shared) (H : Hp) (scope : Scope) (cenv : Env) (fp : List Addr) : blk2 X s H scope cenv fp = X.blk s H scope cenv fp := by
  unfold blk2
  rw [h]
theorem md_blk {X : Cx} (m : Md X) (s : Shared) (H : Hp) (scope : Scope) (cenv : Env) (fp : List Addr) : Md (blk2 X s H scope cenv fp) := by
  rcases m with ⟨h1, h2⟩ | ⟨h1, h2⟩
  · exact .inl ⟨h1, h2⟩
  · exact .inr ⟨h1, h2⟩
section
variable {X : Cx} {pins : List (Addr × Obj)} {σ : L2.St} {H : Hp} {s : Shared}
theorem inv_blk2 {scope : Scope} {cenv : Env} {fp : List Addr} {σ' : L2.St} {H' : Hp} {s' : Shared} (J : Inv (X.blk s H scope cenv fp) [] σ' H' s')
    (hp : ∀ p ∈ X.pn, s'.heap.get? p.1 = some p.2 ∧ H' p.1 = none ∧ p.1 ≠ cenv.locals ∧ p.1 ∉ frs X.stack ∧ ∀ v, p.2.data ≠ .cell v) : Inv (blk2 X s H scope cenv fp) [] σ' H' s' :=
  ⟨⟨J.ok.mod, J.ok.kind, J.ok.glob, J.ok.blt, J.ok.above, J.ok.inj, J.ok.has, J.ok.cab, J.ok.hd, J.ok.frames, J.ok.stk, J.ok.exf, J.ok.bs, J.ok.bsz, J.ok.noex, J.ok.exfs, J.ok.funs, J.ok.frf⟩,
    J.os, J.bare, J.base, J.loc, J.cell, J.free, J.freeC, fun p h => hp p (by simpa using h), J.hok, J.len⟩
theorem lcH_core {Q : VK} {elt tg iter : Expr} {ifs : List Expr} {scope : Scope} {own : List (Str × Nat)} {pos pos' : Pos} {wi : TI} {g : TG} {tt : TT} {te : TE} {use : Option (Value → Sem Unit)} {Qf : Value → Shared → Prop}
    (hc : HotC X) (hN : X.N.Nodup) (I : Inv X pins σ H s) (hi : PIH X tg iter wi) (ok : BlkOk X.N X.env.scope scope own)
    (hg : ∀ s H C cl fp, PG (blk2 X s H scope (compEnvC scope cl C X.env) fp) tg g) (ht : ∀ s H C cl fp, PTs (blk2 X s H scope (compEnvC scope cl C X.env) fp) ifs tt)
    (he : ∀ s H C cl fp, PE (blk2 X s H scope (compEnvC scope cl C X.env) fp) elt te) (hs : ∀ x, foldedSetIterable iter X.env x = pure x) (h : tLc wi g tt te (own.map (·.2)) σ H Q)
    (hRR : ∀ D C s' m H', Inv X pins σ H' s' → Q (.ref D) H' → s'.heap.Ns C m → FpOk X pins H' C → compPost (model X.prog X.w) X.A X.xe use Qf (.ref D) C (.ok .next) s') :
    wpAny (model X.prog X.w) X.A (comprehension (.ListComp elt [⟨tg, iter, ifs, 0⟩] scope pos) scope X.env pos' (newList []) false (eval iter X.env) use) Qf X.xe s := by
  have hfree : ∀ y ∈ scope.names, y.2 = .free → ∃ c, X.env.cells.lookup y.1 = some c := fun y hy e => (ok.free y hy e).elim (fun k => I.ok.has _ (.inl k)) fun k => I.ok.has _ (.inr k)
  refine wpAny_comprehension_free (use := use) rfl hs (closure_ok hfree) ok.kind (fun y hy e => by rw [ok.uniq y hy, e]) (thn (hi.run pins s σ H _ I h) fun xv s1 hx => thn hx fun itv s2 ⟨it, fp, tn, J, H2, e, I2, T, st2, f2, q⟩ => ?_)
  subst e
  refine wpAny_newObj_type (newEnv_comp ?_) (Nat.zero_le _)
  generalize hD : s2.heap.objs.size = D
  have hDn : H2 D = none := I2.hok.fresh (Nat.le_of_eq hD)
  obtain ⟨W, ⟨m0, w0⟩, turn⟩ := q D hDn
  generalize hs3 : ({ s2 with heap := s2.heap.push { cls := .type "list", data := .seq ([] : List Value).toArray } } : Shared) = s3
  have h3 : s3.heap = s2.heap.push { cls := .type "list", data := .seq ([] : List Value).toArray } := by rw [← hs3]
  have I3 : Inv X pins σ (upd H2 D (.lst [])) s3 := by
    rw [← hs3]
    refine I2.laid (t' := s2.toks) (fun b o e => Heap.get?_push_of_some _ e) (Nat.le_of_eq hD) ⟨Nat.zero_le _, [], 0, .nil, ?_⟩
    rw [← hD]; exact Heap.get?_push_size _ rfl
  have f3 : ∀ b ∈ fp, FpOk X pins (upd H2 D (.lst [])) b ∧ b < s3.heap.objs.size := fun b hb => by
    obtain ⟨o, e, _⟩ := T.obj _ _ st2 b hb
    have hlt := Heap.lt_size e
    refine ⟨⟨?_, (f2 b hb).2⟩, by rw [h3, Heap.size_push]; exact Nat.lt_succ_of_lt hlt⟩
    rw [upd_ne (by rw [← hD]; exact Nat.ne_of_lt hlt)]; exact (f2 b hb).1
  have st3 : tn 0 s3.heap := T.keep _ _ _ st2 fun b _ o e => by rw [h3]; exact Heap.get?_push_of_some _ e
  have nfp : ∀ b ∈ fp, (upd H2 D (.lst [])) b = none := fun b hb => (f3 b hb).1.1
  generalize hcl : cellsFrom (s3.heap.objs.size + 1) scope.names (cloFrom X.env.cells scope.names []) = cl
  have J4 := block_start I3 ok hN f3
  rw [hcl] at J4
  have pg := hg s3 (upd H2 D (.lst [])) s3.heap.objs.size cl fp
  have pt := ht s3 (upd H2 D (.lst [])) s3.heap.objs.size cl fp
  have pe := he s3 (upd H2 D (.lst [])) s3.heap.objs.size cl fp
  show codeAny _ _ (.compStart (.ListComp elt [⟨tg, iter, ifs, 0⟩] scope pos) 0 (.ref it) (.ref D) (compEnvC scope cl s3.heap.objs.size X.env)) (compPost (model X.prog X.w) X.A X.xe use Qf (.ref D) s3.heap.objs.size) { s3 with heap := pushCells (s3.heap.push { cls := .type "dict", data := .dict #[] }) scope.names }
  generalize hce : compEnvC scope cl s3.heap.objs.size X.env = ce at J4 pg pt pe ⊢
  have cL : ce.locals = s3.heap.objs.size := by subst hce; rfl
  have kp : ∀ b o, s3.heap.get? b = some o → (pushCells (s3.heap.push { cls := .type "dict", data := .dict #[] }) scope.names).get? b = some o := fun b o e => pushCells_keeps _ _ _ _ (Heap.get?_push_of_some _ e)
  generalize hH3 : upd H2 D (.lst []) = H3 at I3 J4 pg pt pe w0 nfp f3
  have I4 : Inv (blk2 X s3 H3 scope ce fp) [] (wipe σ (own.map (·.2))) H3 { s3 with heap := pushCells (s3.heap.push { cls := .type "dict", data := .dict #[] }) scope.names } := inv_blk2 J4 fun p hp => by
    obtain ⟨k1, k2, k3, k4, k5⟩ := I3.pin p (List.mem_append_left _ hp)
    refine ⟨kp _ _ k1, k2, ?_, fun hm => (List.mem_cons.mp (I3.stkSub p.1 hm)).elim k3 k4, k5⟩
    rw [cL]; exact Nat.ne_of_lt (Heap.lt_size k1)
  have hcB : HotC (blk2 X s3 H3 scope ce fp) := hc
  generalize hs4 : ({ s3 with heap := pushCells (s3.heap.push { cls := .type "dict", data := .dict #[] }) scope.names } : Shared) = s4 at I4 ⊢
  have st4 : tn 0 s4.heap := T.keep _ _ _ st3 fun b _ o e => by rw [← hs4]; exact kp b o e
  have notpn : ∀ b ∈ fp, ∀ p ∈ X.pn, p.1 ≠ b := fun b hb p hp => (f3 b hb).1.2.2.2.2.2 p (List.mem_append_left _ hp)
  have stat : ∀ {σ' : L2.St} {H' : Hp} {s' : Shared}, Inv (blk2 X s3 H3 scope ce fp) [] σ' H' s' → (∀ b ∈ fp, H' b = none) → ∀ b ∈ fp, FpOk (blk2 X s3 H3 scope ce fp) [] H' b := fun {σ' H' s'} I' hn b hb =>
    ⟨hn b hb, (I'.ok.exf b hb).1, I'.ok.exfs b hb, .inl hb, fun x c e => (I'.ok.exf b hb).2 x c e, fun p hp => notpn b hb p (by simpa using hp)⟩
  have loop : codeAny (model X.prog X.w) X.A (.compLoop (.ListComp elt [⟨tg, iter, ifs, 0⟩] scope pos) 0 (.ref it) (.ref D) ce) (compPost (model X.prog X.w) X.A X.xe use Qf (.ref D) s3.heap.objs.size) s4 := by
    refine compLoop_any (fun n s' => ∃ i H', Inv (blk2 X s3 H3 scope ce fp) [] (wipe σ (own.map (·.2))) H' s' ∧ tn i s'.heap ∧ (∀ b ∈ fp, H' b = none) ∧ W i n H') ?_ m0 ⟨0, H3, I4, st4, nfp, w0⟩
    rintro n s5 ⟨i, H5, I5, st5, n5, w5⟩
    rcases turn i n H5 w5 with ⟨stop, qq⟩ | ⟨go, Nx, hNx, step⟩
    · refine thnF (T.done (blk2 X s3 H3 scope ce fp) rfl rfl rfl hcB i [] s5 _ H5 (fun _ _ => False) I5 (stat I5 n5) st5 stop) fun r s6 ⟨hr, I6⟩ => ?_
      subst hr
      have I7 : Inv X pins σ H5 s6 := I3.call' (ch := fp) I6.os I6.base I6.hok I6.bare fun b hb => ⟨(f3 b hb).1.2.2.2.1, (f3 b hb).1.2.1, (f3 b hb).1.2.2.2.2.1, (f3 b hb).1.2.2.2.2.2⟩
      have nC : H5 s3.heap.objs.size = none := by
        have z : H5 ce.locals = none := I6.free
        rw [cL] at z; exact z
      obtain ⟨m, hn, _⟩ := I6.loc
      have hn : s6.heap.Ns ce.locals m := hn
      rw [cL] at hn
      exact hRR D s3.heap.objs.size s6 m H5 I7 qq hn (I3.fpOk (Nat.le_refl _) nC)
    · refine thnF (T.item (blk2 X s3 H3 scope ce fp) rfl rfl rfl hcB i [] s5 _ H5 (fun _ _ => False) I5 (stat I5 n5) st5 go) fun r s6 ⟨u, hr, h6⟩ => ?_
      subst hr
      refine thnF h6 fun _ s7 ⟨x, H7, I7, r7, y7, st7, n7⟩ => ?_
      refine thnF (pg.run _ s7 _ H7 x u _ (I7.pinned (stat I7 n7) (T.obj _ _ st7)) r7 (step x H7 y7)) fun _ s8 ⟨σ8, H8, I8, hw8, q8⟩ => thnF (pt.run _ s8 σ8 H8 _ I8 q8) fun b s9 ⟨H9, I9, q9⟩ => ?_
      have fin : ∀ {s' : Shared} {H' : Hp}, Inv (blk2 X s3 H3 scope ce fp) ([] ++ pinsAt fp s7.heap) σ8 H' s' → Nx H' → ∃ m, m < n ∧ ∃ i H', Inv (blk2 X s3 H3 scope ce fp) [] (wipe σ (own.map (·.2))) H' s' ∧ tn i s'.heap ∧ (∀ b ∈ fp, H' b = none) ∧ W i m H' := fun {s' H'} I' nx => by
        obtain ⟨m', hm, w'⟩ := hNx H' nx
        have pin' : ∀ b ∈ fp, ∀ o, s7.heap.get? b = some o → s'.heap.get? b = some o ∧ H' b = none := fun b hb o e =>
          let z := I'.pin (b, o) (List.mem_append_right _ (List.mem_append_right _ (mem_pinsAt hb e)))
          ⟨z.1, z.2.1⟩
        refine ⟨m', hm, i + 1, H', (I'.unpinned (pins := [])).weak (by rw [← hw8, wipe_length]) (fun j v e => by rw [← hw8] at e; exact (wipe_some e).1), T.keep _ _ _ st7 fun b hb o e => (pin' b hb o e).1, fun b hb => ?_, w'⟩
        obtain ⟨o, e, _⟩ := T.obj _ _ st7 b hb
        exact (pin' b hb o e).2
      cases b with
      | false =>
        simp only [Bool.false_eq_true, if_false] at q9 ⊢
        exact fin I9 q9
      | true =>
        simp only [if_true] at q9 ⊢
        exact thnF (pe.run _ s9 σ8 H9 _ I9 q9) fun z s10 ⟨yv, H10, I10, r10, acc, hD10, hz10, nx⟩ => app_ok (X := blk2 X s3 H3 scope ce fp) I10 hD10 hz10 r10 fun s11 I11 => fin I11 nx
  exact codeAny_compStart_list loop (T.self X.A 0 _ _ _ st4 loop)
theorem peH_lc {elt tg iter : Expr} {ifs : List Expr} {scope : Scope} {own : List (Str × Nat)} {pos : Pos} {wi : TI} {g : TG} {tt : TT} {te : TE} (hc : HotC X) (hN : X.N.Nodup) (hi : PIH X tg iter wi) (ok : BlkOk X.N X.env.scope scope own)
    (hg : ∀ s H C cl fp, PG (blk2 X s H scope (compEnvC scope cl C X.env) fp) tg g) (ht : ∀ s H C cl fp, PTs (blk2 X s H scope (compEnvC scope cl C X.env) fp) ifs tt)
    (he : ∀ s H C cl fp, PE (blk2 X s H scope (compEnvC scope cl C X.env) fp) elt te) (hs : ∀ x, foldedSetIterable iter X.env x = pure x := by intro _; rfl) :
    PE X (.ListComp elt [⟨tg, iter, ifs, 0⟩] scope pos) (tLc wi g tt te (own.map (·.2))) := by
  refine ⟨fun pins s σ H Q I h => ?_⟩
  rw [eval_ListComp]
  refine lcH_core hc hN I hi ok hg ht he hs h fun D C s' m H' I' q hn ⟨f0, f1, f2, f3, f4, f5⟩ => ⟨m, hn, fun h'' sb => ⟨.ref D, H', I'.turned (t' := s'.toks) (fun b o hb e => (sb.2 b hb).trans e) f0 f1 f3 f4 f5, rfl, q⟩⟩
theorem psH_lc {i : Nat} {y : Str} {py : Pos} {elt tg iter : Expr} {ifs : List Expr} {scope : Scope} {own : List (Str × Nat)} {pos spos : Pos} {wi : TI} {g : TG} {tt : TT} {te : TE} (hc : HotC X) (hN : X.N.Nodup) (hy : X.N[i]? = some y) (hyl : X.env.scope.names.lookup y = some .local)
    (hsw : swapsWith (.ListComp elt [⟨tg, iter, ifs, 0⟩] scope pos) (some (.Name y py)) spos.line X.env = pure true) (hi : PIH X tg iter wi) (ok : BlkOk X.N X.env.scope scope own)
    (hg : ∀ s H C cl fp, PG (blk2 X s H scope (compEnvC scope cl C X.env) fp) tg g) (ht : ∀ s H C cl fp, PTs (blk2 X s H scope (compEnvC scope cl C X.env) fp) ifs tt)
    (he : ∀ s H C cl fp, PE (blk2 X s H scope (compEnvC scope cl C X.env) fp) elt te) (hs : ∀ x, foldedSetIterable iter X.env x = pure x := by intro _; rfl) :
    PS X (.Assign [.Name y py] (.ListComp elt [⟨tg, iter, ifs, 0⟩] scope pos) spos) (tAsg (tLc wi g tt te (own.map (·.2))) (gName i)) := by
  refine ⟨fun pins s σ H D I h => ?_⟩
  rw [exec_Assign_Name_used _ _ _ _ hsw]
  refine wpAny_bind (wpAny_standAt (wpAny_bind ?_))
  show wpAny _ X.A (do let _ ← comprehension (.ListComp elt [⟨tg, iter, ifs, 0⟩] scope pos) scope X.env (firstIterPos [⟨tg, iter, ifs, 0⟩] pos) (newList []) false (eval iter X.env) (some (assign (.Name y py) X.env))) _ _ s
  have h : tLc wi g tt te (own.map (·.2)) σ H (fun x H1 => gName i x σ H1 D.nx) := h
  refine wpAny_bind (thn (lcH_core (Qf := fun _ s' => SP X pins D .next s') hc hN I hi ok hg ht he hs h fun L C s' m H' I' q hn ⟨f0, f1, f2, f3, f4, f5⟩ => ?_) fun _ s' hq => wpAny_pure (wpAny_pure hq))
  show wpAny _ _ (assign (.Name y py) X.env (.ref L)) _ _ _
  refine wpAny_assign_Name (store_ok2 (v := V.ref L) I' hN hy (.inl hyl) rfl (fun s2 I2 ⟨a, sb, ha⟩ => ⟨m, hn.sameBut sb ?_, fun h3 sb3 => ⟨_, H', I2.turned (t' := s2.toks) (fun b o hb e => (sb3.2 b hb).trans e) f0 f1 f3 f4 f5, q⟩⟩) (.inr hyl))
  rcases ha with z | z
  · rw [z]; exact f1
  · exact fun e => f4 y a z e.symm
end
end Lk

set_option Elab.async false
set_option linter.all false
set_option maxRecDepth 100000
set_option maxHeartbeats 4000000
/-! statements, targets, walks, comprehensions over data -/
namespace Lk
open PySem PySem.Spec PyProof.Rows L2 L2H HotX LkHot
section
variable {X : Cx} {W : Option Addr} {K : PySem.W.Frag}

/-! ### tests -/
theorem dt_val {e : Expr} {F : DT} (h : DE X W e F) (he : ∀ whole, isTrue e X.env whole = (do let v ← whole; standAt e.pos; holding [v] (truthy v)) := by intro _; rfl) : DTs X W e (fun g δ P => F g δ fun g1 d => ∃ c, d = .bool c ∧ P g1 c) :=
  pt_mono (pt_val h he) fun σ H Q ⟨E, O, g, δ, P, R, f, k⟩ => ⟨E, O, g, δ, _, R, f, fun g1 d v H1 ⟨c, e, p⟩ R1 s1 x1 => by
    subst e
    cases x1
    exact ⟨c, rfl, k g1 c H1 p R1 s1⟩⟩
theorem dt_not {a : Expr} {F : DB} {pos : Pos} (h : DTs X W a F) : DTs X W (.UnaryOp .Not a pos) (fun g δ P => F g δ fun g1 c => P g1 (!c)) :=
  pt_mono (pt_not h) fun σ H Q ⟨E, O, g, δ, P, R, f, k⟩ => ⟨E, O, g, δ, _, R, f, fun g1 c H1 p R1 s1 => k g1 _ H1 p R1 s1⟩
theorem tDb_and {Fa Fb : DB} : ∀ σ H Q, tDb K W (fun g δ P => Fa g δ fun g1 c => if c = true then Fb g1 δ P else P g1 false) σ H Q → tAnd (tDb K W Fa) (tDb K W Fb) σ H Q :=
  fun σ H Q ⟨E, O, g, δ, P, R, f, k⟩ => ⟨E, O, g, δ, _, R, f, fun g1 c H1 p R1 s1 => by
    cases c with
    | true => exact ⟨E, O, g1, δ, _, R1, p, fun g2 c2 H2 p2 R2 s2 => k g2 c2 H2 p2 R2 (s1.trans s2)⟩
    | false => exact k g1 _ H1 p R1 s1⟩
theorem tDb_or {Fa Fb : DB} : ∀ σ H Q, tDb K W (fun g δ P => Fa g δ fun g1 c => if c = true then P g1 true else Fb g1 δ P) σ H Q → tOr (tDb K W Fa) (tDb K W Fb) σ H Q :=
  fun σ H Q ⟨E, O, g, δ, P, R, f, k⟩ => ⟨E, O, g, δ, _, R, f, fun g1 c H1 p R1 s1 => by
    cases c with
    | false => exact ⟨E, O, g1, δ, _, R1, p, fun g2 c2 H2 p2 R2 s2 => k g2 c2 H2 p2 R2 (s1.trans s2)⟩
    | true => exact k g1 _ H1 p R1 s1⟩
theorem dw_and1 {a : Expr} {F : DB} {pos : Pos} (h : DTs X W a F) : DWs X W (.BoolOp .And [a] pos) F := pw_and1 h
theorem dw_or1 {a : Expr} {F : DB} {pos : Pos} (h : DTs X W a F) : DWs X W (.BoolOp .Or [a] pos) F := pw_or1 h
theorem dw_and {a b : Expr} {rest : List Expr} {Fa Fb : DB} {pos : Pos} (ha : DTs X W a Fa) (hb : DWs X W (.BoolOp .And (b :: rest) pos) Fb) : DWs X W (.BoolOp .And (a :: b :: rest) pos) (fun g δ P => Fa g δ fun g1 c => if c = true then Fb g1 δ P else P g1 false) :=
  pw_mono (pw_and ha hb) tDb_and
theorem dw_or {a b : Expr} {rest : List Expr} {Fa Fb : DB} {pos : Pos} (ha : DTs X W a Fa) (hb : DWs X W (.BoolOp .Or (b :: rest) pos) Fb) : DWs X W (.BoolOp .Or (a :: b :: rest) pos) (fun g δ P => Fa g δ fun g1 c => if c = true then P g1 true else Fb g1 δ P) :=
  pw_mono (pw_or ha hb) tDb_or
theorem dt_of {e : Expr} {F : DB} (h : DWs X W e F) : DTs X W e F := PW.pt h
/-! ### and, or, not, if as values -/
theorem de_one {op} {a : Expr} {F : DT} {pos : Pos} (h : DE X W a F) : DE X W (.BoolOp op [a] pos) F := pe_one h
theorem de_and {a b : Expr} {rest : List Expr} {Fa Fb : DT} {pos : Pos} (ha : DE X W a Fa) (hb : DE X W (.BoolOp .And (b :: rest) pos) Fb) :
    DE X W (.BoolOp .And (a :: b :: rest) pos) (fun g δ P => Fa g δ fun g1 d => ∃ c, d = .bool c ∧ if c = true then Fb g1 δ P else P g1 (.bool false)) :=
  pe_mono (pe_and ha hb) fun σ H Q ⟨E, O, g, δ, P, R, f, k⟩ => ⟨E, O, g, δ, _, R, f, fun g1 d v H1 ⟨c, e, p⟩ R1 s1 x1 => by
    subst e
    cases x1
    refine ⟨c, rfl, ?_⟩
    cases c with
    | true => exact ⟨E, O, g1, δ, _, R1, p, fun g2 d2 v2 H2 p2 R2 s2 x2 => k g2 d2 v2 H2 p2 R2 (s1.trans s2) x2⟩
    | false => exact k g1 _ _ H1 p R1 s1 (.bl _)⟩
theorem de_or {a b : Expr} {rest : List Expr} {Fa Fb : DT} {pos : Pos} (ha : DE X W a Fa) (hb : DE X W (.BoolOp .Or (b :: rest) pos) Fb) :
    DE X W (.BoolOp .Or (a :: b :: rest) pos) (fun g δ P => Fa g δ fun g1 d => ∃ c, d = .bool c ∧ if c = true then P g1 (.bool true) else Fb g1 δ P) :=
  pe_mono (pe_or ha hb) fun σ H Q ⟨E, O, g, δ, P, R, f, k⟩ => ⟨E, O, g, δ, _, R, f, fun g1 d v H1 ⟨c, e, p⟩ R1 s1 x1 => by
    subst e
    cases x1
    refine ⟨c, rfl, ?_⟩
    cases c with
    | false => exact ⟨E, O, g1, δ, _, R1, p, fun g2 d2 v2 H2 p2 R2 s2 x2 => k g2 d2 v2 H2 p2 R2 (s1.trans s2) x2⟩
    | true => exact k g1 _ _ H1 p R1 s1 (.bl _)⟩
theorem de_not {a : Expr} {F : DT} {pos : Pos} (ha : DE X W a F) : DE X W (.UnaryOp .Not a pos) (fun g δ P => F g δ fun g1 d => ∃ c, d = .bool c ∧ P g1 (.bool (!c))) :=
  pe_mono (pe_not ha) fun σ H Q ⟨E, O, g, δ, P, R, f, k⟩ => ⟨E, O, g, δ, _, R, f, fun g1 d v H1 ⟨c, e, p⟩ R1 s1 x1 => by
    subst e
    cases x1
    exact ⟨c, rfl, k g1 _ _ H1 p R1 s1 (.bl _)⟩⟩
theorem de_if {c a b : Expr} {Fc : DB} {Fa Fb : DT} {pos : Pos} (hc : DTs X W c Fc) (ha : DE X W a Fa) (hb : DE X W b Fb) : DE X W (.IfExp c a b pos) (fun g δ P => Fc g δ fun g1 k => if k = true then Fa g1 δ P else Fb g1 δ P) :=
  pe_mono (pe_ifExp hc ha hb) fun σ H Q ⟨E, O, g, δ, P, R, f, k⟩ => ⟨E, O, g, δ, _, R, f, fun g1 c H1 p R1 s1 => by
    cases c with
    | true => exact ⟨E, O, g1, δ, _, R1, p, fun g2 d2 v2 H2 p2 R2 s2 x2 => k g2 d2 v2 H2 p2 R2 (s1.trans s2) x2⟩
    | false => exact ⟨E, O, g1, δ, _, R1, p, fun g2 d2 v2 H2 p2 R2 s2 x2 => k g2 d2 v2 H2 p2 R2 (s1.trans s2) x2⟩⟩
theorem de_neg {a : Expr} {F : DT} {pos : Pos} (ha : DE X W a F) : DE X W (.UnaryOp .USub a pos) (fun g δ P => F g δ fun g1 d => ∃ i : Int, d = .int i ∧ P g1 (.int (-i))) :=
  pe_mono (pe_un un_neg ha) fun σ H Q ⟨E, O, g, δ, P, R, f, k⟩ => ⟨E, O, g, δ, _, R, f, fun g1 d v H1 ⟨i, e, p⟩ R1 s1 x1 => by
    subst e
    cases x1
    exact ⟨i, rfl, k g1 _ _ H1 p R1 s1 (.int _)⟩⟩

/-! ### statements -/
theorem ds_nil : DSs X W [] (fun P g δ => P.nx g δ) := pss_mono pss_nil fun D σ H ⟨E, O, g, δ, P, R, f, kn, kr⟩ => kn O g δ σ H f R (fun _ h => h) (Same.refl _)
theorem ds_one {s : Stmt} {G : DSt} (h : DS X W s G) : DSs X W [s] G := pss_one h
theorem ds_cons {s : Stmt} {r : List Stmt} {G1 G2 : DSt} (h1 : DS X W s G1) (h2 : DSs X W r G2) : DSs X W (s :: r) (fun P g δ => G1 ⟨fun g1 δ1 => G2 P g1 δ1, P.rt⟩ g δ) :=
  pss_mono (pss_cons h1 h2) fun D σ H ⟨E, O, g, δ, P, R, f, kn, kr⟩ => ⟨E, O, g, δ, _, R, f, fun O1 g1 δ1 σ1 H1 p R1 u1 s1 =>
    ⟨E, O1, g1, δ1, P, R1, p, fun O2 g2 δ2 σ2 H2 p2 R2 u2 s2 => kn O2 g2 δ2 σ2 H2 p2 R2 (fun a h => u2 a (u1 a h)) (s1.trans s2), kr⟩, kr⟩
theorem ds_ret {e : Expr} {F : DT} {pos : Pos} (h : DE X W e F) : DS X W (.Return (some e) pos) (fun P g δ => F g δ fun g1 d => P.rt g1 d) :=
  ps_mono (ps_ret h) fun D σ H ⟨E, O, g, δ, P, R, f, kn, kr⟩ => ⟨E, O, g, δ, _, R, f, fun g1 d v H1 p R1 s1 x1 => kr g1 d v H1 p ⟨R1.same, fun u h => (R1.urn u h).2, x1.keep (hid_less R1.sub)⟩⟩
/-- return x, x a list of one's own -/
theorem ds_retO (i : Nat) {x : Str} {p pos : Pos} (hN : X.N[i]? = some x := by rfl) (hv : Vis X.env.scope x := by first | exact Or.inl rfl | exact Or.inr (Or.inl rfl) | exact Or.inr (Or.inr rfl)) (hd : (x == ("__debug__" : Str)) = false := by decide)
    (hcd : (x == ("__classdict__" : Str)) = false := by decide) : DS X W (.Return (some (.Name x p)) pos) (fun P g δ => ∃ ds, δ[i]? = some (.own ds) ∧ P.rt g (.list ds)) :=
  ps_mono (ps_ret (pe_var hN hv hd hcd)) fun D σ H ⟨E, O, g, δ, P, R, ⟨ds, e, p⟩, kn, kr⟩ => by
    obtain ⟨y, h1, a, vs, h2, h3, h4, h5⟩ := R.sl i _ e
    subst h2
    refine ⟨.ref a, h1, kr g _ _ H p ⟨R.same, fun u h => (R.urn u h).2, .lst (SqL.of ?_) (h5.keep (hid_less R.sub))⟩⟩
    rw [hid_no (R.own0 i _ a e rfl h1).2]
    exact h4
theorem ds_if {c : Expr} {a b : List Stmt} {Fc : DB} {G1 G2 : DSt} {pos : Pos} (hc : DTs X W c Fc) (ha : DSs X W a G1) (hb : DSs X W b G2) : DS X W (.If c a b pos) (fun P g δ => Fc g δ fun g1 k => if k = true then G1 P g1 δ else G2 P g1 δ) :=
  ps_mono (ps_if hc ha hb) fun D σ H ⟨E, O, g, δ, P, R, f, kn, kr⟩ => ⟨E, O, g, δ, _, R, f, fun g1 c H1 p R1 s1 => by
    cases c with
    | true => exact ⟨E, O, g1, δ, P, R1, p, fun O2 g2 δ2 σ2 H2 p2 R2 u2 s2 => kn O2 g2 δ2 σ2 H2 p2 R2 u2 (s1.hid.trans s2), kr⟩
    | false => exact ⟨E, O, g1, δ, P, R1, p, fun O2 g2 δ2 σ2 H2 p2 R2 u2 s2 => kn O2 g2 δ2 σ2 H2 p2 R2 u2 (s1.hid.trans s2), kr⟩⟩
/-- a statement that is not come to -/
theorem ds_never {st : Stmt} : DS X W st (fun _ _ _ => False) := ps_mono ps_never fun D σ H ⟨_, _, _, _, _, _, f, _⟩ => f
section
variable {i : Nat} {x : Str} {e : Expr} {pos' pos : Pos}
theorem ds_set {F : DT} (i : Nat) (hN : X.N.Nodup) (h : DE X W e F) (hi : X.N[i]? = some x := by rfl) (hx : Loc X.env.scope x := by first | exact Or.inl rfl | exact Or.inr rfl) (hs : swapsWith e (some (.Name x pos')) pos.line X.env = pure false := by rfl)
    (hf : X.fn x = true ∨ X.env.scope.names.lookup x = some .local := by first | exact .inl rfl | exact .inr rfl | assumption) :
    DS X W (.Assign [.Name x pos'] e pos) (fun P g δ => F g δ fun g1 d => P.nx g1 (δ.set i (.dat d))) :=
  ps_mono (ps_set hN hi hx h hs hf) fun D σ H ⟨E, O, g, δ, P, R, f, kn, kr⟩ => ⟨E, O, g, δ, _, R, f, fun g1 d v H1 p R1 s1 x1 => kn O g1 _ _ H1 p (R1.setD x1) (fun _ h => h) s1.hid⟩
theorem ds_setO {F : DL} (i : Nat) (hN : X.N.Nodup) (h : DF X W e F) (hi : X.N[i]? = some x := by rfl) (hx : Loc X.env.scope x := by first | exact Or.inl rfl | exact Or.inr rfl) (hs : swapsWith e (some (.Name x pos')) pos.line X.env = pure false := by rfl)
    (hf : X.fn x = true ∨ X.env.scope.names.lookup x = some .local := by first | exact .inl rfl | exact .inr rfl | assumption) :
    DS X W (.Assign [.Name x pos'] e pos) (fun P g δ => F g δ fun g1 ds => P.nx g1 (δ.set i (.own ds))) :=
  ps_mono (ps_set hN hi hx h hs hf) fun D σ H ⟨E, O, g, δ, P, R, f, kn, kr⟩ => ⟨E, O, g, δ, _, R, f, fun g1 ds vs p H1 q R1 s1 n x1 =>
    kn _ g1 _ _ _ q (R1.fresh n ⟨p, vs, rfl, addO_self, upd_same, x1.keep (hid_add n)⟩) (fun _ h => addO_old h) (s1.hid.trans (hid_add n))⟩
end

/-! ### targets -/
def putV : L2.St → List (Nat × V) → L2.St
  | σ, [] => σ
  | σ, (i, v) :: r => putV (σ.set i (some v)) r
def putD : List Sv → List (Nat × PyData) → List Sv
  | δ, [] => δ
  | δ, (i, d) :: r => putD (δ.set i (.dat d)) r
theorem putV_app : ∀ (σ : L2.St) (l r : List (Nat × V)), putV σ (l ++ r) = putV (putV σ l) r
  | _, [], _ => rfl
  | σ, (i, v) :: l, r => putV_app (σ.set i (some v)) l r
theorem rel_putDs {E : En} {O : Own} {g : Nat} {H : Hp} : ∀ {ws : List (Nat × V)} {l : List (Nat × PyData)} {σ : L2.St} {δ : List Sv}, Rel K W E O g H σ δ → Paired (fun (p : Nat × V) (q : Nat × PyData) => p.1 = q.1 ∧ Dp K (hid O H) p.2 q.2) ws l → Rel K W E O g H (putV σ ws) (putD δ l)
  | _, _, _, _, R, .nil => R
  | (i, v) :: ws, (j, d) :: l, σ, δ, R, .cons h t => by
    have e : i = j := h.1
    subst e
    show Rel K W E O g H (putV (σ.set i (some v)) ws) (putD (δ.set i (.dat d)) l)
    exact rel_putDs (Rel.setD (i := i) R h.2) t
theorem wipe_putV : ∀ {ws : List (Nat × V)} {vs : List Nat} {σ : L2.St}, (∀ p ∈ ws, p.1 ∈ vs) → wipe (putV σ ws) vs = wipe σ vs
  | [], _, _, _ => rfl
  | (i, v) :: ws, vs, σ, h => by
    show wipe (putV (σ.set i (some v)) ws) vs = wipe σ vs
    rw [wipe_putV (fun p hp => h p (List.mem_cons_of_mem _ hp))]
    have hi : i ∈ vs := h (i, v) List.mem_cons_self
    clear h
    induction vs with
    | nil => cases hi
    | cons j vs ih =>
      show (wipe (σ.set i (some v)) vs).set j none = (wipe σ vs).set j none
      by_cases q : i ∈ vs
      · rw [ih q]
      · have e : i = j := by
          rcases List.mem_cons.mp hi with z | z
          · exact z
          · exact absurd z q
        subst e
        have key : ∀ (us : List Nat) (τ : L2.St), i ∉ us → wipe (τ.set i (some v)) us = (wipe τ us).set i (some v) := by
          intro us
          induction us with
          | nil => intro τ _; rfl
          | cons u us ihu =>
            intro τ hn
            show (wipe (τ.set i (some v)) us).set u none = ((wipe τ us).set u none).set i (some v)
            rw [ihu τ (fun z => hn (List.mem_cons_of_mem _ z)), List.set_comm _ _ (fun z : u = i => hn (z ▸ List.mem_cons_self))]
        rw [key vs σ q, List.set_set]
/-- a target: how it takes data apart, slot by slot -/
abbrev DM := PyData → Option (List (Nat × PyData))
def mName (i : Nat) : DM := fun d => some [(i, d)]
def mNil : List PyData → Option (List (Nat × PyData))
  | [] => some []
  | _ => none
def mCons (m : DM) (ms : List PyData → Option (List (Nat × PyData))) : List PyData → Option (List (Nat × PyData))
  | d :: ds => (m d).bind fun l => (ms ds).map fun r => l ++ r
  | [] => none
def mTup (ms : List PyData → Option (List (Nat × PyData))) : DM
  | .tuple ds => ms ds
  | _ => none
def tG (K : PySem.W.Frag) (m : DM) : TG := fun v σ H Q => ∃ G d l, Same G H ∧ Dp K G v d ∧ m d = some l ∧ ∀ ws : List (Nat × V), Paired (fun (p : Nat × V) (q : Nat × PyData) => p.1 = q.1 ∧ Dp K G p.2 q.2) ws l → Q (putV σ ws) H
def tGs (K : PySem.W.Frag) (n : Nat) (ms : List PyData → Option (List (Nat × PyData))) : TGs := fun vs σ H Q => ∃ G ds l, Same G H ∧ DpAll K G vs ds ∧ ms ds = some l ∧ ∀ ws : List (Nat × V), Paired (fun (p : Nat × V) (q : Nat × PyData) => p.1 = q.1 ∧ Dp K G p.2 q.2) ws l → Q (putV σ ws) H
theorem pg_mono {e : Expr} {t t' : TG} (h : PG X e t) (m : ∀ v σ H Q, t' v σ H Q → t v σ H Q) : PG X e t' := ⟨fun pins s σ H v u Q I r q => h.run pins s σ H v u Q I r (m v σ H Q q)⟩
theorem pgs_mono {e : List Expr} {t t' : TGs} (h : PGs X e t) (m : ∀ v σ H Q, t' v σ H Q → t v σ H Q) : PGs X e t' := ⟨fun pins s σ H v u Q I r q => h.run pins s σ H v u Q I r (m v σ H Q q)⟩
theorem dg_name (i : Nat) {x : Str} {pos : Pos} (hN : X.N.Nodup) (hi : X.N[i]? = some x := by rfl) (hx : Loc X.env.scope x := by first | exact Or.inl rfl | exact Or.inr rfl)
    (hf : X.fn x = true ∨ X.env.scope.names.lookup x = some .local := by first | exact .inl rfl | exact .inr rfl | assumption) : PG X (.Name x pos) (tG X.K (mName i)) :=
  pg_mono (pg_name hN hi hx hf) fun v σ H Q ⟨G, d, l, s, x, e, k⟩ => by
    cases e
    exact k [(i, v)] (.cons ⟨rfl, x⟩ .nil)
theorem dgs_nil {n : Nat} : PGs X [] (tGs X.K n mNil) :=
  pgs_mono pgs_nil fun vs σ H Q ⟨G, ds, l, s, x, e, k⟩ => by
    cases x with
    | nil =>
      cases e
      exact ⟨rfl, k [] .nil⟩
    | cons _ _ => cases e
theorem paired_app {α β : Type} {F : α → β → Prop} : ∀ {a : List α} {b : List β} {c : List α} {d : List β}, Paired F a b → Paired F c d → Paired F (a ++ c) (b ++ d)
  | _, _, _, _, .nil, h => h
  | _, _, _, _, .cons h t, h' => .cons h (paired_app t h')
theorem dgs_cons {e : Expr} {es : List Expr} {m : DM} {n : Nat} {ms : List PyData → Option (List (Nat × PyData))} (h1 : PG X e (tG X.K m)) (h2 : PGs X es (tGs X.K n ms)) (hs : (assignEach (e :: es) X.env).map (·.2) = assign e X.env :: (assignEach es X.env).map (·.2) := by rfl) : PGs X (e :: es) (tGs X.K n (mCons m ms)) :=
  pgs_mono (pgs_cons h1 h2 hs) fun vs σ H Q ⟨G, ds, l, s, x, e, k⟩ => by
    cases x with
    | nil => cases e
    | @cons v vs d ds x1 x2 =>
      have e : (m d).bind (fun l => (ms ds).map fun r => l ++ r) = some l := e
      cases e1 : m d with
      | none => rw [e1] at e; cases e
      | some l1 =>
        rw [e1] at e
        cases e2 : ms ds with
        | none => rw [e2] at e; cases e
        | some l2 =>
          rw [e2] at e
          cases e
          exact ⟨v, vs, rfl, G, d, l1, s, x1, e1, fun ws p1 => ⟨G, ds, l2, s, x2, e2, fun ws2 p2 => by
            rw [← putV_app]
            exact k _ (paired_app p1 p2)⟩⟩
theorem dg_tup {es : List Expr} {k : Nat} {pos : Pos} {n : Nat} {ms : List PyData → Option (List (Nat × PyData))} (m : Md X) (h : PGs X es (tGs X.K n ms)) (hl : ∀ ds l, ms ds = some l → ds.length = n)
    (hn : (assignEach es X.env).length = n := by rfl) (hst : (assignEach es X.env).findIdx? (·.1) = none := by rfl) : PG X (.Tuple es k pos) (tG X.K (mTup ms)) := by
  have key : ∀ v σ H Q, tG X.K (mTup ms) v σ H Q → gTup X.K n (tGs X.K n ms) v σ H Q := fun v σ H Q ⟨G, d, l, s, x, e, k⟩ => by
    cases x with
    | @tup a xs ds hs ha => exact ⟨a, xs, rfl, seqT_keep s hs, by rw [dpAll_len ha]; exact hl _ _ e, G, ds, l, s, ha, e, k⟩
    | _ => cases e
  rcases m with ⟨hc, _⟩ | ⟨_, hc⟩
  · exact pg_mono (pg_tup hc h hn hst) key
  · exact pg_mono (pgH_tup hc h hn hst) key

/-! ### what is walked -/
structure ItD (K : PySem.W.Frag) (O : Own) (H : Hp) (J : It) (ds : List PyData) : Prop where
  len : ds.length ≤ sizeLine
  stop : ∀ O' H' i, Same (hid O H) (hid O' H') → ds.length ≤ i → J.stop i H'
  go : ∀ O' H' i, Same (hid O H) (hid O' H') → i < ds.length → J.go i H'
  yld : ∀ O' H' i x H'' d, (∀ a, O' a = true → H' a ≠ none) → Same (hid O H) (hid O' H') → ds[i]? = some d → J.yld i H' x H'' → Same H' H'' ∧ Dp K (hid O' H'') x d
def tI (K : PySem.W.Frag) (W : Option Addr) (F : DL) : TI := fun σ H R => ∃ E O g δ P, Rel K W E O g H σ δ ∧ F g δ P ∧ ∀ g' ds J H', P g' ds → Rel K W E O g' H' σ δ → Ext W O H H' → ItD K O H' J ds → R J H'
/-- a walk over data, in both modes -/
def DI (X : Cx) (W : Option Addr) (tg e : Expr) (F : DL) : Prop := (X.calm = true → PI X tg e (tI X.K W F)) ∧ (HotC X → PIH X tg e (tI X.K W F))
theorem pi_mono {tg e : Expr} {t t' : TI} (h : PI X tg e t) (m : ∀ σ H R, t' σ H R → t σ H R) : PI X tg e t' := ⟨fun pins s σ H R I q => h.run pins s σ H R I (m σ H R q)⟩
theorem piH_mono {tg e : Expr} {t t' : TI} (h : PIH X tg e t) (m : ∀ σ H R, t' σ H R → t σ H R) : PIH X tg e t' := ⟨fun pins s σ H R I q => h.run pins s σ H R I (m σ H R q)⟩
/-- .. with the length's bound, which the heap itself gives -/
def Bnd : PyData → Prop
  | .list ds => ds.length ≤ sizeLine
  | .tuple ds => ds.length ≤ sizeLine
  | _ => True
def tDB (K : PySem.W.Frag) (W : Option Addr) (F : DT) : TE := fun σ H Q => ∃ E O g δ P, Rel K W E O g H σ δ ∧ F g δ P ∧
  ∀ g' d v H', P g' d → Rel K W E O g' H' σ δ → Ext W O H H' → Dp K (hid O H') v d → Bnd d → Q v H'
theorem bnd_of {pins : List (Addr × Obj)} {σ : L2.St} {H : Hp} {s : Shared} (I : Inv X pins σ H s) {O : Own} {v : V} {d : PyData} (h : Dp X.K (hid O H) v d) : Bnd d := by
  cases h with
  | lst hs ha =>
    obtain ⟨_, _, _, hz⟩ := I.list (Same.seq hid_same hs)
    show _ ≤ sizeLine
    rw [← dpAll_len ha]; exact hz
  | tup hs ha =>
    obtain ⟨_, _, _, hz⟩ := I.tuple (seqT_keep hid_same hs)
    show _ ≤ sizeLine
    rw [← dpAll_len ha]; exact hz
  | _ => trivial
theorem de_bnd {e : Expr} {F : DT} (h : DE X W e F) : PE X e (tDB X.K W F) := ⟨fun pins s σ H Q I ⟨E, O, g, δ, P, R, f, k⟩ =>
  thn (h.run pins s σ H (fun v H1 => ∃ d, Dp X.K (hid O H1) v d ∧ (Bnd d → Q v H1)) I ⟨E, O, g, δ, P, R, f, fun g' d v H' p R' s' x' => ⟨d, x', fun b => k g' d v H' p R' s' x' b⟩⟩)
    fun u s1 ⟨v, H1, I1, r, d, x, q⟩ => ⟨v, H1, I1, r, q (bnd_of I1 x)⟩⟩
theorem itd_list {O : Own} {H : Hp} {a : Addr} {xs : List V} {ds : List PyData} (hs : SqL K (hid O H) a xs) (ha : DpAll K (hid O H) xs ds) (b : ds.length ≤ sizeLine) : ItD K O H (Itl K a) ds where
  len := b
  stop := fun O' H' i s l => ⟨xs, Same.seq (s.trans hid_same) hs, by rw [dpAll_len ha]; exact l⟩
  go := fun O' H' i s l => by
    have hl : i < xs.length := by rw [dpAll_len ha]; exact l
    exact ⟨xs, xs[i], Same.seq (s.trans hid_same) hs, List.getElem?_eq_getElem hl⟩
  yld := fun O' H' i x H'' d t s e ⟨e1, y⟩ => by
    subst e1
    obtain ⟨v, h1, h2⟩ := dpAll_get2 ha e
    have q := y xs (Same.seq (s.trans hid_same) hs)
    rw [h1] at q
    cases q
    exact ⟨Same.refl _, h2.keep s⟩
theorem itd_tup {O : Own} {H : Hp} {a : Addr} {xs : List V} {ds : List PyData} (hs : SqT K (hid O H) a xs) (ha : DpAll K (hid O H) xs ds) (b : ds.length ≤ sizeLine) : ItD K O H (Itt K a) ds where
  len := b
  stop := fun O' H' i s l => ⟨xs, seqT_keep (s.trans hid_same) hs, by rw [dpAll_len ha]; exact l⟩
  go := fun O' H' i s l => by
    have hl : i < xs.length := by rw [dpAll_len ha]; exact l
    exact ⟨xs, xs[i], seqT_keep (s.trans hid_same) hs, List.getElem?_eq_getElem hl⟩
  yld := fun O' H' i x H'' d t s e ⟨e1, y⟩ => by
    subst e1
    obtain ⟨v, h1, h2⟩ := dpAll_get2 ha e
    have q := y xs (seqT_keep (s.trans hid_same) hs)
    rw [h1] at q
    cases q
    exact ⟨Same.refl _, h2.keep s⟩
theorem itd_range {O : Own} {H : Hp} {lo : Int} {n : Nat} (b : n ≤ sizeLine) : ItD K O H (Itr lo n) ((List.range n).map fun (i : Nat) => PyData.int (lo + (i : Int))) where
  len := by rw [List.length_map, List.length_range]; exact b
  stop := fun O' H' i s l => by rw [List.length_map, List.length_range] at l; exact l
  go := fun O' H' i s l => by rw [List.length_map, List.length_range] at l; exact l
  yld := fun O' H' i x H'' d t s e ⟨e1, y⟩ => by
    subst e1 y
    have hi : i < n := by
      rcases Nat.lt_or_ge i n with z | z
      · exact z
      · rw [List.getElem?_eq_none (by simpa using z)] at e; cases e
    rw [List.getElem?_map, List.getElem?_range hi] at e
    cases e
    exact ⟨Same.refl _, .int _⟩
/-- a list or a tuple that is walked -/
theorem di_list {tg e : Expr} {F : DT} (h : DE X W e F) : DI X W tg e (fun g δ P => F g δ fun g1 d => ∃ ds, d = .list ds ∧ P g1 ds) := by
  have key : ∀ σ H R, tI X.K W (fun g δ P => F g δ fun g1 d => ∃ ds, d = .list ds ∧ P g1 ds) σ H R → iList X.K (tDB X.K W F) σ H R := fun σ H R ⟨E, O, g, δ, P, Rl, f, k⟩ => ⟨E, O, g, δ, _, Rl, f, fun g1 d v H1 ⟨ds, e, p⟩ R1 s1 x1 b => by
    subst e
    cases x1 with
    | lst hs ha => exact ⟨_, rfl, ⟨_, Same.seq hid_same hs⟩, k g1 ds _ H1 p R1 s1 (itd_list hs ha b)⟩⟩
  exact ⟨fun _ => pi_mono (pi_list (de_bnd h)) key, fun _ => piH_mono (piH_list (de_bnd h)) key⟩
theorem di_tup {tg e : Expr} {F : DT} (h : DE X W e F) : DI X W tg e (fun g δ P => F g δ fun g1 d => ∃ ds, d = .tuple ds ∧ P g1 ds) := by
  have key : ∀ σ H R, tI X.K W (fun g δ P => F g δ fun g1 d => ∃ ds, d = .tuple ds ∧ P g1 ds) σ H R → iTup X.K (tDB X.K W F) σ H R := fun σ H R ⟨E, O, g, δ, P, Rl, f, k⟩ => ⟨E, O, g, δ, _, Rl, f, fun g1 d v H1 ⟨ds, e, p⟩ R1 s1 x1 b => by
    subst e
    cases x1 with
    | tup hs ha => exact ⟨_, rfl, ⟨_, seqT_keep hid_same hs⟩, k g1 ds _ H1 p R1 s1 (itd_tup hs ha b)⟩⟩
  exact ⟨fun _ => pi_mono (pi_tup (de_bnd h)) key, fun _ => piH_mono (piH_tup (de_bnd h)) key⟩
def rgD (lo hi : Int) : List PyData := (List.range (hi - lo).toNat).map fun (i : Nat) => PyData.int (lo + (i : Int))
theorem di_range1 {tg a : Expr} {F : DT} {p pos : Pos} (hm : X.mg "range" = none) (h : DE X W a F) (hg : Gl X "range" := by rfl) (hs : starEach [a] X.env = [(false, eval a X.env)] := by rfl) (hs2 : starEach [a] X.env = (false, eval a X.env) :: starEach [] X.env := by rfl) :
    DI X W tg (.Call (.Name "range" p) [a] [] pos) (fun g δ P => F g δ fun g1 d => ∃ n : Int, d = .int n ∧ -1000 ≤ n ∧ n ≤ 1000 ∧ P g1 (rgD 0 n)) := by
  have key : ∀ σ H R, tI X.K W (fun g δ P => F g δ fun g1 d => ∃ n : Int, d = .int n ∧ -1000 ≤ n ∧ n ≤ 1000 ∧ P g1 (rgD 0 n)) σ H R → iRng1 (tCons (tD X.K W F) tNil) σ H R := fun σ H R ⟨E, O, g, δ, P, Rl, f, k⟩ => ⟨E, O, g, δ, _, Rl, f, fun g1 d v H1 ⟨n, e, h1, h2, p⟩ R1 s1 x1 => by
    subst e
    cases x1
    refine ⟨n, rfl, by omega, by omega, k g1 _ _ H1 p R1 s1 ?_⟩
    unfold rgD
    rw [Int.sub_zero]
    exact itd_range (by have : sizeLine = 16777216 := sizeLine_eq; omega)⟩
  exact ⟨fun _ => pi_mono (pi_range1 hg hm (pa_cons h pa_nil hs2) hs) key, fun _ => piH_mono (pi_range1H hg hm (pa_cons h pa_nil hs2) hs) key⟩
theorem di_range2 {tg a b : Expr} {Fa Fb : DT} {p pos : Pos} (hc : X.calm = true) (hm : X.mg "range" = none) (ha : DE X W a Fa) (hb : DE X W b Fb) (hg : Gl X "range" := by rfl) (hs : starEach [a, b] X.env = [(false, eval a X.env), (false, eval b X.env)] := by rfl) (hs2 : starEach [b] X.env = [(false, eval b X.env)] := by rfl)
    (hs3 : starEach [a, b] X.env = (false, eval a X.env) :: starEach [b] X.env := by rfl) (hs4 : starEach [b] X.env = (false, eval b X.env) :: starEach [] X.env := by rfl) :
    DI X W tg (.Call (.Name "range" p) [a, b] [] pos) (fun g δ P => Fa g δ fun g1 d => Fb g1 δ fun g2 e => ∃ m n : Int, d = .int m ∧ e = .int n ∧ (-1000 ≤ m ∧ m ≤ 1000) ∧ (-1000 ≤ n ∧ n ≤ 1000) ∧ P g2 (rgD m n)) := by
  refine ⟨fun _ => pi_mono (pi_range2 hg hm (pa_cons ha (pa_cons hb pa_nil hs4) hs3) hs hs2) fun σ H R ⟨E, O, g, δ, P, Rl, f, k⟩ => ⟨E, O, g, δ, _, Rl, f, fun g1 d v H1 f1 R1 s1 x1 => ⟨E, O, g1, δ, _, R1, f1, fun g2 e v2 H2 ⟨m, n, e1, e2, h1, h2, p⟩ R2 s2 x2 => ?_⟩⟩, fun c => ?_⟩
  · subst e1 e2
    cases x1
    cases x2
    exact ⟨m, n, rfl, by omega, k g2 _ _ H2 p R2 (s1.trans s2) (itd_range (by have : sizeLine = 16777216 := sizeLine_eq; omega))⟩
  · exact ⟨fun pins s σ H R I h => by
      obtain ⟨p, ⟨hh, _⟩, _⟩ := c
      have z := I.ok.hd hc
      rw [hh] at z; cases z⟩
/-- enumerate(a list), both a, b = .. -/
def enD (i : Nat) : List PyData → List PyData
  | [] => []
  | d :: ds => .tuple [.int (i : Int), d] :: enD (i + 1) ds
theorem enD_len : ∀ (ds : List PyData) (i : Nat), (enD i ds).length = ds.length
  | [], _ => rfl
  | _ :: ds, i => congrArg (· + 1) (enD_len ds (i + 1))
theorem enD_get : ∀ (ds : List PyData) (k i : Nat) (z : PyData), (enD k ds)[i]? = some z → ∃ d, ds[i]? = some d ∧ z = .tuple [.int ((k + i : Nat) : Int), d]
  | [], _, _, _, h => by simp [enD] at h
  | d :: ds, k, 0, z, h => ⟨d, rfl, by simpa [enD] using h.symm⟩
  | d :: ds, k, i + 1, z, h => by
    obtain ⟨d', h1, h2⟩ := enD_get ds (k + 1) i z (by simpa [enD] using h)
    refine ⟨d', by simpa using h1, ?_⟩
    rw [h2]
    have e : k + 1 + i = k + (i + 1) := by omega
    rw [e]
theorem itd_enum {O : Own} {H : Hp} {a : Addr} {xs : List V} {ds : List PyData} (hs : SqL K (hid O H) a xs) (ha : DpAll K (hid O H) xs ds) (b : ds.length ≤ sizeLine) : ItD K O H (Ite K a) (enD 0 ds) where
  len := by rw [enD_len]; exact b
  stop := fun O' H' i s l => ⟨xs, Same.seq (s.trans hid_same) hs, by rw [enD_len] at l; rw [dpAll_len ha]; exact l⟩
  go := fun O' H' i s l => by
    have hl : i < xs.length := by rw [enD_len] at l; rw [dpAll_len ha]; exact l
    exact ⟨xs, xs[i], Same.seq (s.trans hid_same) hs, List.getElem?_eq_getElem hl⟩
  yld := fun O' H' i x H'' d t s e ⟨T, y, e1, n, e2, q⟩ => by
    subst e1 e2
    obtain ⟨d', h1, h2⟩ := enD_get ds 0 i d e
    obtain ⟨v, h3, h4⟩ := dpAll_get2 ha h1
    have q' := q xs (Same.seq (s.trans hid_same) hs)
    rw [h3] at q'
    cases q'
    subst h2
    refine ⟨same_new n, dp_newT t n (.cons ?_ (dpAll_one (h4.keep s)))⟩
    rw [Nat.zero_add]
    exact .int _
theorem di_enum {elts : List Expr} {kk : Nat} {tpos : Pos} {e : Expr} {F : DT} {p pos : Pos} (hc : X.calm = true) (hm : X.mg "enumerate" = none) (h : DE X W e F) (hg : Gl X "enumerate" := by rfl) (hs : starEach [e] X.env = [(false, eval e X.env)] := by rfl) (hs2 : starEach [e] X.env = (false, eval e X.env) :: starEach [] X.env := by rfl) :
    DI X W (.Tuple elts kk tpos) (.Call (.Name "enumerate" p) [e] [] pos) (fun g δ P => F g δ fun g1 d => ∃ ds, d = .list ds ∧ P g1 (enD 0 ds)) := by
  refine ⟨fun _ => pi_mono (pi_enum hg hm (pa_cons (de_bnd h) pa_nil hs2) hs) fun σ H R ⟨E, O, g, δ, P, Rl, f, k⟩ => ⟨E, O, g, δ, _, Rl, f, fun g1 d v H1 ⟨ds, e, p⟩ R1 s1 x1 b => ?_⟩, fun c => ?_⟩
  · subst e
    cases x1 with
    | lst hs ha => exact ⟨_, _, rfl, Same.seq hid_same hs, k g1 _ _ H1 p R1 s1 (itd_enum hs ha b)⟩
  · exact ⟨fun pins s σ H R I h => by
      obtain ⟨p, ⟨hh, _⟩, _⟩ := c
      have z := I.ok.hd hc
      rw [hh] at z; cases z⟩
/-- zip of two lists or of two tuples -/
def zipD : List PyData → List PyData → List PyData
  | d :: ds, e :: es => .tuple [d, e] :: zipD ds es
  | _, _ => []
theorem zipD_len : ∀ (ds es : List PyData), (zipD ds es).length = min ds.length es.length
  | [], es => by simp [zipD]
  | _ :: _, [] => by simp [zipD]
  | _ :: ds, _ :: es => by
    show (zipD ds es).length + 1 = min (ds.length + 1) (es.length + 1)
    rw [zipD_len ds es]; omega
theorem zipD_get : ∀ (ds es : List PyData) (i : Nat) (z : PyData), (zipD ds es)[i]? = some z → ∃ d e, ds[i]? = some d ∧ es[i]? = some e ∧ z = .tuple [d, e]
  | [], _, _, _, h => by simp [zipD] at h
  | _ :: _, [], _, _, h => by simp [zipD] at h
  | d :: ds, e :: es, 0, z, h => ⟨d, e, rfl, rfl, by simpa [zipD] using h.symm⟩
  | d :: ds, e :: es, i + 1, z, h => by
    obtain ⟨d', e', h1, h2, h3⟩ := zipD_get ds es i z (by simpa [zipD] using h)
    exact ⟨d', e', by simpa using h1, by simpa using h2, h3⟩
theorem di_zip {elts : List Expr} {kk : Nat} {tpos : Pos} {a b : Expr} {Fa Fb : DT} {p pos : Pos} (hc : X.calm = true) (hm : X.mg "zip" = none) (ha : DE X W a Fa) (hb : DE X W b Fb) (hg : Gl X "zip" := by rfl)
    (hs : starEach [a, b] X.env = (false, eval a X.env) :: starEach [b] X.env := by rfl) (hs2 : starEach [b] X.env = (false, eval b X.env) :: starEach [] X.env := by rfl) (hpl : (backTo pos (starEach [b] X.env)).any (·.1) = false := by rfl) :
    DI X W (.Tuple elts kk tpos) (.Call (.Name "zip" p) [a, b] [] pos) (fun g δ P => Fa g δ fun g1 d => Fb g1 δ fun g2 e => ∃ ds es, (d = .list ds ∧ e = .list es ∨ d = .tuple ds ∧ e = .tuple es) ∧ P g2 (zipD ds es)) := by
  refine ⟨fun _ => pi_mono (RZ.pi_zipA hg hm (pa_cons (de_bnd ha) (pa_cons (de_bnd hb) pa_nil hs2) hs) hs hpl) fun σ H R ⟨E, O, g, δ, P, Rl, f, k⟩ => ⟨E, O, g, δ, _, Rl, f, fun g1 d v H1 f1 R1 s1 x1 b1 => ⟨E, O, g1, δ, _, R1, f1, fun g2 e v2 H2 ⟨ds, es, e1, p⟩ R2 s2 x2 b2 => ?_⟩⟩, fun c => ?_⟩
  · have x1 := x1.keep s2.hid
    rcases e1 with ⟨e1, e2⟩ | ⟨e1, e2⟩
    · subst e1 e2
      cases x1 with
      | lst hs ha =>
        cases x2 with
        | lst hs' ha' =>
          refine ⟨_, _, _, _, rfl, .inl ⟨Same.seq hid_same hs, Same.seq hid_same hs', k g2 _ _ H2 p R2 (s1.trans s2) ?_⟩⟩
          have bb : ds.length ≤ sizeLine := b1
          have l1 := dpAll_len ha
          have l2 := dpAll_len ha'
          refine ⟨by rw [zipD_len]; omega, fun O' H' i s l => ⟨_, _, Same.seq (s.trans hid_same) hs, Same.seq (s.trans hid_same) hs', by rw [zipD_len] at l; omega⟩, fun O' H' i s l => ?_, fun O' H' i x H'' d t s e ⟨T, y, z, e1, n, e2, q, q'⟩ => ?_⟩
          · rw [zipD_len] at l
            exact ⟨_, _, _, _, Same.seq (s.trans hid_same) hs, Same.seq (s.trans hid_same) hs', List.getElem?_eq_getElem (by omega), List.getElem?_eq_getElem (by omega)⟩
          · subst e1 e2
            obtain ⟨d1, d2, h1, h2, h3⟩ := zipD_get ds es i d e
            obtain ⟨v1, k1, k2⟩ := dpAll_get2 ha h1
            obtain ⟨v2, k3, k4⟩ := dpAll_get2 ha' h2
            have z1 := q _ (Same.seq (s.trans hid_same) hs)
            have z2 := q' _ (Same.seq (s.trans hid_same) hs')
            rw [k1] at z1
            rw [k3] at z2
            cases z1; cases z2
            subst h3
            exact ⟨same_new n, dp_newT t n (.cons (k2.keep s) (dpAll_one (k4.keep s)))⟩
    · subst e1 e2
      cases x1 with
      | tup hs ha =>
        cases x2 with
        | tup hs' ha' =>
          refine ⟨_, _, _, _, rfl, .inr ⟨seqT_keep hid_same hs, seqT_keep hid_same hs', k g2 _ _ H2 p R2 (s1.trans s2) ?_⟩⟩
          have bb : ds.length ≤ sizeLine := b1
          have l1 := dpAll_len ha
          have l2 := dpAll_len ha'
          refine ⟨by rw [zipD_len]; omega, fun O' H' i s l => ⟨_, _, seqT_keep (s.trans hid_same) hs, seqT_keep (s.trans hid_same) hs', by rw [zipD_len] at l; omega⟩, fun O' H' i s l => ?_, fun O' H' i x H'' d t s e ⟨T, y, z, e1, n, e2, q, q'⟩ => ?_⟩
          · rw [zipD_len] at l
            exact ⟨_, _, _, _, seqT_keep (s.trans hid_same) hs, seqT_keep (s.trans hid_same) hs', List.getElem?_eq_getElem (by omega), List.getElem?_eq_getElem (by omega)⟩
          · subst e1 e2
            obtain ⟨d1, d2, h1, h2, h3⟩ := zipD_get ds es i d e
            obtain ⟨v1, k1, k2⟩ := dpAll_get2 ha h1
            obtain ⟨v2, k3, k4⟩ := dpAll_get2 ha' h2
            have z1 := q _ (seqT_keep (s.trans hid_same) hs)
            have z2 := q' _ (seqT_keep (s.trans hid_same) hs')
            rw [k1] at z1
            rw [k3] at z2
            cases z1; cases z2
            subst h3
            exact ⟨same_new n, dp_newT t n (.cons (k2.keep s) (dpAll_one (k4.keep s)))⟩
  · exact ⟨fun pins s σ H R I h => by
      obtain ⟨p, ⟨hh, _⟩, _⟩ := c
      have z := I.ok.hd hc
      rw [hh] at z; cases z⟩
end
end Lk

set_option Elab.async false
set_option linter.all false
set_option maxRecDepth 100000
set_option maxHeartbeats 4000000
/-! loops, comprehensions, calls over data -/
namespace Lk
open PySem PySem.Spec PyProof.Rows L2 L2H HotX LkHot
section
variable {X : Cx} {W : Option Addr} {K : PySem.W.Frag}
theorem Ext.same {W : Option Addr} {O : Own} {H H' : Hp} (s : Ext W O H H') : Same (Lk.hid O H) (Lk.hid O H') := s.hid
/-! ### for -/
def forD (m : DM) (Gb : DSt) : List PyData → DEn → Nat → List Sv → Prop
  | [], P, g, δ => P.nx g δ
  | d :: ds, P, g, δ => ∃ l, m d = some l ∧ Gb ⟨fun g1 δ1 => forD m Gb ds P g1 δ1, P.rt⟩ g (putD δ l)
theorem tFor_of {mt : DM} {Gb : DSt} {Fi : DL} : ∀ D σ H, tS K W (fun P g δ => Fi g δ fun g1 ds => forD mt Gb ds P g1 δ) D σ H → tFor (tI K W Fi) (tG K mt) (tS K W Gb) D σ H :=
  fun D σ H ⟨E, O, g, δ, P, R, f, kn, kr⟩ => ⟨E, O, g, δ, _, R, f, fun g1 ds J H1 p R1 s1 it =>
    ⟨fun i n σ' H' => n = ds.length - i ∧ i ≤ ds.length ∧ ∃ O' g' δ', Rel K W E O' g' H' σ' δ' ∧ forD mt Gb (ds.drop i) P g' δ' ∧ (∀ a, O a = true → O' a = true) ∧ Same (hid O H1) (hid O' H'),
      ⟨ds.length, (Nat.sub_zero _).symm, Nat.zero_le _, O, g1, δ, R1, (by rw [List.drop_zero]; exact p), fun _ h => h, Same.refl _⟩, fun i n σ' H' ⟨hn, hi, O', g', δ', R', p', u', s'⟩ => by
        by_cases hlt : i < ds.length
        · refine .inr ⟨it.go O' H' i s' hlt, fun σ2 H2 => ds.length - (i + 1) = ds.length - (i + 1) ∧ i + 1 ≤ ds.length ∧ ∃ O' g' δ', Rel K W E O' g' H2 σ2 δ' ∧ forD mt Gb (ds.drop (i + 1)) P g' δ' ∧ (∀ a, O a = true → O' a = true) ∧ Same (hid O H1) (hid O' H2),
            fun σ2 H2 w => ⟨_, by omega, w⟩, fun x H2 y => ?_⟩
          have hd : ds.drop i = ds[i] :: ds.drop (i + 1) := List.drop_eq_getElem_cons hlt
          rw [hd] at p'
          obtain ⟨l, e, q⟩ := p'
          obtain ⟨s2, x2⟩ := it.yld O' H' i x H2 ds[i] R'.there s' (List.getElem?_eq_getElem hlt) y
          refine ⟨hid O' H2, ds[i], l, hid_same, x2, e, fun ws pw => ⟨E, O', g', putD δ' l, _, rel_putDs (R'.grow s2) pw, q, fun O3 g3 δ3 σ3 H3 p3 R3 u3 s3 => ⟨rfl, hlt, O3, g3, δ3, R3, p3, fun a h => u3 a (u' a h), (s'.trans (same_hid s2)).trans s3⟩, kr⟩⟩
        · have e : i = ds.length := by omega
          subst e
          rw [List.drop_length] at p'
          exact .inl ⟨it.stop O' H' _ s' (Nat.le_refl _), kn O' g' δ' σ' H' p' R' u' (s1.hid.trans s')⟩⟩⟩
theorem ds_for {tg iter : Expr} {body : List Stmt} {pos : Pos} {mt : DM} {Gb : DSt} {Fi : DL} (m : Md X) (hp : PassesOwn (model X.prog X.w) X.A X.env X.xe) (hi : DI X W tg iter Fi) (hg : PG X tg (tG X.K mt)) (hb : DSs X W body Gb)
    (hs : ∀ x, foldedSetIterable iter X.env x = pure x := by intro _; rfl) : DS X W (.For tg iter body [] pos) (fun P g δ => Fi g δ fun g1 ds => forD mt Gb ds P g1 δ) := by
  rcases m with ⟨hc, _⟩ | ⟨_, hc⟩
  · exact ps_mono (ps_for hp hc (hi.1 hc) hg hb hs) tFor_of
  · exact ps_mono (ps_forH hp hc (hi.2 hc) hg hb hs) tFor_of
/-! ### while -/
theorem ds_while {c : Expr} {body : List Stmt} {pos : Pos} {Fc : DB} {Gb : DSt} (hp : PassesOwn (model X.prog X.w) X.A X.env X.xe) (hc : DTs X W c Fc) (hb : DSs X W body Gb) :
    DS X W (.While c body [] pos) (fun P g δ => ∃ I : Nat → Nat → List Sv → Prop, (∃ n, I n g δ) ∧ ∀ n g δ, I n g δ → Fc g δ fun g1 c => if c = true then Gb ⟨fun g2 δ2 => ∃ m, m < n ∧ I m g2 δ2, P.rt⟩ g1 δ else P.nx g1 δ) :=
  ps_mono (ps_while hp hc hb) fun D σ H ⟨E, O, g, δ, P, R, ⟨I, ⟨n0, i0⟩, step⟩, kn, kr⟩ =>
    ⟨fun n σ' H' => ∃ O' g' δ', Rel X.K W E O' g' H' σ' δ' ∧ I n g' δ' ∧ (∀ a, O a = true → O' a = true) ∧ Same (hid O H) (hid O' H'), ⟨n0, O, g, δ, R, i0, fun _ h => h, Same.refl _⟩, fun n σ' H' ⟨O', g', δ', R', i', u', s'⟩ =>
      ⟨E, O', g', δ', _, R', step n g' δ' i', fun g1 c H1 p R1 s1 => by
        cases c with
        | true => exact ⟨fun σ2 H2 => ∃ m, m < n ∧ ∃ O' g' δ', Rel X.K W E O' g' H2 σ2 δ' ∧ I m g' δ' ∧ (∀ a, O a = true → O' a = true) ∧ Same (hid O H) (hid O' H2), fun σ2 H2 ⟨m, hm, w⟩ => ⟨m, hm, w⟩,
            E, O', g1, δ', _, R1, p, fun O3 g3 δ3 σ3 H3 ⟨m, hm, im⟩ R3 u3 s3 => ⟨m, hm, O3, g3, δ3, R3, im, fun a h => u3 a (u' a h), (s'.trans s1.hid).trans s3⟩, kr⟩
        | false => exact kn O' g1 δ' σ' H1 p R1 u' (s'.trans s1.hid)⟩⟩
/-! ### comprehensions -/
def wipeD (δ : List Sv) : List Nat → List Sv
  | [] => δ
  | v :: vs => (wipeD δ vs).set v .emp
def compD (m : DM) (own : List Nat) (Ft : DB) (Fe : DT) (δ0 : List Sv) : List PyData → List PyData → Nat → (Nat → List PyData → Prop) → Prop
  | [], acc, g, P => P g acc
  | d :: ds, acc, g, P => ∃ l, m d = some l ∧ (∀ p ∈ l, p.1 ∈ own) ∧ Ft g (putD δ0 l) fun g1 b => if b = true then Fe g1 (putD δ0 l) fun g2 e => compD m own Ft Fe δ0 ds (acc ++ [e]) g2 P else compD m own Ft Fe δ0 ds acc g1 P
theorem wipeD_len (δ : List Sv) : ∀ vs, (wipeD δ vs).length = δ.length
  | [] => rfl
  | v :: vs => by show ((wipeD δ vs).set v .emp).length = _; rw [List.length_set, wipeD_len δ vs]
theorem wipeD_get (δ : List Sv) : ∀ (vs : List Nat) (i : Nat) x, (wipeD δ vs)[i]? = some x → x = .emp ∨ (δ[i]? = some x ∧ i ∉ vs)
  | [], i, x, h => .inr ⟨h, by simp⟩
  | v :: vs, i, x, h => by
    have h : ((wipeD δ vs).set v .emp)[i]? = some x := h
    by_cases e : v = i
    · subst e
      by_cases hv : v < (wipeD δ vs).length
      · rw [List.getElem?_set_self hv] at h
        cases h
        exact .inl rfl
      · rw [List.getElem?_eq_none (by simpa using hv)] at h; cases h
    · rw [List.getElem?_set_ne e] at h
      rcases wipeD_get δ vs i x h with z | ⟨z, z'⟩
      · exact .inl z
      · exact .inr ⟨z, by simp only [List.mem_cons, not_or]; exact ⟨fun q => e q.symm, z'⟩⟩
theorem wipe_get (σ : L2.St) : ∀ (vs : List Nat) (i : Nat), i ∉ vs → (wipe σ vs)[i]? = σ[i]?
  | [], _, _ => rfl
  | v :: vs, i, h => by
    show ((wipe σ vs).set v none)[i]? = σ[i]?
    rw [List.getElem?_set_ne (fun e : v = i => h (by rw [e]; exact List.mem_cons_self)), wipe_get σ vs i fun z => h (List.mem_cons_of_mem _ z)]
theorem Rel.wipe {E : En} {O : Own} {g : Nat} {H : Hp} {σ : L2.St} {δ : List Sv} (R : Rel K W E O g H σ δ) (vs : List Nat) : Rel K W E O g H (L2.wipe σ vs) (wipeD δ vs) :=
  R.forget (wipe_length σ vs) (wipeD_len δ vs) fun i x h => (wipeD_get δ vs i x h).imp id fun ⟨a, b⟩ => ⟨a, wipe_get σ vs i b⟩
/-- a clause's tests: none, or one -/
def fYes : DB := fun g _ P => P g true
abbrev DTt (X : Cx) (W : Option Addr) (ifs : List Expr) (F : DB) : Prop := PTs X ifs (tDb X.K W F)
theorem dtt_nil : DTt X W [] fYes := ⟨fun pins s σ H Q I ⟨E, O, g, δ, P, R, f, k⟩ => pts_nil.run pins s σ H Q I (k g true H f R .refl)⟩
theorem dtt_one {c : Expr} {F : DB} (h : DTs X W c F) : DTt X W [c] F := pts_one h
/-- the heap without D's list, and with it -/
theorem upd_hid {H : Hp} {D : Addr} {o : HO} (h : H D = some o) : ∃ H0 : Hp, H0 D = none ∧ H = upd H0 D o ∧ ∀ a, a ≠ D → H0 a = H a := by
  refine ⟨fun a => if a = D then none else H a, if_pos rfl, ?_, fun a ha => if_neg ha⟩
  funext a
  by_cases e : a = D
  · subst e; rw [upd_same, h]
  · rw [upd_ne e, if_neg e]
theorem Sl.ext {O : Own} {H H' : Hp} {y : Option V} {x : Sv} (h : Sl K O H y x) (e : Ext W O H H') (hu : x.isOwn = true → ∀ a, y = some (.ref a) → W ≠ some a) : Sl K O H' y x := by
  cases x with
  | emp => trivial
  | exc a dd f d =>
    obtain ⟨h0, v, h1, h2⟩ := h
    exact ⟨h0, v, e.hid _ _ h1, h2.keep e.hid⟩
  | raw v => exact h
  | dat d =>
    obtain ⟨v, h1, h2⟩ := h
    exact ⟨v, h1, h2.keep e.hid⟩
  | wy d =>
    obtain ⟨v, h1, h2, h3⟩ := h
    exact ⟨v, h1, h2.keep e.hid, h3.keep e.hid⟩
  | own ds =>
    obtain ⟨a, vs, h1, h2, h3, h4⟩ := h
    exact ⟨a, vs, h1, h2, e.all _ _ (hu rfl a h1) h3, h4.keep e.hid⟩
  | dic ds =>
    obtain ⟨a, vs, h1, h2, h3, h4⟩ := h
    exact ⟨a, vs, h1, h2, e.all _ _ (hu rfl a h1) h3, Paired.mapP h4 fun p q z => ⟨z.1, z.2.keep e.hid⟩⟩
  | dtp ds =>
    obtain ⟨a, vs, h1, h2, h3, h4⟩ := h
    exact ⟨a, vs, h1, h2, e.all _ _ (hu rfl a h1) h3, Paired.mapP h4 fun p q z => ⟨z.1, z.2.keep e.hid⟩⟩
theorem Rel.ext {E : En} {O : Own} {g g' : Nat} {H H' : Hp} {σ : L2.St} {δ : List Sv} (R : Rel K W E O g H σ δ) (e : Ext W O H H') (hu : ∀ u, W = some u → UrnAt H' u g') : Rel K W E O g' H' σ δ where
  len := R.len
  same := fun a o w h => e.all a o w (R.same a o w h)
  sub := R.sub
  new := R.new
  there := fun a h => by
    by_cases w : W = some a
    · obtain ⟨_, _, _, z, _⟩ := hu a w
      rw [z]; exact fun q => nomatch q
    · cases q : H a with
      | none => exact absurd q (R.there a h)
      | some o => rw [e.all a o w q]; exact fun z => nomatch z
  urn := fun u w => ⟨(R.urn u w).1, hu u w⟩
  sl := fun i x h => by
    obtain ⟨y, h1, h2⟩ := R.sl i x h
    refine ⟨y, h1, h2.ext e fun ho a ey w => ?_⟩
    subst ey
    have z := (R.own0 i x a h ho h1).2
    rw [(R.urn a w).1] at z; cases z
  own0 := R.own0
  apart := R.apart
theorem wipe_at (σ : L2.St) : ∀ (vs : List Nat) (i : Nat), i ∈ vs → i < σ.length → (L2.wipe σ vs)[i]? = some none
  | [], _, h, _ => by cases h
  | v :: vs, i, h, hl => by
    show ((L2.wipe σ vs).set v none)[i]? = some none
    by_cases e : v = i
    · subst e
      rw [List.getElem?_set_self (by rw [wipe_length]; exact hl)]
    · rw [List.getElem?_set_ne e]
      exact wipe_at σ vs i ((List.mem_cons.mp h).resolve_left (Ne.symm e)) hl
theorem wipe_wipe (σ : L2.St) (vs : List Nat) : L2.wipe (L2.wipe σ vs) vs = L2.wipe σ vs := by
  refine List.ext_getElem? fun i => ?_
  by_cases h : i ∈ vs
  · by_cases hl : i < σ.length
    · rw [wipe_at _ vs i h (by rw [wipe_length]; exact hl), wipe_at σ vs i h hl]
    · rw [List.getElem?_eq_none (by rw [wipe_length, wipe_length]; omega), List.getElem?_eq_none (by rw [wipe_length]; omega)]
  · rw [wipe_get _ vs i h]
/-- something owned that no slot holds is changed -/
theorem Rel.poke {E : En} {O : Own} {g : Nat} {H : Hp} {σ : L2.St} {δ : List Sv} {a : Addr} {o : HO} (R : Rel K W E O g H σ δ) (oa : O a = true) (e0 : E.H a = none) (e1 : E.O a = false)
    (ns : ∀ (i : Nat) x, δ[i]? = some x → x.isOwn = true → σ[i]? ≠ some (some (V.ref a))) : Rel K W E O g (upd H a o) σ δ where
  len := R.len
  same := fun b u w h => by rw [upd_ne (by rintro rfl; rw [e0] at h; cases h)]; exact R.same b u w h
  sub := R.sub
  new := R.new
  there := fun b h => by
    by_cases e : b = a
    · rw [e, upd_same]; exact fun z => nomatch z
    · rw [upd_ne e]; exact R.there b h
  urn := fun u w => by
    obtain ⟨h1, k, b, c, h2, h3⟩ := R.urn u w
    exact ⟨h1, k, b, c, by rw [upd_ne (by rintro rfl; rw [e1] at h1; cases h1)]; exact h2, h3⟩
  sl := fun i x h => by
    obtain ⟨y, h1, h2⟩ := R.sl i x h
    refine ⟨y, h1, ?_⟩
    have ap : ∀ b, x.isOwn = true → y = some (.ref b) → b ≠ a := fun b ho ey z => by
      subst ey z
      exact ns i x h ho h1
    cases x with
    | emp => trivial
    | exc a dd f d =>
      obtain ⟨k0, v, k1, k2⟩ := h2
      exact ⟨k0, v, by rw [hid_upd oa]; exact k1, by rw [hid_upd oa]; exact k2⟩
    | raw v => exact h2
    | dat d =>
      obtain ⟨v, k1, k2⟩ := h2
      exact ⟨v, k1, by rw [hid_upd oa]; exact k2⟩
    | wy d =>
      obtain ⟨v, k1, k2, k3⟩ := h2
      exact ⟨v, k1, by rw [hid_upd oa]; exact k2, by rw [hid_upd oa]; exact k3⟩
    | own ds =>
      obtain ⟨b, vs, k1, k2, k3, k4⟩ := h2
      exact ⟨b, vs, k1, k2, by rw [upd_ne (ap b rfl k1)]; exact k3, by rw [hid_upd oa]; exact k4⟩
    | dic ds =>
      obtain ⟨b, vs, k1, k2, k3, k4⟩ := h2
      exact ⟨b, vs, k1, k2, by rw [upd_ne (ap b rfl k1)]; exact k3, by rw [hid_upd oa]; exact k4⟩
    | dtp ds =>
      obtain ⟨b, vs, k1, k2, k3, k4⟩ := h2
      exact ⟨b, vs, k1, k2, by rw [upd_ne (ap b rfl k1)]; exact k3, by rw [hid_upd oa]; exact k4⟩
  own0 := R.own0
  apart := R.apart
/-- no slot holds what was nothing -/
theorem Rel.noslot {E : En} {O : Own} {g : Nat} {H : Hp} {σ : L2.St} {δ : List Sv} {D : Addr} (R : Rel K W E O g H σ δ) (n : H D = none) : ∀ (i : Nat) x, δ[i]? = some x → x.isOwn = true → σ[i]? ≠ some (some (V.ref D)) := fun i x h ho z => by
  obtain ⟨y, h1, h2⟩ := R.sl i x h
  rw [z] at h1
  cases h1
  cases x with
  | own ds => obtain ⟨a, vs, e, _, e2, _⟩ := h2; cases e; rw [n] at e2; cases e2
  | dic ds => obtain ⟨a, vs, e, _, e2, _⟩ := h2; cases e; rw [n] at e2; cases e2
  | dtp ds => obtain ⟨a, vs, e, _, e2, _⟩ := h2; cases e; rw [n] at e2; cases e2
  | _ => cases ho
theorem tLc_of {mt : DM} {Fi : DL} {Ft : DB} {Fe : DT} {own : List Nat} : ∀ σ H Q, tF K W (fun g δ P => Fi g δ fun g1 ds => compD mt own Ft Fe (wipeD δ own) ds [] g1 P) σ H Q → tLc (tI K W Fi) (tG K mt) (tDb K W Ft) (tD K W Fe) own σ H Q :=
  fun σ H Q ⟨E, O, g, δ, P, R, f, k⟩ => ⟨E, O, g, δ, _, R, f, fun g1 ds J H1 p R1 s1 it D nD => by
    have RA := R1.add (o := .lst []) nD
    have uD : W ≠ some D := fun w => by
      obtain ⟨_, _, _, _, z, _⟩ := R1.urn D w
      rw [nD] at z; cases z
    have oD := R1.free nD
    refine ⟨fun i n H' => n = ds.length - i ∧ i ≤ ds.length ∧ ∃ g' acc vs, Rel K W E (addO O D) g' H' (L2.wipe σ own) (wipeD δ own) ∧ compD mt own Ft Fe (wipeD δ own) (ds.drop i) acc g' P ∧
      H' D = some (.lst vs) ∧ DpAll K (hid (addO O D) H') vs acc ∧ acc.length ≤ i ∧ (∀ a o, a ≠ D → W ≠ some a → H1 a = some o → H' a = some o) ∧ Same (hid O H1) (hid (addO O D) H'),
      ⟨ds.length, (Nat.sub_zero _).symm, Nat.zero_le _, g1, [], [], RA.wipe own, (by rw [List.drop_zero]; exact p), upd_same, .nil, Nat.le_refl _, fun a o ha _ h => by rw [upd_ne ha]; exact h, hid_add nD⟩, ?_⟩
    rintro i n H' ⟨hn, hi, g', acc, vs, R', p', hD, ha, hl, all, sm⟩
    by_cases hlt : i < ds.length
    · refine .inr ⟨it.go _ H' i sm hlt, fun H2 => ds.length - (i + 1) = ds.length - (i + 1) ∧ i + 1 ≤ ds.length ∧ ∃ g' acc vs, Rel K W E (addO O D) g' H2 (L2.wipe σ own) (wipeD δ own) ∧ compD mt own Ft Fe (wipeD δ own) (ds.drop (i + 1)) acc g' P ∧
        H2 D = some (.lst vs) ∧ DpAll K (hid (addO O D) H2) vs acc ∧ acc.length ≤ i + 1 ∧ (∀ a o, a ≠ D → W ≠ some a → H1 a = some o → H2 a = some o) ∧ Same (hid O H1) (hid (addO O D) H2), fun H2 w => ⟨_, by omega, w⟩, fun x H2 y => ?_⟩
      have hd : ds.drop i = ds[i] :: ds.drop (i + 1) := List.drop_eq_getElem_cons hlt
      rw [hd] at p'
      obtain ⟨l, e, ho, q⟩ := p'
      obtain ⟨s2, x2⟩ := it.yld _ H' i x H2 ds[i] R'.there sm (List.getElem?_eq_getElem hlt) y
      refine ⟨hid (addO O D) H2, ds[i], l, hid_same, x2, e, fun ws pw => ⟨(wipe_putV fun w hw => ?_).trans (wipe_wipe σ own), ?_⟩⟩
      · have : ∀ {ws : List (Nat × V)} {l : List (Nat × PyData)}, Paired (fun (p : Nat × V) (q : Nat × PyData) => p.1 = q.1 ∧ Dp K (hid (addO O D) H2) p.2 q.2) ws l → (∀ p ∈ l, p.1 ∈ own) → ∀ w ∈ ws, w.1 ∈ own := by
          intro ws l pw
          induction pw with
          | nil => intro _ w hw; cases hw
          | cons h t ih =>
            intro hl w hw
            rcases List.mem_cons.mp hw with z | z
            · rw [z, h.1]; exact hl _ List.mem_cons_self
            · exact ih (fun p hp => hl p (List.mem_cons_of_mem _ hp)) w z
        exact this pw ho w hw
      · have R2 := rel_putDs (R'.grow s2) pw
        have all2 : ∀ a o, a ≠ D → W ≠ some a → H1 a = some o → H2 a = some o := fun a o h1 h2 h3 => s2 a o (all a o h1 h2 h3)
        have hD2 : H2 D = some (.lst vs) := s2 _ _ hD
        have ha2 := ha.keep (same_hid (O := addO O D) s2)
        have sm2 := sm.trans (same_hid (O := addO O D) s2)
        refine ⟨E, addO O D, g', _, _, R2, q, fun g3 b H3 q3 R3 s3 => ?_⟩
        have back : ∀ {g4 : Nat} {H4 : Hp}, Rel K W E (addO O D) g4 H4 (putV (L2.wipe σ own) ws) (putD (wipeD δ own) l) → ∀ (hu : ∀ u, W = some u → UrnAt H4 u g4), Ext W (addO O D) H2 H4 → Rel K W E (addO O D) g4 H4 (L2.wipe σ own) (wipeD δ own) :=
          fun R4 hu e4 => (R'.grow s2).ext e4 hu
        cases b with
        | false =>
          exact ⟨rfl, hlt, g3, acc, vs, back R3 (fun u w => (R3.urn u w).2) s3, q3, s3.all _ _ uD hD2, ha2.keep s3.hid, Nat.le_succ_of_le hl, fun a o h1 h2 h3 => s3.all a o h2 (all2 a o h1 h2 h3), sm2.trans s3.hid⟩
        | true =>
          refine ⟨E, addO O D, g3, _, _, R3, q3, fun g4 e4 v4 H4 q4 R4 s4 x4 => ⟨vs, s4.all _ _ uD (s3.all _ _ uD hD2), ?_, ?_⟩⟩
          · rw [dpAll_len ha]
            have := it.len
            omega
          · have s34 := s3.trans s4
            have RB := back R4 (fun u w => (R4.urn u w).2) s34
            have hD4 := s4.all _ _ uD (s3.all _ _ uD hD2)
            have eh : hid (addO O D) (upd H4 D (.lst (vs ++ [v4]))) = hid (addO O D) H4 := hid_upd addO_self
            refine ⟨rfl, hlt, g4, acc ++ [e4], vs ++ [v4], ?_, q4, upd_same, ?_, by rw [List.length_append]; exact Nat.succ_le_succ hl, fun a o h1 h2 h3 => ?_, ?_⟩
            · refine RB.poke addO_self (R1.ent nD).1 (R1.ent nD).2 fun j x hj hx hz => ?_
              rcases wipeD_get δ own j x hj with z | ⟨z, z'⟩
              · rw [z] at hx; cases hx
              · rw [wipe_get σ own j z'] at hz
                exact R1.noslot nD j x z hx hz
            · rw [eh]
              exact dpAll_app (ha2.keep s34.hid) (dpAll_one x4)
            · rw [upd_ne h1]
              exact s34.all a o h2 (all2 a o h1 h2 h3)
            · rw [eh]
              exact sm2.trans s34.hid
    · have e : i = ds.length := by omega
      subst e
      rw [List.drop_length] at p'
      refine .inl ⟨it.stop _ H' _ sm (Nat.le_refl _), ?_⟩
      obtain ⟨H0, n0, e0, k0⟩ := upd_hid hD
      have hs : Same (hid (addO O D) H') (hid O H0) := fun a u h => by
        have hne : a ≠ D := by
          rintro rfl
          rw [hid_yes addO_self] at h; cases h
        have oa : O a = false := by
          cases q : O a with
          | false => rfl
          | true => rw [hid_yes (addO_old q)] at h; cases h
        rw [hid_no oa, k0 a hne]
        exact hid_same _ _ h
      have ex : Ext W O H1 H0 := ⟨fun a o w h => by rw [k0 a (by rintro rfl; rw [nD] at h; cases h)]; exact all a o (by rintro rfl; rw [nD] at h; cases h) w h, sm.trans hs⟩
      rw [e0]
      refine k g' acc vs D H0 p' (R1.ext ex fun u w => ?_) (s1.trans ex) n0 (ha.keep hs)
      obtain ⟨_, a, b, c, z, r⟩ := R'.urn u w
      exact ⟨a, b, c, by rw [k0 u (by rintro rfl; exact uD w)]; exact z, r⟩⟩
end
end Lk

set_option Elab.async false
set_option linter.all false
set_option maxRecDepth 100000
set_option maxHeartbeats 4000000
/-! comprehensions in both modes, calls, defs -/
namespace Lk
open PySem PySem.Spec PyProof.Rows L2 L2H HotX LkHot
section
variable {X : Cx} {W : Option Addr} {K : PySem.W.Frag}
theorem df_lc {elt tg iter : Expr} {ifs : List Expr} {scope : Scope} {pos : Pos} {mt : DM} {Fi : DL} {Ft : DB} {Fe : DT} (own : List (Str × Nat)) (m : Md X) (hN : X.N.Nodup) (hi : DI X W tg iter Fi) (ok : BlkOk X.N X.env.scope scope own)
    (hg : ∀ s H C cl fp, PG (blk2 X s H scope (compEnvC scope cl C X.env) fp) tg (tG X.K mt)) (ht : ∀ s H C cl fp, DTt (blk2 X s H scope (compEnvC scope cl C X.env) fp) W ifs Ft)
    (he : ∀ s H C cl fp, DE (blk2 X s H scope (compEnvC scope cl C X.env) fp) W elt Fe) (hs : ∀ x, foldedSetIterable iter X.env x = pure x := by intro _; rfl) :
    DF X W (.ListComp elt [⟨tg, iter, ifs, 0⟩] scope pos) (fun g δ P => Fi g δ fun g1 ds => compD mt (own.map (·.2)) Ft Fe (wipeD δ (own.map (·.2))) ds [] g1 P) := by
  rcases m with ⟨hc, hp⟩ | ⟨_, hc⟩
  · have e := fun s H C cl fp => blk2_calm hp s H scope (compEnvC scope cl C X.env) fp
    exact pe_mono (pe_lc (own := own) hc hN (hi.1 hc) ok (fun s H C cl fp => e s H C cl fp ▸ hg s H C cl fp) (fun s H C cl fp => e s H C cl fp ▸ ht s H C cl fp) (fun s H C cl fp => e s H C cl fp ▸ he s H C cl fp) hs) tLc_of
  · exact pe_mono (peH_lc (tt := tDb X.K W Ft) (te := tD X.K W Fe) (own := own) hc hN (hi.2 hc) ok hg ht he hs) tLc_of
/-- y = [..] on one line -/
theorem tAsgD {te : TE} {F : DL} {i : Nat} (h : ∀ σ H Q, tF K W F σ H Q → te σ H Q) : ∀ D σ H, tS K W (fun P g δ => F g δ fun g1 ds => P.nx g1 (δ.set i (.dat (.list ds)))) D σ H → tAsg te (gName i) D σ H :=
  fun D σ H ⟨E, O, g, δ, P, R, f, kn, kr⟩ => h _ _ _ ⟨E, O, g, δ, _, R, f, fun g1 ds vs p H1 q R1 s1 n x1 =>
    kn O g1 _ _ _ q ((R1.grow (same_new n)).setD (dp_newL R1.there n x1)) (fun _ h => h) (s1.hid.trans (same_hid (same_new n)))⟩
theorem tAsgO {te : TE} {F : DL} {i : Nat} (h : ∀ σ H Q, tF K W F σ H Q → te σ H Q) : ∀ D σ H, tS K W (fun P g δ => F g δ fun g1 ds => P.nx g1 (δ.set i (.own ds))) D σ H → tAsg te (gName i) D σ H :=
  fun D σ H ⟨E, O, g, δ, P, R, f, kn, kr⟩ => h _ _ _ ⟨E, O, g, δ, _, R, f, fun g1 ds vs p H1 q R1 s1 n x1 =>
    kn _ g1 _ _ _ q (R1.fresh n ⟨p, vs, rfl, addO_self, upd_same, x1.keep (hid_add n)⟩) (fun _ h => addO_old h) (s1.hid.trans (hid_add n))⟩
theorem ds_setLc {y : Str} {py : Pos} {elt tg iter : Expr} {ifs : List Expr} {scope : Scope} {pos spos : Pos} {mt : DM} {Fi : DL} {Ft : DB} {Fe : DT} (i : Nat) (own : List (Str × Nat)) (m : Md X) (hN : X.N.Nodup) (hi : DI X W tg iter Fi) (ok : BlkOk X.N X.env.scope scope own)
    (hg : ∀ s H C cl fp, PG (blk2 X s H scope (compEnvC scope cl C X.env) fp) tg (tG X.K mt)) (ht : ∀ s H C cl fp, DTt (blk2 X s H scope (compEnvC scope cl C X.env) fp) W ifs Ft)
    (he : ∀ s H C cl fp, DE (blk2 X s H scope (compEnvC scope cl C X.env) fp) W elt Fe)
    (hsw : swapsWith (.ListComp elt [⟨tg, iter, ifs, 0⟩] scope pos) (some (.Name y py)) spos.line X.env = pure true) (hy : X.N[i]? = some y := by rfl) (hyl : X.env.scope.names.lookup y = some .local := by rfl) (hs : ∀ x, foldedSetIterable iter X.env x = pure x := by intro _; rfl) :
    DS X W (.Assign [.Name y py] (.ListComp elt [⟨tg, iter, ifs, 0⟩] scope pos) spos) (fun P g δ => Fi g δ fun g1 ds => compD mt (own.map (·.2)) Ft Fe (wipeD δ (own.map (·.2))) ds [] g1 fun g2 es => P.nx g2 (δ.set i (.dat (.list es)))) := by
  rcases m with ⟨hc, hp⟩ | ⟨_, hc⟩
  · have e := fun s H C cl fp => blk2_calm hp s H scope (compEnvC scope cl C X.env) fp
    exact ps_mono (ps_setLc (own := own) (i := i) hc hN hy hyl hsw (hi.1 hc) ok (fun s H C cl fp => e s H C cl fp ▸ hg s H C cl fp) (fun s H C cl fp => e s H C cl fp ▸ ht s H C cl fp) (fun s H C cl fp => e s H C cl fp ▸ he s H C cl fp) hs) (tAsgD (F := fun g δ P => Fi g δ fun g1 ds => compD mt (own.map (·.2)) Ft Fe (wipeD δ (own.map (·.2))) ds [] g1 P) tLc_of)
  · exact ps_mono (psH_lc (tt := tDb X.K W Ft) (te := tD X.K W Fe) (own := own) (i := i) hc hN hy hyl hsw (hi.2 hc) ok hg ht he hs) (tAsgD (F := fun g δ P => Fi g δ fun g1 ds => compD mt (own.map (·.2)) Ft Fe (wipeD δ (own.map (·.2))) ds [] g1 P) tLc_of)
theorem ds_setLcO {y : Str} {py : Pos} {elt tg iter : Expr} {ifs : List Expr} {scope : Scope} {pos spos : Pos} {mt : DM} {Fi : DL} {Ft : DB} {Fe : DT} (i : Nat) (own : List (Str × Nat)) (hc : X.calm = true) (hp : X.pn = []) (hN : X.N.Nodup) (hi : DI X W tg iter Fi) (ok : BlkOk X.N X.env.scope scope own)
    (hg : ∀ s H C cl fp, PG (blk2 X s H scope (compEnvC scope cl C X.env) fp) tg (tG X.K mt)) (ht : ∀ s H C cl fp, DTt (blk2 X s H scope (compEnvC scope cl C X.env) fp) W ifs Ft)
    (he : ∀ s H C cl fp, DE (blk2 X s H scope (compEnvC scope cl C X.env) fp) W elt Fe)
    (hsw : swapsWith (.ListComp elt [⟨tg, iter, ifs, 0⟩] scope pos) (some (.Name y py)) spos.line X.env = pure true) (hy : X.N[i]? = some y := by rfl) (hyl : X.env.scope.names.lookup y = some .local := by rfl) (hs : ∀ x, foldedSetIterable iter X.env x = pure x := by intro _; rfl) :
    DS X W (.Assign [.Name y py] (.ListComp elt [⟨tg, iter, ifs, 0⟩] scope pos) spos) (fun P g δ => Fi g δ fun g1 ds => compD mt (own.map (·.2)) Ft Fe (wipeD δ (own.map (·.2))) ds [] g1 fun g2 es => P.nx g2 (δ.set i (.own es))) := by
  have e := fun s H C cl fp => blk2_calm hp s H scope (compEnvC scope cl C X.env) fp
  exact ps_mono (ps_setLc (own := own) (i := i) hc hN hy hyl hsw (hi.1 hc) ok (fun s H C cl fp => e s H C cl fp ▸ hg s H C cl fp) (fun s H C cl fp => e s H C cl fp ▸ ht s H C cl fp) (fun s H C cl fp => e s H C cl fp ▸ he s H C cl fp) hs) (tAsgO (F := fun g δ P => Fi g δ fun g1 ds => compD mt (own.map (·.2)) Ft Fe (wipeD δ (own.map (·.2))) ds [] g1 P) tLc_of)

/-! ### promises over data -/
abbrev DSp := List PyData → (PyData → Prop) → Prop
def spD (K : PySem.W.Frag) (n : Nat) (F : DSp) : Sp := fun vs H Q _ => vs.length = n ∧ ∃ O ds P, (∀ a, O a = true → H a ≠ none) ∧ DpAll K (hid O H) vs ds ∧ F ds P ∧ ∀ d v H', P d → Same H H' → Dp K (hid O H') v d → Q v H'
/-- room in both modes -/
def Rm (X : Cx) (k : Nat) : Prop := RoomH k X.A ∧ (X.calm = true → X.A.handled = none)
theorem Rm.room {k : Nat} (r : Rm X k) (h : X.calm = true) : Room k X.A := ⟨r.2 h, r.1.dp, r.1.un⟩
theorem Rm.mono {j k : Nat} (r : Rm X k) (h : j ≤ k) : Rm X j := ⟨r.1.mono h, r.2⟩
/-- a def, calm calls only; both modes -/
structure Ca (P : Program) (w : World) (K : PySem.W.Frag) (mg : Str → Option Value) (base : Heap) (k : Nat) (x : Str) (sp : Sp) : Prop where
  ex : ∃ (f : Addr) (fd : FuncData) (ps : List Str), FnOk P w K mg base CX0 k f fd ps sp ∧ mg x = some (.ref f) ∧ PySem.W.keepIn K (.ref f) = true ∧ Binds K fd ps []
structure Ca2 (P : Program) (w : World) (K : PySem.W.Frag) (mg : Str → Option Value) (base : Heap) (k : Nat) (x : Str) (sp : Sp) : Prop where
  ex : ∃ (f : Addr) (fd : FuncData) (ps : List Str), FnOk P w K mg base CX0 k f fd ps sp ∧ FnH P w K mg base CX0 k f fd ps sp ∧ mg x = some (.ref f) ∧ PySem.W.keepIn K (.ref f) = true ∧ Binds K fd ps []
theorem Ca2.ca {P : Program} {w : World} {mg : Str → Option Value} {base : Heap} {k : Nat} {x : Str} {sp : Sp} (c : Ca2 P w K mg base k x sp) : Ca P w K mg base k x sp :=
  let ⟨f, fd, ps, h1, _, h2, h3, h4⟩ := c.ex
  ⟨f, fd, ps, h1, h2, h3, h4⟩
theorem tCall_of {n : Nat} {F : DSp} {Fs : DL} {E : XK} : ∀ σ H Q, tD K W (fun g δ P => Fs g δ fun g1 ds => ds.length = n ∧ F ds (P g1)) σ H Q → tCall (spD K n F) [] E (tDl K W Fs) σ H Q :=
  fun σ H Q ⟨En, O, g, δ, P, R, f, k⟩ => ⟨En, O, g, δ, _, R, f, fun g1 ds vs H1 ⟨l, q⟩ R1 s1 x1 => by
    show spD K n F (vs ++ []) H1 Q E
    rw [List.append_nil]
    exact ⟨by rw [dpAll_len x1]; exact l, O, ds, P g1, R1.there, x1, q, fun d v H' p s x => k g1 d v H' p (R1.grow s) (s1.trans (.of s)) x⟩⟩
theorem de_call {x : Str} {p pos : Pos} {e : Expr} {es : List Expr} {Fs : DL} {n k j : Nat} {F : DSp} (c : Ca X.prog X.w X.K X.mg X.base k x (spD X.K n F)) (hr : Room j X.A) (hk : k ≤ j) (ha : DA X W (e :: es) Fs) (hg : Gl X x := by rfl)
    (hdb : (x == ("__debug__" : Str)) = false := by decide) (he : starEach (e :: es) X.env = (false, eval e X.env) :: starEach es X.env := by rfl) (hpl : (backTo pos (starEach es X.env)).any (·.1) = false := by rfl) :
    DE X W (.Call (.Name x p) (e :: es) [] pos) (fun g δ P => Fs g δ fun g1 ds => ds.length = n ∧ F ds (P g1)) := by
  obtain ⟨f, fd, ps, h1, h2, h3, h4⟩ := c.ex
  exact pe_mono (pe_call h1 (hr.mono hk) hg h2 h3 h4 .nil pass0 ha hdb he hpl) tCall_of
theorem de_call0 {x : Str} {p pos : Pos} {k j : Nat} {F : DSp} (c : Ca X.prog X.w X.K X.mg X.base k x (spD X.K 0 F)) (hr : Room j X.A) (hk : k ≤ j) (hg : Gl X x := by rfl)
    (hdb : (x == ("__debug__" : Str)) = false := by decide) : DE X W (.Call (.Name x p) [] [] pos) (fun g δ P => F [] (P g)) := by
  obtain ⟨f, fd, ps, h1, h2, h3, h4⟩ := c.ex
  refine pe_mono (pe_call0 h1 (hr.mono hk) hg h2 h3 h4 .nil pass0 hdb) fun σ H Q ⟨En, O, g, δ, P, R, f, k⟩ => ?_
  exact ⟨rfl, O, [], P g, R.there, .nil, f, fun d v H' p s x => k g d v H' p (R.grow s) (.of s) x⟩
theorem de_call2 {x : Str} {p pos : Pos} {e : Expr} {es : List Expr} {Fs : DL} {n k j : Nat} {F : DSp} (m : Md X) (c : Ca2 X.prog X.w X.K X.mg X.base k x (spD X.K n F)) (hr : Rm X j) (hk : k ≤ j) (ha : DA X W (e :: es) Fs) (hg : Gl X x := by rfl)
    (hdb : (x == ("__debug__" : Str)) = false := by decide) (he : starEach (e :: es) X.env = (false, eval e X.env) :: starEach es X.env := by rfl) (hpl : (backTo pos (starEach es X.env)).any (·.1) = false := by rfl) :
    DE X W (.Call (.Name x p) (e :: es) [] pos) (fun g δ P => Fs g δ fun g1 ds => ds.length = n ∧ F ds (P g1)) := by
  obtain ⟨f, fd, ps, h1, h1', h2, h3, h4⟩ := c.ex
  rcases m with ⟨hc, hp⟩ | ⟨_, hc⟩
  · exact pe_mono (pe_call h1 ((hr.room hc).mono hk) hg h2 h3 h4 .nil pass0 ha hdb he hpl) tCall_of
  · refine pe_mono (pe_callH (E := fun _ => E0) h1' (hr.1.mono hk) hc hg h2 h3 h4 (fun σ _ _ _ _ _ _ h => h.elim) ha hdb he hpl) fun σ H Q h => ?_
    have z := tCall_of (E := E0) σ H Q h
    refine (show tCallS (spD X.K n F) (fun _ => E0) (tDl X.K W Fs) σ H Q from ?_)
    obtain ⟨En, O, g, δ, P, R, f, k⟩ := h
    exact ⟨En, O, g, δ, _, R, f, fun g1 ds vs H1 ⟨l, q⟩ R1 s1 x1 => ⟨by rw [dpAll_len x1]; exact l, O, ds, P g1, R1.there, x1, q, fun d v H' p s x => k g1 d v H' p (R1.grow s) (s1.trans (.of s)) x⟩⟩
end

/-! ### a def's body -/
/-- the context of a def's body, in both modes -/
abbrev cx2 (P : Program) (w : World) (K : PySem.W.Frag) (mg : Str → Option Value) (base : Heap) (N : List Str) (qual : Str) (scope : Scope) (f : Addr) (cd : Value) (A : Around) (outer : List Env) (s : Shared) (H : Hp) (E : XK) (c : Bool) (pn : List (Addr × Obj)) : Cx :=
  { cxOf CX0 P w K mg base N qual scope f cd A outer s H E with calm := c, pn := pn }
def initD (N : List Str) (ds : List PyData) : List Sv := ds.map Sv.dat ++ List.replicate (N.length - ds.length) Sv.emp
theorem rel_start {K : PySem.W.Frag} {O : Own} {H : Hp} {N : List Str} {vs : List V} {ds : List PyData} (t : ∀ a, O a = true → H a ≠ none) (x : DpAll K (hid O H) vs ds) (hl : vs.length ≤ N.length) : Rel K none ⟨O, H⟩ O 0 H (L2.start N vs) (initD N ds) where
  len := by
    unfold L2.start initD
    rw [List.length_append, List.length_append, List.length_map, List.length_map, List.length_replicate, List.length_replicate, dpAll_len x]
  same := fun _ _ _ h => h
  sub := fun _ h => h
  new := fun _ h => .inl h
  there := t
  urn := fun _ h => nomatch h
  sl := fun i y h => by
    unfold initD at h
    by_cases hi : i < ds.length
    · rw [List.getElem?_append_left (by simpa using hi), List.getElem?_map] at h
      cases e : ds[i]? with
      | none => rw [e] at h; cases h
      | some d =>
        rw [e] at h
        cases h
        obtain ⟨v, h1, h2⟩ := dpAll_get2 x e
        refine ⟨some v, ?_, v, rfl, h2⟩
        unfold L2.start
        rw [List.getElem?_append_left (by rw [List.length_map, dpAll_len x]; exact hi), List.getElem?_map, h1]
        rfl
    · rw [List.getElem?_append_right (by simpa using hi), List.getElem?_replicate] at h
      split at h
      · rename_i q
        cases h
        refine ⟨none, ?_, trivial⟩
        unfold L2.start
        rw [List.getElem?_append_right (by rw [List.length_map, dpAll_len x]; omega), List.getElem?_replicate, List.length_map, dpAll_len x]
        rw [List.length_map] at q
        rw [if_pos q]
      · cases h
  own0 := fun i y a h ho => by
    unfold initD at h
    by_cases hi : i < ds.length
    · rw [List.getElem?_append_left (by simpa using hi), List.getElem?_map] at h
      cases e : ds[i]? with
      | none => rw [e] at h; cases h
      | some d => rw [e] at h; cases h; cases ho
    · rw [List.getElem?_append_right (by simpa using hi), List.getElem?_replicate] at h
      split at h
      · cases h; cases ho
      · cases h
  apart := fun i j y y' a n h h' ho => by
    unfold initD at h
    by_cases hi : i < ds.length
    · rw [List.getElem?_append_left (by simpa using hi), List.getElem?_map] at h
      cases e : ds[i]? with
      | none => rw [e] at h; cases h
      | some d => rw [e] at h; cases h; cases ho
    · rw [List.getElem?_append_right (by simpa using hi), List.getElem?_replicate] at h
      split at h
      · cases h; cases ho
      · cases h
theorem tS_start {K : PySem.W.Frag} {N : List Str} {n : Nat} {F : DSp} {G : DSt} (hn : n ≤ N.length) (pure_ : ∀ ds P, ds.length = n → F ds P → G ⟨fun _ _ => P .none, fun _ d => P d⟩ 0 (initD N ds)) {vs : List V} {H : Hp} {Q : VK} {E : XK} (h : spD K n F vs H Q E) :
    tS K none G { nx := fun _ H' => Q .non H', rt := Q } (L2.start N vs) H := by
  obtain ⟨l, O, ds, P, t, x, f, k⟩ := h
  refine ⟨⟨O, H⟩, O, 0, initD N ds, _, rel_start t x (by omega), pure_ ds P (by rw [← dpAll_len x]; exact l) f, fun O' g' δ' σ' H' p R' u s => ?_, fun g' d v H' p f' => ?_⟩
  · exact k .none .non H' p (fun a o q => R'.same a o (fun z => nomatch z) q) .non
  · exact k d v H' p (fun a o q => f'.same a o (fun z => nomatch z) q) f'.dat
section
variable {P : Program} {w : World} {K : PySem.W.Frag} {mg : Str → Option Value} {base : Heap} {x qual : Str} {params : Arguments} {body : List Stmt} {scope : Scope} {f : Addr} {fd : FuncData} {N ps : List Str} {k n : Nat} {F : DSp} {G : DSt}
theorem ca_of (Fd : FunD K x qual params body scope [] [] f fd) (S : FnScope N ps scope) (hps : ps.length = n) (hm : mg x = some (.ref f))
    (hbd : ∀ (kV doc pm : Value) (an : Option Addr) (cdv ct : Value) (us : List Value), us.length = ps.length → bindArgs (PySem.W.fnOf x qual params body scope .none kV doc pm an cdv ct) ⟨us, []⟩ = pure (ps.zip us))
    (hb : ∀ cdv A outer s H E, Room k (A.deeper (envOfC qual scope s.heap.objs.size f cdv)) → DSs (cx2 P w K mg base N qual scope f cdv A outer s H E true []) none body G)
    (pure_ : ∀ ds P, ds.length = n → F ds P → G ⟨fun _ _ => P .none, fun _ d => P d⟩ 0 (initD N ds)) : Ca P w K mg base (k + 1) x (spD K n F) := by
  have hn : n ≤ N.length := by have := congrArg List.length S.pre; rw [List.length_take] at this; omega
  refine ⟨f, fd, ps, Fd.ok S (fun vs H Q E h => h.1.trans hps.symm) (fun cdv A outer s H vs Q E hr h => ⟨_, hb cdv A outer s H E hr, tS_start hn pure_ h⟩), hm, Fd.kp, Fd.bindsN hbd⟩
theorem ca2_of (Fd : FunD K x qual params body scope [] [] f fd) (S : FnScope N ps scope) (hps : ps.length = n) (hm : mg x = some (.ref f))
    (hbd : ∀ (kV doc pm : Value) (an : Option Addr) (cdv ct : Value) (us : List Value), us.length = ps.length → bindArgs (PySem.W.fnOf x qual params body scope .none kV doc pm an cdv ct) ⟨us, []⟩ = pure (ps.zip us))
    (hb : ∀ cdv A outer s H E c pn, Md (cx2 P w K mg base N qual scope f cdv A outer s H E c pn) → Rm (cx2 P w K mg base N qual scope f cdv A outer s H E c pn) k → DSs (cx2 P w K mg base N qual scope f cdv A outer s H E c pn) none body G)
    (pure_ : ∀ ds P, ds.length = n → F ds P → G ⟨fun _ _ => P .none, fun _ d => P d⟩ 0 (initD N ds)) : Ca2 P w K mg base (k + 1) x (spD K n F) := by
  have hn : n ≤ N.length := by have := congrArg List.length S.pre; rw [List.length_take] at this; omega
  refine ⟨f, fd, ps, Fd.ok S (fun vs H Q E h => h.1.trans hps.symm) (fun cdv A outer s H vs Q E hr h => ⟨_, hb cdv A outer s H E true [] (.inl ⟨rfl, rfl⟩) ⟨roomH_of hr, fun _ => hr.hd⟩, tS_start hn pure_ h⟩), ?_, hm, Fd.kp, Fd.bindsN hbd⟩
  obtain ⟨oc, od, dV, kV, doc, pm, an, cdv, ct, osl, rfl, lk, hcd, _, _⟩ := Fd.ex
  exact fn_ofH lk hcd S (fun vs H Q E h => h.1.trans hps.symm) fun A outer s H vs Q E p hot hr h => ⟨_, hb cdv A outer s H E false [p] (.inr ⟨rfl, p, hot, List.mem_singleton_self _⟩) ⟨hr, fun z => by cases z⟩, tS_start hn pure_ h⟩
end
end Lk

set_option Elab.async false
set_option linter.all false
set_option maxRecDepth 100000
set_option maxHeartbeats 4000000
/-! lists and dicts of one's own -/
namespace Lk
open PySem PySem.Spec PyProof.Rows L2 L2H HotX LkHot
section
variable {X : Cx} {W : Option Addr} {K : PySem.W.Frag}
/-- a name's slot, as it stands -/
theorem sl_own {E : En} {O : Own} {g : Nat} {H : Hp} {σ : L2.St} {δ : List Sv} {i : Nat} {ds : List PyData} (R : Rel K W E O g H σ δ) (h : δ[i]? = some (.own ds)) : ∃ a vs, σ[i]? = some (some (.ref a)) ∧ O a = true ∧ H a = some (.lst vs) ∧ DpAll K (hid O H) vs ds := by
  obtain ⟨y, h1, a, vs, h2, h3⟩ := R.sl i _ h
  subst h2
  exact ⟨a, vs, h1, h3⟩
theorem sl_dic {E : En} {O : Own} {g : Nat} {H : Hp} {σ : L2.St} {δ : List Sv} {i : Nat} {ds : List (Int × PyData)} (R : Rel K W E O g H σ δ) (h : δ[i]? = some (.dic ds)) : ∃ a vs, σ[i]? = some (some (.ref a)) ∧ O a = true ∧ H a = some (.dK vs) ∧ Paired (fun (p : Key × V) (q : Int × PyData) => p.1 = .inl q.1 ∧ Dp K (hid O H) p.2 q.2) vs ds := by
  obtain ⟨y, h1, a, vs, h2, h3⟩ := R.sl i _ h
  subst h2
  exact ⟨a, vs, h1, h3⟩
theorem ext_own {E : En} {O : Own} {g : Nat} {H H' : Hp} {σ : L2.St} {δ : List Sv} {i : Nat} {x : Sv} {a : Addr} {o : HO} (R : Rel K W E O g H σ δ) (h : δ[i]? = some x) (ho : x.isOwn = true) (hs : σ[i]? = some (some (.ref a))) (e : Ext W O H H') (hH : H a = some o) : H' a = some o :=
  e.all a o (fun w => by
    have z := (R.own0 i x a h ho hs).2
    rw [(R.urn a w).1] at z; cases z) hH
section
variable {i : Nat} {x : Str} {p pos : Pos}
/-- x.append(e) -/
theorem ds_append {e : Expr} {F : DT} {apos cpos : Pos} (i : Nat) (h : DE X W e F) (hN : X.N[i]? = some x := by rfl) (hv : Vis X.env.scope x := by first | exact Or.inl rfl | exact Or.inr (Or.inl rfl) | exact Or.inr (Or.inr rfl)) (hd : (x == ("__debug__" : Str)) = false := by decide) (hcd : (x == ("__classdict__" : Str)) = false := by decide)
    (hbase : attributeBase (.Name x p) "append" X.env (eval (.Name x p) X.env) = eval (.Name x p) X.env := by rfl)
    (hfew : ((backTo cpos (starEach [e] X.env)).all (fun x => !x.1) && (backToKw cpos (keywordEach [] X.env)).all (fun x => x.1.isSome) && decide (([e] : List Expr).length + ([] : List Keyword).length + (if ([] : List Keyword).isEmpty then 0 else 1) < 30)) = true := by rfl)
    (hline : (apos.endLine == cpos.line) = true := by rfl) (hs : starEach [e] X.env = (false, eval e X.env) :: starEach [] X.env := by rfl) (hplain : (backTo cpos (starEach [] X.env)).any (·.1) = false := by rfl)
    (hsw : swapsWith (.Call (.Attribute (.Name x p) "append" apos) [e] [] cpos) none pos.line X.env = pure false := by rfl) :
    DS X W (.Expr (.Call (.Attribute (.Name x p) "append" apos) [e] [] cpos) pos) (fun P g δ => ∃ ds, δ[i]? = some (.own ds) ∧ F g δ fun g1 d => ds.length < sizeLine ∧ P.nx g1 (δ.set i (.own (ds ++ [d])))) := by
  refine ps_mono (ps_expr (pe_bm PySem.F.plainAttrs_list PySem.F.slot_list_append PySem.F.type_list_append mt_append (pe_var hN hv hd hcd) (pa_cons h pa_nil hs) hbase hfew hline hs hplain) hsw) fun D σ H ⟨E, O, g, δ, P, R, ⟨ds, e, f⟩, kn, kr⟩ => ?_
  obtain ⟨a, vs, h1, h2, h3, h4⟩ := sl_own R e
  refine ⟨.ref a, h1, .inl ⟨rfl, vs, SqL.of h3⟩, E, O, g, δ, _, R, f, fun g1 d v H1 ⟨l, q⟩ R1 s1 x1 => ?_⟩
  have h3' := ext_own R e rfl h1 s1 h3
  refine ⟨a, vs, v, rfl, rfl, h3', by rw [dpAll_len h4]; exact l, kn O g1 _ _ _ q (R1.write e rfl h1 h2 ⟨a, vs ++ [v], rfl, h2, upd_same, ?_⟩ rfl) (fun _ h => h) ?_⟩
  · rw [hid_upd h2]
    exact dpAll_app (h4.keep s1.hid) (dpAll_one x1)
  · rw [hid_upd h2]
    exact s1.hid
/-- y = x.pop() -/
theorem ds_pop {y : Str} {p2 apos cpos : Pos} (i j : Nat) (hNn : X.N.Nodup) (hij : i ≠ j) (hN : X.N[i]? = some x := by rfl) (hv : Vis X.env.scope x := by first | exact Or.inl rfl | exact Or.inr (Or.inl rfl) | exact Or.inr (Or.inr rfl)) (hd : (x == ("__debug__" : Str)) = false := by decide) (hcd : (x == ("__classdict__" : Str)) = false := by decide)
    (hy : X.N[j]? = some y := by rfl) (hx : Loc X.env.scope y := by first | exact Or.inl rfl | exact Or.inr rfl) (hf : X.fn y = true ∨ X.env.scope.names.lookup y = some .local := by first | exact .inl rfl | exact .inr rfl | assumption)
    (hbase : attributeBase (.Name x p) "pop" X.env (eval (.Name x p) X.env) = eval (.Name x p) X.env := by rfl) (hline : (apos.endLine == cpos.line) = true := by rfl)
    (hs : swapsWith (.Call (.Attribute (.Name x p) "pop" apos) [] [] cpos) (some (.Name y p2)) pos.line X.env = pure false := by rfl) :
    DS X W (.Assign [.Name y p2] (.Call (.Attribute (.Name x p) "pop" apos) [] [] cpos) pos) (fun P g δ => ∃ ds z, δ[i]? = some (.own (ds ++ [z])) ∧ P.nx g ((δ.set i (.own ds)).set j (.dat z))) := by
  refine ps_mono (ps_set hNn hy hx (pe_bm0 PySem.F.plainAttrs_list PySem.F.slot_list_pop PySem.F.type_list_pop mt_pop (pe_var hN hv hd hcd) hbase hline) hs hf) fun D σ H ⟨E, O, g, δ, P, R, ⟨ds, z, e, q⟩, kn, kr⟩ => ?_
  obtain ⟨a, vs, h1, h2, h3, h4⟩ := sl_own R e
  have hl := dpAll_len h4
  rw [List.length_append] at hl
  have hz : (ds ++ [z])[vs.length - 1]? = some z := by
    have e1 : vs.length - 1 = ds.length := by simp only [List.length_singleton] at hl; omega
    rw [e1]; simp
  obtain ⟨v, k1, k2⟩ := dpAll_get2 h4 hz
  refine ⟨.ref a, h1, .inl ⟨rfl, vs, SqL.of h3⟩, a, vs, v, rfl, rfl, h3, k1, kn O g _ _ _ q ((R.write (x := .own ds) e rfl h1 h2 ⟨a, vs.dropLast, rfl, h2, upd_same, ?_⟩ rfl).setD ?_) (fun _ h => h) ?_⟩
  · rw [hid_upd h2]
    have z2 := dpAll_take ds.length h4
    have e2 : (ds ++ [z]).take ds.length = ds := by simp
    have e3 : vs.take ds.length = vs.dropLast := by
      rw [List.dropLast_eq_take]
      congr 1
      simp only [List.length_singleton] at hl; omega
    rw [e2, e3] at z2
    exact z2
  · rw [hid_upd h2]
    exact k2
  · rw [hid_upd h2]
    exact Same.refl _
/-- x[e] = v, x a list of one's own -/
theorem ds_setItem {b e : Expr} {Fb F : DT} {p2 : Pos} (i : Nat) (hv : DE X W e F) (hb : DE X W b Fb) (hN : X.N[i]? = some x := by rfl) (hvs : Vis X.env.scope x := by first | exact Or.inl rfl | exact Or.inr (Or.inl rfl) | exact Or.inr (Or.inr rfl)) (hd : (x == ("__debug__" : Str)) = false := by decide) (hcd : (x == ("__classdict__" : Str)) = false := by decide)
    (has : ∀ v, assign (.Subscript (.Name x p) b p2) X.env v = (do
      let ov ← holding [v] (eval (.Name x p) X.env)
      let iv ← holding [v, ov] (eval b X.env)
      standAt p2
      holding [v, ov, iv] (setItem ov iv v)
      release [v, ov, iv] []) := by intro _; rfl)
    (hs : swapsWithSole [.Subscript (.Name x p) b p2] e pos.line X.env = pure false := by rfl) (hw : swappedStores [.Subscript (.Name x p) b p2] e X.env = pure none := by rfl) :
    DS X W (.Assign [.Subscript (.Name x p) b p2] e pos) (fun P g δ => ∃ ds, δ[i]? = some (.own ds) ∧ F g δ fun g1 d => Fb g1 δ fun g2 k => ∃ n j, k = .int n ∧ ixN ds.length n = some j ∧ P.nx g2 (δ.set i (.own (ds.set j d)))) := by
  refine ps_mono (ps_asg hv (pg_sub (pe_var hN hvs hd hcd) hb set_list has) hs hw) fun D σ H ⟨E, O, g, δ, P, R, ⟨ds, e, f⟩, kn, kr⟩ => ⟨E, O, g, δ, _, R, f, fun g1 d v H1 f1 R1 s1 x1 => ?_⟩
  obtain ⟨a, vs, h1, h2, h3, h4⟩ := sl_own R e
  refine ⟨.ref a, h1, E, O, g1, δ, _, R1, f1, fun g2 k v2 H2 ⟨n, j, e2, e3, q⟩ R2 s2 x2 => ?_⟩
  subst e2
  cases x2
  have s12 := s1.trans s2
  refine ⟨a, vs, n, j, rfl, rfl, ext_own R e rfl h1 s12 h3, by rw [dpAll_len h4]; exact e3, kn O g2 _ _ _ q (R2.write e rfl h1 h2 ⟨a, vs.set j v, rfl, h2, upd_same, ?_⟩ rfl) (fun _ h => h) ?_⟩
  · rw [hid_upd h2]
    exact dpAll_set (x1.keep s2.hid) j (h4.keep s12.hid)
  · rw [hid_upd h2]
    exact s12.hid
/-! ### a list of one's own, read -/
/-- len(x) -/
theorem de_lenO {q2 : Pos} {fx : Str} (i : Nat) (hm : X.mg fx = none) (hbt : bootBuiltins fx = some (.builtin "len") := by decide +kernel) (hg : Gl X fx := by rfl) (hn : fx ≠ "__name__" := by decide) (hdb : (fx == ("__debug__" : Str)) = false := by decide)
    (hN : X.N[i]? = some x := by rfl) (hv : Vis X.env.scope x := by first | exact Or.inl rfl | exact Or.inr (Or.inl rfl) | exact Or.inr (Or.inr rfl)) (hd : (x == ("__debug__" : Str)) = false := by decide) (hcd : (x == ("__classdict__" : Str)) = false := by decide)
    (he : starEach [.Name x p] X.env = (false, eval (.Name x p) X.env) :: starEach [] X.env := by rfl) (hpl : (backTo pos (starEach [] X.env)).any (·.1) = false := by rfl) :
    DE X W (.Call (.Name fx q2) [.Name x p] [] pos) (fun g δ P => ∃ ds, δ[i]? = some (.own ds) ∧ P g (.int (ds.length : Nat))) :=
  pe_mono (pe_callB call_len hg hm hbt (pa_cons (pe_var hN hv hd hcd) pa_nil he) (hn := hn) (hdb := hdb) (he := he) (hpl := hpl)) (tD_val fun E O g δ P σ H R ⟨ds, e, q⟩ => by
    obtain ⟨a, vs, h1, h2, h3, h4⟩ := sl_own R e
    exact ⟨_, .int (ds.length : Nat), H, q, Same.refl _, .int _, fun Q k => ⟨.ref a, h1, .ref a, ds.length, rfl, .inl ⟨vs, SqL.of h3, (dpAll_len h4).symm⟩, k⟩⟩)
/-- x[e] -/
theorem de_ixO {b : Expr} {Fb : DT} (i : Nat) (hb : DE X W b Fb) (hN : X.N[i]? = some x := by rfl) (hv : Vis X.env.scope x := by first | exact Or.inl rfl | exact Or.inr (Or.inl rfl) | exact Or.inr (Or.inr rfl)) (hd : (x == ("__debug__" : Str)) = false := by decide) (hcd : (x == ("__classdict__" : Str)) = false := by decide)
    (hs : PlainIx b := by exact fun _ _ => rfl) : DE X W (.Subscript (.Name x p) b pos) (fun g δ P => ∃ ds, δ[i]? = some (.own ds) ∧ Fb g δ fun g1 k => ∃ n z, k = .int n ∧ atI ds n = some z ∧ P g1 z) :=
  pe_mono (pe_ix ix_seq (pe_var hN hv hd hcd) hb hs) fun σ H Q ⟨E, O, g, δ, P, R, ⟨ds, e, f⟩, k⟩ => by
    obtain ⟨a, vs, h1, h2, h3, h4⟩ := sl_own R e
    refine ⟨.ref a, h1, E, O, g, δ, _, R, f, fun g1 d v H1 ⟨n, z, e1, e2, q⟩ R1 s1 x1 => ?_⟩
    subst e1
    cases x1
    obtain ⟨w, k1, k2⟩ := at_dp (h4.keep s1.hid) e2
    exact .inl ⟨a, vs, n, w, rfl, rfl, SqL.of (ext_own R e rfl h1 s1 h3), k1, k g1 z w H1 q R1 s1 k2⟩
/-- a test: e in x, e not in x; ints -/
theorem dt_inO {neg : Bool} {op : CmpOp} {b : Expr} {Fb : DT} (i : Nat) (ho : OpR X (compareOp op) (rIn X.K neg)) (hb : DE X W b Fb) (hN : X.N[i]? = some x := by rfl) (hv : Vis X.env.scope x := by first | exact Or.inl rfl | exact Or.inr (Or.inl rfl) | exact Or.inr (Or.inr rfl)) (hd : (x == ("__debug__" : Str)) = false := by decide) (hcd : (x == ("__classdict__" : Str)) = false := by decide)
    (hm : behindInMarks op (.Name x p) = false := by first | exact nomark _ | rfl) :
    DTs X W (.Compare b [op] [.Name x p] pos) (fun g δ P => Fb g δ fun g1 d => ∃ (k : Int) (ns : List Int), d = .int k ∧ δ[i]? = some (.own (ns.map PyData.int)) ∧ P g1 (if neg then !decide (k ∈ ns) else decide (k ∈ ns))) :=
  pt_mono (pt_cmpR ho hb (pe_var hN hv hd hcd) hm) fun σ H Q ⟨E, O, g, δ, P, R, f, k⟩ => ⟨E, O, g, δ, _, R, f, fun g1 d v H1 ⟨n, ns, e1, e, q⟩ R1 s1 x1 => by
    subst e1
    cases x1
    obtain ⟨a, vs, h1, h2, h3, h4⟩ := sl_own R1 e
    have e2 := dpAll_ints ns h4
    subst e2
    refine ⟨.ref a, h1, a, _, rfl, .inl (SqL.of h3), rfl, flat_ints ns, _, rfl, ?_⟩
    rw [inV_ints]
    exact k g1 _ H1 q R1 s1⟩
/-- tuple(x) -/
theorem de_tupO {q2 : Pos} {fx : Str} (i : Nat) (hm : X.mg fx = none) (hbt : bootBuiltins fx = some (.type "tuple") := by decide +kernel) (hg : Gl X fx := by rfl) (hn : fx ≠ "__name__" := by decide) (hdb : (fx == ("__debug__" : Str)) = false := by decide)
    (hN : X.N[i]? = some x := by rfl) (hv : Vis X.env.scope x := by first | exact Or.inl rfl | exact Or.inr (Or.inl rfl) | exact Or.inr (Or.inr rfl)) (hd : (x == ("__debug__" : Str)) = false := by decide) (hcd : (x == ("__classdict__" : Str)) = false := by decide)
    (he : starEach [.Name x p] X.env = (false, eval (.Name x p) X.env) :: starEach [] X.env := by rfl) (hpl : (backTo pos (starEach [] X.env)).any (·.1) = false := by rfl) :
    DE X W (.Call (.Name fx q2) [.Name x p] [] pos) (fun g δ P => ∃ ds, δ[i]? = some (.own ds) ∧ P g (.tuple ds)) :=
  pe_mono (pe_callTy call_tuple_of hg hm hbt (pa_cons (pe_var hN hv hd hcd) pa_nil he) (hn := hn) (hdb := hdb) (he := he) (hpl := hpl)) fun σ H Q ⟨E, O, g, δ, P, R, ⟨ds, e, q⟩, k⟩ => by
    obtain ⟨a, vs, h1, h2, h3, h4⟩ := sl_own R e
    exact ⟨.ref a, h1, a, vs, rfl, .inl ⟨SqL.of h3, fun l n => k g _ _ _ q (R.grow (same_new n)) (.of (same_new n)) (dp_newT R.there n h4)⟩⟩
/-- x[::-1] -/
theorem df_revO {k : Nat} {p1 p2 p3 : Pos} (i : Nat) (hN : X.N[i]? = some x := by rfl) (hv : Vis X.env.scope x := by first | exact Or.inl rfl | exact Or.inr (Or.inl rfl) | exact Or.inr (Or.inr rfl)) (hd : (x == ("__debug__" : Str)) = false := by decide) (hcd : (x == ("__classdict__" : Str)) = false := by decide) :
    DF X W (.Subscript (.Name x p) (.Slice none none (some (.UnaryOp .USub (.Constant (.int 1) k p1) p2)) p3) pos) (fun g δ P => ∃ ds, δ[i]? = some (.own ds) ∧ P g ds.reverse) :=
  pe_mono (pe_revL (pe_var hN hv hd hcd)) fun σ H Q ⟨E, O, g, δ, P, R, ⟨ds, e, q⟩, k⟩ => by
    obtain ⟨a, vs, h1, h2, h3, h4⟩ := sl_own R e
    exact ⟨.ref a, h1, a, vs, rfl, SqL.of h3, fun l n => k g _ _ l H q R .refl n (dpAll_rev h4)⟩
/-- sorted(x), ints -/
theorem df_sortO {q2 : Pos} {fx : Str} (i : Nat) (hm : X.mg fx = none) (hbt : bootBuiltins fx = some (.builtin "sorted") := by decide +kernel) (hg : Gl X fx := by rfl) (hn : fx ≠ "__name__" := by decide) (hdb : (fx == ("__debug__" : Str)) = false := by decide)
    (hN : X.N[i]? = some x := by rfl) (hv : Vis X.env.scope x := by first | exact Or.inl rfl | exact Or.inr (Or.inl rfl) | exact Or.inr (Or.inr rfl)) (hd : (x == ("__debug__" : Str)) = false := by decide) (hcd : (x == ("__classdict__" : Str)) = false := by decide)
    (he : starEach [.Name x p] X.env = (false, eval (.Name x p) X.env) :: starEach [] X.env := by rfl) (hpl : (backTo pos (starEach [] X.env)).any (·.1) = false := by rfl) :
    DF X W (.Call (.Name fx q2) [.Name x p] [] pos) (fun g δ P => ∃ ns : List Int, δ[i]? = some (.own (ns.map PyData.int)) ∧ ∀ ns' : List Int, ns'.Perm ns → ns'.Pairwise (· ≤ ·) → P g (ns'.map PyData.int)) :=
  pe_mono (pe_callB cr_sortedI hg hm hbt (pa_cons (pe_var hN hv hd hcd) pa_nil he) (hn := hn) (hdb := hdb) (he := he) (hpl := hpl)) fun σ H Q ⟨E, O, g, δ, P, R, ⟨ns, e, q⟩, k⟩ => by
    obtain ⟨a, vs, h1, h2, h3, h4⟩ := sl_own R e
    have e2 := dpAll_ints ns h4
    subst e2
    exact ⟨.ref a, h1, a, ns, rfl, SqL.of h3, fun ns' p hp hw n => k g _ _ p H (q ns' hp hw) R .refl n (ints_dp ns')⟩
end
/-! ### dicts of one's own, int keys -/
def lookD (kvs : List (Int × PyData)) (k : Int) : Option PyData := (kvs.find? fun kv => decide (kv.1 = k)).map (·.2)
def putK2 (kvs : List (Int × PyData)) (k : Int) (d : PyData) : List (Int × PyData) :=
  if (kvs.any fun kv => decide (kv.1 = k)) = true then kvs.map (fun kv => if kv.1 = k then (kv.1, d) else kv) else kvs ++ [(k, d)]
section
variable {G : Hp}
abbrev Dkv (K : PySem.W.Frag) (G : Hp) (vs : List (Key × V)) (kvs : List (Int × PyData)) : Prop := Paired (fun (p : Key × V) (q : Int × PyData) => p.1 = .inl q.1 ∧ Dp K G p.2 q.2) vs kvs
theorem dkv_look {k : Int} {d : PyData} : ∀ {vs : List (Key × V)} {kvs : List (Int × PyData)}, Dkv K G vs kvs → lookD kvs k = some d → ∃ v, valV vs (.inl k) = some v ∧ Dp K G v d
  | _, _, .nil, h => by cases h
  | (a, v) :: vs, (b, e) :: kvs, .cons h t, q => by
    have ea : a = .inl b := h.1
    subst ea
    by_cases z : b = k
    · subst z
      have q' : e = d := by simpa [lookD, List.find?_cons] using q
      subst q'
      exact ⟨v, valV_pos rfl, h.2⟩
    · have q' : lookD kvs k = some d := by simpa [lookD, List.find?_cons, z] using q
      obtain ⟨w, h1, h2⟩ := dkv_look t q'
      exact ⟨w, by rw [valV_neg (fun c => z (Sum.inl.inj c))]; exact h1, h2⟩
theorem dkv_any {k : Int} : ∀ {vs : List (Key × V)} {kvs : List (Int × PyData)}, Dkv K G vs kvs → (vs.any fun kv => decide (kv.1 = Sum.inl k)) = kvs.any fun kv => decide (kv.1 = k)
  | _, _, .nil => rfl
  | (a, v) :: vs, (b, e) :: kvs, .cons h t => by
    have ea : a = .inl b := h.1
    subst ea
    rw [List.any_cons, List.any_cons, dkv_any t]
    congr 1
    by_cases z : b = k
    · subst z; simp
    · have z' : ¬ (Sum.inl b : Key) = Sum.inl k := fun c => z (Sum.inl.inj c)
      rw [decide_eq_false z, decide_eq_false z']
theorem dkv_map {k : Int} {v : V} {d : PyData} (x : Dp K G v d) : ∀ {vs : List (Key × V)} {kvs : List (Int × PyData)}, Dkv K G vs kvs → Dkv K G (vs.map fun kv => if kv.1 = Sum.inl k then (kv.1, v) else kv) (kvs.map fun kv => if kv.1 = k then (kv.1, d) else kv)
  | _, _, .nil => .nil
  | (a, u) :: vs, (b, e) :: kvs, .cons h t => by
    have ea : a = .inl b := h.1
    subst ea
    refine .cons ?_ (dkv_map x t)
    by_cases z : b = k
    · subst z
      simp [x]
    · have z' : ¬ (Sum.inl b : Key) = Sum.inl k := fun c => z (Sum.inl.inj c)
      simp only [if_neg z, if_neg z']
      exact ⟨trivial, h.2⟩
theorem dkv_put {k : Int} {v : V} {d : PyData} (x : Dp K G v d) {vs : List (Key × V)} {kvs : List (Int × PyData)} (h : Dkv K G vs kvs) : Dkv K G (putK vs (.inl k) v) (putK2 kvs k d) := by
  unfold putK putK2
  rw [dkv_any h]
  by_cases z : (kvs.any fun kv => decide (kv.1 = k)) = true
  · rw [if_pos z, if_pos z]
    exact dkv_map x h
  · rw [if_neg z, if_neg z]
    exact paired_app h (.cons ⟨rfl, x⟩ .nil)
theorem dkv_len {vs : List (Key × V)} {kvs : List (Int × PyData)} (h : Dkv K G vs kvs) : vs.length = kvs.length := Paired.length h
end
theorem set_dict (hu : X.A.units + 1 < cLine) : PSet X (fun o i v H Q => ∃ a H', o = .ref a ∧ DPut H a i v H' ∧ Q H') := fun pins s σ H o i v ov iv u Q I ro ri rv ⟨a, H', e, g, q⟩ => by
  subst e
  cases ro
  exact d_setItem hu I g ri rv fun s' I' => ⟨H', I', q⟩
/-- x[e], x a dict -/
theorem de_dgetO {x : Str} {p pos : Pos} {b : Expr} {Fb : DT} (i : Nat) (hu : X.A.units + 1 < cLine) (hb : DE X W b Fb) (hN : X.N[i]? = some x := by rfl) (hv : Vis X.env.scope x := by first | exact Or.inl rfl | exact Or.inr (Or.inl rfl) | exact Or.inr (Or.inr rfl)) (hd : (x == ("__debug__" : Str)) = false := by decide) (hcd : (x == ("__classdict__" : Str)) = false := by decide)
    (hs : NoSl b := by exact fun _ _ => rfl) : DE X W (.Subscript (.Name x p) b pos) (fun g δ P => ∃ kvs, δ[i]? = some (.dic kvs) ∧ Fb g δ fun g1 k => ∃ n z, k = .int n ∧ lookD kvs n = some z ∧ P g1 z) :=
  pe_mono (pe_dget hu (pe_var hN hv hd hcd) hb hs) fun σ H Q ⟨E, O, g, δ, P, R, ⟨kvs, e, f⟩, k⟩ => by
    obtain ⟨a, vs, h1, h2, h3, h4⟩ := sl_dic R e
    refine ⟨.ref a, h1, E, O, g, δ, _, R, f, fun g1 d v H1 ⟨n, z, e1, e2, q⟩ R1 s1 x1 => ?_⟩
    subst e1
    cases x1
    obtain ⟨w, k1, k2⟩ := dkv_look (Paired.mapP h4 fun p q z => ⟨z.1, z.2.keep s1.hid⟩) e2
    refine ⟨a, w, rfl, ?_, k g1 z w H1 q R1 s1 k2⟩
    rw [← k1]
    exact DGet.k (k := .inl n) (ext_own R e rfl h1 s1 h3)
/-- len(x), x a dict -/
theorem de_lenD {x fx : Str} {p q2 pos : Pos} (i : Nat) (hm : X.mg fx = none) (hbt : bootBuiltins fx = some (.builtin "len") := by decide +kernel) (hg : Gl X fx := by rfl) (hn : fx ≠ "__name__" := by decide) (hdb : (fx == ("__debug__" : Str)) = false := by decide)
    (hN : X.N[i]? = some x := by rfl) (hv : Vis X.env.scope x := by first | exact Or.inl rfl | exact Or.inr (Or.inl rfl) | exact Or.inr (Or.inr rfl)) (hd : (x == ("__debug__" : Str)) = false := by decide) (hcd : (x == ("__classdict__" : Str)) = false := by decide)
    (he : starEach [.Name x p] X.env = (false, eval (.Name x p) X.env) :: starEach [] X.env := by rfl) (hpl : (backTo pos (starEach [] X.env)).any (·.1) = false := by rfl) :
    DE X W (.Call (.Name fx q2) [.Name x p] [] pos) (fun g δ P => ∃ kvs, δ[i]? = some (.dic kvs) ∧ P g (.int (kvs.length : Nat))) :=
  pe_mono (pe_callB call_lenD hg hm hbt (pa_cons (pe_var hN hv hd hcd) pa_nil he) (hn := hn) (hdb := hdb) (he := he) (hpl := hpl)) (tD_val fun E O g δ P σ H R ⟨kvs, e, q⟩ => by
    obtain ⟨a, vs, h1, h2, h3, h4⟩ := sl_dic R e
    refine ⟨_, .int (kvs.length : Nat), H, q, Same.refl _, .int _, fun Q k => ⟨.ref a, h1, a, vs, rfl, h3, ?_⟩⟩
    rw [dkv_len h4]
    exact k)
/-! ### targets that may be items -/
abbrev DTg := PyData → Nat → List Sv → (Nat → List Sv → Prop) → Prop
def tW (K : PySem.W.Frag) (W : Option Addr) (T : DTg) : TG := fun v σ H Q => ∃ E O g δ d P, Rel K W E O g H σ δ ∧ Dp K (hid O H) v d ∧ T d g δ P ∧ ∀ g' δ' σ' H', P g' δ' → Rel K W E O g' H' σ' δ' → Same (hid O H) (hid O H') → Q σ' H'
def tWs (K : PySem.W.Frag) (W : Option Addr) (n : Nat) (T : List PyData → Nat → List Sv → (Nat → List Sv → Prop) → Prop) : TGs := fun vs σ H Q => ∃ E O g δ ds P, Rel K W E O g H σ δ ∧ DpAll K (hid O H) vs ds ∧ T ds g δ P ∧ ∀ g' δ' σ' H', P g' δ' → Rel K W E O g' H' σ' δ' → Same (hid O H) (hid O H') → Q σ' H'
theorem dgw_name (i : Nat) {x : Str} {pos : Pos} (hN : X.N.Nodup) (hi : X.N[i]? = some x := by rfl) (hx : Loc X.env.scope x := by first | exact Or.inl rfl | exact Or.inr rfl)
    (hf : X.fn x = true ∨ X.env.scope.names.lookup x = some .local := by first | exact .inl rfl | exact .inr rfl | assumption) : PG X (.Name x pos) (tW X.K W fun d g δ P => P g (δ.set i (.dat d))) :=
  pg_mono (pg_name hN hi hx hf) fun v σ H Q ⟨E, O, g, δ, d, P, R, x, p, k⟩ => k g _ _ H p (R.setD x) (Same.refl _)
theorem dgw_dic {x : Str} {p pos : Pos} {b : Expr} {Fb : DT} (i : Nat) (hu : X.A.units + 1 < cLine) (hb : DE X W b Fb) (hN : X.N[i]? = some x := by rfl) (hv : Vis X.env.scope x := by first | exact Or.inl rfl | exact Or.inr (Or.inl rfl) | exact Or.inr (Or.inr rfl)) (hd : (x == ("__debug__" : Str)) = false := by decide) (hcd : (x == ("__classdict__" : Str)) = false := by decide)
    (has : ∀ v, assign (.Subscript (.Name x p) b pos) X.env v = (do
      let ov ← holding [v] (eval (.Name x p) X.env)
      let iv ← holding [v, ov] (eval b X.env)
      standAt pos
      holding [v, ov, iv] (setItem ov iv v)
      release [v, ov, iv] []) := by intro _; rfl) :
    PG X (.Subscript (.Name x p) b pos) (tW X.K W fun d g δ P => ∃ kvs, δ[i]? = some (.dic kvs) ∧ Fb g δ fun g1 k => ∃ n, k = .int n ∧ kvs.length < 1000 ∧ P g1 (δ.set i (.dic (putK2 kvs n d)))) :=
  pg_mono (pg_sub (pe_var hN hv hd hcd) hb (set_dict hu) has) fun v σ H Q ⟨E, O, g, δ, d, P, R, x, ⟨kvs, e, f⟩, k⟩ => by
    obtain ⟨a, vs, h1, h2, h3, h4⟩ := sl_dic R e
    refine ⟨.ref a, h1, E, O, g, δ, _, R, f, fun g1 d1 v1 H1 ⟨n, e1, l, q⟩ R1 s1 x1 => ?_⟩
    subst e1
    cases x1
    have h4' : Dkv X.K (hid O H1) vs kvs := Paired.mapP h4 fun p q z => ⟨z.1, z.2.keep s1.hid⟩
    refine ⟨a, _, rfl, DPut.k (k := .inl n) (ext_own R e rfl h1 s1 h3) ?_, k g1 _ _ _ q (R1.write e rfl h1 h2 ⟨a, _, rfl, h2, upd_same, ?_⟩ rfl) ?_⟩
    · rw [dkv_len h4]
      have : sizeLine = 16777216 := sizeLine_eq
      omega
    · rw [hid_upd h2]
      exact dkv_put (x.keep s1.hid) h4'
    · rw [hid_upd h2]
      exact s1.hid
theorem dgws_nil {n : Nat} : PGs X [] (tWs X.K W n fun ds g δ P => ds = [] ∧ P g δ) :=
  pgs_mono pgs_nil fun vs σ H Q ⟨E, O, g, δ, ds, P, R, x, ⟨e, p⟩, k⟩ => by
    subst e
    cases x
    exact ⟨rfl, k g δ σ H p R (Same.refl _)⟩
theorem dgws_cons {e : Expr} {es : List Expr} {T : DTg} {n : Nat} {Ts : List PyData → Nat → List Sv → (Nat → List Sv → Prop) → Prop} (h1 : PG X e (tW X.K W T)) (h2 : PGs X es (tWs X.K W n Ts)) (hs : (assignEach (e :: es) X.env).map (·.2) = assign e X.env :: (assignEach es X.env).map (·.2) := by rfl) :
    PGs X (e :: es) (tWs X.K W n fun ds g δ P => ∃ d r, ds = d :: r ∧ T d g δ fun g1 δ1 => Ts r g1 δ1 P) :=
  pgs_mono (pgs_cons h1 h2 hs) fun vs σ H Q ⟨E, O, g, δ, ds, P, R, x, ⟨d, r, e, f⟩, k⟩ => by
    subst e
    cases x with
    | @cons v vs _ _ x1 x2 =>
      exact ⟨v, vs, rfl, E, O, g, δ, d, _, R, x1, f, fun g1 δ1 σ1 H1 p1 R1 s1 => ⟨E, O, g1, δ1, r, P, R1, x2.keep s1, p1, fun g2 δ2 σ2 H2 p2 R2 s2 => k g2 δ2 σ2 H2 p2 R2 (s1.trans s2)⟩⟩
theorem dgw_tup {es : List Expr} {k : Nat} {pos : Pos} {n : Nat} {Ts : List PyData → Nat → List Sv → (Nat → List Sv → Prop) → Prop} (hc : X.calm = true) (h : PGs X es (tWs X.K W n Ts))
    (hn : (assignEach es X.env).length = n := by rfl) (hst : (assignEach es X.env).findIdx? (·.1) = none := by rfl) : PG X (.Tuple es k pos) (tW X.K W fun d g δ P => ∃ ds, d = .tuple ds ∧ ds.length = n ∧ Ts ds g δ P) :=
  pg_mono (pg_tup hc h hn hst) fun v σ H Q ⟨E, O, g, δ, d, P, R, x, ⟨ds, e, l, f⟩, k⟩ => by
    subst e
    cases x with
    | @tup a xs _ hs ha => exact ⟨a, xs, rfl, seqT_keep hid_same hs, by rw [dpAll_len ha]; exact l, E, O, g, δ, ds, P, R, ha, f, k⟩
theorem ds_asgW {tg e : Expr} {pos : Pos} {F : DT} {T : DTg} (h : DE X W e F) (hg : PG X tg (tW X.K W T)) (h1 : (assignEach [tg] X.env).map (·.2) = [assign tg X.env] := by rfl) (hs : swapsWithSole [tg] e pos.line X.env = pure false := by rfl) (hw : swappedStores [tg] e X.env = pure none := by rfl) :
    DS X W (.Assign [tg] e pos) (fun P g δ => F g δ fun g1 d => T d g1 δ P.nx) :=
  ps_mono (ps_asg h hg hs hw h1) fun D σ H ⟨E, O, g, δ, P, R, f, kn, kr⟩ => ⟨E, O, g, δ, _, R, f, fun g1 d v H1 p R1 s1 x1 => ⟨E, O, g1, δ, d, P.nx, R1, x1, p, fun g2 δ2 σ2 H2 p2 R2 s2 => kn O g2 δ2 σ2 H2 p2 R2 (fun _ h => h) (s1.hid.trans s2)⟩⟩
end
end Lk

set_option Elab.async false
set_option linter.all false
set_option maxRecDepth 100000
set_option maxHeartbeats 4000000
/-! a, b = x, y with new lists and dicts among them; isinstance; nested data -/
namespace Lk
open PySem PySem.Spec PyProof.Rows L2 L2H HotX LkHot
section
variable {X : Cx} {W : Option Addr} {K : PySem.W.Frag}
structure Item (K : PySem.W.Frag) (E : En) (O : Own) (H : Hp) (σ : L2.St) (δ : List Sv) (v : V) (x : Sv) : Prop where
  kind : (∃ d, x = .dat d) ∨ x.isOwn = true
  sl : Sl K O H (some v) x
  fresh : x.isOwn = true → ∃ a, v = .ref a ∧ E.H a = none ∧ E.O a = false ∧ ∀ (j : Nat) y, δ[j]? = some y → y.isOwn = true → σ[j]? ≠ some (some (V.ref a))
inductive Items (K : PySem.W.Frag) (E : En) (O : Own) (H : Hp) (σ : L2.St) (δ : List Sv) : List V → List Sv → Prop
  | nil : Items K E O H σ δ [] []
  | cons {v : V} {x : Sv} {vs : List V} {xs : List Sv} : Item K E O H σ δ v x → (x.isOwn = true → ∀ p ∈ vs.zip xs, p.2.isOwn = true → p.1 ≠ v) → Items K E O H σ δ vs xs → Items K E O H σ δ (v :: vs) (x :: xs)
abbrev DX := Nat → List Sv → (Nat → List Sv → Prop) → Prop
def tX (K : PySem.W.Frag) (W : Option Addr) (F : DX) : TA := fun σ H Q => ∃ E O g δ P, Rel K W E O g H σ δ ∧ F g δ P ∧ ∀ g' xs vs O' H', P g' xs → Rel K W E O' g' H' σ δ → (∀ a, O a = true → O' a = true) → Same (hid O H) (hid O' H') →
  (∀ a o, W ≠ some a → H a = some o → H' a = some o) → Items K E O' H' σ δ vs xs → (∀ p ∈ vs.zip xs, p.2.isOwn = true → ∃ a, p.1 = .ref a ∧ H a = none) → Q vs H'
theorem dx_nil : PA X [] (tX X.K W fun g _ P => P g []) := pa_mono pa_nil fun σ H Q ⟨E, O, g, δ, P, R, f, k⟩ => k g [] [] O H f R (fun _ h => h) (Same.refl _) (fun _ _ _ h => h) .nil (fun p hp => nomatch hp)
theorem dx_consD {e : Expr} {es : List Expr} {F : DT} {Fs : DX} (h1 : DE X W e F) (h2 : PA X es (tX X.K W Fs)) (hs : starEach (e :: es) X.env = (false, eval e X.env) :: starEach es X.env := by rfl) :
    PA X (e :: es) (tX X.K W fun g δ P => F g δ fun g1 d => Fs g1 δ fun g2 xs => P g2 (.dat d :: xs)) :=
  pa_mono (pa_cons h1 h2 hs) fun σ H Q ⟨E, O, g, δ, P, R, f, k⟩ => ⟨E, O, g, δ, _, R, f, fun g1 d v H1 f1 R1 s1 x1 => ⟨E, O, g1, δ, _, R1, f1, fun g2 xs vs O2 H2 p R2 u2 s2 a2 i2 n2 =>
    k g2 _ _ O2 H2 p R2 u2 (s1.hid.trans s2) (fun a o w h => a2 a o w (s1.all a o w h)) (.cons ⟨.inl ⟨d, rfl⟩, ⟨v, rfl, x1.keep s2⟩, fun h => nomatch h⟩ (fun h => nomatch h) i2) fun q hq ho => by
      rcases List.mem_cons.mp (show q ∈ (v, Sv.dat d) :: vs.zip xs from hq) with e | e
      · subst e; cases ho
      · obtain ⟨a, e1, e2⟩ := n2 q e ho
        refine ⟨a, e1, ?_⟩
        cases z : H a with
        | none => rfl
        | some o =>
          by_cases w : W = some a
          · obtain ⟨_, _, _, _, z2, _⟩ := R1.urn a w
            rw [e2] at z2; cases z2
          · have := s1.all a o w z
            rw [e2] at this; cases this⟩⟩
theorem dx_consO {e : Expr} {es : List Expr} {te : TE} {ts : TA} {Fs : DX} {x0 : Nat → List Sv → (Nat → Sv → Prop) → Prop} (h1 : PE X e te) (h2 : PA X es (tX X.K W Fs))
    (key : ∀ E O g δ (P : Nat → Sv → Prop) σ H Q, Rel X.K W E O g H σ δ → x0 g δ P → (∀ g' x p o H', P g' x → x.isOwn = true → Rel X.K W E O g' H' σ δ → Ext W O H H' → H' p = none → Sl X.K (addO O p) (upd H' p o) (some (.ref p)) x → Q (.ref p) (upd H' p o)) → te σ H Q)
    (hs : starEach (e :: es) X.env = (false, eval e X.env) :: starEach es X.env := by rfl) :
    PA X (e :: es) (tX X.K W fun g δ P => x0 g δ fun g1 x => Fs g1 δ fun g2 xs => P g2 (x :: xs)) :=
  pa_mono (pa_cons h1 h2 hs) fun σ H Q ⟨E, O, g, δ, P, R, f, k⟩ => key E O g δ _ σ H _ R f fun g1 x p o H1 f1 ho R1 s1 n sx => by
    have RA := R1.add (o := o) n
    refine ⟨E, addO O p, g1, δ, _, RA, f1, fun g2 xs vs O2 H2 q R2 u2 s2 a2 i2 n2 => k g2 _ _ O2 H2 q R2 (fun a h => u2 a (addO_old h)) ((s1.hid.trans (hid_add n)).trans s2) (fun a o w h => a2 a o w (same_new n _ _ (s1.all a o w h))) (.cons ⟨.inr ho, ?_, fun _ => ⟨p, rfl, (R1.ent n).1, (R1.ent n).2, R1.noslot n⟩⟩ (fun _ q hq ho' e => ?_) i2) fun q hq ho' => ?_⟩
    · have wp : W ≠ some p := fun w => by
        obtain ⟨_, _, _, _, z2, _⟩ := R1.urn p w
        rw [n] at z2; cases z2
      cases x with
      | own ds =>
        obtain ⟨a, vs', e1, e2, e3, e4⟩ := sx
        cases e1
        exact ⟨p, vs', rfl, u2 p addO_self, a2 _ _ wp e3, e4.keep s2⟩
      | dic ds =>
        obtain ⟨a, vs', e1, e2, e3, e4⟩ := sx
        cases e1
        exact ⟨p, vs', rfl, u2 p addO_self, a2 _ _ wp e3, Paired.mapP e4 fun _ _ z => ⟨z.1, z.2.keep s2⟩⟩
      | dtp ds =>
        obtain ⟨a, vs', e1, e2, e3, e4⟩ := sx
        cases e1
        exact ⟨p, vs', rfl, u2 p addO_self, a2 _ _ wp e3, Paired.mapP e4 fun _ _ z => ⟨z.1, z.2.keep s2⟩⟩
      | _ => cases ho
    · obtain ⟨a, e1, e2⟩ := n2 q hq ho'
      rw [e1] at e
      cases e
      rw [upd_same] at e2; cases e2
    · rcases List.mem_cons.mp (show q ∈ (V.ref p, x) :: vs.zip xs from hq) with e | e
      · subst e
        refine ⟨p, rfl, ?_⟩
        cases z : H p with
        | none => rfl
        | some o =>
          by_cases w : W = some p
          · obtain ⟨_, _, _, _, z2, _⟩ := R1.urn p w
            rw [n] at z2; cases z2
          · have := s1.all p o w z
            rw [n] at this; cases this
      · obtain ⟨a, e1, e2⟩ := n2 q e ho'
        refine ⟨a, e1, ?_⟩
        cases z : H a with
        | none => rfl
        | some o =>
          by_cases w : W = some a
          · obtain ⟨_, _, _, _, z2, _⟩ := RA.urn a w
            rw [e2] at z2; cases z2
          · have := same_new (o := o) n _ _ (s1.all a o w z)
            have hne : a ≠ p := by
              rintro rfl
              rw [upd_same] at e2; cases e2
            rw [upd_ne hne] at e2
            have := s1.all a o w z
            rw [e2] at this; cases this
/-- a new list among them -/
theorem dx_consF {e : Expr} {es : List Expr} {F : DL} {Fs : DX} (h1 : DF X W e F) (h2 : PA X es (tX X.K W Fs)) (hs : starEach (e :: es) X.env = (false, eval e X.env) :: starEach es X.env := by rfl) :
    PA X (e :: es) (tX X.K W fun g δ P => F g δ fun g1 ds => Fs g1 δ fun g2 xs => P g2 (.own ds :: xs)) :=
  dx_consO (ts := tX X.K W Fs) (x0 := fun g δ P => F g δ fun g1 ds => P g1 (.own ds)) h1 h2 (fun E O g δ P σ H Q R f k => ⟨E, O, g, δ, _, R, f, fun g' ds vs p H' q R' s' n x' => k g' (.own ds) p (.lst vs) H' q rfl R' s' n ⟨p, vs, rfl, addO_self, upd_same, x'.keep (hid_add n)⟩⟩) hs
/-- {} among them -/
theorem dx_consK {es : List Expr} {Fs : DX} {pos : Pos} (h2 : PA X es (tX X.K W Fs)) (hs : starEach (Expr.Dict [] [] pos :: es) X.env = (false, eval (.Dict [] [] pos) X.env) :: starEach es X.env := by rfl) :
    PA X (.Dict [] [] pos :: es) (tX X.K W fun g δ P => Fs g δ fun g2 xs => P g2 (.dic [] :: xs)) :=
  dx_consO (ts := tX X.K W Fs) (x0 := fun g δ P => P g (.dic [])) pe_dnewK h2 (fun E O g δ P σ H Q R f k p n => k g (.dic []) p (.dK []) H f rfl R .refl n ⟨p, [], rfl, addO_self, upd_same, .nil⟩) hs
theorem Rel.put {E : En} {O : Own} {g : Nat} {H : Hp} {σ : L2.St} {δ : List Sv} {i : Nat} {v : V} {x : Sv} (R : Rel K W E O g H σ δ) (h : Item K E O H σ δ v x) : Rel K W E O g H (σ.set i (some v)) (δ.set i x) := by
  rcases h.kind with ⟨d, e⟩ | ho
  · subst e
    obtain ⟨w, e, hx⟩ := h.sl
    cases e
    exact R.setD hx
  · obtain ⟨a, e, e1, e2, e3⟩ := h.fresh ho
    subst e
    exact R.setO h.sl ⟨e1, e2⟩ fun j y _ hj hy => e3 j y hj hy
theorem Item.put {E : En} {O : Own} {H : Hp} {σ : L2.St} {δ : List Sv} {i : Nat} {v w : V} {x y : Sv} (h : Item K E O H σ δ w y) (hd : x.isOwn = true → y.isOwn = true → w ≠ v) : Item K E O H (σ.set i (some v)) (δ.set i x) w y where
  kind := h.kind
  sl := h.sl
  fresh := fun ho => by
    obtain ⟨a, e, e1, e2, e3⟩ := h.fresh ho
    subst e
    refine ⟨a, rfl, e1, e2, fun j z hj hz => ?_⟩
    by_cases q : i = j
    · subst q
      by_cases hi : i < δ.length
      · rw [List.getElem?_set_self hi] at hj
        cases hj
        intro c
        by_cases hi' : i < σ.length
        · rw [List.getElem?_set_self hi'] at c
          cases c
          exact hd hz ho rfl
        · rw [List.getElem?_eq_none (by simpa using hi')] at c; cases c
      · rw [List.getElem?_eq_none (by simpa using hi)] at hj; cases hj
    · rw [List.getElem?_set_ne q] at hj ⊢
      exact e3 j z hj hz
theorem ds_par {x y : Str} {a b : Expr} {px py pt pos : Pos} {kt k2 pt2} {F : DX} (i j : Nat) (hc : X.calm = true) (hN : X.N.Nodup) (ha : PA X [a, b] (tX X.K W F)) (hi : X.N[i]? = some x := by rfl) (hj : X.N[j]? = some y := by rfl) (hij : i ≠ j := by decide)
    (hx : X.env.scope.names.lookup x = some .local := by rfl) (hy : X.env.scope.names.lookup y = some .local := by rfl) (hw : swappedStores [.Tuple [.Name x px, .Name y py] kt pt] (.Tuple [a, b] k2 pt2) X.env = pure (some [x, y]) := by rfl)
    (hs : swapsWithSole [.Tuple [.Name x px, .Name y py] kt pt] (.Tuple [a, b] k2 pt2) pos.line X.env = pure false := by rfl) :
    DS X W (.Assign [.Tuple [.Name x px, .Name y py] kt pt] (.Tuple [a, b] k2 pt2) pos) (fun P g δ => F g δ fun g1 xs => ∃ u v, xs = [u, v] ∧ P.nx g1 ((δ.set i u).set j v)) :=
  ps_mono (ps_par hc hN hi hj hij hx hy ha hw hs) fun D σ H ⟨E, O, g, δ, P, R, f, kn, kr⟩ => ⟨E, O, g, δ, _, R, f, fun g1 xs vs O1 H1 ⟨u, v, e, p⟩ R1 u1 s1 a1 it n1 => by
    subst e
    cases it with
    | @cons v1 _ vs' _ i1 d1 t1 =>
      cases t1 with
      | @cons v2 _ _ _ i2 d2 t2 =>
        cases t2
        have q2 : Item X.K E O1 H1 (σ.set i (some v1)) (δ.set i u) v2 v := i2.put fun h1 h2 => d1 h1 (v2, v) (by simp) h2
        exact ⟨v1, v2, rfl, kn O1 g1 _ _ H1 p ((R1.put i1).put q2) u1 s1⟩⟩
theorem ds_par3 {x y z : Str} {a b c : Expr} {px py pz pt pos : Pos} {kt k2 pt2} {F : DX} (i j l : Nat) (hc : X.calm = true) (hN : X.N.Nodup) (ha : PA X [a, b, c] (tX X.K W F)) (hi : X.N[i]? = some x := by rfl) (hj : X.N[j]? = some y := by rfl) (hl : X.N[l]? = some z := by rfl)
    (hij : i ≠ j := by decide) (hil : i ≠ l := by decide) (hjl : j ≠ l := by decide)
    (hx : X.env.scope.names.lookup x = some .local := by rfl) (hy : X.env.scope.names.lookup y = some .local := by rfl) (hz : X.env.scope.names.lookup z = some .local := by rfl) (hw : swappedStores [.Tuple [.Name x px, .Name y py, .Name z pz] kt pt] (.Tuple [a, b, c] k2 pt2) X.env = pure (some [x, y, z]) := by rfl)
    (hs : swapsWithSole [.Tuple [.Name x px, .Name y py, .Name z pz] kt pt] (.Tuple [a, b, c] k2 pt2) pos.line X.env = pure false := by rfl) :
    DS X W (.Assign [.Tuple [.Name x px, .Name y py, .Name z pz] kt pt] (.Tuple [a, b, c] k2 pt2) pos) (fun P g δ => F g δ fun g1 xs => ∃ u v w, xs = [u, v, w] ∧ P.nx g1 (((δ.set i u).set j v).set l w)) :=
  ps_mono (L2.ps_par3 hc hN hi hj hl hij hil hjl hx hy hz ha hw hs) fun D σ H ⟨E, O, g, δ, P, R, f, kn, kr⟩ => ⟨E, O, g, δ, _, R, f, fun g1 xs vs O1 H1 ⟨u, v, w, e, p⟩ R1 u1 s1 a1 it n1 => by
    subst e
    cases it with
    | @cons v1 _ vs' _ i1 d1 t1 =>
      cases t1 with
      | @cons v2 _ _ _ i2 d2 t2 =>
        cases t2 with
        | @cons v3 _ _ _ i3 d3 t3 =>
          cases t3
          have q2 : Item X.K E O1 H1 (σ.set i (some v1)) (δ.set i u) v2 v := i2.put fun h1 h2 => d1 h1 (v2, v) (by simp) h2
          have q3 : Item X.K E O1 H1 (σ.set i (some v1)) (δ.set i u) v3 w := i3.put fun h1 h2 => d1 h1 (v3, w) (by simp) h2
          have q4 : Item X.K E O1 H1 ((σ.set i (some v1)).set j (some v2)) ((δ.set i u).set j v) v3 w := q3.put fun h1 h2 => d2 h1 (v3, w) (by simp) h2
          exact ⟨v1, v2, v3, rfl, kn O1 g1 _ _ H1 p (((R1.put i1).put q2).put q4) u1 s1⟩⟩
/-- a, b = x, y of data, in both modes -/
theorem psH_par {i j : Nat} {x y : Str} {a b : Expr} {ta : TA} {px py pt pos : Pos} {kt k2 pt2} (hc : HotC X) (hN : X.N.Nodup) (hi : X.N[i]? = some x) (hj : X.N[j]? = some y) (hij : i ≠ j)
    (hx : X.env.scope.names.lookup x = some .local) (hy : X.env.scope.names.lookup y = some .local) (ha : PA X [a, b] ta) (hw : swappedStores [.Tuple [.Name x px, .Name y py] kt pt] (.Tuple [a, b] k2 pt2) X.env = pure (some [x, y]))
    (hs : swapsWithSole [.Tuple [.Name x px, .Name y py] kt pt] (.Tuple [a, b] k2 pt2) pos.line X.env = pure false) : PS X (.Assign [.Tuple [.Name x px, .Name y py] kt pt] (.Tuple [a, b] k2 pt2) pos) (tPar i j ta) := by
  refine ⟨fun pins s σ H D I h => ?_⟩
  rw [exec_Assign_arm]
  refine wpAny_bind (wpAny_standAt ?_)
  rw [hs]
  refine wpAny_bind (wpAny_pure ?_)
  rw [if_neg (by decide)]
  refine wpAny_bind (Tuple_ (thn (ha.run _ pins s σ H _ I h) fun us s1 ⟨vs, H1, I1, r1, v, w, e1, q1⟩ => ?_))
  subst e1
  cases r1 with
  | @cons _ u1 _ us1 rv r2 =>
    cases r2 with
    | @cons _ u2 _ _ rw' r3 =>
      cases r3
      refine wpAny_newObj_type ?_ (by show 2 ≤ sizeLine; decide)
      have I2 : Inv X pins σ H1 { s1 with heap := s1.heap.push { cls := .type "tuple", data := .seq [u1, u2].toArray } } := I1.kept (t' := s1.toks) fun b o e => Heap.get?_push_of_some _ e
      obtain ⟨x1, hot⟩ := hc.at I2
      rw [hw]
      refine wpAny_bind (wpAny_pure ?_)
      show wpAny (model X.prog X.w) X.A (do rule "assign.swapped-stores"; let items ← unpackItems (.ref s1.heap.objs.size) 2 none; assignInOrder [fun v => bindName X.env y v, fun v => bindName X.env x v] items.reverse; pure Flow.next) _ _ _
      have un : ∀ {Q : List Value → Shared → Prop} {E : Value → Shared → Prop}, (∀ h', Heap.ExtBut (s1.heap.push { cls := .type "tuple", data := .seq [u1, u2].toArray }).objs.size (s1.heap.push { cls := .type "tuple", data := .seq [u1, u2].toArray }) h' → Q [u1, u2] { s1 with heap := h' }) →
          wpAny (model X.prog X.w) X.A (unpackItems (.ref s1.heap.objs.size) 2 none) Q E { s1 with heap := s1.heap.push { cls := .type "tuple", data := .seq [u1, u2].toArray } } := fun {Q E} hQ => by
        have ht : IsTup (s1.heap.push { cls := .type "tuple", data := .seq [u1, u2].toArray }) s1.heap.objs.size #[u1, u2] := IsTup.new s1.heap _
        obtain ⟨hh, o1, vs1, h1, d1, c1⟩ := hot
        have hlt : s1.heap.objs.size ≠ (s1.heap.push { cls := .type "tuple", data := .seq [u1, u2].toArray }).objs.size := by rw [Heap.size_push]; exact Nat.ne_of_lt (Nat.lt_succ_self _)
        have hx1 : x1 ≠ (s1.heap.push { cls := .type "tuple", data := .seq [u1, u2].toArray }).objs.size := Nat.ne_of_lt (Heap.lt_size h1)
        unfold unpackItems
        refine wpAny_bind ?_
        unfold notIterableAtAll
        refine wpAny_bind (wpAny_specialOf ht.typeIs slot_tuple_iter.lookup (wpAny_pure ?_))
        simp only [Bool.false_eq_true, if_false]
        refine wpAny_bind (wpAny_holding (iter_tuple ht (wpAny_bind (wpAny_holding (draw_tuple hlt 2 0 _ _ ⟨_, Heap.get?_push_size _ rfl, rfl, rfl⟩ (ht.push _) (by show 0 + 2 ≤ 2; omega) fun h₁ hit₁ hs₁ => ?_)))))
        rw [if_neg (by simp)]
        have q1 : h₁.get? x1 = some o1 := hs₁.extBut x1 o1 hx1 (Heap.get?_push_of_some _ h1)
        refine wpAny_bind (wpAny_holding (tuple_end_hot (x1 := x1) ⟨hh, o1, vs1, q1, d1, c1⟩ hx1 hit₁ ((ht.push _).extBut hs₁.extBut hlt) (by simp) fun h₂ he₂ => ?_))
        simp only [Option.isSome_none, Bool.false_eq_true, if_false]
        exact wpAny_pure (hQ h₂ fun b o hb e => he₂ b o hb (hs₁.extBut b o hb (Heap.get?_push_of_some _ e)))
      refine wpAny_bind (wpAny_rule (wpAny_bind (un fun h' hx' => ?_)))
      have I3 := I2.kept (h' := h') (t' := s1.toks) fun b o e => hx' b o (Nat.ne_of_lt (Heap.lt_size e)) e
      show wpAny _ _ (assignInOrder [fun v => bindName X.env y v, fun v => bindName X.env x v] [u2, u1] >>= fun _ => pure Flow.next) _ _ _
      refine wpAny_bind (assignInOrder_cons (wpAny_bindName (store_ok I3 hN hj (.inl hy) rw' (fun s2 I4 => ?_) (.inr hy))))
      refine assignInOrder_cons (wpAny_bindName (store_ok I4 hN hi (.inl hx) rv (fun s3 I5 => assignInOrder_nil (wpAny_pure ?_)) (.inr hx)))
      rw [List.set_comm _ _ (Ne.symm hij)] at I5
      exact ⟨_, H1, I5, q1⟩
theorem ds_par2 {x y : Str} {a b : Expr} {px py pt pos : Pos} {kt k2 pt2} {F : DL} (i j : Nat) (m : Md X) (hN : X.N.Nodup) (ha : DA X W [a, b] F) (hi : X.N[i]? = some x := by rfl) (hj : X.N[j]? = some y := by rfl) (hij : i ≠ j := by decide)
    (hx : X.env.scope.names.lookup x = some .local := by rfl) (hy : X.env.scope.names.lookup y = some .local := by rfl) (hw : swappedStores [.Tuple [.Name x px, .Name y py] kt pt] (.Tuple [a, b] k2 pt2) X.env = pure (some [x, y]) := by rfl)
    (hs : swapsWithSole [.Tuple [.Name x px, .Name y py] kt pt] (.Tuple [a, b] k2 pt2) pos.line X.env = pure false := by rfl) :
    DS X W (.Assign [.Tuple [.Name x px, .Name y py] kt pt] (.Tuple [a, b] k2 pt2) pos) (fun P g δ => F g δ fun g1 ds => ∃ u v, ds = [u, v] ∧ P.nx g1 ((δ.set i (.dat u)).set j (.dat v))) := by
  have key : ∀ D σ H, tS X.K W (fun P g δ => F g δ fun g1 ds => ∃ u v, ds = [u, v] ∧ P.nx g1 ((δ.set i (.dat u)).set j (.dat v))) D σ H → tPar i j (tDl X.K W F) D σ H := fun D σ H ⟨E, O, g, δ, P, R, f, kn, kr⟩ => ⟨E, O, g, δ, _, R, f, fun g1 ds vs H1 ⟨u, v, e, p⟩ R1 s1 x1 => by
    subst e
    cases x1 with
    | @cons v1 _ _ _ i1 t1 =>
      cases t1 with
      | @cons v2 _ _ _ i2 t2 =>
        cases t2
        exact ⟨v1, v2, rfl, kn O g1 _ _ H1 p ((R1.setD i1).setD i2) (fun _ h => h) s1.hid⟩⟩
  rcases m with ⟨hc, _⟩ | ⟨_, hc⟩
  · exact ps_mono (L2.ps_par hc hN hi hj hij hx hy ha hw hs) key
  · exact ps_mono (psH_par hc hN hi hj hij hx hy ha hw hs) key
end
end Lk

set_option Elab.async false
set_option linter.all false
set_option maxRecDepth 100000
set_option maxHeartbeats 4000000
/-! isinstance; nested data in tuples -/
namespace Lk
open PySem PySem.Spec PyProof.Rows L2 L2H HotX LkHot
section
variable {X : Cx} {W : Option Addr} {K : PySem.W.Frag}
def tyD : PyData → String
  | .none => "NoneType"
  | .bool _ => "bool"
  | .int _ => "int"
  | .str _ => "str"
  | .list _ => "list"
  | .tuple _ => "tuple"
  | .dict _ => "dict"
def isiD (d : PyData) (T : String) : Bool := match d with
  | .none => false
  | .bool _ => T == "bool" || T == "int"
  | .int _ => T == "int"
  | .str _ => T == "str"
  | .list _ => T == "list"
  | .tuple _ => T == "tuple"
  | .dict _ => T == "dict"
theorem tyx_of {H : Hp} {v : V} {d : PyData} (h : Dp K H v d) : TyX K H v (.type (tyD d)) := by
  cases h with
  | non => exact .base .non
  | bl b => exact .base (.bl b)
  | int b => exact .base (.int b)
  | str b => exact .base (.str b)
  | lst hs ha =>
    rcases hs with (h | ⟨o, h⟩) | ⟨o, its, n, hk, hc, _⟩
    · exact .base (.lst h)
    · exact .base (.frz h)
    · exact .kList hk hc
  | tup hs ha =>
    rcases hs with (h | ⟨o, h⟩) | ⟨o, its, n, hk, hc, _⟩
    · exact .base (.tup h)
    · exact .fTuple h
    · exact .kTuple hk hc
theorem kit_int : ∀ d : PyData, (∀ kvs, d ≠ .dict kvs) → kitB (tyD d) "int" = some (isiD d "int")
  | .none, _ => by decide +kernel
  | .bool _, _ => by show kitB "bool" "int" = some true; decide +kernel
  | .int _, _ => by show kitB "int" "int" = some true; decide +kernel
  | .str _, _ => by show kitB "str" "int" = some false; decide +kernel
  | .list _, _ => by show kitB "list" "int" = some false; decide +kernel
  | .tuple _, _ => by show kitB "tuple" "int" = some false; decide +kernel
  | .dict kvs, h => absurd rfl (h kvs)
theorem kit_bool : ∀ d : PyData, (∀ kvs, d ≠ .dict kvs) → kitB (tyD d) "bool" = some (isiD d "bool")
  | .none, _ => by decide +kernel
  | .bool _, _ => by show kitB "bool" "bool" = some true; decide +kernel
  | .int _, _ => by show kitB "int" "bool" = some false; decide +kernel
  | .str _, _ => by show kitB "str" "bool" = some false; decide +kernel
  | .list _, _ => by show kitB "list" "bool" = some false; decide +kernel
  | .tuple _, _ => by show kitB "tuple" "bool" = some false; decide +kernel
  | .dict kvs, h => absurd rfl (h kvs)
theorem kit_str : ∀ d : PyData, (∀ kvs, d ≠ .dict kvs) → kitB (tyD d) "str" = some (isiD d "str")
  | .none, _ => by decide +kernel
  | .bool _, _ => by show kitB "bool" "str" = some false; decide +kernel
  | .int _, _ => by show kitB "int" "str" = some false; decide +kernel
  | .str _, _ => by show kitB "str" "str" = some true; decide +kernel
  | .list _, _ => by show kitB "list" "str" = some false; decide +kernel
  | .tuple _, _ => by show kitB "tuple" "str" = some false; decide +kernel
  | .dict kvs, h => absurd rfl (h kvs)
theorem kit_list : ∀ d : PyData, (∀ kvs, d ≠ .dict kvs) → kitB (tyD d) "list" = some (isiD d "list")
  | .none, _ => by decide +kernel
  | .bool _, _ => by show kitB "bool" "list" = some false; decide +kernel
  | .int _, _ => by show kitB "int" "list" = some false; decide +kernel
  | .str _, _ => by show kitB "str" "list" = some false; decide +kernel
  | .list _, _ => by show kitB "list" "list" = some true; decide +kernel
  | .tuple _, _ => by show kitB "tuple" "list" = some false; decide +kernel
  | .dict kvs, h => absurd rfl (h kvs)
theorem kit_tuple : ∀ d : PyData, (∀ kvs, d ≠ .dict kvs) → kitB (tyD d) "tuple" = some (isiD d "tuple")
  | .none, _ => by decide +kernel
  | .bool _, _ => by show kitB "bool" "tuple" = some false; decide +kernel
  | .int _, _ => by show kitB "int" "tuple" = some false; decide +kernel
  | .str _, _ => by show kitB "str" "tuple" = some false; decide +kernel
  | .list _, _ => by show kitB "list" "tuple" = some false; decide +kernel
  | .tuple _, _ => by show kitB "tuple" "tuple" = some true; decide +kernel
  | .dict kvs, h => absurd rfl (h kvs)
theorem dp_nodict {H : Hp} {v : V} {d : PyData} (h : Dp K H v d) : ∀ kvs, d ≠ .dict kvs := fun kvs e => by subst e; cases h
/-- isinstance(e, T) -/
theorem de_isi {e : Expr} {F : DT} {ix tx : Str} {p1 p2 pos : Pos} (T : String) (kit : ∀ d : PyData, (∀ kvs, d ≠ .dict kvs) → kitB (tyD d) T = some (isiD d T)) (hm : X.mg ix = none) (hmT : X.mg tx = none) (h : DE X W e F)
    (hv : bootBuiltins ix = some (.builtin "isinstance") := by decide +kernel) (hvT : bootBuiltins tx = some (.type T) := by decide +kernel) (hg : Gl X ix := by rfl) (hgT : Gl X tx := by rfl) (hn : ix ≠ "__name__" := by decide) (hdb : (ix == ("__debug__" : Str)) = false := by decide) (hnT : tx ≠ "__name__" := by decide) (hdT : (tx == ("__debug__" : Str)) = false := by decide)
    (he : starEach [e, .Name tx p2] X.env = (false, eval e X.env) :: starEach [.Name tx p2] X.env := by rfl) (he2 : starEach [.Name tx p2] X.env = (false, eval (.Name tx p2) X.env) :: starEach [] X.env := by rfl) (hpl : (backTo pos (starEach [.Name tx p2] X.env)).any (·.1) = false := by rfl) :
    DE X W (.Call (.Name ix p1) [e, .Name tx p2] [] pos) (fun g δ P => F g δ fun g1 d => P g1 (.bool (isiD d T))) :=
  pe_mono (pe_callB call_isi hg hm hv (pa_cons h (pa_cons (pe_bltn (v := .ty T) hgT hmT hvT rfl hnT hdT) pa_nil he2) he) (hn := hn) (hdb := hdb) (he := he) (hpl := hpl)) fun σ H Q ⟨E, O, g, δ, P, R, f, k⟩ => ⟨E, O, g, δ, _, R, f, fun g1 d v H1 p R1 s1 x1 =>
    ⟨v, .ty T, _, _, _, rfl, .ty T, tyx_of (x1.keep hid_same), kit_ty (kit d (dp_nodict x1)), k g1 _ _ H1 p R1 s1 (.bl _)⟩⟩
/-- isinstance(e, (list, tuple)), .. (bool, str) -/
theorem de_isi2 {e : Expr} {F : DT} {ix tx ty : Str} {kk : Nat} {p1 p2 p3 p4 pos : Pos} (T T' : String) (kit : ∀ d : PyData, (∀ kvs, d ≠ .dict kvs) → kitB (tyD d) T = some (isiD d T)) (kit' : ∀ d : PyData, (∀ kvs, d ≠ .dict kvs) → kitB (tyD d) T' = some (isiD d T')) (hm : X.mg ix = none) (hmT : X.mg tx = none) (hmT' : X.mg ty = none) (h : DE X W e F)
    (hv : bootBuiltins ix = some (.builtin "isinstance") := by decide +kernel) (hvT : bootBuiltins tx = some (.type T) := by decide +kernel) (hvT' : bootBuiltins ty = some (.type T') := by decide +kernel) (hg : Gl X ix := by rfl) (hgT : Gl X tx := by rfl) (hgT' : Gl X ty := by rfl) (hn : ix ≠ "__name__" := by decide) (hdb : (ix == ("__debug__" : Str)) = false := by decide) (hnT : tx ≠ "__name__" := by decide) (hdT : (tx == ("__debug__" : Str)) = false := by decide) (hnT' : ty ≠ "__name__" := by decide) (hdT' : (ty == ("__debug__" : Str)) = false := by decide)
    (he : starEach [e, .Tuple [.Name tx p2, .Name ty p3] kk p4] X.env = (false, eval e X.env) :: starEach [.Tuple [.Name tx p2, .Name ty p3] kk p4] X.env := by rfl) (he2 : starEach [.Tuple [.Name tx p2, .Name ty p3] kk p4] X.env = (false, eval (.Tuple [.Name tx p2, .Name ty p3] kk p4) X.env) :: starEach [] X.env := by rfl)
    (he3 : starEach [.Name tx p2, .Name ty p3] X.env = (false, eval (.Name tx p2) X.env) :: starEach [.Name ty p3] X.env := by rfl) (he4 : starEach [.Name ty p3] X.env = (false, eval (.Name ty p3) X.env) :: starEach [] X.env := by rfl) (hpl : (backTo pos (starEach [.Tuple [.Name tx p2, .Name ty p3] kk p4] X.env)).any (·.1) = false := by rfl) :
    DE X W (.Call (.Name ix p1) [e, .Tuple [.Name tx p2, .Name ty p3] kk p4] [] pos) (fun g δ P => F g δ fun g1 d => P g1 (.bool (isiD d T || isiD d T'))) :=
  pe_mono (pe_callB call_isiT hg hm hv (pa_cons h (pa_cons (pe_tup (pa_cons (pe_bltn (v := .ty T) hgT hmT hvT rfl hnT hdT) (pa_cons (pe_bltn (v := .ty T') hgT' hmT' hvT' rfl hnT' hdT') pa_nil he4) he3)) pa_nil he2) he) (hn := hn) (hdb := hdb) (he := he) (hpl := hpl)) fun σ H Q ⟨E, O, g, δ, P, R, f, k⟩ => ⟨E, O, g, δ, _, R, f, fun g1 d v H1 p R1 s1 x1 => by
    refine ⟨by show 2 ≤ sizeLine; decide, fun q n => ?_⟩
    refine ⟨v, q, [.ty T, .ty T'], _, _, _, rfl, upd_same, .cons (.ty T) (.cons (.ty T') .nil), tyx_of ((x1.keep hid_same).keep (same_new n)), ?_, k g1 _ _ _ p (R1.grow (same_new n)) (s1.trans (.of (same_new n))) (.bl _)⟩
    refine kitAny_cons (kit_ty (kit d (dp_nodict x1))) (fun e => kitAny_cons (kit_ty (kit' d (dp_nodict x1))) (fun e' => ?_) fun e' => ?_) fun e => ?_
    · rw [e, e']; exact kitAny_nil
    · rw [e']; simp
    · rw [e]; rfl⟩
/-! ### in a tuple of nested data -/
def rInDT (K : PySem.W.Frag) : R2 := fun x y H Q => ∃ d ds, Dp K H x d ∧ Dp K H y (.tuple ds) ∧ SeqAt.shaped d = true ∧ SeqAt.shaped (.tuple ds) = true ∧ Q (.bl (ds.any fun z => PyData.eqv z d)) H
end
end Lk

set_option Elab.async false
set_option linter.all false
set_option maxRecDepth 100000
set_option maxHeartbeats 4000000
/-! chains; in a tuple of data -/
namespace Lk
open PySem PySem.Spec PyProof.Rows L2 L2H HotX LkHot
section
variable {X : Cx} {W : Option Addr} {K : PySem.W.Frag}
def rNotInDT (K : PySem.W.Frag) : R2 := fun x y H Q => ∃ d ds, Dp K H x d ∧ Dp K H y (.tuple ds) ∧ SeqAt.shaped d = true ∧ SeqAt.shaped (.tuple ds) = true ∧ Q (.bl (!ds.any fun z => PyData.eqv z d)) H
theorem op_inDT (hu : X.A.units + 65 < cLine) : OpR X (compareOp .In) (rInDT X.K) := by
  intro pins s σ H x y v u Q I rx ry h
  obtain ⟨d, ds, hd, he, sd, se, q⟩ := h
  obtain ⟨as, r1⟩ := Dp.reads I d x v hd rx
  obtain ⟨bs, r2⟩ := Dp.reads I (.tuple ds) y u he ry
  exact SeqAt.in_tuple_reads r2 r1 (SeqAt.canLay_of_shaped se) (SeqAt.canLay_of_shaped sd) (room_in_shaped sd hu) ⟨.bl _, H, I, rfl, q⟩
theorem op_notInDT (hu : X.A.units + 65 < cLine) : OpR X (compareOp .NotIn) (rNotInDT X.K) := by
  intro pins s σ H x y v u Q I rx ry h
  obtain ⟨d, ds, hd, he, sd, se, q⟩ := h
  obtain ⟨as, r1⟩ := Dp.reads I d x v hd rx
  obtain ⟨bs, r2⟩ := Dp.reads I (.tuple ds) y u he ry
  exact SeqAt.notIn_tuple_reads r2 r1 (SeqAt.canLay_of_shaped se) (SeqAt.canLay_of_shaped sd) (room_in_shaped sd hu) ⟨.bl _, H, I, rfl, q⟩
def wInDT (neg : Bool) : PyData → PyData → (PyData → Prop) → Prop := fun d e P => ∃ ds, e = .tuple ds ∧ SeqAt.shaped d = true ∧ SeqAt.shaped (.tuple ds) = true ∧ P (.bool (if neg then !ds.any fun z => PyData.eqv z d else ds.any fun z => PyData.eqv z d))
theorem good_inDT : Good2 K (rInDT K) (wInDT false) := fun O H x y d e Pz Q _ hx hy ⟨ds, e1, s1, s2, p⟩ k => by
  subst e1
  exact ⟨d, ds, hx.keep hid_same, hy.keep hid_same, s1, s2, k _ _ H p (Same.refl _) (.bl _)⟩
theorem good_notInDT : Good2 K (rNotInDT K) (wInDT true) := fun O H x y d e Pz Q _ hx hy ⟨ds, e1, s1, s2, p⟩ k => by
  subst e1
  exact ⟨d, ds, hx.keep hid_same, hy.keep hid_same, s1, s2, k _ _ H p (Same.refl _) (.bl _)⟩
section
variable {a b c : Expr} {Fa Fb Fc : DT} {pos : Pos} {r r' : R2} {w w' : PyData → PyData → (PyData → Prop) → Prop}
theorem tChain_of (gd : Good2 K r w) (gd' : Good2 K r' w') : ∀ σ H Q, tD K W (fun g δ P => Fa g δ fun g1 d => Fb g1 δ fun g2 e => w d e fun z => ∃ c, z = .bool c ∧ if c = true then Fc g2 δ fun g3 u => w' e u (P g3) else P g2 (.bool false)) σ H Q →
    tChain r r' (tD K W Fa) (tD K W Fb) (tD K W Fc) σ H Q :=
  fun σ H Q ⟨E, O, g, δ, P, R, f, k⟩ => ⟨E, O, g, δ, _, R, f, fun g1 d v H1 f1 R1 s1 x1 => ⟨E, O, g1, δ, _, R1, f1, fun g2 e v2 H2 f2 R2 s2 x2 =>
    gd O H2 v v2 d e _ _ R2.there (x1.keep s2.hid) x2 f2 fun z v3 H3 ⟨c, e3, q⟩ s3 x3 => by
      subst e3
      cases x3
      refine ⟨c, rfl, ?_⟩
      have R3 := R2.grow s3
      have s123 := (s1.trans s2).trans (.of s3)
      cases c with
      | true => exact ⟨E, O, g2, δ, _, R3, q, fun g4 u v4 H4 f4 R4 s4 x4 => gd' O H4 v2 v4 e u _ Q R4.there (x2.keep ((same_hid s3).trans s4.hid)) x4 f4 fun z5 v5 H5 p5 s5 x5 => k g4 z5 v5 H5 p5 (R4.grow s5) ((s123.trans s4).trans (.of s5)) x5⟩
      | false => exact k g2 _ _ H3 q R3 s123 (.bl _)⟩⟩
theorem de_chain {op op' : CmpOp} (ho : OpR X (compareOp op) r) (gd : Good2 X.K r w) (ho' : OpR X (compareOp op') r') (gd' : Good2 X.K r' w') (ha : DE X W a Fa) (hb : DE X W b Fb) (hc : DE X W c Fc) (hm : lastMarks [op, op'] [b, c] = false := by with_unfolding_all rfl) :
    DE X W (.Compare a [op, op'] [b, c] pos) (fun g δ P => Fa g δ fun g1 d => Fb g1 δ fun g2 e => w d e fun z => ∃ c, z = .bool c ∧ if c = true then Fc g2 δ fun g3 u => w' e u (P g3) else P g2 (.bool false)) :=
  pe_mono (pe_chain ho ho' ha hb hc hm) (tChain_of gd gd')
theorem dt_chain {op op' : CmpOp} (ho : OpR X (compareOp op) r) (gd : Good2 X.K r w) (ho' : OpR X (compareOp op') r') (gd' : Good2 X.K r' w') (ha : DE X W a Fa) (hb : DE X W b Fb) (hc : DE X W c Fc) (hm : lastMarks [op, op'] [b, c] = false := by with_unfolding_all rfl) :
    DTs X W (.Compare a [op, op'] [b, c] pos) (fun g δ P => Fa g δ fun g1 d => Fb g1 δ fun g2 e => w d e fun z => ∃ c, z = .bool c ∧ if c = true then Fc g2 δ fun g3 u => w' e u fun z => ∃ c, z = .bool c ∧ P g3 c else P g2 false) :=
  pt_mono (pt_chain ho ho' ha hb hc hm) fun σ H Q ⟨E, O, g, δ, P, R, f, k⟩ => tChain_of gd gd' σ H _ ⟨E, O, g, δ, fun g z => ∃ c, z = .bool c ∧ P g c, R, by
    suffices h : (fun g δ P => Fa g δ fun g1 d => Fb g1 δ fun g2 e => w d e fun z => ∃ c, z = .bool c ∧ if c = true then Fc g2 δ fun g3 u => w' e u (P g3) else P g2 (.bool false)) g δ (fun g z => ∃ c, z = .bool c ∧ P g c) by exact h
    have e : ∀ g2, (∃ c, PyData.bool false = .bool c ∧ P g2 c) = P g2 false := fun g2 => by simp
    simp only [e]
    exact f, fun g' z v H' ⟨c, e, p⟩ R' s' x' => by
    subst e
    cases x'
    exact ⟨c, rfl, k g' c H' p R' s'⟩⟩
end
end
end Lk

set_option Elab.async false
set_option linter.all false
set_option maxRecDepth 100000
set_option maxHeartbeats 4000000
/-! what the module says; small helps -/
namespace Lk
open PySem PySem.Spec PyProof.Rows L2 L2H HotX LkHot
structure Bi (K : PySem.W.Frag) (mg : Str → Option Value) : Prop where
  n_isinstance : mg "isinstance" = none
  n_int : mg "int" = none
  n_bool : mg "bool" = none
  n_tuple : mg "tuple" = none
  n_list : mg "list" = none
  n_len : mg "len" = none
  n_str : mg "str" = none
  n_all : mg "all" = none
  n_any : mg "any" = none
  n_set : mg "set" = none
  n_sorted : mg "sorted" = none
  n_range : mg "range" = none
  n_enumerate : mg "enumerate" = none
  n_zip : mg "zip" = none
  n_min : mg "min" = none
  n_max : mg "max" = none
  n_abs : mg "abs" = none
  n_gcd : mg "gcd" = some (.builtin "math.gcd")
  none_ : ∃ a, mg "NONE" = some (.ref a) ∧ ∀ H, SqT K H a [.int 0, .int 1]
  hard : ∃ t, mg "HARD" = some (.str "hard" t)
  ease : ∃ t, mg "EASE" = some (.str "ease" t)
section
variable {X : Cx} {W : Option Addr} {K : PySem.W.Frag} {mg : Str → Option Value}
theorem de_NONE (B : Bi K mg) {pos : Pos} (hK : X.K = K := by rfl) (hm : X.mg = mg := by rfl) (hg : Gl X "NONE" := by rfl) : DE X W (.Name "NONE" pos) (fun g _ P => P g (.tuple [.int 0, .int 1])) := by
  obtain ⟨a, h1, h2⟩ := B.none_
  exact de_glob (v := .ref a) (u := .ref a) (by rw [hm]; exact h1) rfl (fun H => .tup (by rw [hK]; exact h2 H) (.cons (.int 0) (.cons (.int 1) .nil))) hg
theorem de_HARD (B : Bi K mg) {pos : Pos} (hm : X.mg = mg := by rfl) (hg : Gl X "HARD" := by rfl) : DE X W (.Name "HARD" pos) (fun g _ P => P g (.str "hard")) := by
  obtain ⟨t, h1⟩ := B.hard
  exact de_glob (v := .str "hard") (u := .str "hard" t) (by rw [hm]; exact h1) ⟨_, rfl⟩ (fun H => .str _) hg
theorem de_EASE (B : Bi K mg) {pos : Pos} (hm : X.mg = mg := by rfl) (hg : Gl X "EASE" := by rfl) : DE X W (.Name "EASE" pos) (fun g _ P => P g (.str "ease")) := by
  obtain ⟨t, h1⟩ := B.ease
  exact de_glob (v := .str "ease") (u := .str "ease" t) (by rw [hm]; exact h1) ⟨_, rfl⟩ (fun H => .str _) hg
theorem md_calm (X : Cx) (h1 : X.calm = true) (h2 : X.pn = []) : Md X := .inl ⟨h1, h2⟩
theorem rm_calm {X : Cx} {k : Nat} (r : Room k X.A) : Rm X k := ⟨roomH_of r, fun _ => r.hd⟩
theorem Rm.hu1 {X : Cx} {k : Nat} (r : Rm X k) : X.A.units + 1 < cLine := by have := r.1.un; omega
theorem Rm.hu0 {X : Cx} {k : Nat} (r : Rm X k) : X.A.units < cLine := by have := r.1.un; omega
theorem Rm.hu64 {X : Cx} {k : Nat} (r : Rm X k) : X.A.units + 64 < cLine := by have := r.1.un; omega
theorem Rm.hu65 {X : Cx} {k : Nat} (r : Rm X k) : X.A.units + 65 < cLine := by have := r.1.un; omega
theorem cr_all2 (m : Md X) : CallR X (.builtin "all") (rAll X.K) := by
  rcases m with ⟨hc, _⟩ | ⟨_, hc⟩
  · exact cr_all hc
  · exact crH_all hc
theorem cr_any2 (m : Md X) : CallR X (.builtin "any") (rAny X.K) := by
  rcases m with ⟨hc, _⟩ | ⟨_, hc⟩
  · exact cr_any hc
  · exact crH_any hc
theorem mlen_nil : ∀ ds l, mNil ds = some l → ds.length = 0
  | [], _, _ => rfl
  | _ :: _, _, h => by cases h
theorem mlen_cons {m : DM} {ms : List PyData → Option (List (Nat × PyData))} {n : Nat} (h : ∀ ds l, ms ds = some l → ds.length = n) : ∀ ds l, mCons m ms ds = some l → ds.length = n + 1
  | [], _, e => by cases e
  | d :: ds, l, e => by
    have e : (m d).bind (fun l => (ms ds).map fun r => l ++ r) = some l := e
    cases q : ms ds with
    | none =>
      rw [q] at e
      cases q2 : m d with
      | none => rw [q2] at e; cases e
      | some _ => rw [q2] at e; cases e
    | some r => rw [List.length_cons, h ds r q]
end
end Lk

set_option Elab.async false
set_option linter.all false
set_option maxRecDepth 100000
set_option maxHeartbeats 4000000
/-! pure helps -/
namespace Lk
open PySem PySem.Spec PyProof.Rows L2 L2H HotX LkHot
/-! ### shapes -/
def Sh (n : Nat) (d : PyData) : Prop := d.canLay0 = true ∧ d.depth ≤ n
theorem Sh.sh {n : Nat} {d : PyData} (h : Sh n d) (hn : n ≤ 64 := by decide) : SeqAt.shaped d = true := by
  unfold SeqAt.shaped
  rw [h.1, Bool.true_and]
  exact decide_eq_true (Nat.le_trans h.2 hn)
theorem sh_i {n : Nat} (i : Int) : Sh n (.int i) := ⟨by simp [PyData.canLay0], by simp [PyData.depth]⟩
theorem sh_b {n : Nat} (i : Bool) : Sh n (.bool i) := ⟨by simp [PyData.canLay0], by simp [PyData.depth]⟩
theorem sh_n {n : Nat} : Sh n .none := ⟨by simp [PyData.canLay0], by simp [PyData.depth]⟩
theorem sh_s {n : Nat} {x : Str} (h : PyData.canLay0 (.str x) = true) : Sh n (.str x) := ⟨h, by simp [PyData.depth]⟩
theorem can_all : ∀ {xs : List PyData}, (∀ x ∈ xs, x.canLay0 = true) → PyData.canLayAll0 xs = true
  | [], _ => by simp [PyData.canLayAll0]
  | x :: xs, h => by
    simp only [PyData.canLayAll0, Bool.and_eq_true]
    exact ⟨h x List.mem_cons_self, can_all fun y hy => h y (List.mem_cons_of_mem _ hy)⟩
theorem dep_all {n : Nat} : ∀ {xs : List PyData}, (∀ x ∈ xs, x.depth ≤ n) → PyData.depthAll xs ≤ n
  | [], _ => by simp [PyData.depthAll]
  | x :: xs, h => by
    simp only [PyData.depthAll]
    exact Nat.max_le.mpr ⟨h x List.mem_cons_self, dep_all fun y hy => h y (List.mem_cons_of_mem _ hy)⟩
theorem sh_t {n : Nat} {xs : List PyData} (h : ∀ x ∈ xs, Sh n x) : Sh (n + 1) (.tuple xs) :=
  ⟨by simp only [PyData.canLay0]; exact can_all fun x hx => (h x hx).1, by simp only [PyData.depth]; exact Nat.succ_le_succ (dep_all fun x hx => (h x hx).2)⟩
theorem sh_l {n : Nat} {xs : List PyData} (h : ∀ x ∈ xs, Sh n x) : Sh (n + 1) (.list xs) :=
  ⟨by simp only [PyData.canLay0]; exact can_all fun x hx => (h x hx).1, by simp only [PyData.depth]; exact Nat.succ_le_succ (dep_all fun x hx => (h x hx).2)⟩
theorem Sh.mono {m n : Nat} {d : PyData} (h : Sh m d) (k : m ≤ n) : Sh n d := ⟨h.1, Nat.le_trans h.2 k⟩
@[simp] theorem shp_int (i : Int) : SeqAt.shaped (.int i) = true := (sh_i (n := 0) i).sh
@[simp] theorem shp_bool (i : Bool) : SeqAt.shaped (.bool i) = true := (sh_b (n := 0) i).sh
@[simp] theorem shp_none : SeqAt.shaped .none = true := (sh_n (n := 0)).sh
theorem can_hard : PyData.canLay0 (.str "hard") = true := by decide +kernel
theorem can_ease : PyData.canLay0 (.str "ease") = true := by decide +kernel
@[simp] theorem shp_tnil : SeqAt.shaped (.tuple []) = true := (sh_t (n := 0) (xs := []) (fun _ h => nomatch h)).sh
@[simp] theorem shp_lnil : SeqAt.shaped (.list []) = true := (sh_l (n := 0) (xs := []) (fun _ h => nomatch h)).sh
/-! ### fractions as data -/
def frD (p : Int × Int) : PyData := .tuple [.int p.1, .int p.2]
theorem sh_frD {n : Nat} (p : Int × Int) : Sh (n + 1) (frD p) := sh_t fun x hx => by
  simp only [List.mem_cons, List.not_mem_nil, or_false] at hx
  rcases hx with rfl | rfl <;> exact sh_i _
@[simp] theorem shp_frD (p : Int × Int) : SeqAt.shaped (frD p) = true := (sh_frD (n := 0) p).sh
@[simp] theorem eqv_int (i j : Int) : PyData.eqv (.int i) (.int j) = decide (i = j) := by
  simp only [PyData.eqv]
  by_cases h : i = j <;> simp [h]
@[simp] theorem eqv_str (i j : Str) : PyData.eqv (.str i) (.str j) = (i == j) := by simp only [PyData.eqv]
@[simp] theorem eqv_frD (p q : Int × Int) : PyData.eqv (frD p) (frD q) = decide (p = q) := by
  obtain ⟨a, b⟩ := p
  obtain ⟨c, d⟩ := q
  simp only [frD, PyData.eqv, PyData.eqvAll, Prod.mk.injEq, Bool.and_true]
  by_cases h : a = c <;> by_cases h' : b = d <;> simp [h, h']
theorem eqv_lnil (xs : List PyData) : PyData.eqv (.list xs) (.list []) = xs.isEmpty := by cases xs <;> simp [PyData.eqv, PyData.eqvAll]
theorem eqv_tnil (xs : List PyData) : PyData.eqv (.tuple xs) (.tuple []) = xs.isEmpty := by cases xs <;> simp [PyData.eqv, PyData.eqvAll]
theorem eqvAll_len : ∀ {xs ys : List PyData}, PyData.eqvAll xs ys = true → xs.length = ys.length
  | [], [], _ => rfl
  | x :: xs, y :: ys, h => by
    simp only [PyData.eqvAll, Bool.and_eq_true] at h
    exact congrArg (· + 1) (eqvAll_len h.2)
  | [], _ :: _, h => by simp [PyData.eqvAll] at h
  | _ :: _, [], h => by simp [PyData.eqvAll] at h
/-! ### simp forms -/
@[simp] theorem wIx_t {xs : List PyData} {i : Int} {P : PyData → Prop} : wIx (.tuple xs) (.int i) P ↔ ∃ z, atI xs i = some z ∧ P z :=
  ⟨fun ⟨ys, j, z, e1, e2, h, p⟩ => by rcases e1 with e1 | e1 <;> cases e1; cases e2; exact ⟨z, h, p⟩, fun ⟨z, h, p⟩ => ⟨xs, i, z, .inr rfl, rfl, h, p⟩⟩
@[simp] theorem wIx_l {xs : List PyData} {i : Int} {P : PyData → Prop} : wIx (.list xs) (.int i) P ↔ ∃ z, atI xs i = some z ∧ P z :=
  ⟨fun ⟨ys, j, z, e1, e2, h, p⟩ => by rcases e1 with e1 | e1 <;> cases e1; cases e2; exact ⟨z, h, p⟩, fun ⟨z, h, p⟩ => ⟨xs, i, z, .inl rfl, rfl, h, p⟩⟩
@[simp] theorem wLen_t {xs : List PyData} {P : PyData → Prop} : wLen [.tuple xs] P ↔ P (.int (xs.length : Nat)) :=
  ⟨fun ⟨ys, e, p⟩ => by rcases e with e | e <;> cases e; exact p, fun p => ⟨xs, .inr rfl, p⟩⟩
@[simp] theorem wLen_l {xs : List PyData} {P : PyData → Prop} : wLen [.list xs] P ↔ P (.int (xs.length : Nat)) :=
  ⟨fun ⟨ys, e, p⟩ => by rcases e with e | e <;> cases e; exact p, fun p => ⟨xs, .inl rfl, p⟩⟩
@[simp] theorem wTup_t {xs : List PyData} {P : PyData → Prop} : wTup [.tuple xs] P ↔ P (.tuple xs) :=
  ⟨fun ⟨ys, e, p⟩ => by rcases e with e | e <;> cases e; exact p, fun p => ⟨xs, .inr rfl, p⟩⟩
@[simp] theorem wTup_l {xs : List PyData} {P : PyData → Prop} : wTup [.list xs] P ↔ P (.tuple xs) :=
  ⟨fun ⟨ys, e, p⟩ => by rcases e with e | e <;> cases e; exact p, fun p => ⟨xs, .inl rfl, p⟩⟩
@[simp] theorem wInt_i {i : Int} {P : PyData → Prop} : wInt [.int i] P ↔ P (.int i) :=
  ⟨fun h => by rcases h with ⟨j, e, p⟩ | ⟨j, e, p⟩ <;> cases e; exact p, fun p => .inl ⟨i, rfl, p⟩⟩
@[simp] theorem wInt_b {i : Bool} {P : PyData → Prop} : wInt [.bool i] P ↔ P (.int (if i then 1 else 0)) :=
  ⟨fun h => by rcases h with ⟨j, e, p⟩ | ⟨j, e, p⟩ <;> cases e; exact p, fun p => .inr ⟨i, rfl, p⟩⟩
@[simp] theorem wCatL_l {xs ys : List PyData} {P : PyData → Prop} : wCatL (.list xs) (.list ys) P ↔ xs.length + ys.length ≤ sizeLine ∧ P (.list (xs ++ ys)) :=
  ⟨fun ⟨_, _, e, e', l, p⟩ => by cases e; cases e'; exact ⟨l, p⟩, fun ⟨l, p⟩ => ⟨_, _, rfl, rfl, l, p⟩⟩
@[simp] theorem wCatT_t {xs ys : List PyData} {P : PyData → Prop} : wCatT (.tuple xs) (.tuple ys) P ↔ xs.length + ys.length ≤ sizeLine ∧ P (.tuple (xs ++ ys)) :=
  ⟨fun ⟨_, _, e, e', l, p⟩ => by cases e; cases e'; exact ⟨l, p⟩, fun ⟨l, p⟩ => ⟨_, _, rfl, rfl, l, p⟩⟩
theorem map_bool_inj : ∀ {bs cs : List Bool}, bs.map PyData.bool = cs.map PyData.bool → bs = cs
  | [], [], _ => rfl
  | b :: bs, c :: cs, h => by
    simp only [List.map_cons, List.cons.injEq, PyData.bool.injEq] at h
    rw [h.1, map_bool_inj h.2]
  | [], _ :: _, h => by cases h
  | _ :: _, [], h => by cases h
@[simp] theorem wAll_l {bs : List Bool} {P : PyData → Prop} : wAll [.list (bs.map PyData.bool)] P ↔ P (.bool (bs.all id)) :=
  ⟨fun ⟨cs, e, p⟩ => by
    have e : bs.map PyData.bool = cs.map PyData.bool := by simpa using e
    have e : bs = cs := map_bool_inj e
    subst e; exact p, fun p => ⟨bs, rfl, p⟩⟩
@[simp] theorem wAny_l {bs : List Bool} {P : PyData → Prop} : wAny [.list (bs.map PyData.bool)] P ↔ P (.bool (bs.any id)) :=
  ⟨fun ⟨cs, e, p⟩ => by
    have e : bs.map PyData.bool = cs.map PyData.bool := by simpa using e
    have e : bs = cs := map_bool_inj e
    subst e; exact p, fun p => ⟨bs, rfl, p⟩⟩
@[simp] theorem shp_hard : SeqAt.shaped (.str "hard") = true := (sh_s (n := 0) can_hard).sh
@[simp] theorem shp_ease : SeqAt.shaped (.str "ease") = true := (sh_s (n := 0) can_ease).sh
@[simp] theorem eh_ne : (("ease" : Str) == "hard") = false := by decide
@[simp] theorem he_ne : (("hard" : Str) == "ease") = false := by decide
@[simp] theorem eh_ne' : (("ease" : Str) = "hard") = False := by simp; decide
@[simp] theorem he_ne' : (("hard" : Str) = "ease") = False := by simp; decide
/-- a mark -/
def mkD (m : Bool × Nat) : PyData := .tuple [.str (if m.1 = true then "hard" else "ease"), .int (m.2 : Int)]
theorem sh_mk {n : Nat} (m : Bool × Nat) : Sh (n + 1) (mkD m) := sh_t fun x hx => by
  simp only [List.mem_cons, List.not_mem_nil, or_false] at hx
  rcases hx with rfl | rfl
  · cases m.1
    · exact sh_s can_ease
    · exact sh_s can_hard
  · exact sh_i _
@[simp] theorem at0 (a : PyData) (l : List PyData) : atI (a :: l) 0 = some a := by simp [atI, ixN]
@[simp] theorem at1 (a b : PyData) (l : List PyData) : atI (a :: b :: l) 1 = some b := by
  simp only [atI, ixN, List.length_cons]
  rw [if_pos (by decide), if_pos (by omega)]
  rfl
@[simp] theorem at2 (a b c : PyData) (l : List PyData) : atI (a :: b :: c :: l) 2 = some c := by
  simp only [atI, ixN, List.length_cons]
  rw [if_pos (by decide), if_pos (by omega)]
  rfl
theorem atI_nat {xs : List PyData} {i : Nat} {d : PyData} (h : xs[i]? = some d) : atI xs (i : Int) = some d := by
  have hi : i < xs.length := (List.getElem?_eq_some_iff.mp h).1
  simp only [atI, ixN]
  rw [if_pos (by omega), if_pos (by omega)]
  exact h
@[simp] theorem wIx_mk0 {m : Bool × Nat} {P : PyData → Prop} : wIx (mkD m) (.int 0) P ↔ P (.str (if m.1 = true then "hard" else "ease")) := by simp [mkD]
@[simp] theorem wIx_mk1 {m : Bool × Nat} {P : PyData → Prop} : wIx (mkD m) (.int 1) P ↔ P (.int (m.2 : Int)) := by simp [mkD]
@[simp] theorem shp_mk (m : Bool × Nat) : SeqAt.shaped (mkD m) = true := (sh_mk (n := 0) m).sh
@[simp] theorem shp_hs (b : Bool) : SeqAt.shaped (.str (if b = true then "hard" else "ease")) = true := by cases b <;> simp
@[simp] theorem hs_hard (b : Bool) : ((if b = true then ("hard" : Str) else "ease") == "hard") = b := by cases b <;> simp
@[simp] theorem wIx_fr0 {p : Int × Int} {P : PyData → Prop} : wIx (frD p) (.int 0) P ↔ P (.int p.1) := by simp [frD]
@[simp] theorem wIx_fr1 {p : Int × Int} {P : PyData → Prop} : wIx (frD p) (.int 1) P ↔ P (.int p.2) := by simp [frD]
/-! ### loops, comprehensions -/
theorem compD_map {α : Type} {m : DM} {own : List Nat} {Ft : DB} {Fe : DT} {δ0 : List Sv} {emb : α → PyData} {t : α → Bool} {f : α → PyData} : ∀ (xs : List α) {acc : List PyData} {g : Nat} {P : Nat → List PyData → Prop},
    (∀ x ∈ xs, ∃ l, m (emb x) = some l ∧ (∀ p ∈ l, p.1 ∈ own) ∧ (∀ (k : Nat → Bool → Prop) g, k g (t x) → Ft g (putD δ0 l) k) ∧ (t x = true → ∀ (k : Nat → PyData → Prop) g, k g (f x) → Fe g (putD δ0 l) k)) →
    P g (acc ++ (xs.filter t).map f) → compD m own Ft Fe δ0 (xs.map emb) acc g P
  | [], acc, g, P, _, p => by simpa [compD] using p
  | x :: xs, acc, g, P, h, p => by
    obtain ⟨l, h1, h2, h3, h4⟩ := h x List.mem_cons_self
    have ih := fun acc p => compD_map (t := t) (f := f) (m := m) (own := own) (Ft := Ft) (Fe := Fe) (δ0 := δ0) (emb := emb) (g := g) (P := P) xs (acc := acc) (fun y hy => h y (List.mem_cons_of_mem _ hy)) p
    refine ⟨l, h1, h2, h3 _ g ?_⟩
    cases e : t x with
    | true =>
      rw [if_pos rfl]
      refine h4 e _ g (ih _ ?_)
      rw [List.filter_cons_of_pos e] at p
      simpa using p
    | false =>
      rw [if_neg (by decide)]
      refine ih _ ?_
      rw [List.filter_cons_of_neg (by rw [e]; decide)] at p
      exact p
/-- no test -/
theorem compD_all {α : Type} {m : DM} {own : List Nat} {Fe : DT} {δ0 : List Sv} {emb : α → PyData} {f : α → PyData} (xs : List α) {acc : List PyData} {g : Nat} {P : Nat → List PyData → Prop}
    (h : ∀ x ∈ xs, ∃ l, m (emb x) = some l ∧ (∀ p ∈ l, p.1 ∈ own) ∧ (∀ (k : Nat → PyData → Prop) g, k g (f x) → Fe g (putD δ0 l) k)) (p : P g (acc ++ xs.map f)) : compD m own fYes Fe δ0 (xs.map emb) acc g P :=
  compD_map (t := fun _ => true) (f := f) xs (fun x hx => let ⟨l, h1, h2, h3⟩ := h x hx; ⟨l, h1, h2, fun k g q => q, fun _ => h3⟩) (by rw [List.filter_eq_self.mpr (fun _ _ => rfl)]; exact p)
/-- elements that only a relation gives -/
theorem compD_rel {α : Type} {m : DM} {own : List Nat} {Ft : DB} {Fe : DT} {δ0 : List Sv} {emb : α → PyData} (I : List α → List PyData → Prop) {P : Nat → List PyData → Prop}
    (hs : ∀ x xs acc, I (x :: xs) acc → ∃ l, m (emb x) = some l ∧ (∀ p ∈ l, p.1 ∈ own) ∧ ∀ g, Ft g (putD δ0 l) fun g1 b => if b = true then Fe g1 (putD δ0 l) fun g2 e => g2 = g ∧ I xs (acc ++ [e]) else g1 = g ∧ I xs acc)
    (hm : ∀ l g (k k' : Nat → Bool → Prop), (∀ g b, k g b → k' g b) → Ft g (putD δ0 l) k → Ft g (putD δ0 l) k') (hm' : ∀ l g (k k' : Nat → PyData → Prop), (∀ g b, k g b → k' g b) → Fe g (putD δ0 l) k → Fe g (putD δ0 l) k') :
    ∀ (xs : List α) (acc : List PyData) (g : Nat), I xs acc → (∀ acc, I [] acc → P g acc) → compD m own Ft Fe δ0 (xs.map emb) acc g P
  | [], acc, g, h, p => p acc h
  | x :: xs, acc, g, h, p => by
    obtain ⟨l, h1, h2, h3⟩ := hs x xs acc h
    refine ⟨l, h1, h2, hm l g _ _ (fun g1 b q => ?_) (h3 g)⟩
    cases b with
    | true =>
      rw [if_pos rfl] at q ⊢
      refine hm' l g1 _ _ (fun g2 e q' => ?_) q
      clear q
      obtain ⟨e2, q2⟩ := q'
      subst e2
      exact compD_rel I hs hm hm' xs _ _ q2 p
    | false =>
      rw [if_neg (by decide)] at q ⊢
      obtain ⟨e2, q2⟩ := q
      subst e2
      exact compD_rel I hs hm hm' xs _ _ q2 p
theorem forD_rel {α : Type} {m : DM} {Gb : DSt} {emb : α → PyData} {P : DEn} (I : List α → Nat → List Sv → Prop)
    (hs : ∀ x xs g δ, I (x :: xs) g δ → ∃ l, m (emb x) = some l ∧ ∀ k : DEn, k.rt = P.rt → (∀ g δ, I xs g δ → k.nx g δ) → Gb k g (putD δ l)) (he : ∀ g δ, I [] g δ → P.nx g δ) :
    ∀ (xs : List α) (g : Nat) (δ : List Sv), I xs g δ → forD m Gb (xs.map emb) P g δ
  | [], g, δ, h => he g δ h
  | x :: xs, g, δ, h => by
    obtain ⟨l, h1, h2⟩ := hs x xs g δ h
    exact ⟨l, h1, h2 _ rfl fun g δ q => forD_rel I hs he xs g δ q⟩
/-- a loop that folds -/
theorem forD_fold {α σ : Type} {m : DM} {Gb : DSt} {emb : α → PyData} {P : DEn} (st : σ → List Sv → Prop) (step : σ → α → σ) (J : σ → Prop)
    (hs : ∀ x s, J s → J (step s x) ∧ ∀ g δ, st s δ → ∃ l, m (emb x) = some l ∧ ∀ k : DEn, k.rt = P.rt → (∀ g δ, st (step s x) δ → k.nx g δ) → Gb k g (putD δ l)) :
    ∀ (xs : List α) (s : σ) (g : Nat) (δ : List Sv), J s → st s δ → (∀ g δ, J (xs.foldl step s) → st (xs.foldl step s) δ → P.nx g δ) → forD m Gb (xs.map emb) P g δ
  | [], s, g, δ, j, h, p => p g δ j h
  | x :: xs, s, g, δ, j, h, p => by
    obtain ⟨j', h1⟩ := hs x s j
    obtain ⟨l, h2, h3⟩ := h1 g δ h
    exact ⟨l, h2, h3 _ rfl fun g δ q => forD_fold st step J hs xs (step s x) g δ j' q p⟩
theorem rgD_map (n : Nat) : rgD 0 (n : Int) = (List.range n).map fun (i : Nat) => PyData.int (i : Int) := by
  unfold rgD
  simp
end Lk

set_option Elab.async false
set_option linter.all false
set_option maxRecDepth 100000
set_option maxHeartbeats 4000000
namespace Lk
open PySem PySem.Spec PyProof.Rows L2 L2H HotX LkHot LkHead
variable {P : Program} {w : World} {K : PySem.W.Frag} {mg : Str → Option Value} {base : Heap}
def fr (a b : Int) : Int × Int := (a / ((Nat.gcd a.natAbs b.natAbs : Nat) : Int), b / ((Nat.gcd a.natAbs b.natAbs : Nat) : Int))
def isNum : PyData → Bool
  | .int _ => true
  | _ => false
def F_is_number : DSp := fun ds P => ∃ d, ds = [d] ∧ P (.bool (isNum d))
def isTupOf : PyData → Int → Bool
  | .tuple xs, n => decide ((xs.length : Int) = n)
  | _, _ => false
def F_is_tuple_of : DSp := fun ds P => ∃ d n, ds = [d, .int n] ∧ P (.bool (isTupOf d n))
def F_fraction : DSp := fun ds P => ∃ a b : Int, ds = [.int a, .int b] ∧ 0 < b ∧ b < 2 ^ 30 ∧ P (frD (fr a b))
/-- a fraction with a small bottom -/
def Fok (p : Int × Int) : Prop := 0 < p.2 ∧ p.2 < 2 ^ 15
def plusF (p q : Int × Int) : Int × Int := fr (p.1 * q.2 + q.1 * p.2) (p.2 * q.2)
def offF (p q : Int × Int) : Int × Int := fr (p.1 * q.2 - q.1 * p.2) (p.2 * q.2)
def orderF (p q : Int × Int) : Int := if p.1 * q.2 = q.1 * p.2 then 0 else if q.1 * p.2 < p.1 * q.2 then 1 else -1
def F_plus : DSp := fun ds P => ∃ p q, ds = [frD p, frD q] ∧ Fok p ∧ Fok q ∧ P (frD (plusF p q))
def F_order : DSp := fun ds P => ∃ p q, ds = [frD p, frD q] ∧ Fok p ∧ Fok q ∧ P (.int (orderF p q))
theorem fok_mul {p q : Int × Int} (h : Fok p) (k : Fok q) : 0 < p.2 * q.2 ∧ p.2 * q.2 < 2 ^ 30 := by
  refine ⟨Int.mul_pos h.1 k.1, ?_⟩
  have h1 : p.2 * q.2 ≤ (2 ^ 15 - 1) * q.2 := Int.mul_le_mul_of_nonneg_right (by have := h.2; omega) (by have := k.1; omega)
  have h2 : (2 ^ 15 - 1) * q.2 ≤ (2 ^ 15 - 1) * (2 ^ 15 - 1) := Int.mul_le_mul_of_nonneg_left (by have := k.2; omega) (by decide)
  have h3 : ((2 : Int) ^ 15 - 1) * (2 ^ 15 - 1) < 2 ^ 30 := by decide
  omega
theorem cmul_r {i j : Int} (h : 0 < j ∧ j < 2 ^ 15) : CMul i j := .inr ⟨by omega, by omega⟩
theorem cmul_l {i j : Int} (h : 0 < i ∧ i < 2 ^ 15) : CMul i j := .inl ⟨by omega, by omega⟩
mutual
def tpD : PyData → PyData
  | .list xs => .tuple (tpDs xs)
  | .tuple xs => .tuple (tpDs xs)
  | .none => .none
  | .bool b => .bool b
  | .int i => .int i
  | .str x => .str x
  | .dict k => .dict k
def tpDs : List PyData → List PyData
  | [] => []
  | x :: xs => tpD x :: tpDs xs
end
theorem tpDs_eq : ∀ xs : List PyData, tpDs xs = xs.map tpD
  | [] => by simp [tpDs]
  | x :: xs => by simp [tpDs, tpDs_eq xs]
mutual
def lsD : PyData → PyData
  | .list xs => .list (lsDs xs)
  | .tuple xs => .list (lsDs xs)
  | .none => .none
  | .bool b => .bool b
  | .int i => .int i
  | .str x => .str x
  | .dict k => .dict k
def lsDs : List PyData → List PyData
  | [] => []
  | x :: xs => lsD x :: lsDs xs
end
theorem lsDs_eq : ∀ xs : List PyData, lsDs xs = xs.map lsD
  | [] => by simp [lsDs]
  | x :: xs => by simp [lsDs, lsDs_eq xs]
def F_tuple_of (n : Nat) : DSp := fun ds P => ∃ d, ds = [d] ∧ Sh n d ∧ P (tpD d)
def F_law_lists (n : Nat) : DSp := fun ds P => ∃ d, ds = [d] ∧ Sh n d ∧ P (lsD d)
def F_law_same (n : Nat) : DSp := fun ds P => ∃ d, ds = [d, d] ∧ Sh n d ∧ P (.bool true)
theorem sh_in {n : Nat} {xs : List PyData} {d : PyData} (e : d = .list xs ∨ d = .tuple xs) (h : Sh n d) : ∃ m, n = m + 1 ∧ ∀ x ∈ xs, Sh m x := by
  have hc : PyData.canLayAll0 xs = true := by rcases e with rfl | rfl <;> simpa only [PyData.canLay0] using h.1
  have hd : PyData.depthAll xs + 1 ≤ n := by rcases e with rfl | rfl <;> simpa only [PyData.depth] using h.2
  refine ⟨n - 1, by omega, fun x hx => ⟨PyData.canLay0_of_mem xs x hc hx, ?_⟩⟩
  have : ∀ {xs : List PyData}, x ∈ xs → x.depth ≤ PyData.depthAll xs := by
    intro xs
    induction xs with
    | nil => intro h; cases h
    | cons y ys ih =>
      intro h
      simp only [PyData.depthAll]
      rcases List.mem_cons.mp h with rfl | h
      · exact Nat.le_max_left _ _
      · exact Nat.le_trans (ih h) (Nat.le_max_right _ _)
  have := this hx
  omega
section
variable {X : Cx} {W : Option Addr}
/-- a name that holds a list or a tuple, walked -/
theorem di_var {tg : Expr} (i : Nat) {x : Str} {pos : Pos} (hN : X.N[i]? = some x := by rfl) (hv : Vis X.env.scope x := by first | exact Or.inl rfl | exact Or.inr (Or.inl rfl) | exact Or.inr (Or.inr rfl)) (hd : (x == ("__debug__" : Str)) = false := by decide)
    (hcd : (x == ("__classdict__" : Str)) = false := by decide) : DI X W tg (.Name x pos) (fun g δ P => ∃ ds, (δ[i]? = some (.dat (.list ds)) ∨ δ[i]? = some (.dat (.tuple ds))) ∧ P g ds) := by
  have L := di_list (tg := tg) (de_var (W := W) (pos := pos) i hN hv hd hcd)
  have T := di_tup (tg := tg) (de_var (W := W) (pos := pos) i hN hv hd hcd)
  refine ⟨fun hc => ⟨fun pins s σ H R I h => ?_⟩, fun hc => ⟨fun pins s σ H R I h => ?_⟩⟩
  · obtain ⟨E, O, g, δ, P, Rl, ⟨ds, q | q, p⟩, k⟩ := h
    · exact (L.1 hc).run pins s σ H R I ⟨E, O, g, δ, P, Rl, ⟨_, q, ds, rfl, p⟩, k⟩
    · exact (T.1 hc).run pins s σ H R I ⟨E, O, g, δ, P, Rl, ⟨_, q, ds, rfl, p⟩, k⟩
  · obtain ⟨E, O, g, δ, P, Rl, ⟨ds, q | q, p⟩, k⟩ := h
    · exact (L.2 hc).run pins s σ H R I ⟨E, O, g, δ, P, Rl, ⟨_, q, ds, rfl, p⟩, k⟩
    · exact (T.2 hc).run pins s σ H R I ⟨E, O, g, δ, P, Rl, ⟨_, q, ds, rfl, p⟩, k⟩
theorem de_never {e : Expr} : DE X W e (fun _ _ _ => False) := ⟨fun pins s σ H Q I ⟨_, _, _, _, _, _, f, _⟩ => f.elim⟩
end
theorem compD_self {m : DM} {own : List Nat} {Fe : DT} {δ0 : List Sv} {f : PyData → PyData} (xs : List PyData) {acc : List PyData} {g : Nat} {P : Nat → List PyData → Prop}
    (h : ∀ x ∈ xs, ∃ l, m x = some l ∧ (∀ p ∈ l, p.1 ∈ own) ∧ (∀ (k : Nat → PyData → Prop) g, k g (f x) → Fe g (putD δ0 l) k)) (p : P g (acc ++ xs.map f)) : compD m own fYes Fe δ0 xs acc g P := by
  have := compD_all (emb := fun x => x) (f := f) (m := m) (own := own) (Fe := Fe) (δ0 := δ0) xs h p
  simpa using this
def below : PyData → Int → Bool
  | .int i, n => decide (0 ≤ i) && decide (i < n)
  | _, _ => false
def F_is_thing_below : DSp := fun ds P => ∃ d n, ds = [d, .int n] ∧ P (.bool (below d n))
def hasMark (nh ne : Nat) : PyData → Bool
  | .tuple [.str s, x] => if s = "hard" then below x nh else if s = "ease" then below x ne else false
  | _ => false
/-- a sheet, in tuples or in lists -/
def ShF (sheet x : PyData) (hs es : List PyData) : Prop := sheet = .tuple [x, .tuple hs, .tuple es] ∨ sheet = .list [x, .list hs, .list es]
def F_has_mark : DSp := fun ds P => ∃ sheet x hs es d, ds = [sheet, d] ∧ ShF sheet x hs es ∧ Sh 8 d ∧ P (.bool (hasMark hs.length es.length d))
theorem sc_is_number : FnScope ["thing"] ["thing"] (defScope s_is_number) := ⟨rfl, rfl, rfl, by decide +kernel, rfl, by decide +kernel, by decide +kernel⟩
theorem ca_is_number {f : Addr} {fd : FuncData} (B : Bi K mg) (Fd : FunD K "is_number" "is_number" (defArgs s_is_number) (defBody s_is_number) (defScope s_is_number) [] [] f fd) (hm : mg "is_number" = some (.ref f)) :
    Ca2 P w K mg base 1 "is_number" (spD K 1 F_is_number) := by
  refine ca2_of (k := 0) Fd sc_is_number rfl hm (fun _ _ _ _ _ _ us hl => match us, hl with | [_], _ => rfl) (fun cdv A outer s H E c pn m r =>
  (ds_one (ds_ret (de_and (de_isi "int" kit_int B.n_isinstance B.n_int (de_var 0)) (de_one (de_not (de_isi "bool" kit_bool B.n_isinstance B.n_bool (de_var 0)))))))) ?_
  rintro ds P' - ⟨d, rfl, h⟩
  cases d <;> simpa [initD, isiD, isNum] using h
theorem sc_is_tuple_of : FnScope ["thing", "many"] ["thing", "many"] (defScope s_is_tuple_of) := ⟨rfl, rfl, rfl, by decide +kernel, rfl, by decide +kernel, by decide +kernel⟩
theorem ca_is_tuple_of {f : Addr} {fd : FuncData} (B : Bi K mg) (Fd : FunD K "is_tuple_of" "is_tuple_of" (defArgs s_is_tuple_of) (defBody s_is_tuple_of) (defScope s_is_tuple_of) [] [] f fd) (hm : mg "is_tuple_of" = some (.ref f)) :
    Ca2 P w K mg base 1 "is_tuple_of" (spD K 2 F_is_tuple_of) := by
  refine ca2_of (k := 0) Fd sc_is_tuple_of rfl hm (fun _ _ _ _ _ _ us hl => match us, hl with | [_, _], _ => rfl) (fun cdv A outer s H E c pn m r =>
  (ds_one (ds_ret (de_and (de_isi "tuple" kit_tuple B.n_isinstance B.n_tuple (de_var 0)) (de_one (de_cmp (op_eqD r.hu64) good_eq (de_callB call_len good_len B.n_len (da_cons (de_var 0) da_nil)) (de_var 1))))))) ?_
  rintro ds P' - ⟨d, n, rfl, h⟩
  cases d <;> simpa [initD, isiD, isTupOf, wLen, wEq] using h
theorem sc_fraction : FnScope ["top", "bottom", "common"] ["top", "bottom"] (defScope s_fraction) := ⟨rfl, rfl, rfl, by decide +kernel, rfl, by decide +kernel, by decide +kernel⟩
theorem ca_fraction {f : Addr} {fd : FuncData} (B : Bi K mg) (Fd : FunD K "fraction" "fraction" (defArgs s_fraction) (defBody s_fraction) (defScope s_fraction) [] [] f fd) (hm : mg "fraction" = some (.ref f)) :
    Ca2 P w K mg base 1 "fraction" (spD K 2 F_fraction) := by
  refine ca2_of (k := 0) Fd sc_fraction rfl hm (fun _ _ _ _ _ _ us hl => match us, hl with | [_, _], _ => rfl) (fun cdv A outer s H E c pn m r =>
  (ds_cons (ds_if (dt_cmp (op_eqD r.hu64) good_eq (de_var 1) de_int) (ds_one ds_never) ds_nil)
  (ds_cons (ds_set 2 sc_fraction.nd (de_callF cr_gcd good_gcd B.n_gcd (da_cons (de_var 0) (da_cons (de_var 1) da_nil))))
  (ds_cons (ds_if (dt_cmp op_lt good_lt (de_var 1) de_int) (ds_one (ds_set 2 sc_fraction.nd (de_neg (de_var 2)))) ds_nil)
  (ds_one (ds_ret (de_tup (da_cons (de_op op_fdivN good_fdivN (de_var 0) (de_var 2)) (da_cons (de_op op_fdivN good_fdivN (de_var 1) (de_var 2)) da_nil))))))))) ?_
  rintro ds P' - ⟨a, b, rfl, h1, h2, h⟩
  simp [initD, wEq, wI, wI0, CDivN]
  have hg : a.natAbs.gcd b.natAbs ≤ b.natAbs := Nat.gcd_le_right _ (by omega)
  refine ⟨by omega, a, b, ⟨rfl, rfl⟩, ?_⟩
  rw [if_neg (by omega)]
  refine ⟨⟨fun _ => by omega, by omega⟩, by decide, ?_⟩
  rw [Int.fdiv_eq_ediv_of_nonneg _ (by omega), Int.fdiv_eq_ediv_of_nonneg _ (by omega)]
  exact h
theorem sc_plus : FnScope ["x", "y"] ["x", "y"] (defScope s_plus) := ⟨rfl, rfl, rfl, by decide +kernel, rfl, by decide +kernel, by decide +kernel⟩
theorem ca_plus {f : Addr} {fd : FuncData} (B : Bi K mg) (Fd : FunD K "plus" "plus" (defArgs s_plus) (defBody s_plus) (defScope s_plus) [] [] f fd) (hm : mg "plus" = some (.ref f)) (c_fraction : Ca2 P w K mg base 1 "fraction" (spD K 2 F_fraction)) :
    Ca2 P w K mg base 2 "plus" (spD K 2 F_plus) := by
  refine ca2_of (k := 1) Fd sc_plus rfl hm (fun _ _ _ _ _ _ us hl => match us, hl with | [_, _], _ => rfl) (fun cdv A outer s H E c pn m r =>
  (ds_one (ds_ret (de_call2 (n := 2) m c_fraction r (by decide) (da_cons (de_op op_add good_add (de_op op_mul good_mul (de_ix (de_var 0) de_int) (de_ix (de_var 1) de_int)) (de_op op_mul good_mul (de_ix (de_var 1) de_int) (de_ix (de_var 0) de_int))) (da_cons (de_op op_mul good_mul (de_ix (de_var 0) de_int) (de_ix (de_var 1) de_int)) da_nil)))))) ?_
  rintro ds P' - ⟨p, q, rfl, h1, h2, h⟩
  simp [initD, wI, wI0, wIx, frD, F_fraction]
  have := fok_mul h1 h2
  exact ⟨cmul_r h2, cmul_r h1, cmul_r h2, _, _, ⟨rfl, rfl⟩, this.1, this.2, h⟩
theorem sc_order : FnScope ["x", "y", "one", "other"] ["x", "y"] (defScope s_order) := ⟨rfl, rfl, rfl, by decide +kernel, rfl, by decide +kernel, by decide +kernel⟩
theorem ca_order {f : Addr} {fd : FuncData} (B : Bi K mg) (Fd : FunD K "order" "order" (defArgs s_order) (defBody s_order) (defScope s_order) [] [] f fd) (hm : mg "order" = some (.ref f)) :
    Ca2 P w K mg base 1 "order" (spD K 2 F_order) := by
  refine ca2_of (k := 0) Fd sc_order rfl hm (fun _ _ _ _ _ _ us hl => match us, hl with | [_, _], _ => rfl) (fun cdv A outer s H E c pn m r =>
  (ds_cons (ds_par2 2 3 m sc_order.nd (da_cons (de_op op_mul good_mul (de_ix (de_var 0) de_int) (de_ix (de_var 1) de_int)) (da_cons (de_op op_mul good_mul (de_ix (de_var 1) de_int) (de_ix (de_var 0) de_int)) da_nil)))
  (ds_cons (ds_if (dt_cmp (op_eqD r.hu64) good_eq (de_var 2) (de_var 3)) (ds_one (ds_ret de_int)) ds_nil)
  (ds_one (ds_ret (de_if (dt_cmp op_gt good_gt (de_var 2) (de_var 3)) de_int (de_neg de_int))))))) ?_
  rintro ds P' - ⟨p, q, rfl, h1, h2, h⟩
  simp [initD, wI, wI0, wIx, frD, wEq]
  refine ⟨cmul_r h2, cmul_r h1, _, _, ⟨rfl, rfl⟩, ?_⟩
  simp
  unfold orderF at h
  split
  · rename_i e
    rw [if_pos e] at h
    exact h
  · rename_i e
    rw [if_neg e] at h
    split
    · rename_i e'
      rw [if_pos e'] at h
      exact h
    · rename_i e'
      rw [if_neg e'] at h
      exact h
theorem sc_is_thing_below : FnScope ["thing", "many"] ["thing", "many"] (defScope s_is_thing_below) := ⟨rfl, rfl, rfl, by decide +kernel, rfl, by decide +kernel, by decide +kernel⟩
theorem ca_is_thing_below {f : Addr} {fd : FuncData} (B : Bi K mg) (Fd : FunD K "is_thing_below" "is_thing_below" (defArgs s_is_thing_below) (defBody s_is_thing_below) (defScope s_is_thing_below) [] [] f fd) (hm : mg "is_thing_below" = some (.ref f)) (c_is_number : Ca2 P w K mg base 1 "is_number" (spD K 1 F_is_number)) :
    Ca2 P w K mg base 2 "is_thing_below" (spD K 2 F_is_thing_below) := by
  refine ca2_of (k := 1) Fd sc_is_thing_below rfl hm (fun _ _ _ _ _ _ us hl => match us, hl with | [_, _], _ => rfl) (fun cdv A outer s H E c pn m r =>
  (ds_one (ds_ret (de_and (de_call2 (n := 1) m c_is_number r (by decide) (da_cons (de_var 0) da_nil)) (de_one (de_chain op_le good_le op_lt good_lt de_int (de_var 0) (de_var 1))))))) ?_
  rintro ds P' - ⟨d, n, rfl, h⟩
  cases d <;> simp [initD, F_is_number, isNum, wI0]
  all_goals try (simpa [below] using h)
  rename_i i
  unfold below at h
  by_cases e : 0 ≤ i
  · simpa [e] using h
  · simpa [e] using h
theorem sc_has_mark : FnScope ["sheet", "thing"] ["sheet", "thing"] (defScope s_has_mark) := ⟨rfl, rfl, rfl, by decide +kernel, rfl, by decide +kernel, by decide +kernel⟩
theorem ca_has_mark {f : Addr} {fd : FuncData} (B : Bi K mg) (Fd : FunD K "has_mark" "has_mark" (defArgs s_has_mark) (defBody s_has_mark) (defScope s_has_mark) [] [] f fd) (hm : mg "has_mark" = some (.ref f)) (c_is_tuple_of : Ca2 P w K mg base 1 "is_tuple_of" (spD K 2 F_is_tuple_of)) (c_is_thing_below : Ca2 P w K mg base 2 "is_thing_below" (spD K 2 F_is_thing_below)) :
    Ca2 P w K mg base 3 "has_mark" (spD K 2 F_has_mark) := by
  refine ca2_of (k := 2) Fd sc_has_mark rfl hm (fun _ _ _ _ _ _ us hl => match us, hl with | [_, _], _ => rfl) (fun cdv A outer s H E c pn m r =>
  (ds_cons (ds_if (dt_of (dw_or (dt_not (dt_val (de_call2 (n := 2) m c_is_tuple_of r (by decide) (da_cons (de_var 1) (da_cons de_int da_nil))))) (dw_or (dt_not (dt_val (de_isi "str" kit_str B.n_isinstance B.n_str (de_ix (de_var 1) de_int)))) (dw_or1 (dt_cmp (op_notInDT r.hu65) good_notInDT (de_ix (de_var 1) de_int) (de_tup (da_cons (de_HARD B) (da_cons (de_EASE B) da_nil)))))))) (ds_one (ds_ret de_bl)) ds_nil)
  (ds_one (ds_ret (de_call2 (n := 2) m c_is_thing_below r (by decide) (da_cons (de_ix (de_var 1) de_int) (da_cons (de_callB call_len good_len B.n_len (da_cons (de_ix (de_var 0) (de_if (dt_cmp (op_eqD r.hu64) good_eq (de_ix (de_var 1) de_int) (de_HARD B)) de_int de_int)) da_nil)) da_nil))))))) ?_
  rintro ds P' - ⟨sheet, x, hs, es, d, rfl, hsh, hd, h⟩
  simp [initD, F_is_tuple_of, F_is_thing_below]
  refine ⟨_, _, ⟨rfl, rfl⟩, ?_⟩
  have hz : ∀ d, (∀ s y, d ≠ .tuple [.str s, y]) → P' (PyData.bool (hasMark hs.length es.length d)) → P' (PyData.bool false) := fun d hn q => by
    unfold hasMark at q
    split at q
    · exact absurd rfl (hn _ _)
    · exact q
  cases d with
  | tuple xs =>
    match xs, h, hd with
    | [], h, _ => simpa [isTupOf, hasMark] using h
    | [_], h, _ => simpa [isTupOf, hasMark] using h
    | _ :: _ :: _ :: _, h, _ =>
      rw [if_neg (by simp [isTupOf]; omega)]
      simpa [hasMark] using h
    | [a, b], h, hd =>
      rw [if_pos (by simp [isTupOf])]
      simp only [wIx]
      refine ⟨_, _, _, .inr rfl, rfl, at0 _ _, ?_⟩
      cases a with
      | str s =>
        rw [if_pos (by simp [isiD])]
        refine ⟨_, _, _, .inr rfl, rfl, at0 _ _, by decide, ?_⟩
        have cs : PyData.canLay0 (.str s) = true := by
          have := hd.1
          simp only [PyData.canLay0, PyData.canLayAll0, Bool.and_eq_true] at this
          simpa only [PyData.canLay0] using this.1
        have s1 : SeqAt.shaped (.str s) = true := (sh_s (n := 0) cs).sh
        have s2 : SeqAt.shaped (.str "hard") = true := (sh_s (n := 0) can_hard).sh
        have s3 : SeqAt.shaped (.tuple [PyData.str "hard", PyData.str "ease"]) = true := (sh_t (n := 0) fun x hx => by
          simp only [List.mem_cons, List.not_mem_nil, or_false] at hx
          rcases hx with rfl | rfl
          · exact sh_s can_hard
          · exact sh_s can_ease).sh
        refine ⟨_, rfl, s1, s3, ?_⟩
        simp only [if_true, List.any_cons, List.any_nil, Bool.or_false, eqv_str, PyData.bool.injEq]
        by_cases e1 : s = "hard"
        · subst e1
          refine .inl ⟨by decide, _, _, _, .inr rfl, rfl, at1 _ _ _, _, _, _, .inr rfl, rfl, at0 _ _, s1, s2, .inr ⟨by rw [eqv_str]; exact congrArg PyData.bool (by decide), ?_⟩⟩
          rcases hsh with rfl | rfl
          · refine ⟨_, _, _, .inr rfl, rfl, at1 _ _ _, _, .inr rfl, _, _, ⟨rfl, rfl⟩, ?_⟩
            simpa [hasMark] using h
          · refine ⟨_, _, _, .inl rfl, rfl, at1 _ _ _, _, .inl rfl, _, _, ⟨rfl, rfl⟩, ?_⟩
            simpa [hasMark] using h
        · by_cases e2 : s = "ease"
          · subst e2
            refine .inl ⟨by decide, _, _, _, .inr rfl, rfl, at1 _ _ _, _, _, _, .inr rfl, rfl, at0 _ _, s1, s2, .inl ⟨by rw [eqv_str]; exact congrArg PyData.bool (by decide), ?_⟩⟩
            rcases hsh with rfl | rfl
            · refine ⟨_, _, _, .inr rfl, rfl, at2 _ _ _ _, _, .inr rfl, _, _, ⟨rfl, rfl⟩, ?_⟩
              simpa [hasMark, e1] using h
            · refine ⟨_, _, _, .inl rfl, rfl, at2 _ _ _ _, _, .inl rfl, _, _, ⟨rfl, rfl⟩, ?_⟩
              simpa [hasMark, e1] using h
          · refine .inr ⟨?_, ?_⟩
            · have n1 : (("hard" : Str) == s) = false := by simpa using fun z => e1 z.symm
              have n2 : (("ease" : Str) == s) = false := by simpa using fun z => e2 z.symm
              rw [n1, n2]; rfl
            · simpa [hasMark, e1, e2] using h
      | _ =>
        rw [if_neg (by simp [isiD])]
        simpa [hasMark] using h
  | _ =>
    rw [if_neg (by simp [isTupOf])]
    simpa [hasMark] using h
end Lk

set_option Elab.async false
set_option linter.all false
set_option maxRecDepth 100000
set_option maxHeartbeats 4000000
namespace Lk
open PySem PySem.Spec PyProof.Rows L2 L2H HotX LkHot LkHead
variable {P : Program} {w : World} {K : PySem.W.Frag} {mg : Str → Option Value} {base : Heap}
theorem sc_tuple_of : FnScope ["thing", "part"] ["thing"] (defScope s_tuple_of) := ⟨rfl, rfl, rfl, by decide +kernel, rfl, by decide +kernel, by decide +kernel⟩
theorem ca_tuple_of {f : Addr} {fd : FuncData} (B : Bi K mg) (Fd : FunD K "tuple_of" "tuple_of" (defArgs s_tuple_of) (defBody s_tuple_of) (defScope s_tuple_of) [] [] f fd) (hm : mg "tuple_of" = some (.ref f)) :
    ∀ n : Nat, Ca2 P w K mg base (n + 1) "tuple_of" (spD K 1 (F_tuple_of n))
  | 0 => by
    refine ca2_of (k := 0) Fd sc_tuple_of rfl hm (fun _ _ _ _ _ _ us hl => match us, hl with | [_], _ => rfl) (fun cdv A outer s H E c pn m r =>
  (ds_cons (ds_if (dt_val (de_isi2 "list" "tuple" kit_list kit_tuple B.n_isinstance B.n_list B.n_tuple (de_var 0))) (ds_one ds_never) ds_nil)
  (ds_one (ds_ret (de_var 0))))) ?_
    rintro ds P' - ⟨d, rfl, hd, h⟩
    simp [initD]
    cases d with
    | list xs => obtain ⟨m, e, _⟩ := sh_in (.inl rfl) hd; cases e
    | tuple xs => obtain ⟨m, e, _⟩ := sh_in (.inr rfl) hd; cases e
    | _ => simpa [isiD, tpD] using h
  | n + 1 => by
    have c_tuple_of : Ca2 P w K mg base (n + 1) "tuple_of" (spD K 1 (F_tuple_of n)) := ca_tuple_of B Fd hm n
    refine ca2_of (k := n + 1) Fd sc_tuple_of rfl hm (fun _ _ _ _ _ _ us hl => match us, hl with | [_], _ => rfl) (fun cdv A outer s H E c pn m r =>
  (ds_cons (ds_if (dt_val (de_isi2 "list" "tuple" kit_list kit_tuple B.n_isinstance B.n_list B.n_tuple (de_var 0))) (ds_one (ds_ret (de_callTy call_tuple_of good_tup B.n_tuple (da_cons (de_of (df_lc (own := [("part", 1)]) m sc_tuple_of.nd (di_var 0) (blkOk_by (N := ["thing", "part"]) (sc := (defScope s_tuple_of)) (by decide +kernel)) (fun _ _ _ _ _ => (dg_name 1 sc_tuple_of.nd)) (fun _ _ _ _ _ => dtt_nil) (fun _ _ _ _ _ => (de_call2 (n := 1) (md_blk m _ _ _ _ _) c_tuple_of r (Nat.le_refl _) (da_cons (de_var 1) da_nil))))) da_nil)))) ds_nil)
  (ds_one (ds_ret (de_var 0))))) ?_
    rintro ds P' - ⟨d, rfl, hd, h⟩
    simp [initD]
    cases d with
    | list xs =>
      obtain ⟨m, e, hx⟩ := sh_in (.inl rfl) hd
      cases e
      rw [if_pos (by simp [isiD])]
      refine ⟨xs, .inl rfl, compD_self (f := tpD) xs (fun x hx' => ⟨_, rfl, by simp, fun k g q => ?_⟩) ?_⟩
      · simp [putD, wipeD]
        exact ⟨x, rfl, hx x hx', q⟩
      · simpa [tpD, tpDs_eq] using h
    | tuple xs =>
      obtain ⟨m, e, hx⟩ := sh_in (.inr rfl) hd
      cases e
      rw [if_pos (by simp [isiD])]
      refine ⟨xs, .inr rfl, compD_self (f := tpD) xs (fun x hx' => ⟨_, rfl, by simp, fun k g q => ?_⟩) ?_⟩
      · simp [putD, wipeD]
        exact ⟨x, rfl, hx x hx', q⟩
      · simpa [tpD, tpDs_eq] using h
    | _ => simpa [isiD, tpD] using h
theorem sc_law_lists : FnScope ["_law_matter", "_law_bit"] ["_law_matter"] (defScope s_law_lists) := ⟨rfl, rfl, rfl, by decide +kernel, rfl, by decide +kernel, by decide +kernel⟩
theorem ca_law_lists {f : Addr} {fd : FuncData} (B : Bi K mg) (Fd : FunD K "_law_lists" "_law_lists" (defArgs s_law_lists) (defBody s_law_lists) (defScope s_law_lists) [] [] f fd) (hm : mg "_law_lists" = some (.ref f)) :
    ∀ n : Nat, Ca P w K mg base (n + 1) "_law_lists" (spD K 1 (F_law_lists n))
  | 0 => by
    refine ca_of (k := 0) Fd sc_law_lists rfl hm (fun _ _ _ _ _ _ us hl => match us, hl with | [_], _ => rfl) (fun cdv A outer s H E hr =>
  have m := md_calm (cx2 P w K mg base ["_law_matter", "_law_bit"] "_law_lists" (defScope s_law_lists) f cdv A outer s H E true []) rfl rfl
  have r : Rm (cx2 P w K mg base ["_law_matter", "_law_bit"] "_law_lists" (defScope s_law_lists) f cdv A outer s H E true []) (0) := rm_calm hr
  (ds_one (ds_ret (de_if (dt_val (de_isi2 "list" "tuple" kit_list kit_tuple B.n_isinstance B.n_list B.n_tuple (de_var 0))) de_never (de_var 0))))) ?_
    rintro ds P' - ⟨d, rfl, hd, h⟩
    simp [initD]
    cases d with
    | list xs => obtain ⟨m, e, _⟩ := sh_in (.inl rfl) hd; cases e
    | tuple xs => obtain ⟨m, e, _⟩ := sh_in (.inr rfl) hd; cases e
    | _ => simpa [isiD, lsD] using h
  | n + 1 => by
    have c_law_lists : Ca P w K mg base (n + 1) "_law_lists" (spD K 1 (F_law_lists n)) := ca_law_lists B Fd hm n
    refine ca_of (k := n + 1) Fd sc_law_lists rfl hm (fun _ _ _ _ _ _ us hl => match us, hl with | [_], _ => rfl) (fun cdv A outer s H E hr =>
  have m := md_calm (cx2 P w K mg base ["_law_matter", "_law_bit"] "_law_lists" (defScope s_law_lists) f cdv A outer s H E true []) rfl rfl
  have r : Rm (cx2 P w K mg base ["_law_matter", "_law_bit"] "_law_lists" (defScope s_law_lists) f cdv A outer s H E true []) (n + 1) := rm_calm hr
  (ds_one (ds_ret (de_if (dt_val (de_isi2 "list" "tuple" kit_list kit_tuple B.n_isinstance B.n_list B.n_tuple (de_var 0))) (de_of (df_lc (own := [("_law_bit", 1)]) m sc_law_lists.nd (di_var 0) (blkOk_by (N := ["_law_matter", "_law_bit"]) (sc := (defScope s_law_lists)) (by decide +kernel)) (fun _ _ _ _ _ => (dg_name 1 sc_law_lists.nd)) (fun _ _ _ _ _ => dtt_nil) (fun _ _ _ _ _ => (de_call (n := 1) c_law_lists hr (Nat.le_refl _) (da_cons (de_var 1) da_nil))))) (de_var 0))))) ?_
    rintro ds P' - ⟨d, rfl, hd, h⟩
    simp [initD]
    cases d with
    | list xs =>
      obtain ⟨m, e, hx⟩ := sh_in (.inl rfl) hd
      cases e
      rw [if_pos (by simp [isiD])]
      refine ⟨xs, .inl rfl, compD_self (f := lsD) xs (fun x hx' => ⟨_, rfl, by simp, fun k g q => ?_⟩) ?_⟩
      · simp [putD, wipeD]
        exact ⟨x, rfl, hx x hx', q⟩
      · simpa [lsD, lsDs_eq] using h
    | tuple xs =>
      obtain ⟨m, e, hx⟩ := sh_in (.inr rfl) hd
      cases e
      rw [if_pos (by simp [isiD])]
      refine ⟨xs, .inr rfl, compD_self (f := lsD) xs (fun x hx' => ⟨_, rfl, by simp, fun k g q => ?_⟩) ?_⟩
      · simp [putD, wipeD]
        exact ⟨x, rfl, hx x hx', q⟩
      · simpa [lsD, lsDs_eq] using h
    | _ => simpa [isiD, lsD] using h
theorem Sh.sh0 {n : Nat} {d : PyData} (h : Sh n d) (hd : d.depth = 0 := by simp [PyData.depth]) : Sh 0 d := ⟨h.1, by omega⟩
theorem zipD_self : ∀ xs : List PyData, zipD xs xs = xs.map fun x => PyData.tuple [x, x]
  | [] => rfl
  | x :: xs => by simp [zipD, zipD_self xs]
theorem sc_law_same : FnScope ["_law_near", "_law_goal", "_law_mine_so", "_law_own"] ["_law_near", "_law_goal"] (defScope s_law_same) := ⟨rfl, rfl, rfl, by decide +kernel, rfl, by decide +kernel, by decide +kernel⟩
theorem ca_law_same {f : Addr} {fd : FuncData} (B : Bi K mg) (Fd : FunD K "_law_same" "_law_same" (defArgs s_law_same) (defBody s_law_same) (defScope s_law_same) [] [] f fd) (hm : mg "_law_same" = some (.ref f)) :
    ∀ n : Nat, Ca P w K mg base (n + 1) "_law_same" (spD K 2 (F_law_same n))
  | 0 => by
    refine ca_of (k := 0) Fd sc_law_same rfl hm (fun _ _ _ _ _ _ us hl => match us, hl with | [_, _], _ => rfl) (fun cdv A outer s H E hr =>
  have m := md_calm (cx2 P w K mg base ["_law_near", "_law_goal", "_law_mine_so", "_law_own"] "_law_same" (defScope s_law_same) f cdv A outer s H E true []) rfl rfl
  have r : Rm (cx2 P w K mg base ["_law_near", "_law_goal", "_law_mine_so", "_law_own"] "_law_same" (defScope s_law_same) f cdv A outer s H E true []) (0) := rm_calm hr
  (ds_cons (ds_if (dt_val (de_isi2 "list" "tuple" kit_list kit_tuple B.n_isinstance B.n_list B.n_tuple (de_var 1))) (ds_cons (ds_if (dt_of (dw_or (dt_cmp (op_neD r.hu64) good_ne (de_isi "list" kit_list B.n_isinstance B.n_list (de_var 0)) (de_isi "list" kit_list B.n_isinstance B.n_list (de_var 1))) (dw_or1 (dt_cmp (op_neD r.hu64) good_ne (de_isi "tuple" kit_tuple B.n_isinstance B.n_tuple (de_var 0)) (de_isi "tuple" kit_tuple B.n_isinstance B.n_tuple (de_var 1)))))) (ds_one (ds_ret de_bl)) ds_nil)
  (ds_one ds_never)) ds_nil)
  (ds_cons (ds_if (dt_of (dw_or (dt_cmp op_isN good_isN (de_var 1) de_non) (dw_or1 (dt_val (de_isi2 "bool" "str" kit_bool kit_str B.n_isinstance B.n_bool B.n_str (de_var 1)))))) (ds_one (ds_ret (de_and (de_cmp (op_eqD r.hu64) good_eq (de_var 0) (de_var 1)) (de_and (de_cmp (op_eqD r.hu64) good_eq (de_isi "bool" kit_bool B.n_isinstance B.n_bool (de_var 0)) (de_isi "bool" kit_bool B.n_isinstance B.n_bool (de_var 1))) (de_one (de_cmp (op_eqD r.hu64) good_eq (de_cmp op_isN good_isN (de_var 0) de_non) (de_cmp op_isN good_isN (de_var 1) de_non))))))) ds_nil)
  (ds_one (ds_ret (de_and (de_isi "int" kit_int B.n_isinstance B.n_int (de_var 0)) (de_and (de_not (de_isi "bool" kit_bool B.n_isinstance B.n_bool (de_var 0))) (de_one (de_cmp (op_eqD r.hu64) good_eq (de_var 0) (de_var 1)))))))))) ?_
    rintro ds P' - ⟨d, rfl, hd, h⟩
    simp [initD]
    cases d with
    | list xs => obtain ⟨m, e, _⟩ := sh_in (.inl rfl) hd; cases e
    | tuple xs => obtain ⟨m, e, _⟩ := sh_in (.inr rfl) hd; cases e
    | dict k => exact absurd hd.1 (by simp [PyData.canLay0])
    | none => simpa [isiD, wIsN, wEq, isNon, PyData.eqv] using h
    | bool b => simpa [isiD, wIsN, wEq, isNon, PyData.eqv] using h
    | int i => simpa [isiD, wIsN, wEq, isNon, PyData.eqv] using h
    | str x => simpa [isiD, wIsN, wEq, isNon, PyData.eqv, hd.sh0.sh] using h
  | n + 1 => by
    have c_law_same : Ca P w K mg base (n + 1) "_law_same" (spD K 2 (F_law_same n)) := ca_law_same B Fd hm n
    refine ca_of (k := n + 1) Fd sc_law_same rfl hm (fun _ _ _ _ _ _ us hl => match us, hl with | [_, _], _ => rfl) (fun cdv A outer s H E hr =>
  have m := md_calm (cx2 P w K mg base ["_law_near", "_law_goal", "_law_mine_so", "_law_own"] "_law_same" (defScope s_law_same) f cdv A outer s H E true []) rfl rfl
  have r : Rm (cx2 P w K mg base ["_law_near", "_law_goal", "_law_mine_so", "_law_own"] "_law_same" (defScope s_law_same) f cdv A outer s H E true []) (n + 1) := rm_calm hr
  (ds_cons (ds_if (dt_val (de_isi2 "list" "tuple" kit_list kit_tuple B.n_isinstance B.n_list B.n_tuple (de_var 1))) (ds_cons (ds_if (dt_of (dw_or (dt_cmp (op_neD r.hu64) good_ne (de_isi "list" kit_list B.n_isinstance B.n_list (de_var 0)) (de_isi "list" kit_list B.n_isinstance B.n_list (de_var 1))) (dw_or1 (dt_cmp (op_neD r.hu64) good_ne (de_isi "tuple" kit_tuple B.n_isinstance B.n_tuple (de_var 0)) (de_isi "tuple" kit_tuple B.n_isinstance B.n_tuple (de_var 1)))))) (ds_one (ds_ret de_bl)) ds_nil)
  (ds_one (ds_ret (de_and (de_cmp (op_eqD r.hu64) good_eq (de_callB call_len good_len B.n_len (da_cons (de_var 0) da_nil)) (de_callB call_len good_len B.n_len (da_cons (de_var 1) da_nil))) (de_one (de_callB (cr_all2 m) good_all B.n_all (da_cons (de_of (df_lc (own := [("_law_mine_so", 2), ("_law_own", 3)]) m sc_law_same.nd (di_zip rfl B.n_zip (de_var 0) (de_var 1)) (blkOk_by (N := ["_law_near", "_law_goal", "_law_mine_so", "_law_own"]) (sc := (defScope s_law_same)) (by decide +kernel)) (fun _ _ _ _ _ => (dg_tup (n := 2) (md_blk m _ _ _ _ _) (dgs_cons (dg_name 2 sc_law_same.nd) (dgs_cons (dg_name 3 sc_law_same.nd) dgs_nil)) (mlen_cons (mlen_cons mlen_nil)))) (fun _ _ _ _ _ => dtt_nil) (fun _ _ _ _ _ => (de_call (n := 2) c_law_same hr (Nat.le_refl _) (da_cons (de_var 2) (da_cons (de_var 3) da_nil)))))) da_nil))))))) ds_nil)
  (ds_cons (ds_if (dt_of (dw_or (dt_cmp op_isN good_isN (de_var 1) de_non) (dw_or1 (dt_val (de_isi2 "bool" "str" kit_bool kit_str B.n_isinstance B.n_bool B.n_str (de_var 1)))))) (ds_one (ds_ret (de_and (de_cmp (op_eqD r.hu64) good_eq (de_var 0) (de_var 1)) (de_and (de_cmp (op_eqD r.hu64) good_eq (de_isi "bool" kit_bool B.n_isinstance B.n_bool (de_var 0)) (de_isi "bool" kit_bool B.n_isinstance B.n_bool (de_var 1))) (de_one (de_cmp (op_eqD r.hu64) good_eq (de_cmp op_isN good_isN (de_var 0) de_non) (de_cmp op_isN good_isN (de_var 1) de_non))))))) ds_nil)
  (ds_one (ds_ret (de_and (de_isi "int" kit_int B.n_isinstance B.n_int (de_var 0)) (de_and (de_not (de_isi "bool" kit_bool B.n_isinstance B.n_bool (de_var 0))) (de_one (de_cmp (op_eqD r.hu64) good_eq (de_var 0) (de_var 1)))))))))) ?_
    rintro ds P' - ⟨d, rfl, hd, h⟩
    simp [initD]
    cases d with
    | list xs =>
      obtain ⟨m, e, hx⟩ := sh_in (.inl rfl) hd
      cases e
      rw [if_pos (by simp [isiD])]
      simp [wNe, wEq, wLen, isiD, PyData.eqv]
      refine ⟨_, _, ⟨rfl, rfl⟩, ?_⟩
      rw [zipD_self]
      refine compD_all (f := fun _ => .bool true) xs (fun x hx' => ⟨_, rfl, by simp, fun k g q => ?_⟩) ?_
      · simp [putD, wipeD, F_law_same]
        exact ⟨hx x hx', q⟩
      · refine ⟨xs.map fun _ => true, by simp, ?_⟩
        have e : (xs.map fun _ => true).all id = true := by simp
        rw [e]; exact h
    | tuple xs =>
      obtain ⟨m, e, hx⟩ := sh_in (.inr rfl) hd
      cases e
      rw [if_pos (by simp [isiD])]
      simp [wNe, wEq, wLen, isiD, PyData.eqv]
      refine ⟨_, _, ⟨rfl, rfl⟩, ?_⟩
      rw [zipD_self]
      refine compD_all (f := fun _ => .bool true) xs (fun x hx' => ⟨_, rfl, by simp, fun k g q => ?_⟩) ?_
      · simp [putD, wipeD, F_law_same]
        exact ⟨hx x hx', q⟩
      · refine ⟨xs.map fun _ => true, by simp, ?_⟩
        have e : (xs.map fun _ => true).all id = true := by simp
        rw [e]; exact h
    | dict k => exact absurd hd.1 (by simp [PyData.canLay0])
    | none => simpa [isiD, wIsN, wEq, isNon, PyData.eqv] using h
    | bool b => simpa [isiD, wIsN, wEq, isNon, PyData.eqv] using h
    | int i => simpa [isiD, wIsN, wEq, isNon, PyData.eqv] using h
    | str x => simpa [isiD, wIsN, wEq, isNon, PyData.eqv, hd.sh0.sh] using h
end Lk

set_option Elab.async false
set_option linter.all false
set_option maxRecDepth 100000
set_option maxHeartbeats 4000000
namespace Lk
open PySem PySem.Spec PyProof.Rows L2 L2H HotX LkHot LkHead
variable {P : Program} {w : World} {K : PySem.W.Frag} {mg : Str → Option Value} {base : Heap}
def F_law_frac : DSp := F_fraction
def F_law_add : DSp := F_plus
def F_law_off : DSp := fun ds P => ∃ p q, ds = [frD p, frD q] ∧ Fok p ∧ Fok q ∧ P (frD (offF p q))
def F_law_below : DSp := fun ds P => ∃ p q, ds = [frD p, frD q] ∧ Fok p ∧ Fok q ∧ P (.bool (decide (p.1 * q.2 < q.1 * p.2)))
/-- half the whole number n, as a fraction -/
def hf (n : Int) : Int × Int := fr n 2
theorem hf_cases (n : Int) : (n % 2 = 0 ∧ hf n = (n / 2, 1)) ∨ (n % 2 = 1 ∧ hf n = (n, 2)) := by
  unfold hf fr
  rcases (show n % 2 = 0 ∨ n % 2 = 1 by omega) with h | h
  · left
    refine ⟨h, ?_⟩
    have e : n.natAbs.gcd (2 : Int).natAbs = 2 := by
      show n.natAbs.gcd 2 = 2
      rw [Nat.gcd_comm]
      exact Nat.gcd_eq_left (by omega)
    rw [e]
    rfl
  · right
    refine ⟨h, ?_⟩
    have e : n.natAbs.gcd (2 : Int).natAbs = 1 := by
      show n.natAbs.gcd 2 = 1
      rw [Nat.gcd_comm, Nat.gcd_rec]
      have : n.natAbs % 2 = 1 := by omega
      rw [this]
      rfl
    rw [e]
    simp
theorem hf_ok (n : Int) : Fok (hf n) := by
  rcases hf_cases n with ⟨_, h⟩ | ⟨_, h⟩ <;> rw [h] <;> exact ⟨by simp, by simp⟩
theorem hf_cross (n m : Int) : (hf n).1 * (hf m).2 * 2 = n * ((hf n).2 * (hf m).2) := by
  rcases hf_cases n with ⟨h1, h⟩ | ⟨h1, h⟩ <;> rcases hf_cases m with ⟨h2, h'⟩ | ⟨h2, h'⟩ <;> rw [h, h'] <;> simp <;> omega
theorem fr_scale (a b c : Int) (hb : 0 < b) (hc : 0 < c) : fr (a * c) (b * c) = fr a b := by
  unfold fr
  have e : ((Nat.gcd (a * c).natAbs (b * c).natAbs : Nat) : Int) = ((Nat.gcd a.natAbs b.natAbs : Nat) : Int) * c := by
    rw [Int.natAbs_mul, Int.natAbs_mul, Nat.gcd_mul_right]
    have : (c.natAbs : Int) = c := Int.natAbs_of_nonneg (by omega)
    rw [Int.natCast_mul, this]
  rw [e, Int.mul_ediv_mul_of_pos_left _ _ hc, Int.mul_ediv_mul_of_pos_left _ _ hc]
theorem fr_eq {a b c d : Int} (hb : 0 < b) (hd : 0 < d) (h : a * d = c * b) : fr a b = fr c d := by
  rw [← fr_scale a b d hb hd, h, ← fr_scale c d b hd hb, Int.mul_comm b d]
theorem plus_hf (n m : Int) : plusF (hf n) (hf m) = hf (n + m) := by
  unfold plusF
  have h1 := hf_cross n m
  have h2 := hf_cross m n
  have h3 := fok_mul (hf_ok n) (hf_ok m)
  refine fr_eq h3.1 (by decide) ?_
  rw [Int.add_mul, h1, h2, Int.mul_comm (hf m).2 (hf n).2, ← Int.add_mul]
theorem off_hf (n m : Int) : offF (hf n) (hf m) = hf (n - m) := by
  unfold offF
  have h1 := hf_cross n m
  have h2 := hf_cross m n
  have h3 := fok_mul (hf_ok n) (hf_ok m)
  refine fr_eq h3.1 (by decide) ?_
  rw [Int.sub_mul, h1, h2, Int.mul_comm (hf m).2 (hf n).2, ← Int.sub_mul]
theorem lt_hf (n m : Int) : (hf n).1 * (hf m).2 < (hf m).1 * (hf n).2 ↔ n < m := by
  have h1 := hf_cross n m
  have h2 := hf_cross m n
  have h3 := (fok_mul (hf_ok n) (hf_ok m)).1
  rw [Int.mul_comm (hf m).2 (hf n).2] at h2
  constructor
  · intro h
    have : n * ((hf n).2 * (hf m).2) < m * ((hf n).2 * (hf m).2) := by omega
    exact Int.lt_of_mul_lt_mul_right this (by omega)
  · intro h
    have : n * ((hf n).2 * (hf m).2) < m * ((hf n).2 * (hf m).2) := Int.mul_lt_mul_of_pos_right h h3
    omega
theorem hf_inj {n m : Int} (h : hf n = hf m) : n = m := by
  rcases Int.lt_trichotomy n m with k | k | k
  · have := (lt_hf n m).mpr k; rw [h] at this; omega
  · exact k
  · have := (lt_hf m n).mpr k; rw [h] at this; omega
theorem order_hf (n m : Int) : orderF (hf n) (hf m) = if n = m then 0 else if m < n then 1 else -1 := by
  unfold orderF
  have h1 := lt_hf n m
  have h2 := lt_hf m n
  rcases Int.lt_trichotomy n m with k | k | k
  · rw [if_neg (by have := h1.mpr k; omega), if_neg (by have := h1.mpr k; omega), if_neg (by omega), if_neg (by omega)]
  · subst k; rw [if_pos rfl, if_pos rfl]
  · rw [if_neg (by have := h2.mpr k; omega), if_pos (h2.mpr k), if_neg (by omega), if_pos k]
theorem hf_zero : hf 0 = (0, 1) := by decide
theorem fr_two (a : Int) : fr a 2 = hf a := rfl
theorem fr_one (a : Int) : fr a 1 = hf (2 * a) := fr_eq (by decide) (by decide) (by omega)
def F_law_sum : DSp := fun ds P => ∃ ns : List Int, ds = [.list (ns.map fun n => frD (hf n))] ∧ P (frD (hf ns.sum))
/-- a deal: how many, the hard rules with twice their gaps, the counted rules with their scales -/
structure Deal where
  n : Nat
  hard : List (Nat × Nat × Int)
  ease : List (Nat × Nat × PyData)
def hD (h : Nat × Nat × Int) : PyData := .tuple [.int (h.1 : Int), .int (h.2.1 : Int), frD (hf h.2.2)]
def eD (h : Nat × Nat × PyData) : PyData := .tuple [.int (h.1 : Int), .int (h.2.1 : Int), h.2.2]
def Deal.D (d : Deal) : PyData := .tuple [.int (d.n : Int), .tuple (d.hard.map hD), .tuple (d.ease.map eD)]
def Deal.L (d : Deal) : PyData := lsD d.D
structure Deal.Ok (d : Deal) : Prop where
  hard : ∀ h ∈ d.hard, h.1 < d.n ∧ h.2.1 < d.n
  ease : ∀ h ∈ d.ease, h.1 < d.n ∧ h.2.1 < d.n
  nh : d.hard.length ≤ 20
  ne : d.ease.length ≤ 20
  nn : d.n ≤ 20
  pos : 0 < d.n
  sc : ∀ h ∈ d.ease, Sh 4 h.2.2 ∧ tpD h.2.2 = h.2.2 ∧ tpD (lsD h.2.2) = h.2.2
def prD (p : Nat × Nat) : PyData := .tuple [.int (p.1 : Int), .int (p.2 : Int)]
/-- where a mark's rule leads from and to -/
def Deal.ends (d : Deal) (m : Bool × Nat) : Option (Nat × Nat) := if m.1 = true then (d.hard[m.2]?).map fun h => (h.1, h.2.1) else (d.ease[m.2]?).map fun h => (h.1, h.2.1)
def F_law_ends : DSp := fun ds P => ∃ (d : Deal) (m : Bool × Nat) (e : Nat × Nat), ds = [d.D, mkD m] ∧ d.ends m = some e ∧ P (prD e)
def Deal.marks (d : Deal) : List (Bool × Nat) := ((List.range d.hard.length).map fun k => (true, k)) ++ ((List.range d.ease.length).map fun k => (false, k))
def F_law_marks : DSp := fun ds P => ∃ d : Deal, ds = [d.D] ∧ d.Ok ∧ P (.list (d.marks.map mkD))
def plainD : PyData := .tuple [.tuple [frD (0, 1), frD (0, 1)], .tuple [frD (1, 1), frD (1, 1)]]
def F_law_plain : DSp := fun ds P => P plainD
def frameD : Deal := ⟨3, [(2, 0, -8)], [(0, 1, plainD), (1, 2, plainD)]⟩
def F_law_frame : DSp := fun ds P => P frameD.D
def isHard (ms : List (Bool × Nat)) : Bool := ms.all (·.1)
def F_law_is_hard : DSp := fun ds P => ∃ ms : List (Bool × Nat), ds = [.tuple (ms.map mkD)] ∧ P (.bool (isHard ms))
/-- twice the hard gaps' sum -/
def Deal.gap (d : Deal) (m : Bool × Nat) : Int := if m.1 = true then ((d.hard[m.2]?).map (·.2.2)).getD 0 else 0
def F_law_far : DSp := fun ds P => ∃ (d : Deal) (ms : List (Bool × Nat)), ds = [d.D, .tuple (ms.map mkD)] ∧ (∀ m ∈ ms, (d.ends m).isSome) ∧ P (frD (hf (ms.map d.gap).sum))
theorem sc_law_frac : FnScope ["_law_top_so", "_law_bottom_so", "_law_near", "_law_far_so"] ["_law_top_so", "_law_bottom_so"] (defScope s_law_frac) := ⟨rfl, rfl, rfl, by decide +kernel, rfl, by decide +kernel, by decide +kernel⟩
theorem ca_law_frac {f : Addr} {fd : FuncData} (B : Bi K mg) (Fd : FunD K "_law_frac" "_law_frac" (defArgs s_law_frac) (defBody s_law_frac) (defScope s_law_frac) [] [] f fd) (hm : mg "_law_frac" = some (.ref f)) :
    Ca P w K mg base 1 "_law_frac" (spD K 2 F_law_frac) := by
  refine ca_of (k := 0) Fd sc_law_frac rfl hm (fun _ _ _ _ _ _ us hl => match us, hl with | [_, _], _ => rfl) (fun cdv A outer s H E hr =>
  have m := md_calm (cx2 P w K mg base ["_law_top_so", "_law_bottom_so", "_law_near", "_law_far_so"] "_law_frac" (defScope s_law_frac) f cdv A outer s H E true []) rfl rfl
  have r : Rm (cx2 P w K mg base ["_law_top_so", "_law_bottom_so", "_law_near", "_law_far_so"] "_law_frac" (defScope s_law_frac) f cdv A outer s H E true []) 0 := rm_calm hr
  (ds_cons (ds_par2 2 3 m sc_law_frac.nd (da_cons (de_callB call_abs good_abs B.n_abs (da_cons (de_var 0) da_nil)) (da_cons (de_var 1) da_nil)))
  (ds_cons (ds_while PassesOwn.leaving (dt_cmp op_gt good_gt (de_var 3) de_int) (ds_one (ds_par2 2 3 m sc_law_frac.nd (da_cons (de_var 3) (da_cons (de_op op_mod good_mod (de_callTy call_int1 good_int B.n_int (da_cons (de_var 2) da_nil)) (de_var 3)) da_nil)))))
  (ds_one (ds_ret (de_tup (da_cons (de_op op_fdivN good_fdivN (de_callTy call_int1 good_int B.n_int (da_cons (de_var 0) da_nil)) (de_var 2)) (da_cons (de_op op_fdivN good_fdivN (de_callTy call_int1 good_int B.n_int (da_cons (de_var 1) da_nil)) (de_var 2)) da_nil)))))))) ?_
  rintro ds P' - ⟨a, b, rfl, h1, h2, h⟩
  simp [initD, wEq, wI, wI0, CDivN]
  refine ⟨_, _, ⟨rfl, rfl⟩, fun n _ δ => ∃ x y : Nat, n = y ∧ δ = [.dat (.int a), .dat (.int b), .dat (.int (x : Int)), .dat (.int (y : Int))] ∧ Nat.gcd x y = Nat.gcd a.natAbs b.natAbs ∧ (0 < y ∨ 0 < x), ⟨b.natAbs, a.natAbs, b.natAbs, rfl, ?_, rfl, .inl (by omega)⟩, ?_⟩
  · have e1 : (if a < 0 then -a else a) = (a.natAbs : Int) := by split <;> omega
    have e2 : b = (b.natAbs : Int) := by omega
    rw [e1, ← e2]
  · rintro n g δ ⟨x, y, hn, rfl, hg, hp⟩
    simp
    split
    · rename_i hy
      refine ⟨hy, _, _, ⟨rfl, rfl⟩, x % y, by rw [hn]; exact Nat.mod_lt _ hy, y, ⟨rfl, by rw [Int.natCast_emod]⟩, ?_, .inr hy⟩
      rw [← hg, Nat.gcd_comm x y, Nat.gcd_rec y x, Nat.gcd_comm]
    · rename_i hy
      have hy0 : y = 0 := by omega
      subst hy0
      rw [Nat.gcd_zero_right] at hg
      have hl : a.natAbs.gcd b.natAbs ≤ b.natAbs := Nat.gcd_le_right _ (by omega)
      refine ⟨⟨by omega, by omega⟩, by decide, ?_⟩
      rw [Int.fdiv_eq_ediv_of_nonneg _ (by omega), Int.fdiv_eq_ediv_of_nonneg _ (by omega), hg]
      exact h
theorem sc_law_add : FnScope ["_law_x", "_law_y"] ["_law_x", "_law_y"] (defScope s_law_add) := ⟨rfl, rfl, rfl, by decide +kernel, rfl, by decide +kernel, by decide +kernel⟩
theorem ca_law_add {f : Addr} {fd : FuncData} (B : Bi K mg) (Fd : FunD K "_law_add" "_law_add" (defArgs s_law_add) (defBody s_law_add) (defScope s_law_add) [] [] f fd) (hm : mg "_law_add" = some (.ref f)) (c_law_frac : Ca P w K mg base 1 "_law_frac" (spD K 2 F_law_frac)) :
    Ca P w K mg base 2 "_law_add" (spD K 2 F_law_add) := by
  refine ca_of (k := 1) Fd sc_law_add rfl hm (fun _ _ _ _ _ _ us hl => match us, hl with | [_, _], _ => rfl) (fun cdv A outer s H E hr =>
  have m := md_calm (cx2 P w K mg base ["_law_x", "_law_y"] "_law_add" (defScope s_law_add) f cdv A outer s H E true []) rfl rfl
  have r : Rm (cx2 P w K mg base ["_law_x", "_law_y"] "_law_add" (defScope s_law_add) f cdv A outer s H E true []) 1 := rm_calm hr
  (ds_one (ds_ret (de_call (n := 2) c_law_frac hr (by decide) (da_cons (de_op op_add good_add (de_op op_mul good_mul (de_ix (de_var 0) de_int) (de_ix (de_var 1) de_int)) (de_op op_mul good_mul (de_ix (de_var 1) de_int) (de_ix (de_var 0) de_int))) (da_cons (de_op op_mul good_mul (de_ix (de_var 0) de_int) (de_ix (de_var 1) de_int)) da_nil)))))) ?_
  rintro ds P' - ⟨p, q, rfl, h1, h2, h⟩
  simp [initD, wI, wI0, wIx, frD, F_law_frac, F_fraction]
  have := fok_mul h1 h2
  exact ⟨cmul_r h2, cmul_r h1, cmul_r h2, _, _, ⟨rfl, rfl⟩, this.1, this.2, h⟩
theorem sc_law_off : FnScope ["_law_x", "_law_y"] ["_law_x", "_law_y"] (defScope s_law_off) := ⟨rfl, rfl, rfl, by decide +kernel, rfl, by decide +kernel, by decide +kernel⟩
theorem ca_law_off {f : Addr} {fd : FuncData} (B : Bi K mg) (Fd : FunD K "_law_off" "_law_off" (defArgs s_law_off) (defBody s_law_off) (defScope s_law_off) [] [] f fd) (hm : mg "_law_off" = some (.ref f)) (c_law_frac : Ca P w K mg base 1 "_law_frac" (spD K 2 F_law_frac)) :
    Ca P w K mg base 2 "_law_off" (spD K 2 F_law_off) := by
  refine ca_of (k := 1) Fd sc_law_off rfl hm (fun _ _ _ _ _ _ us hl => match us, hl with | [_, _], _ => rfl) (fun cdv A outer s H E hr =>
  have m := md_calm (cx2 P w K mg base ["_law_x", "_law_y"] "_law_off" (defScope s_law_off) f cdv A outer s H E true []) rfl rfl
  have r : Rm (cx2 P w K mg base ["_law_x", "_law_y"] "_law_off" (defScope s_law_off) f cdv A outer s H E true []) 1 := rm_calm hr
  (ds_one (ds_ret (de_call (n := 2) c_law_frac hr (by decide) (da_cons (de_op op_sub good_sub (de_op op_mul good_mul (de_ix (de_var 0) de_int) (de_ix (de_var 1) de_int)) (de_op op_mul good_mul (de_ix (de_var 1) de_int) (de_ix (de_var 0) de_int))) (da_cons (de_op op_mul good_mul (de_ix (de_var 0) de_int) (de_ix (de_var 1) de_int)) da_nil)))))) ?_
  rintro ds P' - ⟨p, q, rfl, h1, h2, h⟩
  simp [initD, wI, wI0, wIx, frD, F_law_frac, F_fraction]
  have := fok_mul h1 h2
  exact ⟨cmul_r h2, cmul_r h1, cmul_r h2, _, _, ⟨rfl, rfl⟩, this.1, this.2, h⟩
theorem sc_law_below : FnScope ["_law_x", "_law_y"] ["_law_x", "_law_y"] (defScope s_law_below) := ⟨rfl, rfl, rfl, by decide +kernel, rfl, by decide +kernel, by decide +kernel⟩
theorem ca_law_below {f : Addr} {fd : FuncData} (B : Bi K mg) (Fd : FunD K "_law_below" "_law_below" (defArgs s_law_below) (defBody s_law_below) (defScope s_law_below) [] [] f fd) (hm : mg "_law_below" = some (.ref f)) :
    Ca P w K mg base 1 "_law_below" (spD K 2 F_law_below) := by
  refine ca_of (k := 0) Fd sc_law_below rfl hm (fun _ _ _ _ _ _ us hl => match us, hl with | [_, _], _ => rfl) (fun cdv A outer s H E hr =>
  have m := md_calm (cx2 P w K mg base ["_law_x", "_law_y"] "_law_below" (defScope s_law_below) f cdv A outer s H E true []) rfl rfl
  have r : Rm (cx2 P w K mg base ["_law_x", "_law_y"] "_law_below" (defScope s_law_below) f cdv A outer s H E true []) 0 := rm_calm hr
  (ds_one (ds_ret (de_cmp op_lt good_lt (de_op op_mul good_mul (de_ix (de_var 0) de_int) (de_ix (de_var 1) de_int)) (de_op op_mul good_mul (de_ix (de_var 1) de_int) (de_ix (de_var 0) de_int)))))) ?_
  rintro ds P' - ⟨p, q, rfl, h1, h2, h⟩
  simp [initD, wI, wI0, wIx, frD]
  exact ⟨cmul_r h2, cmul_r h1, h⟩
theorem sc_law_sum : FnScope ["_law_some", "_law_found", "_law_x"] ["_law_some"] (defScope s_law_sum) := ⟨rfl, rfl, rfl, by decide +kernel, rfl, by decide +kernel, by decide +kernel⟩
theorem ca_law_sum {f : Addr} {fd : FuncData} (B : Bi K mg) (Fd : FunD K "_law_sum" "_law_sum" (defArgs s_law_sum) (defBody s_law_sum) (defScope s_law_sum) [] [] f fd) (hm : mg "_law_sum" = some (.ref f)) (c_law_add : Ca P w K mg base 2 "_law_add" (spD K 2 F_law_add)) :
    Ca P w K mg base 3 "_law_sum" (spD K 1 F_law_sum) := by
  refine ca_of (k := 2) Fd sc_law_sum rfl hm (fun _ _ _ _ _ _ us hl => match us, hl with | [_], _ => rfl) (fun cdv A outer s H E hr =>
  have m := md_calm (cx2 P w K mg base ["_law_some", "_law_found", "_law_x"] "_law_sum" (defScope s_law_sum) f cdv A outer s H E true []) rfl rfl
  have r : Rm (cx2 P w K mg base ["_law_some", "_law_found", "_law_x"] "_law_sum" (defScope s_law_sum) f cdv A outer s H E true []) 2 := rm_calm hr
  (ds_cons (ds_set 1 sc_law_sum.nd (de_tup (da_cons de_int (da_cons de_int da_nil))))
  (ds_cons (ds_for m PassesOwn.leaving (di_list (de_var 0)) (dg_name 2 sc_law_sum.nd) (ds_one (ds_set 1 sc_law_sum.nd (de_call (n := 2) c_law_add hr (by decide) (da_cons (de_var 1) (da_cons (de_var 2) da_nil))))))
  (ds_one (ds_ret (de_var 1)))))) ?_
  rintro ds P' - ⟨ns, rfl, h⟩
  simp [initD]
  refine ⟨by decide, ?_⟩
  have key : ∀ (xs : List Int) (z : Int) (a b : PyData) (P0 : PyData), P' (frD (hf (z + xs.sum))) → forD (mName 2)
      (fun P g δ => ∃ d, δ[1]? = some (Sv.dat d) ∧ ∃ d_1, δ[2]? = some (Sv.dat d_1) ∧ F_law_add [d, d_1] fun d => P.nx g (δ.set 1 (Sv.dat d)))
      (List.map (fun n => frD (hf n)) xs) { nx := fun g1 δ1 => ∃ d, δ1[1]? = some (Sv.dat d) ∧ P' d, rt := fun x d => P' d } 0 [Sv.dat P0, Sv.dat (frD (hf z)), Sv.dat b] := by
    intro xs
    induction xs with
    | nil =>
      intro z a b P0 p
      simpa [forD] using p
    | cons x xs ih =>
      intro z a b P0 p
      refine ⟨_, rfl, ?_⟩
      simp [putD]
      refine ⟨hf z, hf x, rfl, hf_ok _, hf_ok _, ?_⟩
      rw [plus_hf]
      exact ih _ a _ _ (by simpa [Int.add_assoc] using p)
  have e : PyData.tuple [PyData.int 0, PyData.int 1] = frD (hf 0) := by rw [hf_zero]; rfl
  rw [e]
  cases ns with
  | nil => simpa [forD] using h
  | cons x xs =>
    refine ⟨_, rfl, ?_⟩
    simp [putD]
    refine ⟨hf 0, hf x, rfl, hf_ok _, hf_ok _, ?_⟩
    rw [plus_hf]
    exact key xs _ (.none) _ _ (by simpa using h)
theorem sc_law_plain : FnScope [] [] (defScope s_law_plain) := ⟨rfl, rfl, rfl, by decide +kernel, rfl, by decide +kernel, by decide +kernel⟩
theorem ca_law_plain {f : Addr} {fd : FuncData} (B : Bi K mg) (Fd : FunD K "_law_plain" "_law_plain" (defArgs s_law_plain) (defBody s_law_plain) (defScope s_law_plain) [] [] f fd) (hm : mg "_law_plain" = some (.ref f)) :
    Ca P w K mg base 1 "_law_plain" (spD K 0 F_law_plain) := by
  refine ca_of (k := 0) Fd sc_law_plain rfl hm (fun _ _ _ _ _ _ us hl => match us, hl with | [], _ => rfl) (fun cdv A outer s H E hr =>
  have m := md_calm (cx2 P w K mg base [] "_law_plain" (defScope s_law_plain) f cdv A outer s H E true []) rfl rfl
  have r : Rm (cx2 P w K mg base [] "_law_plain" (defScope s_law_plain) f cdv A outer s H E true []) 0 := rm_calm hr
  (ds_one (ds_ret (de_tup (da_cons (de_tup (da_cons (de_tup (da_cons de_int (da_cons de_int da_nil))) (da_cons (de_tup (da_cons de_int (da_cons de_int da_nil))) da_nil))) (da_cons (de_tup (da_cons (de_tup (da_cons de_int (da_cons de_int da_nil))) (da_cons (de_tup (da_cons de_int (da_cons de_int da_nil))) da_nil))) da_nil)))))) ?_
  rintro ds P' hl h
  have : ds = [] := List.length_eq_zero_iff.mp hl
  subst this
  simp [initD]
  exact ⟨by decide, h⟩
theorem sc_law_frame : FnScope [] [] (defScope s_law_frame) := ⟨rfl, rfl, rfl, by decide +kernel, rfl, by decide +kernel, by decide +kernel⟩
theorem ca_law_frame {f : Addr} {fd : FuncData} (B : Bi K mg) (Fd : FunD K "_law_frame" "_law_frame" (defArgs s_law_frame) (defBody s_law_frame) (defScope s_law_frame) [] [] f fd) (hm : mg "_law_frame" = some (.ref f)) (c_law_plain : Ca P w K mg base 1 "_law_plain" (spD K 0 F_law_plain)) :
    Ca P w K mg base 2 "_law_frame" (spD K 0 F_law_frame) := by
  refine ca_of (k := 1) Fd sc_law_frame rfl hm (fun _ _ _ _ _ _ us hl => match us, hl with | [], _ => rfl) (fun cdv A outer s H E hr =>
  have m := md_calm (cx2 P w K mg base [] "_law_frame" (defScope s_law_frame) f cdv A outer s H E true []) rfl rfl
  have r : Rm (cx2 P w K mg base [] "_law_frame" (defScope s_law_frame) f cdv A outer s H E true []) 1 := rm_calm hr
  (ds_one (ds_ret (de_tup (da_cons de_int (da_cons (de_tup (da_cons (de_tup (da_cons de_int (da_cons de_int (da_cons (de_tup (da_cons (de_neg de_int) (da_cons de_int da_nil))) da_nil)))) da_nil)) (da_cons (de_tup (da_cons (de_tup (da_cons de_int (da_cons de_int (da_cons (de_call0 c_law_plain hr (by decide)) da_nil)))) (da_cons (de_tup (da_cons de_int (da_cons de_int (da_cons (de_call0 c_law_plain hr (by decide)) da_nil)))) da_nil))) da_nil))))))) ?_
  rintro ds P' hl h
  have : ds = [] := List.length_eq_zero_iff.mp hl
  subst this
  simp [initD, F_law_plain]
  refine ⟨by decide, by decide, by decide, by decide, by decide, by decide, ?_⟩
  have e : frameD.D = PyData.tuple [PyData.int 3, PyData.tuple [PyData.tuple [PyData.int 2, PyData.int 0, PyData.tuple [PyData.int (-4), PyData.int 1]]],
      PyData.tuple [PyData.tuple [PyData.int 0, PyData.int 1, plainD], PyData.tuple [PyData.int 1, PyData.int 2, plainD]]] := by
    simp [frameD, Deal.D, hD, eD, frD]
    decide
  rw [← e]
  exact h
theorem sc_law_ends : FnScope ["_law_deal", "_law_mark_so"] ["_law_deal", "_law_mark_so"] (defScope s_law_ends) := ⟨rfl, rfl, rfl, by decide +kernel, rfl, by decide +kernel, by decide +kernel⟩
theorem ca_law_ends {f : Addr} {fd : FuncData} (B : Bi K mg) (Fd : FunD K "_law_ends" "_law_ends" (defArgs s_law_ends) (defBody s_law_ends) (defScope s_law_ends) [] [] f fd) (hm : mg "_law_ends" = some (.ref f)) :
    Ca P w K mg base 1 "_law_ends" (spD K 2 F_law_ends) := by
  refine ca_of (k := 0) Fd sc_law_ends rfl hm (fun _ _ _ _ _ _ us hl => match us, hl with | [_, _], _ => rfl) (fun cdv A outer s H E hr =>
  have m := md_calm (cx2 P w K mg base ["_law_deal", "_law_mark_so"] "_law_ends" (defScope s_law_ends) f cdv A outer s H E true []) rfl rfl
  have r : Rm (cx2 P w K mg base ["_law_deal", "_law_mark_so"] "_law_ends" (defScope s_law_ends) f cdv A outer s H E true []) 0 := rm_calm hr
  (ds_one (ds_ret (de_slT (de_ix (de_ix (de_var 0) (de_if (dt_cmp (op_eqD r.hu64) good_eq (de_ix (de_var 1) de_int) de_str) de_int de_int)) (de_ix (de_var 1) de_int)) dp_none (dp_some de_int))))) ?_
  rintro ds P' - ⟨d, m, e, rfl, he, h⟩
  simp [initD]
  simp [wEq, Deal.D]
  cases hm1 : m.1 with
  | true =>
    refine .inr ⟨rfl, ?_⟩
    simp [Deal.ends, hm1] at he
    obtain ⟨a, b, ⟨c, hh⟩, rfl⟩ := he
    exact ⟨hD (a, b, c), atI_nat (by rw [List.getElem?_map, hh]; rfl), _, rfl, h⟩
  | false =>
    refine .inl ⟨rfl, ?_⟩
    simp [Deal.ends, hm1] at he
    obtain ⟨a, b, ⟨c, hh⟩, rfl⟩ := he
    exact ⟨eD (a, b, c), atI_nat (by rw [List.getElem?_map, hh]; rfl), _, rfl, h⟩
theorem sc_law_marks : FnScope ["_law_deal", "_law_k"] ["_law_deal"] (defScope s_law_marks) := ⟨rfl, rfl, rfl, by decide +kernel, rfl, by decide +kernel, by decide +kernel⟩
theorem ca_law_marks {f : Addr} {fd : FuncData} (B : Bi K mg) (Fd : FunD K "_law_marks" "_law_marks" (defArgs s_law_marks) (defBody s_law_marks) (defScope s_law_marks) [] [] f fd) (hm : mg "_law_marks" = some (.ref f)) :
    Ca P w K mg base 1 "_law_marks" (spD K 1 F_law_marks) := by
  refine ca_of (k := 0) Fd sc_law_marks rfl hm (fun _ _ _ _ _ _ us hl => match us, hl with | [_], _ => rfl) (fun cdv A outer s H E hr =>
  have m := md_calm (cx2 P w K mg base ["_law_deal", "_law_k"] "_law_marks" (defScope s_law_marks) f cdv A outer s H E true []) rfl rfl
  have r : Rm (cx2 P w K mg base ["_law_deal", "_law_k"] "_law_marks" (defScope s_law_marks) f cdv A outer s H E true []) 0 := rm_calm hr
  (ds_one (ds_ret (de_op op_catL good_catL (de_of (df_lc (own := [("_law_k", 1)]) m sc_law_marks.nd (di_range1 B.n_range (de_callB call_len good_len B.n_len (da_cons (de_ix (de_var 0) de_int) da_nil))) (blkOk_by (N := ["_law_deal", "_law_k"]) (sc := (defScope s_law_marks)) (by decide +kernel)) (fun _ _ _ _ _ => (dg_name 1 sc_law_marks.nd)) (fun _ _ _ _ _ => dtt_nil) (fun _ _ _ _ _ => (de_tup (da_cons de_str (da_cons (de_var 1) da_nil)))))) (de_of (df_lc (own := [("_law_k", 1)]) m sc_law_marks.nd (di_range1 B.n_range (de_callB call_len good_len B.n_len (da_cons (de_ix (de_var 0) de_int) da_nil))) (blkOk_by (N := ["_law_deal", "_law_k"]) (sc := (defScope s_law_marks)) (by decide +kernel)) (fun _ _ _ _ _ => (dg_name 1 sc_law_marks.nd)) (fun _ _ _ _ _ => dtt_nil) (fun _ _ _ _ _ => (de_tup (da_cons de_str (da_cons (de_var 1) da_nil)))))))))) ?_
  rintro ds P' - ⟨d, rfl, hd, h⟩
  simp [initD]
  simp [Deal.D]
  refine ⟨by have := hd.nh; omega, ?_⟩
  rw [rgD_map]
  refine compD_all (f := fun i => mkD (true, i)) _ (fun x hx => ⟨_, rfl, by simp, fun k g q => ?_⟩) ?_
  · simp [putD, wipeD]
    exact ⟨by decide, q⟩
  · refine ⟨by have := hd.ne; omega, ?_⟩
    rw [rgD_map]
    refine compD_all (f := fun i => mkD (false, i)) _ (fun x hx => ⟨_, rfl, by simp, fun k g q => ?_⟩) ?_
    · simp [putD, wipeD]
      exact ⟨by decide, q⟩
    · simp
      refine ⟨?_, ?_⟩
      · have := hd.ne
        have := hd.nh
        have e : sizeLine = 16777216 := sizeLine_eq
        omega
      · simpa [Deal.marks, Function.comp_def] using h
theorem sc_law_is_hard : FnScope ["_law_marks_so", "_law_own"] ["_law_marks_so"] (defScope s_law_is_hard) := ⟨rfl, rfl, rfl, by decide +kernel, rfl, by decide +kernel, by decide +kernel⟩
theorem ca_law_is_hard {f : Addr} {fd : FuncData} (B : Bi K mg) (Fd : FunD K "_law_is_hard" "_law_is_hard" (defArgs s_law_is_hard) (defBody s_law_is_hard) (defScope s_law_is_hard) [] [] f fd) (hm : mg "_law_is_hard" = some (.ref f)) :
    Ca P w K mg base 1 "_law_is_hard" (spD K 1 F_law_is_hard) := by
  refine ca_of (k := 0) Fd sc_law_is_hard rfl hm (fun _ _ _ _ _ _ us hl => match us, hl with | [_], _ => rfl) (fun cdv A outer s H E hr =>
  have m := md_calm (cx2 P w K mg base ["_law_marks_so", "_law_own"] "_law_is_hard" (defScope s_law_is_hard) f cdv A outer s H E true []) rfl rfl
  have r : Rm (cx2 P w K mg base ["_law_marks_so", "_law_own"] "_law_is_hard" (defScope s_law_is_hard) f cdv A outer s H E true []) 0 := rm_calm hr
  (ds_one (ds_ret (de_cmp (op_eqD r.hu64) good_eq (de_of (df_lc (own := [("_law_own", 1)]) m sc_law_is_hard.nd (di_tup (de_var 0)) (blkOk_by (N := ["_law_marks_so", "_law_own"]) (sc := (defScope s_law_is_hard)) (by decide +kernel)) (fun _ _ _ _ _ => (dg_name 1 sc_law_is_hard.nd)) (fun _ _ _ _ _ => (dtt_one (dt_cmp (op_neD r.hu64) good_ne (de_ix (de_var 1) de_int) de_str))) (fun _ _ _ _ _ => de_int))) (de_of (df_lst da_nil)))))) ?_
  rintro ds P' - ⟨ms, rfl, h⟩
  simp [initD]
  refine compD_map (t := fun m => !m.1) (f := fun _ => .int 1) ms (fun x hx => ⟨_, rfl, by simp, fun k g q => ?_, fun _ k g q => q⟩) ?_
  · simp [putD, wipeD, wNe]
    cases e : x.1 <;> simp [e] at q ⊢ <;> exact q
  · simp [wEq, eqv_lnil]
    refine ⟨(sh_l (n := 0) fun x hx => ?_).sh, ?_⟩
    · simp at hx
      obtain ⟨_, _, rfl⟩ := hx
      exact sh_i _
    · have e : (List.filter (fun m => !m.1) ms).isEmpty = isHard ms := by
        unfold isHard
        rw [Bool.eq_iff_iff, List.isEmpty_iff, List.filter_eq_nil_iff, List.all_eq_true]
        simp
      simpa [e] using h
theorem sc_law_far : FnScope ["_law_deal", "_law_marks_so", "_law_own"] ["_law_deal", "_law_marks_so"] (defScope s_law_far) := ⟨rfl, rfl, rfl, by decide +kernel, rfl, by decide +kernel, by decide +kernel⟩
theorem ca_law_far {f : Addr} {fd : FuncData} (B : Bi K mg) (Fd : FunD K "_law_far" "_law_far" (defArgs s_law_far) (defBody s_law_far) (defScope s_law_far) [] [] f fd) (hm : mg "_law_far" = some (.ref f)) (c_law_sum : Ca P w K mg base 3 "_law_sum" (spD K 1 F_law_sum)) :
    Ca P w K mg base 4 "_law_far" (spD K 2 F_law_far) := by
  refine ca_of (k := 3) Fd sc_law_far rfl hm (fun _ _ _ _ _ _ us hl => match us, hl with | [_, _], _ => rfl) (fun cdv A outer s H E hr =>
  have m := md_calm (cx2 P w K mg base ["_law_deal", "_law_marks_so", "_law_own"] "_law_far" (defScope s_law_far) f cdv A outer s H E true []) rfl rfl
  have r : Rm (cx2 P w K mg base ["_law_deal", "_law_marks_so", "_law_own"] "_law_far" (defScope s_law_far) f cdv A outer s H E true []) 3 := rm_calm hr
  (ds_one (ds_ret (de_call (n := 1) c_law_sum hr (by decide) (da_cons (de_of (df_lc (own := [("_law_own", 2)]) m sc_law_far.nd (di_tup (de_var 1)) (blkOk_by (N := ["_law_deal", "_law_marks_so", "_law_own"]) (sc := (defScope s_law_far)) (by decide +kernel)) (fun _ _ _ _ _ => (dg_name 2 sc_law_far.nd)) (fun _ _ _ _ _ => (dtt_one (dt_cmp (op_eqD r.hu64) good_eq (de_ix (de_var 2) de_int) de_str))) (fun _ _ _ _ _ => (de_ix (de_ix (de_ix (de_var 0) de_int) (de_ix (de_var 2) de_int)) de_int)))) da_nil))))) ?_
  rintro ds P' - ⟨d, ms, rfl, hm, h⟩
  simp [initD]
  refine compD_map (t := fun m => m.1) (f := fun m => frD (hf (d.gap m))) ms (fun x hx => ⟨_, rfl, by simp, fun k g q => ?_, fun hx1 k g q => ?_⟩) ?_
  · simp [putD, wipeD, wEq]
    cases e : x.1 <;> simp [e] at q ⊢ <;> exact q
  · have := hm x hx
    simp [Deal.ends, hx1] at this
    simp [putD, wipeD, Deal.D]
    obtain ⟨h0, hh⟩ : ∃ h0, d.hard[x.2]? = some h0 := ⟨_, List.getElem?_eq_getElem this⟩
    refine ⟨hD h0, atI_nat (by rw [List.getElem?_map, hh]; rfl), ?_⟩
    simp [hD]
    simpa [Deal.gap, hx1, hh] using q
  · simp [F_law_sum]
    refine ⟨(ms.filter (·.1)).map d.gap, by simp [Function.comp_def], ?_⟩
    have e : ((ms.filter (·.1)).map d.gap).sum = (ms.map d.gap).sum := by
      clear hm h
      induction ms with
      | nil => rfl
      | cons m ms ih =>
        cases q : m.1 with
        | true => rw [List.filter_cons_of_pos q, List.map_cons, List.map_cons, List.sum_cons, List.sum_cons, ih]
        | false =>
          rw [List.filter_cons_of_neg (by rw [q]; decide), List.map_cons, List.sum_cons, ih]
          simp [Deal.gap, q]
    rw [e]
    exact h
end Lk

set_option Elab.async false
set_option linter.all false
set_option maxRecDepth 100000
set_option maxHeartbeats 4000000
namespace Lk
open PySem PySem.Spec PyProof.Rows L2 L2H HotX LkHot LkHead
variable {P : Program} {w : World} {K : PySem.W.Frag} {mg : Str → Option Value} {base : Heap}
/-! ### deals -/
theorem tp_h (h : Nat × Nat × Int) : tpD (hD h) = hD h := by simp [hD, frD, tpD, tpDs]
theorem tp_lh (h : Nat × Nat × Int) : tpD (lsD (hD h)) = hD h := by simp [hD, frD, tpD, tpDs, lsD, lsDs]
theorem tp_e {h : Nat × Nat × PyData} (k : tpD h.2.2 = h.2.2) : tpD (eD h) = eD h := by simp [eD, tpD, tpDs, k]
theorem tp_le {h : Nat × Nat × PyData} (k : tpD (lsD h.2.2) = h.2.2) : tpD (lsD (eD h)) = eD h := by simp [eD, tpD, tpDs, lsD, lsDs, k]
theorem sh_h {n : Nat} (h : Nat × Nat × Int) : Sh (n + 2) (hD h) := sh_t fun x hx => by
  simp only [List.mem_cons, List.not_mem_nil, or_false] at hx
  rcases hx with rfl | rfl | rfl
  · exact sh_i _
  · exact sh_i _
  · exact sh_frD _
theorem sh_e {n : Nat} {h : Nat × Nat × PyData} (k : Sh n h.2.2) : Sh (n + 1) (eD h) := sh_t fun x hx => by
  simp only [List.mem_cons, List.not_mem_nil, or_false] at hx
  rcases hx with rfl | rfl | rfl
  · exact sh_i _
  · exact sh_i _
  · exact k
theorem sh_ls : ∀ (n : Nat) (d : PyData), Sh n d → Sh n (lsD d)
  | n, .none, h => by simpa [lsD] using h
  | n, .bool b, h => by simpa [lsD] using h
  | n, .int i, h => by simpa [lsD] using h
  | n, .str x, h => by simpa [lsD] using h
  | n, .dict k, h => by simpa [lsD] using h
  | 0, .list xs, h => by obtain ⟨m, e, _⟩ := sh_in (.inl rfl) h; cases e
  | 0, .tuple xs, h => by obtain ⟨m, e, _⟩ := sh_in (.inr rfl) h; cases e
  | n + 1, .list xs, h => by
    obtain ⟨m, e, k⟩ := sh_in (.inl rfl) h
    cases e
    simp only [lsD, lsDs_eq]
    refine sh_l fun x hx => ?_
    obtain ⟨y, hy, rfl⟩ := List.mem_map.mp hx
    exact sh_ls n y (k y hy)
  | n + 1, .tuple xs, h => by
    obtain ⟨m, e, k⟩ := sh_in (.inr rfl) h
    cases e
    simp only [lsD, lsDs_eq]
    refine sh_l fun x hx => ?_
    obtain ⟨y, hy, rfl⟩ := List.mem_map.mp hx
    exact sh_ls n y (k y hy)
theorem Deal.Ok.shD {d : Deal} (k : d.Ok) : Sh 7 d.D := sh_t fun x hx => by
  simp only [List.mem_cons, List.not_mem_nil, or_false] at hx
  rcases hx with rfl | rfl | rfl
  · exact sh_i _
  · exact (sh_t (n := 5) fun y hy => by obtain ⟨h, _, rfl⟩ := List.mem_map.mp hy; exact (sh_h (n := 3) h))
  · exact (sh_t (n := 5) fun y hy => by obtain ⟨h, q, rfl⟩ := List.mem_map.mp hy; exact sh_e (n := 4) (k.sc h q).1)
theorem Deal.Ok.shL {d : Deal} (k : d.Ok) : Sh 7 d.L := sh_ls _ _ k.shD
theorem Deal.Ok.tpD {d : Deal} (k : d.Ok) : Lk.tpD d.D = d.D := by
  simp only [Deal.D, Lk.tpD, tpDs, tpDs_eq, List.map_map]
  have e1 : d.hard.map (Lk.tpD ∘ hD) = d.hard.map hD := List.map_congr_left fun h _ => tp_h h
  have e2 : d.ease.map (Lk.tpD ∘ eD) = d.ease.map eD := List.map_congr_left fun h q => tp_e (k.sc h q).2.1
  rw [e1, e2]
theorem Deal.Ok.tpL {d : Deal} (k : d.Ok) : Lk.tpD d.L = d.D := by
  simp only [Deal.L, Deal.D, Lk.tpD, tpDs, tpDs_eq, lsD, lsDs, lsDs_eq, List.map_map]
  have e1 : d.hard.map (Lk.tpD ∘ lsD ∘ hD) = d.hard.map hD := List.map_congr_left fun h _ => tp_lh h
  have e2 : d.ease.map (Lk.tpD ∘ lsD ∘ eD) = d.ease.map eD := List.map_congr_left fun h q => tp_le (k.sc h q).2.2
  rw [e1, e2]
/-- the deal, or what _law_lists makes of it -/
def Deal.At (d : Deal) (s : PyData) : Prop := s = d.D ∨ s = d.L
theorem Deal.At.tp {d : Deal} {s : PyData} (a : d.At s) (k : d.Ok) : Lk.tpD s = d.D := by
  rcases a with rfl | rfl
  · exact k.tpD
  · exact k.tpL
theorem Deal.At.sh {d : Deal} {s : PyData} (a : d.At s) (k : d.Ok) : Sh 7 s := by
  rcases a with rfl | rfl
  · exact k.shD
  · exact k.shL
theorem Deal.L_eq (d : Deal) : d.L = .list [.int (d.n : Int), .list ((d.hard.map hD).map lsD), .list ((d.ease.map eD).map lsD)] := by
  simp [Deal.L, Deal.D, lsD, lsDs, lsDs_eq]
theorem Deal.At.shf {d : Deal} {s : PyData} (a : d.At s) : ∃ (hs es : List PyData), ShF s (.int (d.n : Int)) hs es ∧ hs.length = d.hard.length ∧ es.length = d.ease.length ∧ (∀ (k : Nat) (h : Nat × Nat × Int), d.hard[k]? = some h → ∃ r : PyData, hs[k]? = some r ∧ Lk.tpD r = hD h ∧ Sh 6 r) := by
  rcases a with rfl | rfl
  · refine ⟨_, _, .inl rfl, by simp, by simp, fun k h e => ⟨hD h, by rw [List.getElem?_map, e]; rfl, tp_h h, (sh_h h).mono (by decide : 2 ≤ 6)⟩⟩
  · rw [Deal.L_eq]
    refine ⟨_, _, .inr rfl, by simp, by simp, fun k h e => ⟨lsD (hD h), by rw [List.getElem?_map, List.getElem?_map, e]; rfl, tp_lh h, sh_ls _ _ ((sh_h h).mono (by decide : 2 ≤ 6))⟩⟩
def F_rule_of : DSp := fun ds P => ∃ (d : Deal) (s : PyData) (k : Nat) (h : Nat × Nat × Int), ds = [s, mkD (true, k)] ∧ d.At s ∧ d.Ok ∧ d.hard[k]? = some h ∧ P (hD h)
theorem tp_mk (m : Bool × Nat) : tpD (mkD m) = mkD m := by simp [mkD, tpD, tpDs]
theorem has_mk {nh ne : Nat} (k : Nat) (h : k < nh) : hasMark nh ne (mkD (true, k)) = true := by
  simp [mkD, hasMark, below]
  omega
/-- hard marks, each a rule's -/
def Deal.HM (d : Deal) (ks : List Nat) : Prop := ∀ k ∈ ks, k < d.hard.length
def F_ring_far : DSp := fun ds P => ∃ (d : Deal) (s : PyData) (ks : List Nat), ds = [s, .tuple (ks.map fun k => mkD (true, k))] ∧ d.At s ∧ d.Ok ∧ d.HM ks ∧ P (frD (hf (ks.map fun k => d.gap (true, k)).sum))
theorem sc_rule_of : FnScope ["sheet", "mark", "own"] ["sheet", "mark"] (defScope s_rule_of) := ⟨rfl, rfl, rfl, by decide +kernel, rfl, by decide +kernel, by decide +kernel⟩
theorem ca_rule_of {f : Addr} {fd : FuncData} (B : Bi K mg) (Fd : FunD K "rule_of" "rule_of" (defArgs s_rule_of) (defBody s_rule_of) (defScope s_rule_of) [] [] f fd) (hm : mg "rule_of" = some (.ref f)) (c_tuple_of : Ca2 P w K mg base 13 "tuple_of" (spD K 1 (F_tuple_of 12))) (c_has_mark : Ca2 P w K mg base 3 "has_mark" (spD K 2 F_has_mark)) :
    Ca2 P w K mg base 14 "rule_of" (spD K 2 F_rule_of) := by
  refine ca2_of (k := 13) Fd sc_rule_of rfl hm (fun _ _ _ _ _ _ us hl => match us, hl with | [_, _], _ => rfl) (fun cdv A outer s H E c pn m r =>
  (ds_cons (ds_set 2 sc_rule_of.nd (de_call2 (n := 1) m c_tuple_of r (by decide) (da_cons (de_var 1) da_nil)))
  (ds_cons (ds_if (dt_not (dt_val (de_call2 (n := 2) m c_has_mark r (by decide) (da_cons (de_var 0) (da_cons (de_var 2) da_nil))))) (ds_one ds_never) ds_nil)
  (ds_one (ds_ret (de_call2 (n := 1) m c_tuple_of r (by decide) (da_cons (de_ix (de_ix (de_var 0) (de_if (dt_cmp (op_eqD r.hu64) good_eq (de_ix (de_var 2) de_int) (de_HARD B)) de_int de_int)) (de_ix (de_var 2) de_int)) da_nil))))))) ?_
  rintro ds P' - ⟨d, s, k, h0, rfl, hs, hd, hk, h⟩
  simp [initD, F_has_mark]
  have hk' : k < d.hard.length := (List.getElem?_eq_some_iff.mp hk).1
  refine ⟨_, rfl, sh_mk _, ?_⟩
  rw [tp_mk]
  obtain ⟨hs', es, hf, l1, l2, hr⟩ := hs.shf
  refine ⟨s, _, hs', es, _, ⟨rfl, rfl⟩, hf, (sh_mk (n := 0) _).mono (by decide), by rw [l1, l2]; exact has_mk k hk', ?_⟩
  obtain ⟨r, e1, e2, e3⟩ := hr k h0 hk
  simp [wEq]
  rcases hf with rfl | rfl
  · simp
    refine ⟨r, atI_nat e1, r, rfl, e3.mono (by decide), ?_⟩
    rw [e2]; exact h
  · simp
    refine ⟨r, atI_nat e1, r, rfl, e3.mono (by decide), ?_⟩
    rw [e2]; exact h
theorem sc_ring_far : FnScope ["sheet", "ring", "found", "mark"] ["sheet", "ring"] (defScope s_ring_far) := ⟨rfl, rfl, rfl, by decide +kernel, rfl, by decide +kernel, by decide +kernel⟩
theorem ca_ring_far {f : Addr} {fd : FuncData} (B : Bi K mg) (Fd : FunD K "ring_far" "ring_far" (defArgs s_ring_far) (defBody s_ring_far) (defScope s_ring_far) [] [] f fd) (hm : mg "ring_far" = some (.ref f)) (c_plus : Ca2 P w K mg base 2 "plus" (spD K 2 F_plus)) (c_rule_of : Ca2 P w K mg base 14 "rule_of" (spD K 2 F_rule_of)) :
    Ca2 P w K mg base 15 "ring_far" (spD K 2 F_ring_far) := by
  refine ca2_of (k := 14) Fd sc_ring_far rfl hm (fun _ _ _ _ _ _ us hl => match us, hl with | [_, _], _ => rfl) (fun cdv A outer s H E c pn m r =>
  (ds_cons (ds_set 2 sc_ring_far.nd (de_NONE B))
  (ds_cons (ds_for m PassesOwn.leaving (di_tup (de_var 1)) (dg_name 3 sc_ring_far.nd) (ds_one (ds_if (dt_cmp (op_eqD r.hu64) good_eq (de_ix (de_var 3) de_int) (de_HARD B)) (ds_one (ds_set 2 sc_ring_far.nd (de_call2 (n := 2) m c_plus r (by decide) (da_cons (de_var 2) (da_cons (de_ix (de_call2 (n := 2) m c_rule_of r (by decide) (da_cons (de_var 0) (da_cons (de_var 3) da_nil))) de_int) da_nil))))) ds_nil)))
  (ds_one (ds_ret (de_var 2)))))) ?_
  rintro ds P' - ⟨d, s, ks, rfl, hs, hd, hm, h⟩
  simp [initD]
  have key : ∀ (xs : List Nat) (z : Int) (δ : List Sv) (b : Sv) (G : DEn → Nat → List Sv → Prop), (∀ P g δ, G P g δ ↔ G P g δ) → True := fun _ _ _ _ _ _ => trivial
  have e : PyData.tuple [PyData.int 0, PyData.int 1] = frD (hf 0) := by rw [hf_zero]; rfl
  rw [e]
  refine forD_rel (fun xs g δ => ∃ z b, d.HM xs ∧ δ = [.dat s, .dat (.tuple (ks.map fun k => mkD (true, k))), .dat (frD (hf z)), b] ∧ z + (xs.map fun k => d.gap (true, k)).sum = (ks.map fun k => d.gap (true, k)).sum) (fun x xs g δ hI => ?_) (fun g δ hI => ?_) ks 0 _ ⟨0, _, hm, rfl, by simp⟩
  · obtain ⟨z, b, hx, rfl, hz⟩ := hI
    refine ⟨_, rfl, fun k _ hk => ?_⟩
    have hx1 := hx x List.mem_cons_self
    obtain ⟨h0, hh⟩ : ∃ h0, d.hard[x]? = some h0 := ⟨_, List.getElem?_eq_getElem hx1⟩
    simp [putD, wEq]
    refine ⟨d, s, x, h0, rfl, hs, hd, hh, ?_⟩
    simp [hD]
    refine ⟨hf z, hf h0.2.2, rfl, hf_ok _, hf_ok _, ?_⟩
    rw [plus_hf]
    refine hk _ _ ⟨z + h0.2.2, _, fun y hy => hx y (List.mem_cons_of_mem _ hy), rfl, ?_⟩
    rw [← hz, List.map_cons, List.sum_cons]
    simp [Deal.gap, hh, Int.add_assoc]
  · obtain ⟨z, b, _, rfl, hz⟩ := hI
    simp at hz
    simp [hz]
    exact h
end Lk

set_option Elab.async false
set_option linter.all false
set_option maxRecDepth 100000
set_option maxHeartbeats 4000000
namespace Lk
open PySem PySem.Spec PyProof.Rows L2 L2H HotX LkHot LkHead
variable {P : Program} {w : World} {K : PySem.W.Frag} {mg : Str → Option Value} {base : Heap}
/-! ### who is come to -/
/-- every rule: from, to, and the third of it as data -/
def Deal.all (d : Deal) : List (Nat × Nat × PyData) := d.hard.map (fun h => (h.1, h.2.1, frD (hf h.2.2))) ++ d.ease
theorem Deal.all_map (d : Deal) : d.hard.map hD ++ d.ease.map eD = d.all.map eD := by
  simp [Deal.all, Function.comp_def]
  intro a b c _
  rfl
inductive Deal.Reach (d : Deal) (i : Nat) : Nat → Prop
  | refl : Deal.Reach d i i
  | step {j : Nat} {e : Nat × Nat × PyData} : Deal.Reach d i j → e ∈ d.all → e.1 = j → Deal.Reach d i e.2.1
theorem Deal.Ok.all {d : Deal} (k : d.Ok) : ∀ e ∈ d.all, e.1 < d.n ∧ e.2.1 < d.n := fun e he => by
  unfold Deal.all at he
  rcases List.mem_append.mp he with q | q
  · obtain ⟨h, q', rfl⟩ := List.mem_map.mp q
    exact k.hard h q'
  · exact k.ease e q
theorem Deal.Reach.lt {d : Deal} (k : d.Ok) {i j : Nat} (hi : i < d.n) (h : d.Reach i j) : j < d.n := by
  cases h with
  | refl => exact hi
  | step _ he _ => exact (k.all _ he).2
open Classical in
noncomputable def Deal.lot (d : Deal) (i : Nat) : List Nat := (List.range d.n).filter fun j => decide (d.Reach i j)
theorem Deal.mem_lot {d : Deal} (k : d.Ok) {i j : Nat} (hi : i < d.n) : j ∈ d.lot i ↔ d.Reach i j := by
  classical
  unfold Deal.lot
  rw [List.mem_filter, List.mem_range]
  exact ⟨fun h => of_decide_eq_true h.2, fun h => ⟨h.lt k hi, decide_eq_true h⟩⟩
def natD (l : List Nat) : List PyData := l.map fun (i : Nat) => PyData.int (i : Int)
def lotD (l : List Nat) : PyData := .tuple (natD l)
theorem sorted_ext : ∀ (l1 l2 : List Int), l1.Pairwise (· < ·) → l2.Pairwise (· < ·) → (∀ x, x ∈ l1 ↔ x ∈ l2) → l1 = l2
  | [], [], _, _, _ => rfl
  | [], b :: l2, _, _, h => absurd ((h b).mpr List.mem_cons_self) (by simp)
  | a :: l1, [], _, _, h => absurd ((h a).mp List.mem_cons_self) (by simp)
  | a :: l1, b :: l2, h1, h2, h => by
    obtain ⟨p1, q1⟩ := List.pairwise_cons.mp h1
    obtain ⟨p2, q2⟩ := List.pairwise_cons.mp h2
    have e : a = b := by
      rcases List.mem_cons.mp ((h a).mp List.mem_cons_self) with e | e
      · exact e
      · rcases List.mem_cons.mp ((h b).mpr List.mem_cons_self) with e' | e'
        · exact e'.symm
        · have := p1 b e'; have := p2 a e; omega
    subst e
    congr 1
    refine sorted_ext l1 l2 q1 q2 fun x => ⟨fun hx => ?_, fun hx => ?_⟩
    · rcases List.mem_cons.mp ((h x).mp (List.mem_cons_of_mem _ hx)) with e | e
      · have := p1 x hx; omega
      · exact e
    · rcases List.mem_cons.mp ((h x).mpr (List.mem_cons_of_mem _ hx)) with e | e
      · have := p2 x hx; omega
      · exact e
theorem lt_of_le_nodup {l : List Int} (h : l.Pairwise (· ≤ ·)) (n : l.Nodup) : l.Pairwise (· < ·) := by
  induction l with
  | nil => exact .nil
  | cons a l ih =>
    obtain ⟨p, q⟩ := List.pairwise_cons.mp h
    obtain ⟨n1, n2⟩ := List.nodup_cons.mp n
    refine List.pairwise_cons.mpr ⟨fun b hb => ?_, ih q n2⟩
    have := p b hb
    have : a ≠ b := fun e => n1 (e ▸ hb)
    omega
theorem lot_asc {d : Deal} {i : Nat} : ((d.lot i).map fun (k : Nat) => (k : Int)).Pairwise (· < ·) := by
  rw [List.pairwise_map]
  unfold Deal.lot
  exact (List.Pairwise.filter _ List.pairwise_lt_range).imp fun h => by omega
/-- what come_to has: found, left -/
structure CT (d : Deal) (i : Nat) (fs ls : List Nat) : Prop where
  nd : fs.Nodup
  re : ∀ x ∈ fs, d.Reach i x
  sub : ∀ x ∈ ls, x ∈ fs
  st : i ∈ fs
  cl : ∀ e ∈ d.all, e.1 ∈ fs → e.1 ∈ ls ∨ e.2.1 ∈ fs
  lt : ∀ x ∈ fs, x < d.n
theorem nodup_le {n : Nat} {l : List Nat} (h : l.Nodup) (k : ∀ x ∈ l, x < n) : l.length ≤ n := by
  have := List.Nodup.length_le_of_subset (l₁ := l) (l₂ := List.range n) h (fun x hx => List.mem_range.mpr (k x hx))
  simpa using this
/-- in the midst of a turn: near's rules that are still to be looked at -/
structure CTm (d : Deal) (i near : Nat) (es : List (Nat × Nat × PyData)) (fs ls : List Nat) (m : Nat) : Prop where
  nd : fs.Nodup
  re : ∀ x ∈ fs, d.Reach i x
  sub : ∀ x ∈ ls, x ∈ fs
  st : i ∈ fs
  nr : near ∈ fs
  cl : ∀ e ∈ d.all, e.1 ∈ fs → e.1 ∈ ls ∨ e.2.1 ∈ fs ∨ (e.1 = near ∧ e ∈ es)
  lt : ∀ x ∈ fs, x < d.n
  ins : ∀ e ∈ es, e ∈ d.all
  me : 2 * (d.n - fs.length) + ls.length ≤ m
theorem CT.mid {d : Deal} {i near : Nat} {fs ls : List Nat} (h : CT d i fs (ls ++ [near])) : CTm d i near d.all fs ls (2 * (d.n - fs.length) + ls.length) where
  nd := h.nd
  re := h.re
  sub := fun x hx => h.sub x (List.mem_append_left _ hx)
  st := h.st
  nr := h.sub near (by simp)
  cl := fun e he q => by
    rcases h.cl e he q with z | z
    · rcases List.mem_append.mp z with z | z
      · exact .inl z
      · exact .inr (.inr ⟨by simpa using z, he⟩)
    · exact .inr (.inl z)
  lt := h.lt
  ins := fun e he => he
  me := Nat.le_refl _
theorem CTm.skip {d : Deal} {i near m : Nat} {e : Nat × Nat × PyData} {es : List (Nat × Nat × PyData)} {fs ls : List Nat} (h : CTm d i near (e :: es) fs ls m) (q : ¬ (e.1 = near ∧ e.2.1 ∉ fs)) : CTm d i near es fs ls m where
  nd := h.nd
  re := h.re
  sub := h.sub
  st := h.st
  nr := h.nr
  cl := fun e' he' w => by
    rcases h.cl e' he' w with z | z | ⟨z, z'⟩
    · exact .inl z
    · exact .inr (.inl z)
    · rcases List.mem_cons.mp z' with z' | z'
      · subst z'
        by_cases y : e'.2.1 ∈ fs
        · exact .inr (.inl y)
        · exact absurd ⟨z, y⟩ q
      · exact .inr (.inr ⟨z, z'⟩)
  lt := h.lt
  ins := fun e' he' => h.ins e' (List.mem_cons_of_mem _ he')
  me := h.me
theorem CTm.take {d : Deal} (k : d.Ok) {i near m : Nat} {e : Nat × Nat × PyData} {es : List (Nat × Nat × PyData)} {fs ls : List Nat} (h : CTm d i near (e :: es) fs ls m) (q : e.1 = near) (q' : e.2.1 ∉ fs) : CTm d i near es (fs ++ [e.2.1]) (ls ++ [e.2.1]) m where
  nd := by
    rw [List.nodup_append]
    refine ⟨h.nd, by simp, fun x hx y hy => ?_⟩
    simp at hy
    subst hy
    exact fun z => q' (z ▸ hx)
  re := fun x hx => by
    rcases List.mem_append.mp hx with z | z
    · exact h.re x z
    · simp at z
      subst z
      exact .step (h.re near h.nr) (h.ins e List.mem_cons_self) q
  sub := fun x hx => by
    rcases List.mem_append.mp hx with z | z
    · exact List.mem_append_left _ (h.sub x z)
    · exact List.mem_append_right _ z
  st := List.mem_append_left _ h.st
  nr := List.mem_append_left _ h.nr
  cl := fun e' he' w => by
    rcases List.mem_append.mp w with w | w
    · rcases h.cl e' he' w with z | z | ⟨z, z'⟩
      · exact .inl (List.mem_append_left _ z)
      · exact .inr (.inl (List.mem_append_left _ z))
      · rcases List.mem_cons.mp z' with z' | z'
        · subst z'
          exact .inr (.inl (by simp))
        · exact .inr (.inr ⟨z, z'⟩)
    · exact .inl (List.mem_append_right _ w)
  lt := fun x hx => by
    rcases List.mem_append.mp hx with z | z
    · exact h.lt x z
    · simp at z
      subst z
      exact (k.all e (h.ins e List.mem_cons_self)).2
  ins := fun e' he' => h.ins e' (List.mem_cons_of_mem _ he')
  me := by
    have l1 := nodup_le (n := d.n) (l := fs ++ [e.2.1]) (by
      rw [List.nodup_append]
      refine ⟨h.nd, by simp, fun x hx y hy => ?_⟩
      simp at hy
      subst hy
      exact fun z => q' (z ▸ hx)) (fun x hx => by
      rcases List.mem_append.mp hx with z | z
      · exact h.lt x z
      · simp at z
        subst z
        exact (k.all e (h.ins e List.mem_cons_self)).2)
    have := h.me
    simp at l1 ⊢
    omega
theorem CTm.out {d : Deal} {i near m : Nat} {fs ls : List Nat} (h : CTm d i near [] fs ls m) : CT d i fs ls where
  nd := h.nd
  re := h.re
  sub := h.sub
  st := h.st
  cl := fun e he q => by
    rcases h.cl e he q with z | z | ⟨_, z⟩
    · exact .inl z
    · exact .inr z
    · cases z
  lt := h.lt
theorem CT.done {d : Deal} (k : d.Ok) {i : Nat} (hi : i < d.n) {fs : List Nat} (h : CT d i fs []) {ns : List Int} (p : ns.Perm (fs.map fun (x : Nat) => (x : Int))) (s : ns.Pairwise (· ≤ ·)) : ns.map PyData.int = natD (d.lot i) := by
  have nd : ns.Nodup := p.nodup_iff.mpr (by
    refine List.Pairwise.map _ (fun a b h => ?_) h.nd
    intro e; exact h (by omega))
  have e : ns = (d.lot i).map fun (x : Nat) => (x : Int) := sorted_ext _ _ (lt_of_le_nodup s nd) lot_asc fun x => by
    rw [p.mem_iff, List.mem_map, List.mem_map]
    have ff : ∀ y, y ∈ fs ↔ y ∈ d.lot i := fun y => by
      rw [d.mem_lot k hi]
      refine ⟨h.re y, fun r => ?_⟩
      induction r with
      | refl => exact h.st
      | step _ he e ih =>
        subst e
        rcases h.cl _ he ih with z | z
        · cases z
        · exact z
    exact ⟨fun ⟨y, hy, e⟩ => ⟨y, (ff y).mp hy, e⟩, fun ⟨y, hy, e⟩ => ⟨y, (ff y).mpr hy, e⟩⟩
  rw [e]
  simp [natD]
theorem memc {x : Nat} {fs : List Nat} : ((x : Int) ∈ fs.map fun (y : Nat) => (y : Int)) ↔ x ∈ fs := by
  rw [List.mem_map]
  exact ⟨fun ⟨y, hy, e⟩ => by have : y = x := by omega
                              rwa [← this], fun h => ⟨x, h, rfl⟩⟩
def F_come_to : DSp := fun ds P => ∃ (d : Deal) (i : Nat), ds = [d.D, .int (i : Int)] ∧ d.Ok ∧ i < d.n ∧ P (lotD (d.lot i))
theorem sc_come_to : FnScope ["sheet", "start", "found", "left", "near", "i", "j", "_"] ["sheet", "start"] (defScope s_come_to) := ⟨rfl, rfl, rfl, by decide +kernel, rfl, by decide +kernel, by decide +kernel⟩
theorem ca_come_to {f : Addr} {fd : FuncData} (B : Bi K mg) (Fd : FunD K "come_to" "come_to" (defArgs s_come_to) (defBody s_come_to) (defScope s_come_to) [] [] f fd) (hm : mg "come_to" = some (.ref f)) :
    Ca P w K mg base 1 "come_to" (spD K 2 F_come_to) := by
  refine ca_of (k := 0) Fd sc_come_to rfl hm (fun _ _ _ _ _ _ us hl => match us, hl with | [_, _], _ => rfl) (fun cdv A outer s H E hr =>
  have m := md_calm (cx2 P w K mg base ["sheet", "start", "found", "left", "near", "i", "j", "_"] "come_to" (defScope s_come_to) f cdv A outer s H E true []) rfl rfl
  have r : Rm (cx2 P w K mg base ["sheet", "start", "found", "left", "near", "i", "j", "_"] "come_to" (defScope s_come_to) f cdv A outer s H E true []) 0 := rm_calm hr
  (ds_cons (ds_par 2 3 rfl sc_come_to.nd (dx_consF (df_lst (da_cons (de_var 1) da_nil)) (dx_consF (df_lst (da_cons (de_var 1) da_nil)) dx_nil)))
  (ds_cons (ds_while PassesOwn.leaving (dt_cmp op_gt good_gt (de_lenO 3 B.n_len) de_int) (ds_cons (ds_pop 3 4 sc_come_to.nd (by decide))
  (ds_one (ds_for m PassesOwn.leaving (di_tup (de_op op_catA good_catT (de_ix (de_var 0) de_int) (de_ix (de_var 0) de_int))) (dg_tup (n := 3) m (dgs_cons (dg_name 5 sc_come_to.nd) (dgs_cons (dg_name 6 sc_come_to.nd) (dgs_cons (dg_name 7 sc_come_to.nd) dgs_nil))) (mlen_cons (mlen_cons (mlen_cons mlen_nil)))) (ds_one (ds_if (dt_of (dw_and (dt_cmp (op_eqD r.hu64) good_eq (de_var 5) (de_var 4)) (dw_and1 (dt_inO (neg := true) 2 op_notIn_seq (de_var 6))))) (ds_cons (ds_append 2 (de_var 6))
  (ds_one (ds_append 3 (de_var 6)))) ds_nil))))))
  (ds_one (ds_ret (de_callTy call_tuple_of good_tup B.n_tuple (da_cons (de_of (df_sortO 2 B.n_sorted)) da_nil))))))) ?_
  rintro ds P' - ⟨d, i, rfl, hd, hi, h⟩
  simp [initD]
  have enat : ∀ l : List Nat, natD l = (l.map fun (x : Nat) => (x : Int)).map PyData.int := fun l => by simp [natD]
  refine ⟨by decide, _, _, ⟨rfl, rfl⟩, fun n _ δ => ∃ fs ls a b c e, δ = [.dat d.D, .dat (.int (i : Int)), .own (natD fs), .own (natD ls), a, b, c, e] ∧ CT d i fs ls ∧ 2 * (d.n - fs.length) + ls.length ≤ n ∧ n ≤ 100,
    ⟨_, [i], [i], _, _, _, _, rfl, ⟨by simp, fun x hx => by simp at hx; subst hx; exact .refl, fun x hx => hx, by simp, fun e _ q => .inl q, fun x hx => by simp at hx; subst hx; exact hi⟩, Nat.le_refl _, by have := hd.nn; simp; omega⟩, ?_⟩
  rintro n g δ ⟨fs, ls, a, b, c, e, rfl, hc, hn, hn1⟩
  simp [wI0]
  rcases List.eq_nil_or_concat ls with rfl | ⟨l', near, rfl⟩
  · refine .inl ⟨by simp [natD], _, enat fs, fun ns' p s => ?_⟩
    rw [CT.done hd hi hc p s]
    exact h
  · refine .inr ⟨by simp [natD], natD l', .int (near : Int), by simp [natD], ?_⟩
    simp [Deal.D]
    refine ⟨?_, ?_⟩
    · have e : sizeLine = 16777216 := sizeLine_eq
      have := hd.nh
      have := hd.ne
      omega
    rw [d.all_map]
    have hm := CT.mid (by simpa using hc)
    refine forD_rel (fun es g δ => ∃ fs ls a b c m, δ = [.dat d.D, .dat (.int (i : Int)), .own (natD fs), .own (natD ls), .dat (.int (near : Int)), a, b, c] ∧ CTm d i near es fs ls m ∧ m < n) (fun x xs g δ hI => ?_) (fun g δ hI => ?_) d.all g _ ⟨fs, l', _, _, _, _, rfl, hm, by simp at hn; omega⟩
    · obtain ⟨fs, ls, a, b, c, m, rfl, hI, hmn⟩ := hI
      refine ⟨_, rfl, fun k _ hk => ?_⟩
      simp [putD, wEq]
      by_cases q1 : x.1 = near
      · refine .inr ⟨by omega, fs.map fun (x : Nat) => (x : Int), by simp [natD], ?_⟩
        by_cases q2 : x.2.1 ∈ fs
        · rw [if_pos (memc.mpr q2)]
          exact hk _ _ ⟨fs, ls, _, _, _, m, rfl, hI.skip (fun z => z.2 q2), hmn⟩
        · rw [if_neg (fun z => q2 (memc.mp z))]
          have hl := hI.me
          have l1 := nodup_le hI.nd hI.lt
          have e : sizeLine = 16777216 := sizeLine_eq
          have := hd.nn
          refine ⟨by simp [natD]; omega, by simp [natD]; omega, ?_⟩
          exact hk _ _ ⟨fs ++ [x.2.1], ls ++ [x.2.1], .dat (.int (x.1 : Int)), .dat (.int (x.2.1 : Int)), .dat x.2.2, m, by simp [natD], hI.take hd q1 q2, hmn⟩
      · refine .inl ⟨by omega, ?_⟩
        exact hk _ _ ⟨fs, ls, _, _, _, m, rfl, hI.skip (fun z => q1 z.1), hmn⟩
    · obtain ⟨fs, ls, a, b, c, m, rfl, hI, hmn⟩ := hI
      exact ⟨m, hmn, fs, ls, ⟨_, _, _, _, rfl⟩, hI.out, hI.me, by omega⟩
end Lk

set_option Elab.async false
set_option linter.all false
set_option maxRecDepth 100000
set_option maxHeartbeats 4000000
namespace Lk
open PySem PySem.Spec PyProof.Rows L2 L2H HotX LkHot LkHead
variable {P : Program} {w : World} {K : PySem.W.Frag} {mg : Str → Option Value} {base : Heap}
/-! ### loose lots -/
noncomputable def Deal.looseIn (d : Deal) : List (Nat × Nat × PyData) → Option (List Nat)
  | [] => none
  | e :: es => if e.1 ∈ d.lot e.2.1 then Deal.looseIn d es else some (d.lot e.2.1)
noncomputable def Deal.loose (d : Deal) : Option (List Nat) := d.looseIn d.ease
def optD : Option (List Nat) → PyData
  | none => .none
  | some l => lotD l
def F_loose_lot : DSp := fun ds P => ∃ (d : Deal) (s : PyData), ds = [s] ∧ d.At s ∧ d.Ok ∧ P (optD d.loose)
/-- ascending -/
def asc (ns : List Nat) : Bool := (List.range (ns.length - 1)).all fun k => decide (ns.getD k 0 < ns.getD (k + 1) 0)
def Deal.closed (d : Deal) (ns : List Nat) : Bool := d.all.all fun e => !(decide (e.1 ∈ ns) && !decide (e.2.1 ∈ ns))
def Deal.entered (d : Deal) (ns : List Nat) : Bool := d.ease.any fun e => !decide (e.1 ∈ ns) && decide (e.2.1 ∈ ns)
def Deal.isLoose (d : Deal) (ns : List Nat) : Bool := (ns.all fun x => decide (x < d.n)) && asc ns && d.closed ns && d.entered ns
def F_is_loose_lot : DSp := fun ds P => ∃ (d : Deal) (s : PyData), d.At s ∧ d.Ok ∧ ((∃ xs, ds = [s, .list xs] ∧ P (.bool false)) ∨ ∃ ns : List Nat, ds = [s, lotD ns] ∧ ns.length ≤ 900 ∧ P (.bool (d.isLoose ns)))
def F_law_is_loose : DSp := fun ds P => ∃ (d : Deal) (ns : List Nat), ds = [d.D, lotD ns] ∧ d.Ok ∧ P (.bool (d.closed ns && d.entered ns))
theorem wInI_nat {neg : Bool} {i : Nat} {ns : List Nat} {P : PyData → Prop} : wInI neg (.int (i : Int)) (lotD ns) P ↔ P (.bool (if neg then !decide (i ∈ ns) else decide (i ∈ ns))) := by
  have key : ∀ ms : List Int, natD ns = ms.map PyData.int → ms = ns.map fun (x : Nat) => (x : Int) := fun ms e => by
    have : (ns.map fun (x : Nat) => (x : Int)).map PyData.int = ms.map PyData.int := by rw [← e]; simp [natD]
    clear e
    have inj : ∀ {a b : List Int}, a.map PyData.int = b.map PyData.int → a = b := by
      intro a
      induction a with
      | nil => intro b h; cases b with
        | nil => rfl
        | cons _ _ => cases h
      | cons x xs ih => intro b h; cases b with
        | nil => cases h
        | cons y ys =>
          simp only [List.map_cons, List.cons.injEq, PyData.int.injEq] at h
          rw [h.1, ih h.2]
    exact (inj this).symm
  have mm : decide ((i : Int) ∈ ns.map fun (x : Nat) => (x : Int)) = decide (i ∈ ns) := by
    by_cases h : i ∈ ns
    · rw [decide_eq_true h, decide_eq_true (memc.mpr h)]
    · rw [decide_eq_false h, decide_eq_false (fun z => h (memc.mp z))]
  unfold wInI
  constructor
  · rintro ⟨j, ms, e1, e2, p⟩
    cases e1
    have := key ms (by rcases e2 with e2 | e2 <;> simpa [lotD] using e2)
    subst this
    rw [mm] at p
    exact p
  · intro p
    refine ⟨(i : Int), ns.map fun (x : Nat) => (x : Int), rfl, .inr (by simp [lotD, natD]), ?_⟩
    rw [mm]
    exact p
theorem selB {b : Bool} {A B : Prop} : ((PyData.bool b = .bool false ∧ A) ∨ (PyData.bool b = .bool true ∧ B)) ↔ if b = true then B else A := by cases b <;> simp
theorem selC {b : Bool} {A B : Prop} : ((b = false ∧ A) ∨ (b = true ∧ B)) ↔ if b = true then B else A := by cases b <;> simp
theorem wAll_m {α : Type} {xs : List α} {f : α → Bool} {P : PyData → Prop} : wAll [.list (xs.map fun x => .bool (f x))] P ↔ P (.bool (xs.all f)) := by
  have e : (xs.map fun x => PyData.bool (f x)) = (xs.map f).map PyData.bool := by simp
  rw [e, wAll_l, List.all_map]
  rfl
theorem wAny_m {α : Type} {xs : List α} {f : α → Bool} {P : PyData → Prop} : wAny [.list (xs.map fun x => .bool (f x))] P ↔ P (.bool (xs.any f)) := by
  have e : (xs.map fun x => PyData.bool (f x)) = (xs.map f).map PyData.bool := by simp
  rw [e, wAny_l, List.any_map]
  rfl
theorem ones_ne {α : Type} (xs : List α) (t : α → Bool) {P : PyData → Prop} : P (.bool (xs.any t)) → wNe (.list ([] ++ (xs.filter t).map fun _ => PyData.int 1)) (.list []) P := fun p => by
  refine ⟨(sh_l (n := 0) fun x hx => ?_).sh, shp_lnil, ?_⟩
  · simp at hx
    obtain ⟨_, _, rfl⟩ := hx
    exact sh_i _
  · rw [eqv_lnil]
    have e : (!(([] : List PyData) ++ (xs.filter t).map fun _ => PyData.int 1).isEmpty) = xs.any t := by
      rw [List.nil_append, List.isEmpty_map]
      clear p
      induction xs with
      | nil => rfl
      | cons x xs ih =>
        cases q : t x with
        | true => rw [List.filter_cons_of_pos q, List.any_cons, q]; rfl
        | false => rw [List.filter_cons_of_neg (by rw [q]; decide), List.any_cons, q, Bool.false_or]; exact ih
    rw [e]
    exact p
theorem nat_get {ns : List Nat} {k : Nat} (h : k < ns.length) : atI (natD ns) (k : Int) = some (.int (ns.getD k 0 : Nat)) := by
  refine atI_nat ?_
  rw [natD, List.getElem?_map, List.getD_eq_getElem?_getD, List.getElem?_eq_getElem h]
  rfl
theorem sc_loose_lot : FnScope ["sheet", "own", "i", "j", "_", "lot"] ["sheet"] (defScope s_loose_lot) := ⟨rfl, rfl, rfl, by decide +kernel, rfl, by decide +kernel, by decide +kernel⟩
theorem ca_loose_lot {f : Addr} {fd : FuncData} (B : Bi K mg) (Fd : FunD K "loose_lot" "loose_lot" (defArgs s_loose_lot) (defBody s_loose_lot) (defScope s_loose_lot) [] [] f fd) (hm : mg "loose_lot" = some (.ref f)) (c_tuple_of : Ca2 P w K mg base 13 "tuple_of" (spD K 1 (F_tuple_of 12))) (c_come_to : Ca P w K mg base 1 "come_to" (spD K 2 F_come_to)) :
    Ca P w K mg base 14 "loose_lot" (spD K 1 F_loose_lot) := by
  refine ca_of (k := 13) Fd sc_loose_lot rfl hm (fun _ _ _ _ _ _ us hl => match us, hl with | [_], _ => rfl) (fun cdv A outer s H E hr =>
  have m := md_calm (cx2 P w K mg base ["sheet", "own", "i", "j", "_", "lot"] "loose_lot" (defScope s_loose_lot) f cdv A outer s H E true []) rfl rfl
  have r : Rm (cx2 P w K mg base ["sheet", "own", "i", "j", "_", "lot"] "loose_lot" (defScope s_loose_lot) f cdv A outer s H E true []) 13 := rm_calm hr
  (ds_cons (ds_set 1 sc_loose_lot.nd (de_call (n := 1) c_tuple_of.ca hr (by decide) (da_cons (de_var 0) da_nil)))
  (ds_cons (ds_for m PassesOwn.leaving (di_tup (de_ix (de_var 1) de_int)) (dg_tup (n := 3) m (dgs_cons (dg_name 2 sc_loose_lot.nd) (dgs_cons (dg_name 3 sc_loose_lot.nd) (dgs_cons (dg_name 4 sc_loose_lot.nd) dgs_nil))) (mlen_cons (mlen_cons (mlen_cons mlen_nil)))) (ds_cons (ds_set 5 sc_loose_lot.nd (de_call (n := 2) c_come_to hr (by decide) (da_cons (de_var 1) (da_cons (de_var 3) da_nil))))
  (ds_one (ds_if (dt_cmp op_notIn_seq (good_inI (neg := true)) (de_var 2) (de_var 5)) (ds_one (ds_ret (de_var 5))) ds_nil))))
  (ds_one (ds_ret de_non))))) ?_
  rintro ds P' - ⟨d, s, rfl, hs, hd, h⟩
  simp [initD, F_tuple_of]
  refine ⟨(hs.sh hd).mono (by decide), ?_⟩
  rw [hs.tp hd]
  simp [Deal.D]
  unfold Deal.loose at h
  refine forD_rel (fun es g δ => ∃ a b c e, δ = [.dat s, .dat d.D, a, b, c, e] ∧ (∀ e ∈ es, e ∈ d.ease) ∧ P' (optD (d.looseIn es))) (fun x xs g δ hI => ?_) (fun g δ hI => ?_) d.ease 0 _ ⟨_, _, _, _, rfl, fun _ h => h, h⟩
  · obtain ⟨a, b, c, e, rfl, hx, hp⟩ := hI
    refine ⟨_, rfl, fun k hr hk => ?_⟩
    simp [putD, F_come_to]
    have hx1 := hd.ease x (hx x List.mem_cons_self)
    refine ⟨d, x.2.1, ⟨rfl, rfl⟩, hd, hx1.2, ?_⟩
    rw [wInI_nat]
    by_cases q : x.1 ∈ d.lot x.2.1
    · refine .inl ⟨by simp [q], hk _ _ ⟨_, _, _, _, rfl, fun e he => hx e (List.mem_cons_of_mem _ he), ?_⟩⟩
      unfold Deal.looseIn at hp
      rw [if_pos q] at hp
      exact hp
    · refine .inr ⟨by simp [q], ?_⟩
      rw [hr]
      unfold Deal.looseIn at hp
      rw [if_neg q] at hp
      exact hp
  · obtain ⟨a, b, c, e, rfl, hx, hp⟩ := hI
    exact hp
theorem sc_is_loose_lot : FnScope ["sheet", "thing", "own", "k", "i", "j", "_", "one"] ["sheet", "thing"] (defScope s_is_loose_lot) := ⟨rfl, rfl, rfl, by decide +kernel, rfl, by decide +kernel, by decide +kernel⟩
theorem ca_is_loose_lot {f : Addr} {fd : FuncData} (B : Bi K mg) (Fd : FunD K "is_loose_lot" "is_loose_lot" (defArgs s_is_loose_lot) (defBody s_is_loose_lot) (defScope s_is_loose_lot) [] [] f fd) (hm : mg "is_loose_lot" = some (.ref f)) (c_tuple_of : Ca2 P w K mg base 13 "tuple_of" (spD K 1 (F_tuple_of 12))) (c_is_thing_below : Ca2 P w K mg base 2 "is_thing_below" (spD K 2 F_is_thing_below)) :
    Ca2 P w K mg base 14 "is_loose_lot" (spD K 2 F_is_loose_lot) := by
  refine ca2_of (k := 13) Fd sc_is_loose_lot rfl hm (fun _ _ _ _ _ _ us hl => match us, hl with | [_, _], _ => rfl) (fun cdv A outer s H E c pn m r =>
  (ds_cons (ds_set 2 sc_is_loose_lot.nd (de_call2 (n := 1) m c_tuple_of r (by decide) (da_cons (de_var 0) da_nil)))
  (ds_cons (ds_if (dt_of (dw_or (dt_not (dt_val (de_isi "tuple" kit_tuple B.n_isinstance B.n_tuple (de_var 1)))) (dw_or1 (dt_not (dt_val (de_callB (cr_all2 m) good_all B.n_all (da_cons (de_of (df_lc (own := [("one", 7)]) m sc_is_loose_lot.nd (di_tup (de_var 1)) (blkOk_by (N := ["sheet", "thing", "own", "k", "i", "j", "_", "one"]) (sc := (defScope s_is_loose_lot)) (by decide +kernel)) (fun _ _ _ _ _ => (dg_name 7 sc_is_loose_lot.nd)) (fun _ _ _ _ _ => dtt_nil) (fun _ _ _ _ _ => (de_call2 (n := 2) (md_blk m _ _ _ _ _) c_is_thing_below r (by decide) (da_cons (de_var 7) (da_cons (de_ix (de_var 2) de_int) da_nil)))))) da_nil))))))) (ds_one (ds_ret de_bl)) ds_nil)
  (ds_cons (ds_if (dt_not (dt_val (de_callB (cr_all2 m) good_all B.n_all (da_cons (de_of (df_lc (own := [("k", 3)]) m sc_is_loose_lot.nd (di_range1 B.n_range (de_op op_sub good_sub (de_callB call_len good_len B.n_len (da_cons (de_var 1) da_nil)) de_int)) (blkOk_by (N := ["sheet", "thing", "own", "k", "i", "j", "_", "one"]) (sc := (defScope s_is_loose_lot)) (by decide +kernel)) (fun _ _ _ _ _ => (dg_name 3 sc_is_loose_lot.nd)) (fun _ _ _ _ _ => dtt_nil) (fun _ _ _ _ _ => (de_cmp op_lt good_lt (de_ix (de_var 1) (de_var 3)) (de_ix (de_var 1) (de_op op_add good_add (de_var 3) de_int)))))) da_nil)))) (ds_one (ds_ret de_bl)) ds_nil)
  (ds_cons (ds_if (dt_val (de_callB (cr_any2 m) good_any B.n_any (da_cons (de_of (df_lc (own := [("i", 4), ("j", 5), ("_", 6)]) m sc_is_loose_lot.nd (di_tup (de_op op_catA good_catT (de_ix (de_var 2) de_int) (de_ix (de_var 2) de_int))) (blkOk_by (N := ["sheet", "thing", "own", "k", "i", "j", "_", "one"]) (sc := (defScope s_is_loose_lot)) (by decide +kernel)) (fun _ _ _ _ _ => (dg_tup (n := 3) (md_blk m _ _ _ _ _) (dgs_cons (dg_name 4 sc_is_loose_lot.nd) (dgs_cons (dg_name 5 sc_is_loose_lot.nd) (dgs_cons (dg_name 6 sc_is_loose_lot.nd) dgs_nil))) (mlen_cons (mlen_cons (mlen_cons mlen_nil))))) (fun _ _ _ _ _ => dtt_nil) (fun _ _ _ _ _ => (de_and (de_cmp op_in_seq (good_inI (neg := false)) (de_var 4) (de_var 1)) (de_one (de_cmp op_notIn_seq (good_inI (neg := true)) (de_var 5) (de_var 1))))))) da_nil))) (ds_one (ds_ret de_bl)) ds_nil)
  (ds_one (ds_ret (de_callB (cr_any2 m) good_any B.n_any (da_cons (de_of (df_lc (own := [("i", 4), ("j", 5), ("_", 6)]) m sc_is_loose_lot.nd (di_tup (de_ix (de_var 2) de_int)) (blkOk_by (N := ["sheet", "thing", "own", "k", "i", "j", "_", "one"]) (sc := (defScope s_is_loose_lot)) (by decide +kernel)) (fun _ _ _ _ _ => (dg_tup (n := 3) (md_blk m _ _ _ _ _) (dgs_cons (dg_name 4 sc_is_loose_lot.nd) (dgs_cons (dg_name 5 sc_is_loose_lot.nd) (dgs_cons (dg_name 6 sc_is_loose_lot.nd) dgs_nil))) (mlen_cons (mlen_cons (mlen_cons mlen_nil))))) (fun _ _ _ _ _ => dtt_nil) (fun _ _ _ _ _ => (de_and (de_cmp op_notIn_seq (good_inI (neg := true)) (de_var 4) (de_var 1)) (de_one (de_cmp op_in_seq (good_inI (neg := false)) (de_var 5) (de_var 1))))))) da_nil))))))))) ?_
  rintro ds P' - ⟨d, s, hs, hd, h⟩
  rcases h with ⟨xs, rfl, h⟩ | ⟨ns, rfl, hl, h⟩
  · simp [initD, F_tuple_of]
    refine ⟨(hs.sh hd).mono (by decide), ?_⟩
    simpa [isiD] using h
  · simp [initD, F_tuple_of]
    refine ⟨(hs.sh hd).mono (by decide), ?_⟩
    rw [hs.tp hd]
    have e0 : isiD (lotD ns) "tuple" = true := by simp [lotD, isiD]
    simp only [e0, if_true]
    refine ⟨natD ns, rfl, ?_⟩
    refine compD_all (f := fun x => .bool (decide (x < d.n))) ns (fun x hx => ⟨_, rfl, by simp, fun k g q => ?_⟩) ?_
    · simp [putD, wipeD, Deal.D, F_is_thing_below]
      refine ⟨_, _, ⟨rfl, rfl⟩, ?_⟩
      simpa [below] using q
    rw [List.nil_append, wAll_m, selB]
    have h0 : d.isLoose ns = ((ns.all fun x => decide (x < d.n)) && asc ns && d.closed ns && d.entered ns) := rfl
    rw [h0] at h
    split
    rotate_left
    · rename_i e1
      simp only [e1, Bool.false_and] at h
      exact h
    rename_i e1
    rw [e1, Bool.true_and] at h
    refine ⟨natD ns, .inr rfl, ⟨_, _, rfl, rfl, ?_⟩⟩
    have ln : (natD ns).length = ns.length := by simp [natD]
    rw [ln]
    refine ⟨_, rfl, by omega, by omega, ?_⟩
    have er : rgD 0 ((ns.length : Int) - 1) = (List.range (ns.length - 1)).map fun (i : Nat) => PyData.int (i : Int) := by
      cases hn : ns.length with
      | zero => rfl
      | succ m =>
        have : ((m + 1 : Nat) : Int) - 1 = (m : Int) := by omega
        rw [this, rgD_map]
        rfl
    rw [er]
    refine compD_all (f := fun k => .bool (decide (ns.getD k 0 < ns.getD (k + 1) 0))) _ (fun x hx => ⟨_, rfl, by simp, fun k g q => ?_⟩) ?_
    · have hx : x < ns.length - 1 := List.mem_range.mp hx
      refine ⟨_, rfl, _, rfl, ?_⟩
      show wIx (.tuple (natD ns)) (.int (x : Int)) _
      rw [wIx_t]
      refine ⟨_, nat_get (by omega), _, rfl, _, rfl, ?_⟩
      refine ⟨_, _, rfl, rfl, ?_⟩
      show wIx (.tuple (natD ns)) (.int ((x + 1 : Nat) : Int)) _
      rw [wIx_t]
      refine ⟨_, nat_get (by omega), _, _, rfl, rfl, ?_⟩
      have e : decide (((ns.getD x 0 : Nat) : Int) < ((ns.getD (x + 1) 0 : Nat) : Int)) = decide (ns.getD x 0 < ns.getD (x + 1) 0) := by
        by_cases z : ns.getD x 0 < ns.getD (x + 1) 0
        · rw [decide_eq_true z, decide_eq_true (by omega)]
        · rw [decide_eq_false z, decide_eq_false (by omega)]
      show k g (PyData.bool (decide (((ns.getD x 0 : Nat) : Int) < ((ns.getD (x + 1) 0 : Nat) : Int))))
      rw [e]
      exact q
    rw [List.nil_append, wAll_m, selB]
    have h1 : asc ns = (List.range (ns.length - 1)).all fun k => decide (ns.getD k 0 < ns.getD (k + 1) 0) := rfl
    rw [← h1]
    split
    rotate_left
    · rename_i e2
      simp only [e2, Bool.false_and] at h
      exact h
    rename_i e2
    rw [e2, Bool.true_and] at h
    simp only [Deal.D, wIx_t, at1, at2, Option.some.injEq, exists_eq_left', wCatT_t]
    refine ⟨?_, _, rfl, ?_⟩
    · simp
      have e : sizeLine = 16777216 := sizeLine_eq
      have := hd.nh
      have := hd.ne
      omega
    rw [d.all_map]
    refine compD_all (f := fun e => .bool (decide (e.1 ∈ ns) && !decide (e.2.1 ∈ ns))) d.all (fun x hx => ⟨_, rfl, by simp, fun k g q => ?_⟩) ?_
    · simp [putD, wipeD]
      rw [wInI_nat, selB]
      by_cases z : x.1 ∈ ns
      · simp [z] at q ⊢
        rw [wInI_nat]
        simpa using q
      · simpa [z] using q
    rw [List.nil_append, wAny_m, selB]
    have h2 : (d.all.any fun e => decide (e.1 ∈ ns) && !decide (e.2.1 ∈ ns)) = !d.closed ns := by
      unfold Deal.closed
      rw [List.not_all_eq_any_not]
      simp
    rw [h2]
    cases e3 : d.closed ns with
    | false =>
      rw [e3, Bool.false_and] at h
      exact h
    | true =>
      rw [e3, Bool.true_and] at h
      simp only [Bool.not_true, Bool.false_eq_true, if_false]
      refine ⟨_, rfl, ?_⟩
      refine compD_all (f := fun e => .bool (!decide (e.1 ∈ ns) && decide (e.2.1 ∈ ns))) d.ease (fun x hx => ⟨_, rfl, by simp, fun k g q => ?_⟩) ?_
      · simp [putD, wipeD]
        rw [wInI_nat, selB]
        by_cases z : x.1 ∈ ns
        · simpa [z] using q
        · simp [z] at q ⊢
          rw [wInI_nat]
          simpa using q
      rw [List.nil_append, wAny_m]
      exact h
theorem sc_law_is_loose : FnScope ["_law_deal", "_law_cut_so", "_law_own"] ["_law_deal", "_law_cut_so"] (defScope s_law_is_loose) := ⟨rfl, rfl, rfl, by decide +kernel, rfl, by decide +kernel, by decide +kernel⟩
theorem ca_law_is_loose {f : Addr} {fd : FuncData} (B : Bi K mg) (Fd : FunD K "_law_is_loose" "_law_is_loose" (defArgs s_law_is_loose) (defBody s_law_is_loose) (defScope s_law_is_loose) [] [] f fd) (hm : mg "_law_is_loose" = some (.ref f)) :
    Ca P w K mg base 1 "_law_is_loose" (spD K 2 F_law_is_loose) := by
  refine ca_of (k := 0) Fd sc_law_is_loose rfl hm (fun _ _ _ _ _ _ us hl => match us, hl with | [_, _], _ => rfl) (fun cdv A outer s H E hr =>
  have m := md_calm (cx2 P w K mg base ["_law_deal", "_law_cut_so", "_law_own"] "_law_is_loose" (defScope s_law_is_loose) f cdv A outer s H E true []) rfl rfl
  have r : Rm (cx2 P w K mg base ["_law_deal", "_law_cut_so", "_law_own"] "_law_is_loose" (defScope s_law_is_loose) f cdv A outer s H E true []) 0 := rm_calm hr
  (ds_cons (ds_if (dt_cmp (op_neD r.hu64) good_ne (de_of (df_lc (own := [("_law_own", 2)]) m sc_law_is_loose.nd (di_tup (de_op op_catA good_catT (de_ix (de_var 0) de_int) (de_ix (de_var 0) de_int))) (blkOk_by (N := ["_law_deal", "_law_cut_so", "_law_own"]) (sc := (defScope s_law_is_loose)) (by decide +kernel)) (fun _ _ _ _ _ => (dg_name 2 sc_law_is_loose.nd)) (fun _ _ _ _ _ => (dtt_one (dt_of (dw_and (dt_cmp op_in_seq (good_inI (neg := false)) (de_ix (de_var 2) de_int) (de_var 1)) (dw_and1 (dt_cmp op_notIn_seq (good_inI (neg := true)) (de_ix (de_var 2) de_int) (de_var 1))))))) (fun _ _ _ _ _ => de_int))) (de_of (df_lst da_nil))) (ds_one (ds_ret de_bl)) ds_nil)
  (ds_one (ds_ret (de_cmp (op_neD r.hu64) good_ne (de_of (df_lc (own := [("_law_own", 2)]) m sc_law_is_loose.nd (di_tup (de_ix (de_var 0) de_int)) (blkOk_by (N := ["_law_deal", "_law_cut_so", "_law_own"]) (sc := (defScope s_law_is_loose)) (by decide +kernel)) (fun _ _ _ _ _ => (dg_name 2 sc_law_is_loose.nd)) (fun _ _ _ _ _ => (dtt_one (dt_of (dw_and (dt_cmp op_notIn_seq (good_inI (neg := true)) (de_ix (de_var 2) de_int) (de_var 1)) (dw_and1 (dt_cmp op_in_seq (good_inI (neg := false)) (de_ix (de_var 2) de_int) (de_var 1))))))) (fun _ _ _ _ _ => de_int))) (de_of (df_lst da_nil))))))) ?_
  rintro ds P' - ⟨d, ns, rfl, hd, h⟩
  simp [initD, Deal.D]
  refine ⟨?_, ?_⟩
  · have e : sizeLine = 16777216 := sizeLine_eq
    have := hd.nh
    have := hd.ne
    omega
  rw [d.all_map]
  have h2 : (d.all.any fun e => decide (e.1 ∈ ns) && !decide (e.2.1 ∈ ns)) = !d.closed ns := by
    unfold Deal.closed
    rw [List.not_all_eq_any_not]
    simp
  refine compD_map (t := fun e => decide (e.1 ∈ ns) && !decide (e.2.1 ∈ ns)) (f := fun _ => .int 1) d.all (fun x hx => ⟨_, rfl, by simp, fun k g q => ?_, fun _ k g q => q⟩) (ones_ne _ _ ?_)
  · simp [putD, wipeD, eD]
    rw [wInI_nat, selB]
    by_cases z : x.1 ∈ ns
    · simp [z] at q ⊢
      rw [wInI_nat, selB]
      by_cases z2 : x.2.1 ∈ ns
      · simpa [z2] using q
      · simpa [z2] using q
    · simpa [z] using q
  rw [selB, h2]
  cases e3 : d.closed ns with
  | false =>
    rw [e3, Bool.false_and] at h
    exact h
  | true =>
    rw [e3, Bool.true_and] at h
    simp only [Bool.not_true, Bool.false_eq_true, if_false]
    refine compD_map (t := fun (e : Nat × Nat × PyData) => !decide (e.1 ∈ ns) && decide (e.2.1 ∈ ns)) (f := fun _ => .int 1) d.ease (fun x hx => ⟨_, rfl, by simp, fun k g q => ?_, fun _ k g q => q⟩) (ones_ne _ (fun (e : Nat × Nat × PyData) => !decide (e.1 ∈ ns) && decide (e.2.1 ∈ ns)) h)
    simp [putD, wipeD, eD]
    rw [wInI_nat, selB]
    by_cases z : x.1 ∈ ns
    · simpa [z] using q
    · simp [z] at q ⊢
      rw [wInI_nat, selB]
      by_cases z2 : x.2.1 ∈ ns
      · simpa [z2] using q
      · simpa [z2] using q
end Lk

set_option Elab.async false
set_option linter.all false
set_option maxRecDepth 100000
set_option maxHeartbeats 4000000
namespace Lk
open PySem PySem.Spec PyProof.Rows L2 L2H HotX LkHot LkHead
variable {P : Program} {w : World} {K : PySem.W.Frag} {mg : Str → Option Value} {base : Heap}
/-! ### gaps, ties -/
def gapStep (f : List (Option Int)) (h : Nat × Nat × Int) : List (Option Int) :=
  match f.getD h.1 none with
  | none => f
  | some a => match f.getD h.2.1 none with
    | none => f.set h.2.1 (some (a + h.2.2))
    | some b => if b < a + h.2.2 then f.set h.2.1 (some (a + h.2.2)) else f
def Deal.gaps (d : Deal) (i : Nat) : List (Option Int) := (List.range (d.n - 1)).foldl (fun f _ => d.hard.foldl gapStep f) ((List.replicate d.n none).set i (some 0))
def optF : Option Int → PyData
  | none => .none
  | some v => frD (hf v)
def F_gaps_from : DSp := fun ds P => ∃ (d : Deal) (i : Nat), ds = [d.D, .int (i : Int)] ∧ d.Ok ∧ i < d.n ∧ P (.list ((d.gaps i).map optF))
def Deal.tight (d : Deal) (h : Nat × Nat × Int) : Bool := match (d.gaps h.2.1).getD h.1 none with
  | none => false
  | some b => decide (h.2.2 + b = 0)
def Deal.ties (d : Deal) : List (Nat × Nat) := d.ease.map (fun e => (e.1, e.2.1)) ++ (d.hard.filter d.tight).map fun h => (h.1, h.2.1)
def F_ties_of : DSp := fun ds P => ∃ d : Deal, ds = [d.D] ∧ d.Ok ∧ P (.list (d.ties.map prD))
theorem gapStep_len (f : List (Option Int)) (h : Nat × Nat × Int) : (gapStep f h).length = f.length := by
  unfold gapStep
  split
  · rfl
  · split
    · simp
    · split <;> simp
theorem gapFold_len : ∀ (hs : List (Nat × Nat × Int)) (f : List (Option Int)), (hs.foldl gapStep f).length = f.length
  | [], _ => rfl
  | h :: hs, f => by rw [List.foldl_cons, gapFold_len hs, gapStep_len]
theorem gapFold2_len (hs : List (Nat × Nat × Int)) : ∀ (ks : List Nat) (f : List (Option Int)), (ks.foldl (fun f _ => hs.foldl gapStep f) f).length = f.length
  | [], _ => rfl
  | k :: ks, f => by rw [List.foldl_cons, gapFold2_len hs ks, gapFold_len]
theorem Deal.gaps_len (d : Deal) (i : Nat) : (d.gaps i).length = d.n := by
  unfold Deal.gaps
  rw [gapFold2_len]
  simp
theorem optF_at {f : List (Option Int)} {i : Nat} (h : i < f.length) : atI (f.map optF) (i : Int) = some (optF (f.getD i none)) := by
  refine atI_nat ?_
  rw [List.getElem?_map, List.getD_eq_getElem?_getD, List.getElem?_eq_getElem h]
  rfl
theorem ix_nat {n i : Nat} (h : i < n) : ixN n (i : Int) = some i := by
  unfold ixN
  rw [if_pos (by omega), if_pos (by omega)]
  simp
theorem isNon_fr (p : Int × Int) : isNon (frD p) = false := rfl
theorem sc_gaps_from : FnScope ["sheet", "i", "found", "_", "near", "far", "gap", "there"] ["sheet", "i"] (defScope s_gaps_from) := ⟨rfl, rfl, rfl, by decide +kernel, rfl, by decide +kernel, by decide +kernel⟩
theorem ca_gaps_from {f : Addr} {fd : FuncData} (B : Bi K mg) (Fd : FunD K "gaps_from" "gaps_from" (defArgs s_gaps_from) (defBody s_gaps_from) (defScope s_gaps_from) [] [] f fd) (hm : mg "gaps_from" = some (.ref f)) (c_plus : Ca2 P w K mg base 2 "plus" (spD K 2 F_plus)) (c_order : Ca2 P w K mg base 1 "order" (spD K 2 F_order)) :
    Ca P w K mg base 3 "gaps_from" (spD K 2 F_gaps_from) := by
  refine ca_of (k := 2) Fd sc_gaps_from rfl hm (fun _ _ _ _ _ _ us hl => match us, hl with | [_, _], _ => rfl) (fun cdv A outer s H E hr =>
  have m := md_calm (cx2 P w K mg base ["sheet", "i", "found", "_", "near", "far", "gap", "there"] "gaps_from" (defScope s_gaps_from) f cdv A outer s H E true []) rfl rfl
  have r : Rm (cx2 P w K mg base ["sheet", "i", "found", "_", "near", "far", "gap", "there"] "gaps_from" (defScope s_gaps_from) f cdv A outer s H E true []) 2 := rm_calm hr
  (ds_cons (ds_setO 2 sc_gaps_from.nd (df_rep de_non (de_ix (de_var 0) de_int)))
  (ds_cons (ds_setItem 2 (de_NONE B) (de_var 1))
  (ds_cons (ds_for m PassesOwn.leaving (di_range1 B.n_range (de_op op_sub good_sub (de_ix (de_var 0) de_int) de_int)) (dg_name 3 sc_gaps_from.nd) (ds_one (ds_for m PassesOwn.leaving (di_tup (de_ix (de_var 0) de_int)) (dg_tup (n := 3) m (dgs_cons (dg_name 4 sc_gaps_from.nd) (dgs_cons (dg_name 5 sc_gaps_from.nd) (dgs_cons (dg_name 6 sc_gaps_from.nd) dgs_nil))) (mlen_cons (mlen_cons (mlen_cons mlen_nil)))) (ds_one (ds_if (dt_cmp op_notN good_notN (de_ixO 2 (de_var 4)) de_non) (ds_cons (ds_set 7 sc_gaps_from.nd (de_call (n := 2) c_plus.ca hr (by decide) (da_cons (de_ixO 2 (de_var 4)) (da_cons (de_var 6) da_nil))))
  (ds_one (ds_if (dt_of (dw_or (dt_cmp op_isN good_isN (de_ixO 2 (de_var 5)) de_non) (dw_or1 (dt_cmp op_gt good_gt (de_call (n := 2) c_order.ca hr (by decide) (da_cons (de_var 7) (da_cons (de_ixO 2 (de_var 5)) da_nil))) de_int)))) (ds_one (ds_setItem 2 (de_var 7) (de_var 5))) ds_nil))) ds_nil)))))
  (ds_one (ds_retO 2)))))) ?_
  rintro ds P' - ⟨d, i, rfl, hd, hi, h⟩
  simp [initD, Deal.D]
  have := hd.nn
  have e0 : PyData.tuple [PyData.int 0, PyData.int 1] = frD (hf 0) := by rw [hf_zero]; rfl
  refine ⟨d.n, rfl, by omega, i, ix_nat hi, ?_⟩
  refine ⟨_, _, rfl, rfl, _, rfl, by omega, by omega, ?_⟩
  have er : rgD 0 ((d.n : Int) - 1) = (List.range (d.n - 1)).map fun (i : Nat) => PyData.int (i : Int) := by
    have hp := hd.pos
    have : (d.n : Int) - 1 = ((d.n - 1 : Nat) : Int) := by omega
    rw [this, rgD_map]
  have e1 : (List.replicate d.n PyData.none).set i (PyData.tuple [PyData.int 0, PyData.int 1]) = ((List.replicate d.n none).set i (some 0)).map optF := by
    rw [List.map_set, List.map_replicate]
    rw [e0]
    rfl
  rw [er, e1]
  refine forD_fold (fun (f : List (Option Int)) δ => ∃ a b c e u, δ = [.dat d.D, .dat (.int (i : Int)), .own (f.map optF), a, b, c, e, u]) (fun f _ => d.hard.foldl gapStep f) (fun f => f.length = d.n) (fun x f hfl => ⟨by rw [gapFold_len]; exact hfl, fun g δ hδ => ?_⟩) _ _ 0 _ (by simp) ⟨_, _, _, _, _, rfl⟩ (fun g δ _ hδ => ?_)
  · obtain ⟨a, b, c, e, u, rfl⟩ := hδ
    refine ⟨_, rfl, fun k _ hk => ?_⟩
    simp [putD, Deal.D]
    refine forD_rel (fun hs g δ => ∃ f2 a b c e u, δ = [.dat d.D, .dat (.int (i : Int)), .own (f2.map optF), a, b, c, e, u] ∧ f2.length = d.n ∧ (∀ h ∈ hs, h ∈ d.hard) ∧ hs.foldl gapStep f2 = d.hard.foldl gapStep f) (fun h hs g δ hI => ?_) (fun g δ hI => ?_) d.hard g _ ⟨f, _, _, _, _, _, rfl, hfl, fun _ h => h, rfl⟩
    · obtain ⟨f2, a, b, c, e, u, rfl, hl, hh, hfo⟩ := hI
      refine ⟨_, rfl, fun k2 _ hk2 => ?_⟩
      have hh1 := hd.hard h (hh h List.mem_cons_self)
      have hh2 : ∀ h ∈ hs, h ∈ d.hard := fun y hy => hh y (List.mem_cons_of_mem _ hy)
      rw [List.foldl_cons] at hfo
      simp [putD]
      refine ⟨_, optF_at (by rw [hl]; exact hh1.1), rfl, ?_⟩
      dsimp only
      rw [selB]
      cases q1 : f2.getD h.1 none with
      | none =>
        simp only [optF, isNon, Bool.not_true, Bool.false_eq_true, if_false]
        have eg : gapStep f2 h = f2 := by unfold gapStep; rw [q1]
        rw [eg] at hfo
        exact hk2 _ _ ⟨f2, _, _, _, _, _, rfl, hl, hh2, hfo⟩
      | some a1 =>
        simp only [optF, isNon_fr, Bool.not_false, if_true]
        refine ⟨_, optF_at (by rw [hl]; exact hh1.1), ?_⟩
        rw [q1]
        refine ⟨hf a1, hf h.2.2, rfl, hf_ok _, hf_ok _, ?_⟩
        rw [plus_hf]
        refine ⟨_, optF_at (by rw [hl]; exact hh1.2), rfl, ?_⟩
        dsimp only
        rw [selB]
        have put : ∀ g, gapStep f2 h = f2.set h.2.1 (some (a1 + h.2.2)) → ∃ x, ixN f2.length (h.2.1 : Int) = some x ∧ k2.nx g [Sv.dat d.D, Sv.dat (PyData.int ↑i), Sv.own ((f2.map optF).set x (frD (hf (a1 + h.2.2)))), a, Sv.dat (PyData.int ↑h.1), Sv.dat (PyData.int ↑h.2.1), Sv.dat (frD (hf h.2.2)), Sv.dat (frD (hf (a1 + h.2.2)))] := fun g eg => by
          refine ⟨h.2.1, ix_nat (by rw [hl]; exact hh1.2), ?_⟩
          have e3 : (f2.map optF).set h.2.1 (frD (hf (a1 + h.2.2))) = (f2.set h.2.1 (some (a1 + h.2.2))).map optF := by rw [List.map_set]; rfl
          rw [e3]
          rw [eg] at hfo
          exact hk2 _ _ ⟨_, _, _, _, _, _, rfl, by rw [List.length_set]; exact hl, hh2, hfo⟩
        cases q2 : f2.getD h.2.1 none with
        | none =>
          simp only [optF, isNon, if_true]
          exact put g (by unfold gapStep; rw [q1, q2])
        | some b1 =>
          simp only [optF, isNon_fr, Bool.false_eq_true, if_false]
          refine ⟨_, optF_at (by rw [hl]; exact hh1.2), ?_⟩
          rw [q2]
          refine ⟨hf (a1 + h.2.2), hf b1, rfl, hf_ok _, hf_ok _, ?_⟩
          rw [order_hf]
          simp [wI0]
          by_cases z : b1 < a1 + h.2.2
          · refine .inr ⟨by rw [if_neg (by omega), if_pos z]; decide, put g ?_⟩
            unfold gapStep
            simp only [q1, q2]
            rw [if_pos z]
          · refine .inl ⟨by rw [if_neg z]; split <;> decide, ?_⟩
            have eg : gapStep f2 h = f2 := by
              unfold gapStep
              simp only [q1, q2]
              rw [if_neg z]
            rw [eg] at hfo
            exact hk2 _ _ ⟨f2, _, _, _, _, _, rfl, hl, hh2, hfo⟩
    · obtain ⟨f2, a, b, c, e, u, rfl, hl, hh, hfo⟩ := hI
      rw [List.foldl_nil] at hfo
      subst hfo
      exact hk _ _ ⟨_, _, _, _, _, rfl⟩
  · obtain ⟨a, b, c, e, u, rfl⟩ := hδ
    exact ⟨_, rfl, h⟩
theorem sc_ties_of : FnScope ["sheet", "found", "i", "j", "gap", "back", "own"] ["sheet"] (defScope s_ties_of) := ⟨rfl, rfl, rfl, by decide +kernel, rfl, by decide +kernel, by decide +kernel⟩
theorem ca_ties_of {f : Addr} {fd : FuncData} (B : Bi K mg) (Fd : FunD K "ties_of" "ties_of" (defArgs s_ties_of) (defBody s_ties_of) (defScope s_ties_of) [] [] f fd) (hm : mg "ties_of" = some (.ref f)) (c_plus : Ca2 P w K mg base 2 "plus" (spD K 2 F_plus)) (c_gaps_from : Ca P w K mg base 3 "gaps_from" (spD K 2 F_gaps_from)) :
    Ca P w K mg base 4 "ties_of" (spD K 1 F_ties_of) := by
  refine ca_of (k := 3) Fd sc_ties_of rfl hm (fun _ _ _ _ _ _ us hl => match us, hl with | [_], _ => rfl) (fun cdv A outer s H E hr =>
  have m := md_calm (cx2 P w K mg base ["sheet", "found", "i", "j", "gap", "back", "own"] "ties_of" (defScope s_ties_of) f cdv A outer s H E true []) rfl rfl
  have r : Rm (cx2 P w K mg base ["sheet", "found", "i", "j", "gap", "back", "own"] "ties_of" (defScope s_ties_of) f cdv A outer s H E true []) 3 := rm_calm hr
  (ds_cons (ds_setLcO 1 (own := [("own", 6)]) rfl rfl sc_ties_of.nd (di_tup (de_ix (de_var 0) de_int)) (blkOk_by (N := ["sheet", "found", "i", "j", "gap", "back", "own"]) (sc := (defScope s_ties_of)) (by decide +kernel)) (fun _ _ _ _ _ => (dg_name 6 sc_ties_of.nd)) (fun _ _ _ _ _ => dtt_nil) (fun _ _ _ _ _ => (de_slT (de_var 6) dp_none (dp_some de_int))) (sw_true rfl rfl rfl (by decide +kernel)))
  (ds_cons (ds_for m PassesOwn.leaving (di_tup (de_ix (de_var 0) de_int)) (dg_tup (n := 3) m (dgs_cons (dg_name 2 sc_ties_of.nd) (dgs_cons (dg_name 3 sc_ties_of.nd) (dgs_cons (dg_name 4 sc_ties_of.nd) dgs_nil))) (mlen_cons (mlen_cons (mlen_cons mlen_nil)))) (ds_cons (ds_set 5 sc_ties_of.nd (de_ix (de_call (n := 2) c_gaps_from hr (by decide) (da_cons (de_var 0) (da_cons (de_var 3) da_nil))) (de_var 2)))
  (ds_one (ds_if (dt_of (dw_and (dt_cmp op_notN good_notN (de_var 5) de_non) (dw_and1 (dt_cmp (op_eqD r.hu64) good_eq (de_call (n := 2) c_plus.ca hr (by decide) (da_cons (de_var 4) (da_cons (de_var 5) da_nil))) (de_NONE B))))) (ds_one (ds_append 1 (de_tup (da_cons (de_var 2) (da_cons (de_var 3) da_nil))))) ds_nil))))
  (ds_one (ds_retO 1))))) ?_
  rintro ds P' - ⟨d, rfl, hd, h⟩
  simp [initD, Deal.D]
  refine compD_all (f := fun e => prD (e.1, e.2.1)) d.ease (fun x hx => ⟨_, rfl, by simp, fun k g q => ?_⟩) ?_
  · simp [putD, wipeD, eD]
    exact q
  simp
  refine forD_rel (fun hs g δ => ∃ l a b c e u, δ = [.dat d.D, .own (l.map prD), a, b, c, e, u] ∧ (∀ h ∈ hs, h ∈ d.hard) ∧ l.length + hs.length ≤ 40 ∧ l ++ (hs.filter d.tight).map (fun h => (h.1, h.2.1)) = d.ties) (fun h hs g δ hI => ?_) (fun g δ hI => ?_) d.hard 0 _ ⟨d.ease.map (fun e => (e.1, e.2.1)), _, _, _, _, _, by simp [Deal.D, Function.comp_def]; exact ⟨rfl, rfl, rfl, rfl, rfl⟩, fun _ h => h, by have := hd.nh; have := hd.ne; simp; omega, rfl⟩
  · obtain ⟨l, a, b, c, e, u, rfl, hh, hl, ht⟩ := hI
    refine ⟨_, rfl, fun k _ hk => ?_⟩
    have hh1 := hd.hard h (hh h List.mem_cons_self)
    have hh2 : ∀ h ∈ hs, h ∈ d.hard := fun y hy => hh y (List.mem_cons_of_mem _ hy)
    simp [putD]
    refine ⟨d, h.2.1, rfl, hd, hh1.2, ?_⟩
    dsimp only
    rw [wIx_l]
    refine ⟨_, optF_at (by rw [d.gaps_len]; exact hh1.1), rfl, ?_⟩
    dsimp only
    rw [selB]
    have skip : d.tight h = false → ∀ x, k.nx g [Sv.dat d.D, Sv.own (l.map prD), Sv.dat (PyData.int ↑h.1), Sv.dat (PyData.int ↑h.2.1), Sv.dat (frD (hf h.2.2)), x, u] := fun q x => by
      rw [List.filter_cons_of_neg (by rw [q]; decide)] at ht
      exact hk _ _ ⟨_, _, _, _, _, _, rfl, hh2, by simp at hl; omega, ht⟩
    cases q1 : (d.gaps h.2.1).getD h.1 none with
    | none =>
      simp only [optF, isNon, Bool.not_true, Bool.false_eq_true, if_false]
      exact skip (by unfold Deal.tight; rw [q1]) _
    | some b1 =>
      simp only [optF, isNon_fr, Bool.not_false, if_true]
      refine ⟨hf h.2.2, hf b1, rfl, hf_ok _, hf_ok _, ?_⟩
      rw [plus_hf]
      have e0 : PyData.tuple [PyData.int 0, PyData.int 1] = frD (hf 0) := by rw [hf_zero]; rfl
      rw [e0]
      refine ⟨shp_frD _, shp_frD _, ?_⟩
      dsimp only
      rw [eqv_frD, selB]
      have et : d.tight h = decide (hf (h.2.2 + b1) = hf 0) := by
        unfold Deal.tight
        rw [q1]
        by_cases z : h.2.2 + b1 = 0
        · simp [z]
        · have : ¬ hf (h.2.2 + b1) = hf 0 := fun y => z (hf_inj y)
          simp [z, this]
      rw [← et]
      cases q2 : d.tight h with
      | false =>
        simp only [Bool.false_eq_true, if_false]
        exact skip q2 _
      | true =>
        simp only [if_true]
        rw [List.filter_cons_of_pos q2] at ht
        refine ⟨by decide, ?_, hk _ _ ⟨l ++ [(h.1, h.2.1)], _, _, _, _, _, by simp [prD]; exact ⟨rfl, rfl, rfl, rfl, rfl⟩, hh2, by simp at hl ⊢; omega, by simpa using ht⟩⟩
        have e : sizeLine = 16777216 := sizeLine_eq
        simp at hl
        omega
  · obtain ⟨l, a, b, c, e, u, rfl, hh, hl, ht⟩ := hI
    simp at ht
    subst ht
    exact ⟨_, rfl, h⟩
end Lk

set_option Elab.async false
set_option linter.all false
set_option maxRecDepth 100000
set_option maxHeartbeats 4000000
/-! enumerate of a tuple -/
namespace Lk
open PySem PySem.Spec PyProof.Rows L2 L2H HotX LkHot
set_option maxHeartbeats 4000000 in
theorem meets_enum1 {v : Value} {o : Obj} {H : Heap → Prop} (B : Begins v o H) :
    Meets (Builtin.«enumerate.__new__» ⟨[.type "enumerate", v], []⟩) (fun _ R s => H s.heap ∧
      R (.ok (.ret (.ref (s.heap.push o).objs.size))) { s with heap := (s.heap.push o).push { cls := .type "enumerate", data := .fields #[.none, .bool false, .ref s.heap.objs.size, rawInt 0, .none, .none] } }) :=
  .of_wp fun prog w A R s h => by
    obtain ⟨hp, g, d, tk, os⟩ := s; obtain ⟨h1, h⟩ := h
    have hsub := sub_enumerate
    have q1 : ∀ {A' : Around} {E : Value → Shared → Prop} {Q : Value → Shared → Prop}, Q (.ref hp.objs.size) ⟨hp.push o, g, d, tk, os⟩ → wpAny (model prog w) A' (pyIter v) Q E ⟨hp, g, d, tk, os⟩ :=
      fun q => B.iter prog w _ _ ⟨hp, g, d, tk, os⟩ _ h1 q
    wp_walk using q1
    refine wpAny_stack_any fun st => wpAny_pure ?_
    split
    · rename_i c _ _ _ _ _
      cases (c == Value.type "enumerate")
      · wp_walk using q1
        exact ⟨_, rfl, h⟩
      · wp_walk using q1
        exact ⟨_, rfl, h⟩
    · wp_walk using q1
      exact ⟨_, rfl, h⟩
section
variable {prog : Program} {w : World} {A : Around} {E : Value → Shared → Prop} {s : Shared}
theorem enum_begins1 {v : Value} {o : Obj} {H : Heap → Prop} {Q : Value → Shared → Prop} (B : Begins v o H) (h1 : H s.heap)
    (h : ∀ h', IsEnum h' (s.heap.objs.size + 1) s.heap.objs.size 0 .none → h'.get? s.heap.objs.size = some o → h'.objs.size = s.heap.objs.size + 2 →
      (∀ b o, s.heap.get? b = some o → h'.get? b = some o) → Q (.ref (s.heap.objs.size + 1)) { s with heap := h' }) :
    wpAny (model prog w) A (call (.type "enumerate") [v]) Q E s := by
  refine callType_new F.called_enumerate (by decide) (F.typeCall_enumerate_1 _) (F.newCall_enumerate_1 _) (fun obj => F.args_object_init_2 obj _) F.entry_enumerate_new
    (meets_enum1 B) ⟨h1, ?_⟩
  have hz : (s.heap.push o).objs.size = s.heap.objs.size + 1 := Heap.size_push ..
  show _ ∧ _
  rw [hz]
  have he : IsEnum ((s.heap.push o).push { cls := .type "enumerate", data := .fields #[.none, .bool false, .ref s.heap.objs.size, rawInt 0, .none, .none] }) (s.heap.objs.size + 1) s.heap.objs.size 0 .none := by
    have := Heap.get?_push_size (s.heap.push o) (o := { cls := .type "enumerate", data := .fields #[.none, .bool false, .ref s.heap.objs.size, rawInt 0, .none, .none] }) rfl
    rw [hz] at this; exact this
  refine ⟨⟨_, he, rfl⟩, h _ he (Heap.get?_push_of_some _ (Heap.get?_push_size _ B.free)) (by rw [Heap.size_push, hz]) fun b o x => Heap.get?_push_of_some _ (Heap.get?_push_of_some _ x)⟩
theorem enum_endT {e it l : Addr} {i : Nat} {items : Array Value} {old : Value} {k : Int} {Q : Option Value → Shared → Prop} (hh : A.handled = none)
    (he : IsEnum s.heap e it k old) (hit : s.heap.IsTupleIter it l i) (hl : s.heap.IsTuple l items) (hx : items[i]? = none)
    (hQ : ∀ h', Heap.ExtBut it s.heap h' → Q none { s with heap := h' }) : wpAny (model prog w) A (pyNext (.ref e)) Q E s := by
  have hT : s.TypeIs (.ref e) "enumerate" := ⟨_, he, rfl⟩
  unfold pyNext
  refine wpAny_bind (wpAny_attempt (wpAny_callSpecial?_slot (name := Str.ofString "__next__") hT F.slot_enumerate_next
    (wpAny_call_entry F.slot_enumerate_next hT F.entry_enumerate_next ?_ (F.args_enumerate_next_1 _))))
  show wpAny _ _ (field (.ref e) 2 >>= _) _ _ _
  refine wpAny_bind (wpAny_field he rfl (x := .ref it) rfl ?_)
  refine wpAny_bind (wpAny_nextOf_tuple_end hh hit hl hx fun h' x he' hx' => ?_)
  obtain ⟨o, ho, hc⟩ := hx'
  refine wpAny_bind (wpAny_isInstance (T := "StopIteration") (b := true) ⟨o, ho, hc⟩ isSubtype_stop ?_)
  exact wpAny_pure (hQ _ he')
end
def IteT (K : PySem.W.Frag) (a : Addr) : It :=
  ⟨fun i H => ∃ (xs : List V) (x : V), SqT K H a xs ∧ xs[i]? = some x, fun i H v H' => ∃ T x, v = .ref T ∧ H T = none ∧ H' = upd H T (.tup [.int (i : Nat), x]) ∧ ∀ xs, SqT K H a xs → xs[i]? = some x, fun i H => ∃ xs : List V, SqT K H a xs ∧ xs.length ≤ i⟩
theorem turn_enumT {P : Program} {w : World} {K : PySem.W.Frag} {elts : List Expr} {kk : Nat} {tpos : Pos} (a e it : Addr) :
    Turn P w K (.Tuple elts kk tpos) (IteT K a) [e, it] e (fun i h => (∃ old, IsEnum h e it ((i : Nat) : Int) old) ∧ h.IsTupleIter it a i ∧ e ≠ it) where
  mem := by simp
  obj := fun i h st b hb => by
    obtain ⟨⟨old, he⟩, ⟨o, ho, hc, hd⟩, _⟩ := st
    have e' : b = e ∨ b = it := by simpa using hb
    rcases e' with z | z
    · rw [z]; exact ⟨_, he, fun v q => nomatch q⟩
    · rw [z]; exact ⟨o, ho, fun v q => by rw [hd] at q; cases q⟩
  keep := fun i h h' st k => let ⟨⟨old, he⟩, hi, hne⟩ := st; ⟨⟨old, k e (by simp) _ he⟩, hi.at fun o q => k it (by simp) o q, hne⟩
  item := by
    intro X hP hw hK hc i pins s σ H E I hf st hg
    subst hP hw hK
    obtain ⟨⟨old, he⟩, hit, hne⟩ := st
    obtain ⟨xs, x, hq, hx⟩ := hg
    obtain ⟨its, rv, p, hz⟩ := I.tuple hq
    obtain ⟨u, hu, ru⟩ := rv.get hx
    have hel : e < s.heap.objs.size := Heap.lt_size he
    have hil : it < s.heap.objs.size := by obtain ⟨_, q, _⟩ := hit; exact Heap.lt_size q
    have p' : s.heap.IsTuple a its.toArray := p
    have hai : a ≠ it := by
      rintro rfl
      obtain ⟨o1, q1, c1, _⟩ := hit
      obtain ⟨o2, q2, c2, _⟩ := p'
      rw [q1] at q2; cases q2
      rw [c1] at c2; exact absurd (Value.type.inj c2) (by decide)
    have hae : e ≠ a := by
      rintro rfl
      obtain ⟨o2, q2, c2, _⟩ := p'
      have he' : s.heap.get? e = some _ := he
      rw [he'] at q2; cases q2
      exact absurd (Value.type.inj c2) (by decide)
    have hi' : i < its.toArray.size := by
      have := (List.getElem?_eq_some_iff.mp hu).1
      simpa using this
    refine wpAny_pyNext_enum_itemD (Draws.tuple (show X.A.in1.handled = none from I.ok.hd hc) it a hai its.toArray) he ⟨hit, p'⟩ hi' hne (by simp [hne, hae]) fun x' h' tk hx' ho hst hT hsz hk => ?_
    have exu : x' = u := by
      have : its.toArray[i]? = some u := by simpa using hu
      rw [this] at hx'; exact (Option.some.inj hx').symm
    subst exu
    refine ⟨_, rfl, wpAny_letOwnedTupleGo_enum (s := { s with heap := h', toks := tk + 1 }) ho fun h'' he' sb => ?_⟩
    have hT2 : h''.get? s.heap.objs.size = some { cls := .type "tuple", data := .seq #[.int i tk, x'] } := (sb.2 _ (Nat.ne_of_gt hel)).trans hT
    have new : ObjOk X.prog X.w (upd H s.heap.objs.size (.tup [.int (i : Nat), x])) h'' s.heap.objs.size (.tup [.int (i : Nat), x]) :=
      ⟨by show 2 ≤ sizeLine; decide, [.int i tk, x'], .cons ⟨_, rfl⟩ (.cons ru .nil), ⟨_, hT2, rfl, _, rfl⟩⟩
    have I1 : Inv X pins σ (upd H s.heap.objs.size (.tup [.int (i : Nat), x])) { s with heap := h'', toks := tk + 1 } :=
      I.turnedNew (ch := [e, it]) (fun b ob hb q => (sb.2 b (fun z => hb (by simp [z]))).trans (hk b ob (fun z => hb (by simp [z])) (fun z => hb (by simp [z])) q)) hf (Nat.le_refl _) new
    refine ⟨.ref s.heap.objs.size, _, I1, rfl, ⟨_, x, rfl, I.hok.fresh (Nat.le_refl _), rfl, fun ys hy => by rw [I.tuple_inj hy hq]; exact hx⟩, ⟨⟨x', ?_⟩, hst.1.at fun o q => (sb.2 it (Ne.symm hne)).trans q, hne⟩, fun b hb => ?_⟩
    · have e1 : ((i + 1 : Nat) : Int) = (i : Int) + 1 := by omega
      rw [e1]; exact he'
    · have hb' : b < s.heap.objs.size := by
        have e' : b = e ∨ b = it := by simpa using hb
        rcases e' with z | z
        · rw [z]; exact hel
        · rw [z]; exact hil
      rw [upd_ne (Nat.ne_of_lt hb')]
      exact (hf b hb).1
  done := by
    intro X hP hw hK hc i pins s σ H E I hf st hg
    subst hP hw hK
    obtain ⟨⟨old, he⟩, hit, hne⟩ := st
    obtain ⟨xs, hq, hx⟩ := hg
    obtain ⟨its, rv, p, hz⟩ := I.tuple hq
    obtain ⟨f0, f1, f2, f3, f4, f5⟩ := hf it (by simp)
    have hl := rv.length
    exact enum_endT (I.ok.hd hc) he hit p (by simp; omega) fun h' eb => ⟨rfl, I.turned (t' := s.toks) (fun b o hb q => eb b o hb q) f0 f1 f3 f4 f5⟩
  self := fun A i s Q E st h => let ⟨⟨_, he⟩, _⟩ := st; wpAny_pyIter_enum he h
def iEnumT (K : PySem.W.Frag) (ta : TA) : TI := fun σ H R => ta σ H fun vs H1 => ∃ a xs, vs = [.ref a] ∧ SqT K H1 a xs ∧ R (IteT K a) H1
theorem pi_enumT {X : Cx} {e : Expr} {ta : TA} {p pos tpos : Pos} {elts : List Expr} {kk : Nat} (hg : Gl X "enumerate") (hm : X.mg "enumerate" = none) (ha : PA X [e] ta) (hs : starEach [e] X.env = [(false, eval e X.env)] := by rfl) :
    PI X (.Tuple elts kk tpos) (.Call (.Name "enumerate" p) [e] [] pos) (iEnumT X.K ta) := by
  refine ⟨fun pins s σ H R I h => ?_⟩
  refine Call_ (ld_blt I hg hm boot_enumerate (PyProof.Rows.callWith_type1 (thn (ha.run pos pins s σ H _ I h) fun us s1 ⟨vs, H1, I1, r1, q1⟩ => ?_) hs rfl))
  obtain ⟨a, xs, ex, hq, q⟩ := q1
  subst ex
  cases r1 with
  | cons r rr =>
    cases rr
    cases r
    obtain ⟨its, rv, p', hz⟩ := I1.tuple hq
    have p'' : s1.heap.IsTuple a its.toArray := p'
    refine enum_begins1 (begins_tuple a its.toArray) p'' fun h' he hit hsz hk => wpAny_pyIter_enum he ?_
    have I2 : Inv X pins σ H1 { s1 with heap := h' } := I1.kept (t' := s1.toks) hk
    refine ⟨s1.heap.objs.size + 1, [s1.heap.objs.size + 1, s1.heap.objs.size], _, _, H1, rfl, I2, turn_enumT a (s1.heap.objs.size + 1) s1.heap.objs.size, ⟨⟨.none, he⟩, ⟨_, hit, rfl, rfl⟩, Nat.succ_ne_self _⟩, fun b hb => ?_, q⟩
    have e' : b = s1.heap.objs.size + 1 ∨ b = s1.heap.objs.size := by simpa using hb
    have hle : s1.heap.objs.size ≤ b := by
      rcases e' with z | z
      · rw [z]; exact Nat.le_add_right _ _
      · rw [z]; exact Nat.le_refl _
    exact I1.fpOk hle (I1.hok.fresh hle)
section
variable {X : Cx} {W : Option Addr} {K : PySem.W.Frag}
theorem itd_enumT {O : Own} {H : Hp} {a : Addr} {xs : List V} {ds : List PyData} (hs : SqT K (hid O H) a xs) (ha : DpAll K (hid O H) xs ds) (b : ds.length ≤ sizeLine) : ItD K O H (IteT K a) (enD 0 ds) where
  len := by rw [enD_len]; exact b
  stop := fun O' H' i s l => ⟨xs, seqT_keep (s.trans hid_same) hs, by rw [enD_len] at l; rw [dpAll_len ha]; exact l⟩
  go := fun O' H' i s l => by
    have hl : i < xs.length := by rw [enD_len] at l; rw [dpAll_len ha]; exact l
    exact ⟨xs, xs[i], seqT_keep (s.trans hid_same) hs, List.getElem?_eq_getElem hl⟩
  yld := fun O' H' i x H'' d t s e ⟨T, y, e1, n, e2, q⟩ => by
    subst e1 e2
    obtain ⟨d', h1, h2⟩ := enD_get ds 0 i d e
    obtain ⟨v, h3, h4⟩ := dpAll_get2 ha h1
    have q' := q xs (seqT_keep (s.trans hid_same) hs)
    rw [h3] at q'
    cases q'
    subst h2
    refine ⟨same_new n, dp_newT t n (.cons ?_ (dpAll_one (h4.keep s)))⟩
    rw [Nat.zero_add]
    exact .int _
theorem di_enumT {elts : List Expr} {kk : Nat} {tpos : Pos} {e : Expr} {F : DT} {p pos : Pos} (hc : X.calm = true) (hm : X.mg "enumerate" = none) (h : DE X W e F) (hg : Gl X "enumerate" := by rfl) (hs : starEach [e] X.env = [(false, eval e X.env)] := by rfl) (hs2 : starEach [e] X.env = (false, eval e X.env) :: starEach [] X.env := by rfl) :
    DI X W (.Tuple elts kk tpos) (.Call (.Name "enumerate" p) [e] [] pos) (fun g δ P => F g δ fun g1 d => ∃ ds, d = .tuple ds ∧ P g1 (enD 0 ds)) := by
  refine ⟨fun _ => pi_mono (pi_enumT hg hm (pa_cons (de_bnd h) pa_nil hs2) hs) fun σ H R ⟨E, O, g, δ, P, Rl, f, k⟩ => ⟨E, O, g, δ, _, Rl, f, fun g1 d v H1 ⟨ds, e, p⟩ R1 s1 x1 b => ?_⟩, fun c => ?_⟩
  · subst e
    cases x1 with
    | tup hs ha => exact ⟨_, _, rfl, seqT_keep hid_same hs, k g1 _ _ H1 p R1 s1 (itd_enumT hs ha b)⟩
  · exact ⟨fun pins s σ H R I h => by
      obtain ⟨p, ⟨hh, _⟩, _⟩ := c
      have z := I.ok.hd hc
      rw [hh] at z; cases z⟩
end
end Lk

set_option Elab.async false
set_option linter.all false
set_option maxRecDepth 100000
set_option maxHeartbeats 4000000
namespace Lk
open PySem PySem.Spec PyProof.Rows L2 L2H HotX LkHot LkHead
variable {P : Program} {w : World} {K : PySem.W.Frag} {mg : Str → Option Value} {base : Heap}
open Bf (put)
/-! ### no_room -/
set_option pp.deepTerms true
set_option pp.maxSteps 50000
theorem lookD_put (kvs : List (Int × PyData)) (k k' : Int) (d : PyData) : lookD (putK2 kvs k d) k' = if k' = k then some d else lookD kvs k' := by
  unfold putK2
  split
  · rename_i h
    revert h
    induction kvs with
    | nil => intro h; simp at h
    | cons kv kvs ih =>
      intro h
      obtain ⟨a, x⟩ := kv
      by_cases e : a = k
      · subst e
        by_cases e2 : k' = a
        · subst e2
          simp [lookD]
        · rw [if_neg e2]
          have hn : ¬ a = k' := fun z => e2 z.symm
          by_cases h2 : (kvs.any fun kv => decide (kv.1 = a)) = true
          · have := ih h2
            rw [if_neg e2] at this
            simp only [lookD] at this ⊢
            simpa [hn] using this
          · have e3 : (kvs.map fun kv => if kv.1 = a then (kv.1, d) else kv) = kvs := by
              rw [List.map_congr_left (g := id)]
              · simp
              · intro kv hkv
                have : ¬ kv.1 = a := fun z => h2 (List.any_eq_true.mpr ⟨kv, hkv, by simpa using z⟩)
                rw [if_neg this]; rfl
            simp [lookD, hn, e3]
      · have h2 : (kvs.any fun kv => decide (kv.1 = k)) = true := by simpa [e] using h
        have := ih h2
        by_cases e2 : k' = a
        · subst e2
          rw [if_neg e]
          simp [lookD, e]
        · have hn : ¬ a = k' := fun z => e2 z.symm
          simp only [lookD] at this ⊢
          simpa [e, hn] using this
  · rename_i h
    have hnone : lookD kvs k = none := by
      unfold lookD
      rw [Option.map_eq_none_iff, List.find?_eq_none]
      intro x hx hz
      exact h (List.any_eq_true.mpr ⟨x, hx, hz⟩)
    unfold lookD at *
    rw [List.find?_append]
    by_cases e : k' = k
    · subst e
      rw [if_pos rfl]
      have : (kvs.find? fun kv => decide (kv.1 = k')) = none := by simpa using hnone
      rw [this]
      simp
    · rw [if_neg e]
      have : ¬ k = k' := fun z => e z.symm
      simp [this]
theorem putK2_len (kvs : List (Int × PyData)) (k : Int) (d : PyData) : (putK2 kvs k d).length = if (lookD kvs k).isSome then kvs.length else kvs.length + 1 := by
  have e : (kvs.any fun kv => decide (kv.1 = k)) = (lookD kvs k).isSome := by
    unfold lookD
    rw [Option.isSome_map, Bool.eq_iff_iff, List.find?_isSome]
    simp
  unfold putK2
  rw [e]
  split <;> simp
/-- the dict of gaps: f at the places in dom -/
structure FarK (kvs : List (Int × PyData)) (dom : List Nat) (f : Nat → Int) : Prop where
  len : kvs.length = dom.length
  nd : dom.Nodup
  at_ : ∀ x ∈ dom, lookD kvs (x : Int) = some (frD (hf (f x)))
  no : ∀ x : Nat, x ∉ dom → lookD kvs (x : Int) = none
def addN (dom : List Nat) (x : Nat) : List Nat := if x ∈ dom then dom else dom ++ [x]
theorem mem_addN {dom : List Nat} {x y : Nat} : y ∈ addN dom x ↔ y ∈ dom ∨ y = x := by
  unfold addN
  split
  · rename_i h
    exact ⟨Or.inl, fun z => z.elim id fun e => by rw [e]; exact h⟩
  · simp
theorem addN_len (dom : List Nat) (x : Nat) : (addN dom x).length ≤ dom.length + 1 := by
  unfold addN
  split <;> simp
theorem FarK.zero {kvs : List (Int × PyData)} {dom : List Nat} (h : FarK kvs dom fun _ => 0) (x : Nat) : FarK (putK2 kvs (x : Int) (frD (hf 0))) (addN dom x) fun _ => 0 := by
  have at_ : ∀ y : Nat, lookD (putK2 kvs (x : Int) (frD (hf 0))) (y : Int) = if y = x then some (frD (hf 0)) else lookD kvs (y : Int) := fun y => by
    rw [lookD_put]
    by_cases e : y = x
    · rw [if_pos e, if_pos (by omega)]
    · rw [if_neg e, if_neg (by omega)]
  refine ⟨?_, ?_, fun y hy => ?_, fun y hy => ?_⟩
  · rw [putK2_len]
    unfold addN
    by_cases e : x ∈ dom
    · rw [if_pos e, h.at_ x e]; exact h.len
    · rw [if_neg e, h.no x e, List.length_append, h.len]; rfl
  · unfold addN
    split
    · exact h.nd
    · rename_i e
      rw [List.nodup_append]
      refine ⟨h.nd, by simp, fun a ha b hb => ?_⟩
      simp at hb
      subst hb
      exact fun z => e (z ▸ ha)
  · rw [at_]
    by_cases e : y = x
    · rw [if_pos e]
    · rw [if_neg e]
      rcases mem_addN.mp hy with z | z
      · exact h.at_ y z
      · exact absurd z e
  · rw [at_]
    by_cases e : y = x
    · exact absurd (mem_addN.mpr (Or.inr e)) hy
    · rw [if_neg e]
      exact h.no y fun z => hy (mem_addN.mpr (Or.inl z))
theorem FarK.put {kvs : List (Int × PyData)} {dom : List Nat} {f : Nat → Int} (h : FarK kvs dom f) {x : Nat} (hx : x ∈ dom) (v : Int) : FarK (putK2 kvs (x : Int) (frD (hf v))) dom (put f x v) := by
  have at_ : ∀ y : Nat, lookD (putK2 kvs (x : Int) (frD (hf v))) (y : Int) = if y = x then some (frD (hf v)) else lookD kvs (y : Int) := fun y => by
    rw [lookD_put]
    by_cases e : y = x
    · rw [if_pos e, if_pos (by omega)]
    · rw [if_neg e, if_neg (by omega)]
  refine ⟨?_, h.nd, fun y hy => ?_, fun y hy => ?_⟩
  · rw [putK2_len, h.at_ x hx]; exact h.len
  · rw [at_]
    by_cases e : y = x
    · subst e; rw [if_pos rfl, Bf.put_same]
    · rw [if_neg e, Bf.put_ne e]; exact h.at_ y hy
  · rw [at_, if_neg (fun e => hy (by rw [e]; exact hx))]
    exact h.no y hy
structure ByK (kvs : List (Int × PyData)) (dom : List Nat) (b : Nat → Option Nat) : Prop where
  at_ : ∀ x : Nat, lookD kvs (x : Int) = (b x).map fun k => .int (k : Int)
  ln : ∃ db : List Nat, kvs.length = db.length ∧ db.Nodup ∧ (∀ x ∈ db, x ∈ dom) ∧ ∀ x, x ∈ db ↔ (b x).isSome
theorem ByK.len {kvs : List (Int × PyData)} {dom : List Nat} {b : Nat → Option Nat} (h : ByK kvs dom b) : kvs.length ≤ dom.length := by
  obtain ⟨db, h1, h2, h3, _⟩ := h.ln
  rw [h1]
  exact List.Nodup.length_le_of_subset h2 h3
theorem ByK.put {kvs : List (Int × PyData)} {dom : List Nat} {b : Nat → Option Nat} (h : ByK kvs dom b) {x : Nat} (hx : x ∈ dom) (k : Nat) : ByK (putK2 kvs (x : Int) (.int (k : Int))) dom (put b x (some k)) where
  at_ := fun y => by
    rw [lookD_put]
    by_cases e : y = x
    · subst e; rw [if_pos rfl, Bf.put_same]; rfl
    · rw [if_neg (by omega), Bf.put_ne e]; exact h.at_ y
  ln := by
    obtain ⟨db, h1, h2, h3, h4⟩ := h.ln
    refine ⟨addN db x, ?_, ?_, fun y hy => ?_, fun y => ?_⟩
    · rw [putK2_len, h.at_ x]
      unfold addN
      by_cases e : x ∈ db
      · rw [if_pos e]
        obtain ⟨k', hk'⟩ := Option.isSome_iff_exists.mp ((h4 x).mp e)
        rw [hk']; exact h1
      · rw [if_neg e]
        have : b x = none := by
          cases q : b x with
          | none => rfl
          | some k' => exact absurd ((h4 x).mpr (by rw [q]; rfl)) e
        rw [this, List.length_append, h1]; rfl
    · unfold addN
      split
      · exact h2
      · rename_i e
        rw [List.nodup_append]
        refine ⟨h2, by simp, fun a ha b hb => ?_⟩
        simp at hb
        subst hb
        exact fun z => e (z ▸ ha)
    · rcases mem_addN.mp hy with z | z
      · exact h3 y z
      · rw [z]; exact hx
    · rw [mem_addN]
      by_cases e : y = x
      · subst e; rw [Bf.put_same]; simp
      · rw [Bf.put_ne e, ← h4 y]; simp [e]
theorem enD_zip {α : Type} (f : α → PyData) : ∀ (xs : List α) (k : Nat), enD k (xs.map f) = (xs.zipIdx k).map fun p => .tuple [.int (p.2 : Int), f p.1]
  | [], _ => rfl
  | x :: xs, k => by rw [List.map_cons, List.zipIdx_cons, List.map_cons, ← enD_zip f xs (k + 1)]; rfl
theorem zip_head {α : Type} {xs : List α} {n : Nat} {x : α × Nat} {r : List (α × Nat)} (h : x :: r = xs.zipIdx.drop n) : x.2 = n ∧ xs[n]? = some x.1 ∧ r = xs.zipIdx.drop (n + 1) := by
  have h1 : (xs.zipIdx.drop n)[0]? = some x := by rw [← h]; rfl
  rw [List.getElem?_drop, Nat.add_zero, List.getElem?_zipIdx] at h1
  cases e : xs[n]? with
  | none => rw [e] at h1; cases h1
  | some y =>
    rw [e] at h1
    simp at h1
    subst h1
    refine ⟨rfl, rfl, ?_⟩
    rw [← List.drop_drop, ← h]
    rfl
def Deal.Feas (d : Deal) : Prop := ∃ f : Nat → Int, ∀ h ∈ d.hard, f h.1 + h.2.2 ≤ f h.2.1
/-- marks in a ring -/
def Deal.Ring (d : Deal) (ms : List (Bool × Nat)) : Prop := ∃ es, ms.map d.ends = es.map some ∧ Bf.Chain es
def hardM (ks : List Nat) : List (Bool × Nat) := ks.map fun k => (true, k)
def Deal.sumG (d : Deal) (ms : List (Bool × Nat)) : Int := (ms.map d.gap).sum
def Deal.NR (d : Deal) : Option (List Nat) → Prop
  | none => d.Feas
  | some ks => d.Ring (hardM ks) ∧ 0 < d.sumG (hardM ks)
def nrD : Option (List Nat) → PyData
  | none => .none
  | some ks => .tuple (ks.map fun k => mkD (true, k))
def F_no_room : DSp := fun ds P => ∃ d : Deal, ds = [d.D] ∧ d.Ok ∧ ∀ r, d.NR r → P (nrD r)
def lastD : Option Nat → PyData
  | none => .none
  | some v => .int (v : Int)
theorem sc_no_room : FnScope ["sheet", "hard", "_", "far", "by", "last", "i", "j", "way", "place", "k", "gap"] ["sheet"] (defScope s_no_room) := ⟨rfl, rfl, rfl, by decide +kernel, rfl, by decide +kernel, by decide +kernel⟩
theorem ca_no_room {f : Addr} {fd : FuncData} (B : Bi K mg) (Fd : FunD K "no_room" "no_room" (defArgs s_no_room) (defBody s_no_room) (defScope s_no_room) [] [] f fd) (hm : mg "no_room" = some (.ref f)) (c_tuple_of : Ca2 P w K mg base 13 "tuple_of" (spD K 1 (F_tuple_of 12))) (c_plus : Ca2 P w K mg base 2 "plus" (spD K 2 F_plus)) (c_order : Ca2 P w K mg base 1 "order" (spD K 2 F_order)) :
    Ca P w K mg base 14 "no_room" (spD K 1 F_no_room) := by
  refine ca_of (k := 13) Fd sc_no_room rfl hm (fun _ _ _ _ _ _ us hl => match us, hl with | [_], _ => rfl) (fun cdv A outer s H E hr =>
  have m := md_calm (cx2 P w K mg base ["sheet", "hard", "_", "far", "by", "last", "i", "j", "way", "place", "k", "gap"] "no_room" (defScope s_no_room) f cdv A outer s H E true []) rfl rfl
  have r : Rm (cx2 P w K mg base ["sheet", "hard", "_", "far", "by", "last", "i", "j", "way", "place", "k", "gap"] "no_room" (defScope s_no_room) f cdv A outer s H E true []) 13 := rm_calm hr
  (ds_cons (ds_set 1 sc_no_room.nd (de_call (n := 1) c_tuple_of.ca hr (by decide) (da_cons (de_ix (de_var 0) de_int) da_nil)))
  (ds_cons (ds_par3 3 4 5 rfl sc_no_room.nd (dx_consK (dx_consK (dx_consD de_non dx_nil))))
  (ds_cons (ds_for m PassesOwn.leaving (di_tup (de_var 1)) (dg_tup (n := 3) m (dgs_cons (dg_name 6 sc_no_room.nd) (dgs_cons (dg_name 7 sc_no_room.nd) (dgs_cons (dg_name 2 sc_no_room.nd) dgs_nil))) (mlen_cons (mlen_cons (mlen_cons mlen_nil)))) (ds_one (ds_asgW (de_tup (da_cons (de_NONE B) (da_cons (de_NONE B) da_nil))) (dgw_tup (n := 2) rfl (dgws_cons (dgw_dic 3 r.hu1 (de_var 6)) (dgws_cons (dgw_dic 3 r.hu1 (de_var 7)) dgws_nil))))))
  (ds_cons (ds_for m PassesOwn.leaving (di_range1 B.n_range (de_lenD 3 B.n_len)) (dg_name 2 sc_no_room.nd) (ds_cons (ds_set 5 sc_no_room.nd de_non)
  (ds_one (ds_for m PassesOwn.leaving (di_enumT rfl B.n_enumerate (de_var 1)) (dg_tup (n := 2) m (dgs_cons (dg_name 10 sc_no_room.nd) (dgs_cons (dg_tup (n := 3) m (dgs_cons (dg_name 6 sc_no_room.nd) (dgs_cons (dg_name 7 sc_no_room.nd) (dgs_cons (dg_name 11 sc_no_room.nd) dgs_nil))) (mlen_cons (mlen_cons (mlen_cons mlen_nil)))) dgs_nil)) (mlen_cons (mlen_cons mlen_nil))) (ds_one (ds_if (dt_cmp op_gt good_gt (de_call (n := 2) c_order.ca hr (by decide) (da_cons (de_call (n := 2) c_plus.ca hr (by decide) (da_cons (de_dgetO 3 r.hu1 (de_var 6)) (da_cons (de_var 11) da_nil))) (da_cons (de_dgetO 3 r.hu1 (de_var 7)) da_nil))) de_int) (ds_one (ds_asgW (de_tup (da_cons (de_call (n := 2) c_plus.ca hr (by decide) (da_cons (de_dgetO 3 r.hu1 (de_var 6)) (da_cons (de_var 11) da_nil))) (da_cons (de_var 10) (da_cons (de_var 7) da_nil)))) (dgw_tup (n := 3) rfl (dgws_cons (dgw_dic 3 r.hu1 (de_var 7)) (dgws_cons (dgw_dic 4 r.hu1 (de_var 7)) (dgws_cons (dgw_name 5 sc_no_room.nd) dgws_nil)))))) ds_nil))))))
  (ds_cons (ds_if (dt_cmp op_isN good_isN (de_var 5) de_non) (ds_one (ds_ret de_non)) ds_nil)
  (ds_cons (ds_for m PassesOwn.leaving (di_range1 B.n_range (de_lenD 3 B.n_len)) (dg_name 2 sc_no_room.nd) (ds_one (ds_set 5 sc_no_room.nd (de_ix (de_ix (de_var 1) (de_dgetO 4 r.hu1 (de_var 5))) de_int))))
  (ds_cons (ds_par 8 9 rfl sc_no_room.nd (dx_consF (df_lst (da_cons (de_dgetO 4 r.hu1 (de_var 5)) da_nil)) (dx_consD (de_ix (de_ix (de_var 1) (de_dgetO 4 r.hu1 (de_var 5))) de_int) dx_nil)))
  (ds_cons (ds_while PassesOwn.leaving (dt_cmp (op_neD r.hu64) good_ne (de_var 9) (de_var 5)) (ds_cons (ds_append 8 (de_dgetO 4 r.hu1 (de_var 9)))
  (ds_one (ds_set 9 sc_no_room.nd (de_ix (de_ix (de_var 1) (de_dgetO 4 r.hu1 (de_var 9))) de_int)))))
  (ds_one (ds_ret (de_callTy call_tuple_of good_tup B.n_tuple (da_cons (de_of (df_lc (own := [("k", 10)]) m sc_no_room.nd (di_list (de_of (df_revO 8))) (blkOk_by (N := ["sheet", "hard", "_", "far", "by", "last", "i", "j", "way", "place", "k", "gap"]) (sc := (defScope s_no_room)) (by decide +kernel)) (fun _ _ _ _ _ => (dg_name 10 sc_no_room.nd)) (fun _ _ _ _ _ => dtt_nil) (fun _ _ _ _ _ => (de_tup (da_cons (de_HARD B) (da_cons (de_var 10) da_nil)))))) da_nil))))))))))))) ?_
  rintro ds P' - ⟨d, rfl, hd, h⟩
  simp [initD, Deal.D]
  have shh : Sh 12 (PyData.tuple (d.hard.map hD)) := (sh_t (n := 5) fun y hy => by obtain ⟨h, _, rfl⟩ := List.mem_map.mp hy; exact (sh_h (n := 3) h)).mono (by decide)
  have tph : tpD (PyData.tuple (d.hard.map hD)) = PyData.tuple (d.hard.map hD) := by
    simp only [tpD, tpDs_eq, List.map_map]
    have e1 : d.hard.map (tpD ∘ hD) = d.hard.map hD := List.map_congr_left fun h _ => tp_h h
    rw [e1]
  have ez : PyData.tuple [PyData.int 0, PyData.int 1] = frD (hf 0) := by rw [hf_zero]; rfl
  refine ⟨_, rfl, shh, ?_⟩
  rw [tph]
  refine ⟨_, _, _, ⟨rfl, rfl, rfl⟩, _, rfl, ?_⟩
  refine forD_rel (fun hs g δ => ∃ kvs dom a b c, δ = [.dat d.D, .dat (.tuple (d.hard.map hD)), a, .dic kvs, .dic [], .dat .none, b, c, .emp, .emp, .emp, .emp] ∧ FarK kvs dom (fun _ => 0) ∧ dom.length + 2 * hs.length ≤ 100 ∧ (∀ h ∈ hs, h ∈ d.hard) ∧ ∀ h ∈ d.hard, h ∈ hs ∨ (h.1 ∈ dom ∧ h.2.1 ∈ dom))
    (fun x xs g δ hI => ?_) (fun g δ hI => ?_) d.hard 0 _ ⟨[], [], _, _, _, rfl, ⟨rfl, by simp, by simp, fun x _ => rfl⟩, by have := hd.nh; simp; omega, fun _ h => h, fun h hh => .inl hh⟩
  · obtain ⟨kvs, dom, a, b, c, rfl, hF, hl, hin, hall⟩ := hI
    refine ⟨_, rfl, fun k hkr hk => ?_⟩
    simp [putD]
    rw [ez]
    simp at hl
    have l1 := hF.len
    have hF1 := hF.zero x.1
    have l2 := hF1.len
    have hF2 := hF1.zero x.2.1
    have la := addN_len dom x.1
    have lb := addN_len (addN dom x.1) x.2.1
    refine ⟨by decide, frD (hf 0), [frD (hf 0)], ⟨rfl, rfl⟩, by omega, frD (hf 0), [], rfl, by omega, rfl, ?_⟩
    refine hk _ _ ⟨_, _, _, _, _, rfl, hF2, by omega, fun y hy => hin y (List.mem_cons_of_mem _ hy), fun h hh => ?_⟩
    rcases hall h hh with z | ⟨z1, z2⟩
    · rcases List.mem_cons.mp z with z | z
      · subst z
        exact .inr ⟨mem_addN.mpr (.inl (mem_addN.mpr (.inr rfl))), mem_addN.mpr (.inr rfl)⟩
      · exact .inl z
    · exact .inr ⟨mem_addN.mpr (.inl (mem_addN.mpr (.inl z1))), mem_addN.mpr (.inl (mem_addN.mpr (.inl z2)))⟩
  obtain ⟨kvs, dom, a, b, c, rfl, hF, hl, _, hall⟩ := hI
  have hall : ∀ h ∈ d.hard, h.1 ∈ dom ∧ h.2.1 ∈ dom := fun h hh => (hall h hh).resolve_left List.not_mem_nil
  simp at hl
  have lF := hF.len
  simp
  refine ⟨by omega, ?_⟩
  rw [rgD_map]
  have erz : d.hard.zipIdx.map (fun p => PyData.tuple [.int (p.2 : Int), hD p.1]) = enD 0 (d.hard.map hD) := (enD_zip hD d.hard 0).symm
  refine forD_rel (fun ks g δ => ∃ s fk bk a b c e u, δ = [.dat d.D, .dat (.tuple (d.hard.map hD)), a, .dic fk, .dic bk, .dat (lastD s.l), b, c, .emp, .emp, e, u] ∧ FarK fk dom s.f ∧ ByK bk dom s.b ∧ ks.length ≤ dom.length ∧ Bf.J d.hard (dom.length - ks.length) s)
    (fun x xs g δ hI => ?_) (fun g δ hI => ?_) (List.range kvs.length) g _ ⟨⟨fun _ => 0, fun _ => none, none⟩, kvs, [], _, _, _, _, _, rfl, hF, ⟨fun x => rfl, [], rfl, by simp, by simp, by simp⟩, by simp [lF], .inl ⟨by simp [lF], rfl⟩⟩
  · obtain ⟨s, fk, bk, a, b, c, e, u, rfl, hFk, hBk, hkl, hJ⟩ := hI
    refine ⟨_, rfl, fun k hkr hk => ?_⟩
    simp [putD]
    obtain ⟨p, hJ⟩ := hJ.ready
    rw [← erz]
    simp at hkl
    have er : dom.length - (x :: xs).length + 1 = dom.length - xs.length := by simp; omega
    rw [er] at hJ
    refine forD_rel (fun ps g δ => ∃ s fk bk a b c e u n p, δ = [.dat d.D, .dat (.tuple (d.hard.map hD)), a, .dic fk, .dic bk, .dat (lastD s.l), b, c, .emp, .emp, e, u] ∧ FarK fk dom s.f ∧ ByK bk dom s.b ∧ ps = d.hard.zipIdx.drop n ∧ Bf.Inv d.hard (dom.length - xs.length) n p s)
      (fun x2 xs2 g δ hI => ?_) (fun g δ hI => ?_) d.hard.zipIdx g _ ⟨⟨s.f, s.b, none⟩, fk, bk, _, _, _, _, _, 0, p, rfl, hFk, hBk, rfl, hJ⟩
    · obtain ⟨s, fk, bk, a, b, c, e, u, n, p, rfl, hFk, hBk, hps, hI⟩ := hI
      refine ⟨_, rfl, fun k2 hk2r hk2 => ?_⟩
      obtain ⟨e1, e2, e3⟩ := zip_head hps
      have hh1 := hall x2.1 (List.mem_of_getElem? e2)
      simp [putD]
      refine ⟨_, hFk.at_ _ hh1.1, _, _, rfl, hf_ok _, hf_ok _, ?_⟩
      rw [plus_hf]
      refine ⟨_, hFk.at_ _ hh1.2, _, _, rfl, hf_ok _, hf_ok _, ?_⟩
      rw [order_hf]
      simp [wI0]
      have hr1 : 1 ≤ dom.length - xs.length := by omega
      obtain ⟨p', hI'⟩ := hI.step (h := x2.1) e2 hr1
      by_cases q : s.f x2.1.2.1 < s.f x2.1.1 + x2.1.2.2
      · refine .inr ⟨by rw [if_neg (by omega), if_pos q]; decide, _, hFk.at_ _ hh1.1, _, _, rfl, hf_ok _, hf_ok _, ?_⟩
        rw [plus_hf]
        have lb := hBk.len
        have lf := hFk.len
        refine ⟨by decide, _, _, ⟨rfl, rfl⟩, by omega, _, _, rfl, by omega, _, _, rfl, rfl, ?_⟩
        have er2 : Bf.relax s n x2.1 = ⟨put s.f x2.1.2.1 (s.f x2.1.1 + x2.1.2.2), put s.b x2.1.2.1 (some n), some x2.1.2.1⟩ := by unfold Bf.relax; rw [if_pos q]
        rw [er2] at hI'
        rw [e1]
        exact hk2 _ _ ⟨_, _, _, _, _, _, _, _, n + 1, p', rfl, hFk.put hh1.2 _, hBk.put hh1.2 _, e3, hI'⟩
      · refine .inl ⟨by rw [if_neg q]; split <;> decide, ?_⟩
        have er2 : Bf.relax s n x2.1 = s := by unfold Bf.relax; rw [if_neg q]
        rw [er2] at hI'
        exact hk2 _ _ ⟨s, _, _, _, _, _, _, _, n + 1, p', rfl, hFk, hBk, e3, hI'⟩
    · obtain ⟨s, fk, bk, a, b, c, e, u, n, p, rfl, hFk, hBk, hps, hI⟩ := hI
      have hn : d.hard.length ≤ n := by
        have : (d.hard.zipIdx.drop n).length = 0 := by rw [← hps]; rfl
        simp at this
        omega
      refine hk _ _ ⟨s, _, _, _, _, _, _, _, rfl, hFk, hBk, by omega, .inr ⟨by omega, p, ?_⟩⟩
      exact ⟨hI.b, hI.pb, hI.pr, fun k h hk hn' hp => hI.A k h hk (by omega) hp, hI.B, hI.L, hI.N, hI.C⟩
  obtain ⟨s, fk, bk, a, b, c, e, u, rfl, hFk, hBk, _, hJ⟩ := hI
  simp at hJ
  have h0 : dom.length = 0 → d.hard = [] := fun z => by
    cases q : d.hard with
    | nil => rfl
    | cons h1 hs1 =>
      have := (hall h1 (by rw [q]; exact List.mem_cons_self)).1
      rw [List.length_eq_zero_iff.mp z] at this
      cases this
  refine ⟨_, rfl, rfl, ?_⟩
  dsimp only
  rw [selB]
  cases hl2 : s.l with
  | none =>
    simp only [lastD, isNon, if_true]
    exact h none ⟨s.f, hJ.feas h0 hl2⟩
  | some v =>
    simp only [lastD, isNon, Bool.false_eq_true, if_false]
    have lf := hFk.len
    refine ⟨_, rfl, by omega, ?_⟩
    rcases hJ with ⟨z, z2⟩ | ⟨hm1, p, hI⟩
    · rw [z2] at hl2; cases hl2
    have hpv := hI.L v hl2
    obtain ⟨x0, u0, hback⟩ := hI.back dom.length v (by omega)
    have hbd : ∀ v k, s.b v = some k → v ∈ dom ∧ ∃ h, d.hard[k]? = some h ∧ h.1 ∈ dom := fun v k hb => by
      obtain ⟨h, e1, e2, _⟩ := hI.b v k hb
      have := hall h (List.mem_of_getElem? e1)
      exact ⟨e2 ▸ this.2, h, e1, this.1⟩
    have hv : v ∈ dom := by
      have := hI.pb v (by omega)
      obtain ⟨k, hk⟩ := Option.isSome_iff_exists.mp this
      exact (hbd v k hk).1
    obtain ⟨c0, y0, hc1, hcm, hring⟩ := hback.ring hv (fun h hh => (hall h hh).1) (Nat.le_refl _)
    rw [rgD_map, lf]
    have hatH : ∀ (k : Nat) (h : Nat × Nat × Int), d.hard[k]? = some h → atI (d.hard.map hD) (k : Int) = some (hD h) := fun k h e => atI_nat (by rw [List.getElem?_map, e]; rfl)
    refine forD_rel (fun ks g δ => ∃ (w0 : Nat) (x : Int) (a : Sv), δ = [.dat d.D, .dat (.tuple (d.hard.map hD)), a, .dic fk, .dic bk, .dat (.int (w0 : Int)), b, c, .emp, .emp, e, u] ∧ Bf.Bk d.hard s.b w0 ks.length x u0)
      (fun x xs g δ hI => ?_) (fun g δ hI => ?_) (List.range dom.length) _ _ ⟨v, x0, _, rfl, by simpa using hback⟩
    · obtain ⟨w0, x1, a, rfl, hw⟩ := hI
      refine ⟨_, rfl, fun k hkr hk => ?_⟩
      rw [List.length_cons] at hw
      cases hw with
      | @succ _ kk _ hh1 xx _ hb hh hrest =>
        simp [putD]
        refine ⟨.int (kk : Int), by rw [hBk.at_, hb]; rfl, ?_⟩
        rw [wIx_t]
        refine ⟨_, hatH kk hh1 hh, ?_⟩
        simp [hD]
        exact hk _ _ ⟨hh1.1, _, _, rfl, hrest⟩
    · obtain ⟨w0, x1, a, rfl, hw⟩ := hI
      have hwu : w0 = u0 := by
        cases hw
        rfl
      subst hwu
      have hring0 := hring
      cases hring with
      | zero => omega
      | @succ _ k1 t1 h1 xx _ hb1 hh1 hrest =>
        simp
        have bl1 : Bf.Bl d.hard s.b w0 [k1] h1.1 := .cons hb1 hh1 .nil
        refine ⟨.int (k1 : Int), by rw [hBk.at_, hb1]; rfl, by decide, _, by rw [hBk.at_, hb1]; rfl, ?_⟩
        simp
        refine ⟨_, hatH k1 h1 hh1, ?_⟩
        simp [hD]
        refine ⟨_, _, ⟨rfl, rfl⟩, fun n _ δ => ∃ (ks : List Nat) (pl : Nat), δ = [.dat d.D, .dat (.tuple (d.hard.map hD)), a, .dic fk, .dic bk, .dat (.int (w0 : Int)), b, c, .own (natD ks), .dat (.int (pl : Int)), e, u] ∧
          Bf.Bl d.hard s.b w0 ks pl ∧ ks ≠ [] ∧ (∀ i, 1 ≤ i → i < ks.length → Bf.it (Bf.nx d.hard s.b) i w0 ≠ w0) ∧ n + ks.length = t1 + 1, ⟨t1, [k1], h1.1, rfl, bl1, by simp, fun i h1 h2 => by simp at h2; omega, by simp⟩, ?_⟩
        rintro n g δ ⟨ks, pl, rfl, hbl, hne, hmin, hlen⟩
        refine ⟨_, rfl, _, rfl, shp_int _, shp_int _, ?_⟩
        dsimp only
        rw [eqv_int, selB]
        by_cases q : pl = w0
        · subst q
          simp only [decide_true, Bool.not_true, Bool.false_eq_true, if_false]
          refine ⟨_, rfl, ?_⟩
          have er : (natD ks).reverse = ks.reverse.map fun (k : Nat) => PyData.int (k : Int) := by simp [natD]
          rw [er]
          refine compD_all (f := fun k => mkD (true, k)) _ (fun x hx => ⟨_, rfl, by simp, fun k g q => ?_⟩) ?_
          · simp [putD, wipeD]
            exact ⟨by decide, q⟩
          · obtain ⟨es, c1, c2, c3⟩ := hbl.chain hI hne hmin
            refine h (some ks.reverse) ⟨⟨es, ?_, c2⟩, ?_⟩
            · rw [← c1]
              simp [hardM, Deal.ends, Function.comp_def]
            · have : d.sumG (hardM ks.reverse) = (ks.reverse.map (Bf.gapOf d.hard)).sum := by
                simp [Deal.sumG, hardM, Deal.gap, Function.comp_def]
                rfl
              rw [this]
              exact c3
        · have qd : (!decide ((pl : Int) = (w0 : Int))) = true := by
            have : ¬ (pl : Int) = (w0 : Int) := by omega
            simp [this]
          rw [qd]
          simp only [if_true]
          have hlt : ks.length < t1 + 1 := by
            rcases Nat.lt_or_ge ks.length (t1 + 1) with z | z
            · exact z
            · have : ks.length = t1 + 1 := by omega
              have hb := hbl.bk
              rw [this] at hb
              exact absurd (hb.det hring0).2 q
          obtain ⟨d4, e4⟩ : ∃ d4, t1 + 1 = ks.length + (d4 + 1) := ⟨t1 - ks.length, by omega⟩
          rw [e4] at hring0
          obtain ⟨_, _, m4, s1, s2, _⟩ := Bf.Bk.split _ hring0
          have em : m4 = pl := (s1.det hbl.bk).2
          subst em
          cases s2 with
          | @succ _ k5 _ h5 x5 _ hb5 hh5 hr5 =>
            have hsz : sizeLine = 16777216 := sizeLine_eq
            refine ⟨_, rfl, _, rfl, _, rfl, _, rfl, _, by rw [hBk.at_, hb5]; rfl, by simp [natD]; omega, ?_⟩
            refine ⟨_, rfl, _, rfl, _, rfl, _, rfl, _, by rw [hBk.at_, hb5]; rfl, ?_⟩
            simp
            refine ⟨_, hatH k5 h5 hh5, ?_⟩
            simp [hD]
            have hmin' : ∀ i, 1 ≤ i → i < (ks ++ [k5]).length → Bf.it (Bf.nx d.hard s.b) i w0 ≠ w0 := fun i i1 i2 => by
              simp at i2
              rcases Nat.lt_or_ge i ks.length with z | z
              · exact hmin i i1 z
              · have : i = ks.length := by omega
                rw [this, ← hbl.bk.it]
                exact q
            refine ⟨n - 1, by omega, ks ++ [k5], h5.1, ⟨by simp [natD], rfl⟩, hbl.snoc hb5 hh5, by simp, hmin', by simp; omega⟩
end Lk

set_option Elab.async false
set_option linter.all false
set_option maxRecDepth 100000
set_option maxHeartbeats 4000000
/-! sets of ints made of lists, in both modes -/
namespace Lk
open PySem PySem.Spec PyProof.Rows L2 L2H HotX LkHot
section
variable {P : Program} {w : World} {A : Around} {E : Value → Shared → Prop} {s : Shared}
/-- the two modes, at a heap -/
def MdAt (A : Around) (h : Heap) : Prop := A.handled = none ∨ ∃ x1, HotAt A x1 h
theorem walks2 {A : Around} {h : Heap} (m : MdAt A h) (I ax : Addr) (hI : h.objs.size ≤ I) (hax : ax < h.objs.size) (items : Array Value) :
    ∃ (fp : List Addr) (St : Nat → Heap → Prop), Walks P w A I fp [I] items.size (fun i v => items[i]? = some v) St ∧ (∀ b ∈ fp, b = I ∨ b < h.objs.size) ∧ ∀ h', (∀ b o, h.get? b = some o → h'.get? b = some o) → h'.IsListIter I ax 0 → h'.IsList ax items → St 0 h' := by
  have hne : ax ≠ I := Nat.ne_of_lt (Nat.lt_of_lt_of_le hax hI)
  rcases m with hh | ⟨x1, hot⟩
  · exact ⟨_, _, Walks.list hh I ax hne items, fun b hb => by
      simp at hb
      rcases hb with e | e
      · exact .inl e
      · exact .inr (e ▸ hax), fun h' _ a b => ⟨a, b⟩⟩
  · have hx : x1 < h.objs.size := let ⟨_, o, _, e, _⟩ := hot; Heap.lt_size e
    exact ⟨_, _, walksH (x1 := x1) I ax hne (Nat.ne_of_lt (Nat.lt_of_lt_of_le hx hI)) items, fun b hb => by
      simp at hb
      rcases hb with e | e | e
      · exact .inl e
      · exact .inr (e ▸ hax)
      · exact .inr (e ▸ hx), fun h' k a b => ⟨a, b, hot_in hot rfl k⟩⟩
set_option maxRecDepth 100000 in
set_option maxHeartbeats 3200000 in
theorem call_set_listX {l : Addr} {items : Array Value} (ns : List Int) {Q : Value → Shared → Prop} (hm : MdAt A s.heap) (hl : s.heap.IsList l items) (hit : IntsAre items.toList ns) (hb : ns.length + 1 < scanBound)
    (h : ∀ (h' : Heap) (tk c : Nat), SetR w h' s.heap.objs.size (fun j => decide (j ∈ ns)) c → c ≤ ns.length → (∀ b o, s.heap.get? b = some o → h'.get? b = some o) → Q (.ref s.heap.objs.size) { s with heap := h', toks := tk }) :
    wpAny (model P w) A (call (.type "set") [.ref l]) Q E s := by
  have hisz : items.size = ns.length := by
    have q := IntsAre.length hit
    rw [Array.length_toList] at q
    exact q
  obtain ⟨c, tl, hmro⟩ := F.called_set.mro
  have hmade := F.called_set.made
  have hsub := F.called_set.sub
  refine wpAny_call (codeAny_of_tree ?_)
  show wpAny _ _ (callAny (.type "set") _) _ _ _
  refine wpAny_pure ⟨Code.quiet_builtin _ (by decide +kernel), codeAny_builtin F.entry_type_call ?_⟩
  rw [Around.under_plain (weight_type_call_type "set" [.ref l] []) rfl]
  have h1 := F.called_set.notType
  have h2 := F.called_set.canCreate
  have hct := F.typeCall_set_1 (.ref l)
  repeat (any_goals (first | assumption | wp_step))

  refine codeAny_mono (code_set_led1 (.ref l) (E := E) (Q₁ := fun obj s₁ => obj = .ref s.heap.objs.size ∧ s₁ = { s with heap := s.heap.push { cls := .type "set", dict := none, data := .set #[] 0 (.fresh 0 0 (!w.params.followText "set-order")) } }) ⟨rfl, rfl⟩) fun r s₁ hr => ?_
  cases r with
  | error e => exact hr
  | ok fl =>
    cases fl with
    | ret obj =>
      obtain ⟨rfl, rfl⟩ := hr
      have hS : (s.heap.push { cls := .type "set", dict := none, data := .set #[] 0 (.fresh 0 0 (!w.params.followText "set-order")) }).get? s.heap.objs.size = some { cls := .type "set", dict := none, data := .set #[] 0 (.fresh 0 0 (!w.params.followText "set-order")) } := Heap.get?_push_size _ rfl
      have hT : Shared.TypeIs { s with heap := s.heap.push { cls := .type "set", dict := none, data := .set #[] 0 (.fresh 0 0 (!w.params.followText "set-order")) } } (.ref s.heap.objs.size) "set" := ⟨_, hS, rfl⟩
      have hli := F.called_set.init.lookup
      have hbi := F.called_set.init.bind (.ref s.heap.objs.size)
      repeat (any_goals (first | assumption | wp_step))

      refine codeAny_mono (codeAny_call_builtin (R := wants (fun r s₂ => r = .none ∧ ∃ h' tk c, s₂ = { s with heap := h', toks := tk } ∧ SetR w h' s.heap.objs.size (fun j => decide (j ∈ ns)) c ∧ c ≤ ns.length ∧
          (∀ b o, s.heap.get? b = some o → h'.get? b = some o)) E) F.called_set.init.plain F.entry_set_init (check_set_init_1 hT ?_)) fun r₂ s₂ hr₂ => ?_
      · obtain ⟨ol, hol, hcl, nl, hdl⟩ := hl
        obtain ⟨ocls, odict, odata, oslots⟩ := ol
        simp only at hcl hdl
        subst hcl; subst hdl
        have hol' : (s.heap.push { cls := .type "set", dict := none, data := .set #[] 0 (.fresh 0 0 (!w.params.followText "set-order")) }).get? l = some { cls := .type "list", dict := odict, data := .seq items nl, slots := oslots } := Heap.get?_push_of_some _ hol
        have hsls := F.sub_list_set
        have hslf := F.sub_list_frozenset
        have hne : (Value.type "list" == Value.type "dict") = false := by decide
        have hl1 : (s.heap.push { cls := .type "set", dict := none, data := .set #[] 0 (.fresh 0 0 (!w.params.followText "set-order")) }).IsList l items := ⟨_, hol', rfl, nl, rfl⟩
        unfold Builtin.«set.__init__» noKeywords Builtin.Frozenset.updateFrom
        generalize hPI : pyIter = PI
        wp_walk
        subst hPI

        refine wpAny_pyIter_list hl1 ?_
        refine wpAny_bind (wpAny_runValue ?_)
        have hlS : l < s.heap.objs.size := Heap.lt_size hol
        have hz1 : (s.heap.push { cls := .type "set", dict := none, data := .set #[] 0 (.fresh 0 0 (!w.params.followText "set-order")) }).objs.size = s.heap.objs.size + 1 := Heap.size_push ..
        have hm3 : MdAt A.in1.in1.in1 s.heap := by
          rcases hm with hh | ⟨x1, hot⟩
          · exact .inl (by simp [hh])
          · exact .inr ⟨x1, hot_in hot (by simp) fun _ _ e => e⟩
        obtain ⟨fp, St, W, hfp, hSt⟩ := walks2 (P := P) (w := w) hm3 (s.heap.push { cls := .type "set", dict := none, data := .set #[] 0 (.fresh 0 0 (!w.params.followText "set-order")) }).objs.size l (by rw [hz1]; exact Nat.le_succ _) hlS items
        have hSf : s.heap.objs.size ∉ fp := fun z => by
          rcases hfp _ z with e | e
          · rw [hz1] at e
            exact absurd e (Nat.ne_of_lt (Nat.lt_succ_self _))
          · exact absurd e (Nat.lt_irrefl _)
        have hval : ∀ (i : Nat) (v : Value), items[i]? = some v → ∃ k t, ns[i]? = some k ∧ v = .int k t := fun i v hv => by
          have hi : i < ns.length := by rw [← hisz]; exact (Array.getElem?_eq_some_iff.mp hv).1
          obtain ⟨t, e⟩ := PyProof.Rows.IntsAre.int_at hit i v (by rw [Array.getElem?_toList]; exact hv)
          refine ⟨ns[i], t, List.getElem?_eq_getElem hi, ?_⟩
          rw [e, List.getD_eq_getElem?_getD, List.getElem?_eq_getElem hi] <;> rfl
        refine set_update_ints W.toS s.heap.objs.size
          hSf ns hisz hb hval (items.size - 0) 0 _ (by omega) (Nat.zero_le _)
          (hSt _ (fun b o e => Heap.get?_push_of_some _ (Heap.get?_push_of_some _ e)) ⟨_, Heap.get?_push_size _ rfl, rfl, rfl⟩ (hl1.push _)) ?hS0 ?hR
        case hS0 =>
          have hget : ((s.heap.push { cls := .type "set", dict := none, data := .set #[] 0 (.fresh 0 0 (!w.params.followText "set-order")) }).push { cls := .type "list_iterator", data := .fields #[.ref l, .int 0 0] }).get? s.heap.objs.size
              = some { cls := .type "set", dict := none, data := .set #[] 0 (.fresh 0 0 (!w.params.followText "set-order")) } := Heap.get?_push_of_some _ hS
          exact ⟨0, Nat.le_refl 0, setR_new_at hget⟩
        case hR =>
          intro s' c' hm hc' hS'
          obtain ⟨h', g2, d', tk', os'⟩ := s'
          have eg : g2 = s.gens := hm.gens
          have ed : d' = s.drawn := hm.drawn
          have eo : os' = s.os := hm.os
          subst eg; subst ed; subst eo
          show wpAny _ _ _ _ _ _
          refine wpAny_pure ?_
          show wpAny _ _ (ret Value.none) _ _ _
          rw [hisz] at hc'
          refine wpAny_pure ⟨rfl, h', tk', c', rfl, hS', hc', fun b o e => ?_⟩
          have hb0 : b < s.heap.objs.size := Heap.lt_size e
          have hb1 : b ≠ s.heap.objs.size := Nat.ne_of_lt hb0
          have hb2 : b ≠ (s.heap.push { cls := .type "set", dict := none, data := .set #[] 0 (.fresh 0 0 (!w.params.followText "set-order")) }).objs.size := by
            rw [Heap.size_push]; exact Nat.ne_of_lt (Nat.lt_succ_of_lt hb0)
          exact hm.heap b o (by simp only [List.mem_cons, List.mem_singleton, List.not_mem_nil, or_false, not_or]; exact ⟨hb1, hb2⟩) (Heap.get?_push_of_some _ (Heap.get?_push_of_some _ e))

      · cases r₂ with
        | error e => exact hr₂
        | ok fl₂ =>
          cases fl₂ with
          | ret r =>
            obtain ⟨rfl, h', tk, c', rfl, hS', hc', hk'⟩ := hr₂
            repeat (any_goals (first | assumption | wp_step))
            exact h _ _ _ hS' hc' hk'
          | _ => exact hr₂.elim
    | _ => exact hr.elim
end
section
variable {X : Cx} {W : Option Addr}
theorem mdAt {pins : List (Addr × Obj)} {σ : L2.St} {H : Hp} {s : Shared} (m : Md X) (I : Inv X pins σ H s) : MdAt X.A s.heap := by
  rcases m with ⟨hc, _⟩ | ⟨_, hc⟩
  · exact .inl (I.ok.hd hc)
  · obtain ⟨x1, hot⟩ := hc.at I
    exact .inr ⟨x1, hot⟩
def rSetL (K : PySem.W.Frag) (w : World) : List V → Hp → VK → Prop := fun xs H Q => ∃ (a : Addr) (ns : List Int), xs = [.ref a] ∧ SqL K H a (ns.map V.int) ∧ ns.length ≤ 4000 ∧
  ∀ p c, H p = none → c ≤ ns.length → Q (.ref p) (upd H p (SetO w p (fun j => decide (j ∈ ns)) c))
theorem cr_setL (m : Md X) : CallR X (.type "set") (rSetL X.K X.w) := by
  intro pins s σ H xs us Q I r h
  obtain ⟨a, ns, rfl, hq, hl, q⟩ := h
  obtain ⟨its, rv, pl, hz⟩ := I.list hq
  rw [Vals.ref1 r]
  refine call_set_listX ns (mdAt m I) pl.isList (by simpa using RZ.intsAre_vals rv) (by unfold scanBound; omega) fun h' tk c hS hc hk => ?_
  exact ⟨.ref _, upd H s.heap.objs.size (SetO X.w s.heap.objs.size (fun j => decide (j ∈ ns)) c), I.laid (t' := tk) hk (Nat.le_refl _) (setO_new hS), rfl, q _ _ (I.hok.fresh (Nat.le_refl _)) hc⟩
end
end Lk

set_option Elab.async false
set_option linter.all false
set_option maxRecDepth 100000
set_option maxHeartbeats 4000000
/-! len(set(..)), sorted(set(..)) -/
namespace Lk
open PySem PySem.Spec PyProof.Rows L2 L2H HotX LkHot
section
variable {X : Cx} {W : Option Addr}
def rLenSetN (w : World) : List V → Hp → VK → Prop := fun xs H Q => ∃ (a : Addr) (ns : List Int) (c : Nat), xs = [.ref a] ∧ H a = some (SetO w a (fun j => decide (j ∈ ns)) c) ∧ ns.Nodup ∧ ns.length ≤ 4000 ∧ Q (.int (ns.length : Nat)) H
theorem cr_lenSetN : CallR X (.builtin "len") (rLenSetN X.w) := by
  intro pins s σ H xs us Q I r h
  obtain ⟨a, ns, c, rfl, ha, nd, hl, q⟩ := h
  have R := setO_get I ha
  rw [Vals.ref1 r]
  obtain ⟨o, es, ep, t, ho, hx, hd, _, knd, hm, hb, hf, hn, _⟩ := R
  have e : es.size = ns.length := by
    have p1 : (es.toList.map keyOf).length = ns.length := by
      apply Nat.le_antisymm
      · exact List.Nodup.length_le_of_subset knd fun k hk => by simpa using (hm k).mpr hk
      · exact List.Nodup.length_le_of_subset nd fun k hk => (hm k).mp (by simpa using hk)
    simpa using p1
  exact PySem.call_len_set ho hx hd hf (by rw [e]; omega) ⟨.int (ns.length : Nat), H, I.tok _, ⟨_, by rw [e]⟩, q⟩
theorem de_lenSet {a : Expr} {F : DT} {lx sx : Str} {p p2 q pos : Pos} (m : Md X) (hm : X.mg lx = none) (hm2 : X.mg sx = none) (ha : DE X W a F)
    (hv : bootBuiltins lx = some (.builtin "len") := by decide +kernel) (hv2 : bootBuiltins sx = some (.type "set") := by decide +kernel) (hg : Gl X lx := by rfl) (hg2 : Gl X sx := by rfl) (hn : lx ≠ "__name__" := by decide) (hdb : (lx == ("__debug__" : Str)) = false := by decide) (hn2 : sx ≠ "__name__" := by decide) (hdb2 : (sx == ("__debug__" : Str)) = false := by decide)
    (he : starEach [Expr.Call (.Name sx p2) [a] [] q] X.env = (false, eval (Expr.Call (.Name sx p2) [a] [] q) X.env) :: starEach [] X.env := by rfl) (he2 : starEach [a] X.env = (false, eval a X.env) :: starEach [] X.env := by rfl)
    (hpl : (backTo pos (starEach [] X.env)).any (·.1) = false := by rfl) (hpl2 : (backTo q (starEach [] X.env)).any (·.1) = false := by rfl) :
    DE X W (.Call (.Name lx p) [.Call (.Name sx p2) [a] [] q] [] pos) (fun g δ P => F g δ fun g1 d => ∃ ns : List Int, d = .list (ns.map PyData.int) ∧ ns.Nodup ∧ ns.length ≤ 4000 ∧ P g1 (.int (ns.length : Nat))) :=
  pe_mono (pe_callB cr_lenSetN hg hm hv (pa_cons (pe_callTy (cr_setL m) hg2 hm2 hv2 (pa_cons ha pa_nil he2) (hn := hn2) (hdb := hdb2) (he := he2) (hpl := hpl2)) pa_nil he) (hn := hn) (hdb := hdb) (he := he) (hpl := hpl)) fun σ H Q ⟨E, O, g, δ, P, R, f, k⟩ => ⟨E, O, g, δ, _, R, f, fun g1 d v H1 ⟨ns, e, nd, l, pp⟩ R1 s1 x1 => by
    subst e
    cases x1 with
    | lst hs hx =>
      have ev := dpAll_ints ns hx
      subst ev
      refine ⟨_, ns, rfl, Same.seq hid_same hs, l, fun p' c hn' hc => ?_⟩
      refine ⟨p', ns, c, rfl, upd_same, nd, l, k g1 _ _ _ pp (R1.grow (same_new hn')) (s1.trans (.of (same_new hn'))) (.int _)⟩⟩
theorem df_sortedSet {a : Expr} {F : DT} {lx sx : Str} {p p2 q pos : Pos} (hc : X.calm = true) (m : Md X) (hm : X.mg lx = none) (hm2 : X.mg sx = none) (ha : DE X W a F)
    (hv : bootBuiltins lx = some (.builtin "sorted") := by decide +kernel) (hv2 : bootBuiltins sx = some (.type "set") := by decide +kernel) (hg : Gl X lx := by rfl) (hg2 : Gl X sx := by rfl) (hn : lx ≠ "__name__" := by decide) (hdb : (lx == ("__debug__" : Str)) = false := by decide) (hn2 : sx ≠ "__name__" := by decide) (hdb2 : (sx == ("__debug__" : Str)) = false := by decide)
    (he : starEach [Expr.Call (.Name sx p2) [a] [] q] X.env = (false, eval (Expr.Call (.Name sx p2) [a] [] q) X.env) :: starEach [] X.env := by rfl) (he2 : starEach [a] X.env = (false, eval a X.env) :: starEach [] X.env := by rfl)
    (hpl : (backTo pos (starEach [] X.env)).any (·.1) = false := by rfl) (hpl2 : (backTo q (starEach [] X.env)).any (·.1) = false := by rfl) :
    DF X W (.Call (.Name lx p) [.Call (.Name sx p2) [a] [] q] [] pos) (fun g δ P => F g δ fun g1 d => ∃ ns : List Int, d = .list (ns.map PyData.int) ∧ ns.length < 64 ∧ ∀ ms : List Int, ms.Pairwise (· < ·) → (∀ k, k ∈ ms ↔ k ∈ ns) → P g1 (ms.map PyData.int)) :=
  pe_mono (pe_callB (cr_sortedSet hc) hg hm hv (pa_cons (pe_callTy (cr_setL m) hg2 hm2 hv2 (pa_cons ha pa_nil he2) (hn := hn2) (hdb := hdb2) (he := he2) (hpl := hpl2)) pa_nil he) (hn := hn) (hdb := hdb) (he := he) (hpl := hpl)) fun σ H Q ⟨E, O, g, δ, P, R, f, k⟩ => ⟨E, O, g, δ, _, R, f, fun g1 d v H1 ⟨ns, e, l, pp⟩ R1 s1 x1 => by
    subst e
    cases x1 with
    | lst hs hx =>
      have ev := dpAll_ints ns hx
      subst ev
      refine ⟨_, ns, rfl, Same.seq hid_same hs, by omega, fun p' c hn' hc' => ?_⟩
      refine ⟨p', fun j => decide (j ∈ ns), c, rfl, upd_same, by omega, fun ms p3 h1 h2 h3 h4 => ?_⟩
      exact k g1 _ _ p3 _ (pp ms h1 fun k => by rw [h2 k]; simp) (R1.grow (same_new hn')) (s1.trans (.of (same_new hn'))) h4 (ints_dp ms)⟩
end
end Lk

set_option Elab.async false
set_option linter.all false
set_option maxRecDepth 100000
set_option maxHeartbeats 4000000
namespace Lk
open PySem PySem.Spec PyProof.Rows L2 L2H HotX LkHot LkHead
variable {P : Program} {w : World} {K : PySem.W.Frag} {mg : Str → Option Value} {base : Heap}
/-! ### rings heard of -/
def F_is_ring : DSp := fun ds P => ∃ (d : Deal) (s : PyData) (ks : List Nat), ds = [s, .tuple (ks.map fun k => mkD (true, k))] ∧ d.At s ∧ d.Ok ∧ d.Ring (hardM ks) ∧ ks.length ≤ 900 ∧ P (.bool true)
def F_is_no_room : DSp := fun ds P => ∃ (d : Deal) (s : PyData) (ks : List Nat), ds = [s, .tuple (ks.map fun k => mkD (true, k))] ∧ d.At s ∧ d.Ok ∧ d.Ring (hardM ks) ∧ 0 < d.sumG (hardM ks) ∧ ks.length ≤ 900 ∧ P (.bool true)
/-- a ring of hard rules, its rules at hand -/
theorem Deal.Ring.hs {d : Deal} {ks : List Nat} (r : d.Ring (hardM ks)) : ∃ hs : List (Nat × Nat × Int), (∀ i : Nat, i < ks.length → ∃ k h, ks[i]? = some k ∧ hs[i]? = some h ∧ d.hard[k]? = some h) ∧ hs.length = ks.length ∧ Bf.Chain (hs.map fun h => (h.1, h.2.1)) ∧ ks.map (fun k => d.hard[k]?) = hs.map some := by
  obtain ⟨es, e1, c⟩ := r
  have : ∃ hs : List (Nat × Nat × Int), ks.map (fun k => d.hard[k]?) = hs.map some ∧ hs.map (fun h => (h.1, h.2.1)) = es := by
    clear c
    induction ks generalizing es with
    | nil =>
      cases es with
      | nil => exact ⟨[], rfl, rfl⟩
      | cons _ _ => cases e1
    | cons k ks ih =>
      cases es with
      | nil => cases e1
      | cons e es =>
        simp only [hardM, List.map_cons, List.cons.injEq] at e1
        obtain ⟨hs, h1, h2⟩ := ih es e1.2
        have e2 : (d.hard[k]?).map (fun h => (h.1, h.2.1)) = some e := e1.1
        cases q : d.hard[k]? with
        | none => rw [q] at e2; cases e2
        | some h =>
          rw [q] at e2
          have e3 : (h.1, h.2.1) = e := Option.some.inj e2
          exact ⟨h :: hs, by rw [List.map_cons, q, h1]; rfl, by rw [List.map_cons, h2, e3]⟩
  obtain ⟨hs, h1, h2⟩ := this
  have hl : hs.length = ks.length := by
    have := congrArg List.length h1
    simpa using this.symm
  refine ⟨hs, fun i hi => ?_, hl, by rw [h2]; exact c, h1⟩
  have a1 : (ks.map fun k => d.hard[k]?)[i]? = (hs.map some)[i]? := by rw [h1]
  rw [List.getElem?_map, List.getElem?_map, List.getElem?_eq_getElem hi, List.getElem?_eq_getElem (by omega : i < hs.length)] at a1
  simp at a1
  exact ⟨_, _, List.getElem?_eq_getElem hi, List.getElem?_eq_getElem (by omega), a1⟩
theorem Bf.Chain.at_ {es : List (Nat × Nat)} (c : Bf.Chain es) {k : Nat} (hk : k < es.length) : (es.getD ((k + es.length - 1) % es.length) (0, 0)).2 = (es.getD k (0, 0)).1 := by
  obtain ⟨hne, h, _⟩ := c
  cases es with
  | nil => exact absurd rfl hne
  | cons e es =>
    simp at h
    have hl : (es.map (·.1)).length = es.length := by simp
    cases k with
    | zero =>
      have : (0 + (e :: es).length - 1) % (e :: es).length = es.length := by
        simp
      rw [this]
      have q : ((e :: es).map (·.2))[es.length]? = ((es.map (·.1)) ++ [e.1])[es.length]? := by rw [← h]; simp
      rw [List.getElem?_append_right (by simp)] at q
      rw [List.getElem?_map] at q
      simp only [List.getD_eq_getElem?_getD]
      cases z : (e :: es)[es.length]? with
      | none => rw [z] at q; simp at q
      | some y => rw [z] at q; simp at q; simp [q]
    | succ k =>
      simp only [List.length_cons] at hk
      have : (k + 1 + (e :: es).length - 1) % (e :: es).length = k := by
        simp only [List.length_cons]
        have : k + 1 + (es.length + 1) - 1 = k + (es.length + 1) := by omega
        rw [this, Nat.add_mod_right, Nat.mod_eq_of_lt (by omega)]
      rw [this]
      have q : ((e :: es).map (·.2))[k]? = ((es.map (·.1)) ++ [e.1])[k]? := by rw [← h]; simp
      rw [List.getElem?_append_left (by simp; omega), List.getElem?_map, List.getElem?_map] at q
      simp only [List.getD_eq_getElem?_getD, List.getElem?_cons_succ]
      cases z : (e :: es)[k]? with
      | none => rw [List.getElem?_eq_none_iff] at z; simp at z; omega
      | some y =>
        cases z2 : es[k]? with
        | none => rw [List.getElem?_eq_none_iff] at z2; omega
        | some y2 => rw [z, z2] at q; simpa using q
theorem atI_prev {xs : List PyData} {k : Nat} (hk : k < xs.length) : atI xs ((k : Int) - 1) = xs[(k + xs.length - 1) % xs.length]? := by
  cases k with
  | zero =>
    have e : (0 + xs.length - 1) % xs.length = xs.length - 1 := by
      rw [Nat.zero_add, Nat.mod_eq_of_lt (by omega)]
    rw [e]
    simp only [atI, ixN]
    rw [if_neg (by omega), if_pos (by omega)]
    show xs[_]? = _
    congr 1
    omega
  | succ k =>
    have e : (k + 1 + xs.length - 1) % xs.length = k := by
      have : k + 1 + xs.length - 1 = k + xs.length := by omega
      rw [this, Nat.add_mod_right, Nat.mod_eq_of_lt (by omega)]
    have e2 : ((k + 1 : Nat) : Int) - 1 = (k : Int) := by omega
    rw [e, e2]
    simp only [atI, ixN]
    rw [if_pos (by omega), if_pos (by omega)]
    simp
theorem map_ruleOf {d : Deal} {ks : List Nat} {hs : List (Nat × Nat × Int)} (h : ks.map (fun k => d.hard[k]?) = hs.map some) : ks.map (fun k => hD ((d.hard[k]?).getD (0, 0, 0))) = hs.map hD := by
  have : ks.map (fun k => hD ((d.hard[k]?).getD (0, 0, 0))) = (ks.map (fun k => d.hard[k]?)).map fun o => hD (o.getD (0, 0, 0)) := by simp
  rw [this, h]
  simp
theorem sc_is_ring : FnScope ["sheet", "thing", "rules", "starts", "mark", "own", "k"] ["sheet", "thing"] (defScope s_is_ring) := ⟨rfl, rfl, rfl, by decide +kernel, rfl, by decide +kernel, by decide +kernel⟩
theorem ca_is_ring {f : Addr} {fd : FuncData} (B : Bi K mg) (Fd : FunD K "is_ring" "is_ring" (defArgs s_is_ring) (defBody s_is_ring) (defScope s_is_ring) [] [] f fd) (hm : mg "is_ring" = some (.ref f)) (c_has_mark : Ca2 P w K mg base 3 "has_mark" (spD K 2 F_has_mark)) (c_rule_of : Ca2 P w K mg base 14 "rule_of" (spD K 2 F_rule_of)) :
    Ca2 P w K mg base 15 "is_ring" (spD K 2 F_is_ring) := by
  refine ca2_of (k := 14) Fd sc_is_ring rfl hm (fun _ _ _ _ _ _ us hl => match us, hl with | [_, _], _ => rfl) (fun cdv A outer s H E c pn m r =>
  (ds_cons (ds_if (dt_of (dw_or (dt_not (dt_val (de_isi "tuple" kit_tuple B.n_isinstance B.n_tuple (de_var 1)))) (dw_or (dt_cmp (op_eqD r.hu64) good_eq (de_callB call_len good_len B.n_len (da_cons (de_var 1) da_nil)) de_int) (dw_or1 (dt_not (dt_val (de_callB (cr_all2 m) good_all B.n_all (da_cons (de_of (df_lc (own := [("mark", 4)]) m sc_is_ring.nd (di_tup (de_var 1)) (blkOk_by (N := ["sheet", "thing", "rules", "starts", "mark", "own", "k"]) (sc := (defScope s_is_ring)) (by decide +kernel)) (fun _ _ _ _ _ => (dg_name 4 sc_is_ring.nd)) (fun _ _ _ _ _ => dtt_nil) (fun _ _ _ _ _ => (de_call2 (n := 2) (md_blk m _ _ _ _ _) c_has_mark r (by decide) (da_cons (de_var 0) (da_cons (de_var 4) da_nil)))))) da_nil)))))))) (ds_one (ds_ret de_bl)) ds_nil)
  (ds_cons (ds_set 2 sc_is_ring.nd (de_of (df_lc (own := [("mark", 4)]) m sc_is_ring.nd (di_tup (de_var 1)) (blkOk_by (N := ["sheet", "thing", "rules", "starts", "mark", "own", "k"]) (sc := (defScope s_is_ring)) (by decide +kernel)) (fun _ _ _ _ _ => (dg_name 4 sc_is_ring.nd)) (fun _ _ _ _ _ => dtt_nil) (fun _ _ _ _ _ => (de_call2 (n := 2) (md_blk m _ _ _ _ _) c_rule_of r (by decide) (da_cons (de_var 0) (da_cons (de_var 4) da_nil)))))))
  (ds_cons (ds_set 3 sc_is_ring.nd (de_of (df_lc (own := [("own", 5)]) m sc_is_ring.nd (di_list (de_var 2)) (blkOk_by (N := ["sheet", "thing", "rules", "starts", "mark", "own", "k"]) (sc := (defScope s_is_ring)) (by decide +kernel)) (fun _ _ _ _ _ => (dg_name 5 sc_is_ring.nd)) (fun _ _ _ _ _ => dtt_nil) (fun _ _ _ _ _ => (de_ix (de_var 5) de_int)))))
  (ds_one (ds_ret (de_and (de_cmp (op_eqD r.hu64) good_eq (de_lenSet m B.n_len B.n_set (de_var 3)) (de_callB call_len good_len B.n_len (da_cons (de_var 3) da_nil))) (de_one (de_callB (cr_all2 m) good_all B.n_all (da_cons (de_of (df_lc (own := [("k", 6)]) m sc_is_ring.nd (di_range1 B.n_range (de_callB call_len good_len B.n_len (da_cons (de_var 2) da_nil))) (blkOk_by (N := ["sheet", "thing", "rules", "starts", "mark", "own", "k"]) (sc := (defScope s_is_ring)) (by decide +kernel)) (fun _ _ _ _ _ => (dg_name 6 sc_is_ring.nd)) (fun _ _ _ _ _ => dtt_nil) (fun _ _ _ _ _ => (de_cmp (op_eqD r.hu64) good_eq (de_ix (de_ix (de_var 2) (de_op op_sub good_sub (de_var 6) de_int)) de_int) (de_ix (de_var 3) (de_var 6)))))) da_nil)))))))))) ?_
  rintro ds P' - ⟨d, s, ks, rfl, hs, hd, hr, hl, h⟩
  simp [initD]
  obtain ⟨rs, r1, r2, r3, r4⟩ := hr.hs
  have hne : ks.length ≠ 0 := fun z => by
    rw [z] at r2
    exact r3.1 (by rw [List.length_eq_zero_iff.mp r2]; rfl)
  have hin : ∀ k ∈ ks, ∃ h, d.hard[k]? = some h := fun k hk => by
    obtain ⟨i, hi⟩ := List.getElem?_of_mem hk
    obtain ⟨k', h', e1, _, e3⟩ := r1 i (List.getElem?_eq_some_iff.mp hi).1
    rw [hi] at e1
    cases e1
    exact ⟨h', e3⟩
  rw [if_pos (by rfl)]
  refine ⟨shp_int _, shp_int _, ?_⟩
  dsimp only
  rw [eqv_int, selB, if_neg (by simpa using fun z => hne (by rw [z]; rfl))]
  obtain ⟨hs', es', hf, l1, l2, _⟩ := hs.shf
  refine compD_all (f := fun _ => .bool true) ks (fun k hk => ⟨_, rfl, by simp, fun kk g q => ?_⟩) ?_
  · obtain ⟨h0, hh0⟩ := hin k hk
    have hk' : k < d.hard.length := (List.getElem?_eq_some_iff.mp hh0).1
    refine ⟨_, rfl, _, rfl, s, _, hs', es', _, rfl, hf, (sh_mk (n := 0) _).mono (by decide), ?_⟩
    rw [l1, l2, has_mk k hk']
    exact q
  have ea : (ks.map fun _ => PyData.bool true) = ks.map fun x => PyData.bool ((fun _ => true) x) := rfl
  rw [List.nil_append, ea, wAll_m, selB, if_pos (by simp)]
  refine compD_all (f := fun k => hD ((d.hard[k]?).getD (0, 0, 0))) ks (fun k hk => ⟨_, rfl, by simp, fun kk g q => ?_⟩) ?_
  · obtain ⟨h0, hh0⟩ := hin k hk
    rw [hh0] at q
    exact ⟨_, rfl, _, rfl, d, s, k, h0, rfl, hs, hd, hh0, q⟩
  rw [List.nil_append, map_ruleOf r4]
  refine compD_all (f := fun h => .int (h.1 : Int)) rs (fun k hk => ⟨_, rfl, by simp, fun kk g q => ?_⟩) ?_
  · refine ⟨_, rfl, ?_⟩
    simp [hD]
    exact q
  rw [List.nil_append]
  have nd : (rs.map fun h => h.1).Nodup := by have := r3.2.2; simpa [Function.comp_def] using this
  refine ⟨rs.map fun h => (h.1 : Int), by simp, ?_, by simp; omega, shp_int _, shp_int _, ?_⟩
  · have : (rs.map fun h => (h.1 : Int)) = (rs.map fun h => h.1).map fun (x : Nat) => (x : Int) := by simp
    rw [this]
    exact List.Pairwise.map _ (fun a b z e => z (by omega)) nd
  dsimp only
  rw [eqv_int, selB, if_pos (by simp)]
  refine ⟨by simp; omega, ?_⟩
  rw [rgD_map]
  refine compD_all (f := fun _ => .bool true) _ (fun k hk => ⟨_, rfl, by simp, fun kk g q => ?_⟩) ?_
  · have hk : k < rs.length := by simpa using hk
    refine ⟨_, rfl, _, rfl, _, _, rfl, rfl, ?_⟩
    dsimp only
    rw [wIx_l, atI_prev (by simpa using hk)]
    have hm : (k + (rs.map hD).length - 1) % (rs.map hD).length < rs.length := by
      rw [List.length_map]
      exact Nat.mod_lt _ (by omega)
    refine ⟨_, by rw [List.getElem?_map, List.getElem?_eq_getElem hm]; rfl, ?_⟩
    simp only [hD, wIx_t, at1, Option.some.injEq, exists_eq_left']
    refine ⟨_, rfl, _, rfl, ?_⟩
    rw [wIx_l]
    refine ⟨_, atI_nat (by rw [List.getElem?_map, List.getElem?_eq_getElem hk]; rfl), shp_int _, shp_int _, ?_⟩
    have c := r3.at_ (k := k) (by simpa using hk)
    rw [eqv_int]
    have e : decide (((rs[(k + (rs.map hD).length - 1) % (rs.map hD).length]).2.1 : Int) = ((rs[k]).1 : Int)) = true := by
      refine decide_eq_true ?_
      simp only [List.getD_eq_getElem?_getD, List.getElem?_map, List.length_map] at c
      rw [List.length_map] at hm
      rw [List.getElem?_eq_getElem hm, List.getElem?_eq_getElem hk] at c
      simp at c
      simp [c]
    rw [e]
    exact q
  · have ea : ((List.range (rs.map hD).length).map fun _ => PyData.bool true) = (List.range (rs.map hD).length).map fun x => PyData.bool ((fun _ => true) x) := rfl
    rw [List.nil_append, ea, wAll_m]
    have : ((List.range (rs.map hD).length).all fun _ => true) = true := by simp
    rw [this]
    exact h
theorem sc_is_no_room : FnScope ["sheet", "thing", "mark"] ["sheet", "thing"] (defScope s_is_no_room) := ⟨rfl, rfl, rfl, by decide +kernel, rfl, by decide +kernel, by decide +kernel⟩
theorem ca_is_no_room {f : Addr} {fd : FuncData} (B : Bi K mg) (Fd : FunD K "is_no_room" "is_no_room" (defArgs s_is_no_room) (defBody s_is_no_room) (defScope s_is_no_room) [] [] f fd) (hm : mg "is_no_room" = some (.ref f)) (c_order : Ca2 P w K mg base 1 "order" (spD K 2 F_order)) (c_is_ring : Ca2 P w K mg base 15 "is_ring" (spD K 2 F_is_ring)) (c_ring_far : Ca2 P w K mg base 15 "ring_far" (spD K 2 F_ring_far)) :
    Ca2 P w K mg base 16 "is_no_room" (spD K 2 F_is_no_room) := by
  refine ca2_of (k := 15) Fd sc_is_no_room rfl hm (fun _ _ _ _ _ _ us hl => match us, hl with | [_, _], _ => rfl) (fun cdv A outer s H E c pn m r =>
  (ds_cons (ds_if (dt_of (dw_or (dt_not (dt_val (de_call2 (n := 2) m c_is_ring r (by decide) (da_cons (de_var 0) (da_cons (de_var 1) da_nil))))) (dw_or1 (dt_not (dt_val (de_callB (cr_all2 m) good_all B.n_all (da_cons (de_of (df_lc (own := [("mark", 2)]) m sc_is_no_room.nd (di_tup (de_var 1)) (blkOk_by (N := ["sheet", "thing", "mark"]) (sc := (defScope s_is_no_room)) (by decide +kernel)) (fun _ _ _ _ _ => (dg_name 2 sc_is_no_room.nd)) (fun _ _ _ _ _ => dtt_nil) (fun _ _ _ _ _ => (de_cmp (op_eqD r.hu64) good_eq (de_ix (de_var 2) de_int) (de_HARD B))))) da_nil))))))) (ds_one (ds_ret de_bl)) ds_nil)
  (ds_one (ds_ret (de_cmp op_gt good_gt (de_call2 (n := 2) m c_order r (by decide) (da_cons (de_call2 (n := 2) m c_ring_far r (by decide) (da_cons (de_var 0) (da_cons (de_var 1) da_nil))) (da_cons (de_NONE B) da_nil))) de_int))))) ?_
  rintro ds P' - ⟨d, s, ks, rfl, hs, hd, hr, hp, hl, h⟩
  simp [initD]
  refine ⟨d, s, ks, rfl, hs, hd, hr, hl, ?_⟩
  dsimp only
  rw [selB, if_pos rfl]
  refine compD_all (f := fun _ => .bool true) ks (fun k hk => ⟨_, rfl, by simp, fun kk g q => ?_⟩) ?_
  · refine ⟨_, rfl, ?_⟩
    simp [wEq]
    exact q
  have ea : (ks.map fun _ => PyData.bool true) = ks.map fun x => PyData.bool ((fun _ => true) x) := rfl
  rw [List.nil_append, ea, wAll_m, selB, if_pos (by simp)]
  obtain ⟨rs, r1, r2, r3, r4⟩ := hr.hs
  have hm : d.HM ks := fun k hk => by
    obtain ⟨i, hi⟩ := List.getElem?_of_mem hk
    obtain ⟨k', h', e1, _, e3⟩ := r1 i (List.getElem?_eq_some_iff.mp hi).1
    rw [hi] at e1
    cases e1
    exact (List.getElem?_eq_some_iff.mp e3).1
  refine ⟨d, s, ks, rfl, hs, hd, hm, ?_⟩
  have e0 : PyData.tuple [PyData.int 0, PyData.int 1] = frD (hf 0) := by rw [hf_zero]; rfl
  rw [e0]
  refine ⟨_, _, rfl, hf_ok _, hf_ok _, ?_⟩
  rw [order_hf]
  have es : (ks.map fun k => d.gap (true, k)).sum = d.sumG (hardM ks) := by simp [Deal.sumG, hardM, Function.comp_def]
  rw [es, if_neg (by omega), if_pos hp]
  exact ⟨_, _, rfl, rfl, h⟩
end Lk

set_option Elab.async false
set_option linter.all false
set_option maxRecDepth 100000
set_option maxHeartbeats 4000000
namespace Lk
open PySem PySem.Spec PyProof.Rows L2 L2H HotX LkHot LkHead
variable {P : Program} {w : World} {K : PySem.W.Frag} {mg : Str → Option Value} {base : Heap}
/-! ### sure_room, hung_lots -/
theorem sum_chain (f : Nat → Int) : ∀ (rs : List (Nat × Nat × Int)), (∀ h ∈ rs, f h.1 + h.2.2 ≤ f h.2.1) → (rs.map fun h => h.2.2).sum ≤ ((rs.map fun h => f h.2.1)).sum - ((rs.map fun h => f h.1)).sum
  | [], _ => by simp
  | h :: rs, k => by
    have := sum_chain f rs fun x hx => k x (List.mem_cons_of_mem _ hx)
    have := k h List.mem_cons_self
    simp only [List.map_cons, List.sum_cons]
    omega
theorem sum_ring (f : Nat → Int) {es : List (Nat × Nat)} (c : Bf.Chain es) : (es.map fun e => f e.2).sum = (es.map fun e => f e.1).sum := by
  obtain ⟨hne, h, _⟩ := c
  have e1 : (es.map fun e => f e.2) = (es.map (·.2)).map f := by simp
  have e2 : (es.map fun e => f e.1) = (es.map (·.1)).map f := by simp
  rw [e1, e2, h]
  cases es with
  | nil => exact absurd rfl hne
  | cons e es => simp [Int.add_comm]
theorem Deal.Ring.sum {d : Deal} {ks : List Nat} {rs : List (Nat × Nat × Int)} (h : ks.map (fun k => d.hard[k]?) = rs.map some) : d.sumG (hardM ks) = (rs.map fun h => h.2.2).sum := by
  have : d.sumG (hardM ks) = ((ks.map (fun k => d.hard[k]?)).map fun o => (o.map (·.2.2)).getD 0).sum := by
    simp [Deal.sumG, hardM, Deal.gap, Function.comp_def]
  rw [this, h]
  simp [Function.comp_def]
theorem Deal.Feas.ring {d : Deal} (hf : d.Feas) {ks : List Nat} (r : d.Ring (hardM ks)) : d.sumG (hardM ks) ≤ 0 := by
  obtain ⟨f, hf⟩ := hf
  obtain ⟨rs, r1, r2, r3, r4⟩ := r.hs
  rw [Deal.Ring.sum r4]
  have hin : ∀ h ∈ rs, h ∈ d.hard := fun h hh => by
    have : some h ∈ rs.map some := List.mem_map.mpr ⟨h, hh, rfl⟩
    rw [← r4] at this
    obtain ⟨k, _, e⟩ := List.mem_map.mp this
    exact List.mem_of_getElem? e
  have a := sum_chain f rs fun h hh => hf h (hin h hh)
  have b := sum_ring f r3
  simp only [List.map_map, Function.comp_def] at b
  omega
theorem min_cast (a b : Nat) : (if (b : Int) < (a : Int) then (b : Int) else (a : Int)) = ((min a b : Nat) : Int) := by
  rcases Nat.lt_or_ge b a with h | h
  · rw [if_pos (by omega), Nat.min_eq_right (by omega)]
  · rw [if_neg (by omega), Nat.min_eq_left h]
theorem max_cast (a b : Nat) : (if (b : Int) > (a : Int) then (b : Int) else (a : Int)) = ((max a b : Nat) : Int) := by
  rcases Nat.lt_or_ge a b with h | h
  · rw [if_pos (by omega), Nat.max_eq_right (by omega)]
  · rw [if_neg (by omega), Nat.max_eq_left h]
theorem lot_zip (ns : List Nat) (low : Nat) : ((ns.zipIdx.filter fun p => decide (p.1 = low)).map fun p => p.2) = Nm.lotOf ns low := by
  have key : ∀ (ns : List Nat) (k : Nat), ((ns.zipIdx k).filter fun p => decide (p.1 = low)).map (fun p => p.2) = (List.range' k ns.length).filter fun i => decide (ns.getD (i - k) 0 = low) := by
    intro ns
    induction ns with
    | nil => intro k; rfl
    | cons x ns ih =>
      intro k
      have ec : (List.range' (k + 1) ns.length).filter (fun i => decide (ns.getD (i - (k + 1)) 0 = low)) = (List.range' (k + 1) ns.length).filter fun i => decide ((x :: ns).getD (i - k) 0 = low) := by
        refine List.filter_congr fun i hi => ?_
        have hi := (List.mem_range'_1.mp hi).1
        have e : i - k = (i - (k + 1)) + 1 := by omega
        rw [e, List.getD_cons_succ]
      rw [List.zipIdx_cons, List.length_cons, List.range'_succ]
      have e0 : (x :: ns).getD (k - k) 0 = x := by rw [Nat.sub_self]; rfl
      by_cases h : x = low
      · rw [List.filter_cons_of_pos (by simpa using h), List.filter_cons_of_pos (by simpa [e0] using h), List.map_cons, ih, ec]
      · rw [List.filter_cons_of_neg (by simpa using h), List.filter_cons_of_neg (by simpa [e0] using h), ih, ec]
  have := key ns 0
  rw [this]
  unfold Nm.lotOf
  rw [List.range_eq_range']
  rfl
theorem kept_asc (ns : List Nat) : ((Nm.kept ns).map fun (k : Nat) => (k : Int)).Pairwise (· < ·) := by
  rw [List.pairwise_map]
  unfold Nm.kept
  exact (List.Pairwise.filter _ List.pairwise_lt_range).imp fun h => by omega
theorem names_lt {n : Nat} {ts : List (Nat × Nat)} {ns : List Nat} (o : Nm.Ok n ts ns) : ∀ x ∈ ns, x < n := fun x hx => by
  obtain ⟨i, hi⟩ := List.getElem?_of_mem hx
  have hl := (List.getElem?_eq_some_iff.mp hi).1
  rw [o.len] at hl
  have := o.le i hl
  rw [List.getD_eq_getElem?_getD, hi] at this
  have : x ≤ i := this
  omega
theorem ms_kept {n : Nat} {ts : List (Nat × Nat)} {ns : List Nat} (o : Nm.Ok n ts ns) {ms : List Int} (h1 : ms.Pairwise (· < ·)) (h2 : ∀ k, k ∈ ms ↔ k ∈ ns.map fun (x : Nat) => (x : Int)) : ms = (Nm.kept ns).map fun (k : Nat) => (k : Int) := by
  refine sorted_ext _ _ h1 (kept_asc ns) fun x => ?_
  rw [h2 x, List.mem_map, List.mem_map]
  unfold Nm.kept
  constructor
  · rintro ⟨a, ha, e⟩
    exact ⟨a, by rw [List.mem_filter, List.mem_range, o.len]; exact ⟨names_lt o a ha, by simpa using ha⟩, e⟩
  · rintro ⟨a, ha, e⟩
    rw [List.mem_filter] at ha
    exact ⟨a, by simpa using ha.2, e⟩
def F_sure_room : DSp := fun ds P => ∃ (d : Deal) (s : PyData), ds = [s] ∧ d.At s ∧ d.Ok ∧ d.Feas ∧ P d.D
def hungD (ns : List Nat) : PyData := .tuple ((Nm.lotsOf ns).map lotD)
def F_hung_lots : DSp := fun ds P => ∃ (d : Deal) (s : PyData), ds = [s] ∧ d.At s ∧ d.Ok ∧ d.Feas ∧ P (hungD (Nm.namesOf d.n d.ties))
theorem Deal.Ok.ties {d : Deal} (k : d.Ok) : ∀ p ∈ d.ties, p.1 < d.n ∧ p.2 < d.n := fun p hp => by
  rcases List.mem_append.mp hp with q | q
  · obtain ⟨e, he, rfl⟩ := List.mem_map.mp q
    exact k.ease e he
  · obtain ⟨e, he, rfl⟩ := List.mem_map.mp q
    exact k.hard e (List.mem_filter.mp he).1
theorem sc_sure_room : FnScope ["sheet", "own", "ring"] ["sheet"] (defScope s_sure_room) := ⟨rfl, rfl, rfl, by decide +kernel, rfl, by decide +kernel, by decide +kernel⟩
theorem ca_sure_room {f : Addr} {fd : FuncData} (B : Bi K mg) (Fd : FunD K "sure_room" "sure_room" (defArgs s_sure_room) (defBody s_sure_room) (defScope s_sure_room) [] [] f fd) (hm : mg "sure_room" = some (.ref f)) (c_tuple_of : Ca2 P w K mg base 13 "tuple_of" (spD K 1 (F_tuple_of 12))) (c_no_room : Ca P w K mg base 14 "no_room" (spD K 1 F_no_room)) :
    Ca P w K mg base 15 "sure_room" (spD K 1 F_sure_room) := by
  refine ca_of (k := 14) Fd sc_sure_room rfl hm (fun _ _ _ _ _ _ us hl => match us, hl with | [_], _ => rfl) (fun cdv A outer s H E hr =>
  have m := md_calm (cx2 P w K mg base ["sheet", "own", "ring"] "sure_room" (defScope s_sure_room) f cdv A outer s H E true []) rfl rfl
  have r : Rm (cx2 P w K mg base ["sheet", "own", "ring"] "sure_room" (defScope s_sure_room) f cdv A outer s H E true []) 14 := rm_calm hr
  (ds_cons (ds_set 1 sc_sure_room.nd (de_call (n := 1) c_tuple_of.ca hr (by decide) (da_cons (de_var 0) da_nil)))
  (ds_cons (ds_set 2 sc_sure_room.nd (de_call (n := 1) c_no_room hr (by decide) (da_cons (de_var 1) da_nil)))
  (ds_cons (ds_if (dt_cmp op_notN good_notN (de_var 2) de_non) (ds_one ds_never) ds_nil)
  (ds_one (ds_ret (de_var 1))))))) ?_
  rintro ds P' - ⟨d, s, rfl, hs, hd, hf, h⟩
  simp [initD, F_tuple_of, F_no_room]
  refine ⟨(hs.sh hd).mono (by decide), ?_⟩
  rw [hs.tp hd]
  refine ⟨d, rfl, hd, fun r hr => ?_⟩
  cases r with
  | none =>
    refine ⟨rfl, ?_⟩
    simp [nrD, isNon]
    exact h
  | some ks =>
    have := hf.ring hr.1
    have := hr.2
    omega
theorem sc_hung_lots : FnScope ["sheet", "own", "names", "i", "j", "low", "high", "name", "k"] ["sheet"] (defScope s_hung_lots) := ⟨rfl, rfl, rfl, by decide +kernel, rfl, by decide +kernel, by decide +kernel⟩
theorem ca_hung_lots {f : Addr} {fd : FuncData} (B : Bi K mg) (Fd : FunD K "hung_lots" "hung_lots" (defArgs s_hung_lots) (defBody s_hung_lots) (defScope s_hung_lots) [] [] f fd) (hm : mg "hung_lots" = some (.ref f)) (c_sure_room : Ca P w K mg base 15 "sure_room" (spD K 1 F_sure_room)) (c_ties_of : Ca P w K mg base 4 "ties_of" (spD K 1 F_ties_of)) :
    Ca P w K mg base 16 "hung_lots" (spD K 1 F_hung_lots) := by
  refine ca_of (k := 15) Fd sc_hung_lots rfl hm (fun _ _ _ _ _ _ us hl => match us, hl with | [_], _ => rfl) (fun cdv A outer s H E hr =>
  have m := md_calm (cx2 P w K mg base ["sheet", "own", "names", "i", "j", "low", "high", "name", "k"] "hung_lots" (defScope s_hung_lots) f cdv A outer s H E true []) rfl rfl
  have r : Rm (cx2 P w K mg base ["sheet", "own", "names", "i", "j", "low", "high", "name", "k"] "hung_lots" (defScope s_hung_lots) f cdv A outer s H E true []) 15 := rm_calm hr
  (ds_cons (ds_set 1 sc_hung_lots.nd (de_call (n := 1) c_sure_room hr (by decide) (da_cons (de_var 0) da_nil)))
  (ds_cons (ds_set 2 sc_hung_lots.nd (de_of (df_listRg1 rfl B.n_list B.n_range (de_ix (de_var 1) de_int))))
  (ds_cons (ds_for m PassesOwn.leaving (di_list (de_call (n := 1) c_ties_of hr (by decide) (da_cons (de_var 1) da_nil))) (dg_tup (n := 2) m (dgs_cons (dg_name 3 sc_hung_lots.nd) (dgs_cons (dg_name 4 sc_hung_lots.nd) dgs_nil)) (mlen_cons (mlen_cons mlen_nil))) (ds_cons (ds_asgW (de_tup (da_cons (de_callB (call_min2 rfl) good_min B.n_min (da_cons (de_ix (de_var 2) (de_var 3)) (da_cons (de_ix (de_var 2) (de_var 4)) da_nil))) (da_cons (de_callB (call_max2 rfl) good_max B.n_max (da_cons (de_ix (de_var 2) (de_var 3)) (da_cons (de_ix (de_var 2) (de_var 4)) da_nil))) da_nil))) (dgw_tup (n := 2) rfl (dgws_cons (dgw_name 5 sc_hung_lots.nd) (dgws_cons (dgw_name 6 sc_hung_lots.nd) dgws_nil))))
  (ds_one (ds_set 2 sc_hung_lots.nd (de_of (df_lc (own := [("name", 7)]) m sc_hung_lots.nd (di_list (de_var 2)) (blkOk_by (N := ["sheet", "own", "names", "i", "j", "low", "high", "name", "k"]) (sc := (defScope s_hung_lots)) (by decide +kernel)) (fun _ _ _ _ _ => (dg_name 7 sc_hung_lots.nd)) (fun _ _ _ _ _ => dtt_nil) (fun _ _ _ _ _ => (de_if (dt_cmp (op_eqD r.hu64) good_eq (de_var 7) (de_var 6)) (de_var 5) (de_var 7)))))))))
  (ds_one (ds_ret (de_callTy call_tuple_of good_tup B.n_tuple (da_cons (de_of (df_lc (own := [("low", 5)]) m sc_hung_lots.nd (di_list (de_of (df_sortedSet rfl m B.n_sorted B.n_set (de_var 2)))) (blkOk_by (N := ["sheet", "own", "names", "i", "j", "low", "high", "name", "k"]) (sc := (defScope s_hung_lots)) (by decide +kernel)) (fun _ _ _ _ _ => (dg_name 5 sc_hung_lots.nd)) (fun _ _ _ _ _ => dtt_nil) (fun _ _ _ _ _ => (de_callTy call_tuple_of good_tup B.n_tuple (da_cons (de_of (df_lc (own := [("k", 8), ("name", 7)]) (md_blk m _ _ _ _ _) sc_hung_lots.nd (di_enum rfl B.n_enumerate (de_var 2)) (blkOk_by (N := ["sheet", "own", "names", "i", "j", "low", "high", "name", "k"]) (sc := (relS _ (defScope s_hung_lots))) (by decide +kernel)) (fun _ _ _ _ _ => (dg_tup (n := 2) (md_blk (md_blk m _ _ _ _ _) _ _ _ _ _) (dgs_cons (dg_name 8 sc_hung_lots.nd) (dgs_cons (dg_name 7 sc_hung_lots.nd) dgs_nil)) (mlen_cons (mlen_cons mlen_nil)))) (fun _ _ _ _ _ => (dtt_one (dt_cmp (op_eqD r.hu64) good_eq (de_var 7) (de_var 5)))) (fun _ _ _ _ _ => (de_var 8)))) da_nil))))) da_nil)))))))) ?_
  rintro ds P' - ⟨d, s, rfl, hs, hd, hf, h⟩
  simp [initD]
  refine ⟨d, s, rfl, hs, hd, hf, ?_⟩
  dsimp only
  simp only [Deal.D, wIx_t, at0, Option.some.injEq, exists_eq_left']
  have hn20 := hd.nn
  refine ⟨_, rfl, by omega, by omega, d, rfl, hd, _, rfl, ?_⟩
  have er : (rgI 0 (d.n : Int)).map PyData.int = natD (List.range d.n) := by simp [rgI, natD, Function.comp_def]
  rw [er]
  refine forD_rel (fun ts g δ => ∃ ns a b c e f u, δ = [.dat s, .dat d.D, .dat (.list (natD ns)), a, b, c, e, f, u] ∧ ns.length = d.n ∧ (∀ p ∈ ts, p.1 < d.n ∧ p.2 < d.n) ∧ ts.foldl Nm.mergeN ns = Nm.namesOf d.n d.ties)
    (fun x xs g δ hI => ?_) (fun g δ hI => ?_) d.ties 0 _ ⟨List.range d.n, _, _, _, _, _, _, rfl, by simp, hd.ties, rfl⟩
  · obtain ⟨ns, a, b, c, e, f, u, rfl, hl, hb, hfo⟩ := hI
    refine ⟨_, rfl, fun k hkr hk => ?_⟩
    have hb1 := hb x List.mem_cons_self
    simp [putD]
    refine ⟨_, nat_get (by omega), _, nat_get (by omega), _, _, rfl, _, nat_get (by omega), _, nat_get (by omega), _, _, rfl, by decide, ?_⟩
    rw [min_cast, max_cast]
    refine ⟨_, _, ⟨rfl, rfl⟩, _, _, rfl, rfl, ?_⟩
    refine compD_all (f := fun y => .int (((if y = max (ns.getD x.1 0) (ns.getD x.2 0) then min (ns.getD x.1 0) (ns.getD x.2 0) else y : Nat)) : Int)) ns (fun y hy => ⟨_, rfl, by simp, fun kk g q => ?_⟩) ?_
    · refine ⟨_, rfl, _, rfl, shp_int _, shp_int _, ?_⟩
      dsimp only
      rw [eqv_int, selB]
      by_cases z : y = max (ns.getD x.1 0) (ns.getD x.2 0)
      · rw [if_pos (decide_eq_true (by omega))]
        rw [if_pos z] at q
        exact ⟨_, rfl, q⟩
      · rw [if_neg (by simp only [decide_eq_true_iff]; omega)]
        rw [if_neg z] at q
        exact ⟨_, rfl, q⟩
    · refine hk _ _ ⟨Nm.mergeN ns x, _, _, _, _, _, _, by simp [natD, Nm.mergeN, Function.comp_def]; exact ⟨rfl, rfl, rfl, rfl, rfl, rfl⟩, by rw [Nm.merge_len]; exact hl, fun p hp => hb p (List.mem_cons_of_mem _ hp), by rw [List.foldl_cons] at hfo; exact hfo⟩
  · obtain ⟨ns, a, b, c, e, f, u, rfl, hl, hb, hfo⟩ := hI
    rw [List.foldl_nil] at hfo
    subst hfo
    have o := Nm.names_ok hd.ties
    refine ⟨_, rfl, (Nm.namesOf d.n d.ties).map (fun (x : Nat) => (x : Int)), by simp [natD], by simp [hl]; omega, fun ms h1 h2 => ?_⟩
    rw [ms_kept o h1 h2]
    have em : ((Nm.kept (Nm.namesOf d.n d.ties)).map fun (k : Nat) => (k : Int)).map PyData.int = (Nm.kept (Nm.namesOf d.n d.ties)).map fun (k : Nat) => PyData.int (k : Int) := by simp
    rw [em]
    refine compD_all (f := fun low => lotD (Nm.lotOf (Nm.namesOf d.n d.ties) low)) _ (fun low hlow => ⟨_, rfl, by simp, fun kk g q => ?_⟩) ?_
    · refine ⟨_, rfl, _, rfl, ?_⟩
      have ez : enD 0 (natD (Nm.namesOf d.n d.ties)) = (Nm.namesOf d.n d.ties).zipIdx.map fun p => PyData.tuple [.int (p.2 : Int), .int (p.1 : Int)] := enD_zip (fun (x : Nat) => PyData.int (x : Int)) _ 0
      rw [ez]
      refine compD_map (t := fun p => decide (p.1 = low)) (f := fun p => .int (p.2 : Int)) _ (fun p hp => ⟨_, rfl, by simp, fun kk g q => ?_, fun _ kk g q => ?_⟩) ?_
      · refine ⟨_, rfl, _, rfl, shp_int _, shp_int _, ?_⟩
        dsimp only
        rw [eqv_int, selB]
        by_cases z : p.1 = low
        · rw [if_pos (decide_eq_true (by omega))]
          simpa [z] using q
        · rw [if_neg (by simp only [decide_eq_true_iff]; omega)]
          simpa [z] using q
      · exact ⟨_, rfl, q⟩
      · have el : ((Nm.namesOf d.n d.ties).zipIdx.filter fun p => decide (p.1 = low)).map (fun p => PyData.int (p.2 : Int)) = natD (Nm.lotOf (Nm.namesOf d.n d.ties) low) := by
          rw [← lot_zip]
          simp [natD]
        rw [List.nil_append, el]
        exact q
    · rw [List.nil_append]
      have eh : PyData.tuple ((Nm.kept (Nm.namesOf d.n d.ties)).map fun low => lotD (Nm.lotOf (Nm.namesOf d.n d.ties) low)) = hungD (Nm.namesOf d.n d.ties) := by
        simp [hungD, Nm.lotsOf, Function.comp_def]
      rw [eh]
      exact h
end Lk

set_option Elab.async false
set_option linter.all false
set_option maxRecDepth 100000
set_option maxHeartbeats 4000000
namespace Lk
open PySem PySem.Spec PyProof.Rows L2 L2H HotX LkHot LkHead
variable {P : Program} {w : World} {K : PySem.W.Frag} {mg : Str → Option Value} {base : Heap}
/-! ### stands -/
def Deal.lots (d : Deal) : List (List Nat) := Nm.lotsOf (Nm.namesOf d.n d.ties)
open Classical in
noncomputable def Deal.standsB (d : Deal) : Bool := decide (d.n ≤ d.hard.length + d.ease.length + 1 ∧ d.Feas ∧ d.loose = none ∧ d.lots.length = 1)
def F_stands : DSp := fun ds P => ∃ (d : Deal) (s : PyData), ds = [s] ∧ d.At s ∧ d.Ok ∧ P (.bool d.standsB)
open Classical in
theorem stands_no {d : Deal} (h : ¬ (d.n ≤ d.hard.length + d.ease.length + 1 ∧ d.Feas ∧ d.loose = none ∧ d.lots.length = 1)) : d.standsB = false := by
  unfold Deal.standsB
  exact decide_eq_false h
open Classical in
theorem stands_yes {d : Deal} (a : d.n ≤ d.hard.length + d.ease.length + 1) (b : d.Feas) (c : d.loose = none) : d.standsB = decide (d.lots.length = 1) := by
  unfold Deal.standsB
  by_cases e : d.lots.length = 1
  · rw [decide_eq_true e, decide_eq_true ⟨a, b, c, e⟩]
  · rw [decide_eq_false e, decide_eq_false (fun z => e z.2.2.2)]
theorem isNon_opt (o : Option (List Nat)) : isNon (optD o) = o.isNone := by cases o <;> rfl
theorem isNon_nr (o : Option (List Nat)) : isNon (nrD o) = o.isNone := by cases o <;> rfl
theorem sc_stands : FnScope ["sheet", "own"] ["sheet"] (defScope s_stands) := ⟨rfl, rfl, rfl, by decide +kernel, rfl, by decide +kernel, by decide +kernel⟩
theorem ca_stands {f : Addr} {fd : FuncData} (B : Bi K mg) (Fd : FunD K "stands" "stands" (defArgs s_stands) (defBody s_stands) (defScope s_stands) [] [] f fd) (hm : mg "stands" = some (.ref f)) (c_tuple_of : Ca2 P w K mg base 13 "tuple_of" (spD K 1 (F_tuple_of 12))) (c_no_room : Ca P w K mg base 14 "no_room" (spD K 1 F_no_room)) (c_hung_lots : Ca P w K mg base 16 "hung_lots" (spD K 1 F_hung_lots)) (c_loose_lot : Ca P w K mg base 14 "loose_lot" (spD K 1 F_loose_lot)) :
    Ca P w K mg base 17 "stands" (spD K 1 F_stands) := by
  refine ca_of (k := 16) Fd sc_stands rfl hm (fun _ _ _ _ _ _ us hl => match us, hl with | [_], _ => rfl) (fun cdv A outer s H E hr =>
  have m := md_calm (cx2 P w K mg base ["sheet", "own"] "stands" (defScope s_stands) f cdv A outer s H E true []) rfl rfl
  have r : Rm (cx2 P w K mg base ["sheet", "own"] "stands" (defScope s_stands) f cdv A outer s H E true []) 16 := rm_calm hr
  (ds_cons (ds_set 1 sc_stands.nd (de_call (n := 1) c_tuple_of.ca hr (by decide) (da_cons (de_var 0) da_nil)))
  (ds_cons (ds_if (dt_of (dw_or (dt_cmp op_lt good_lt (de_op op_add good_add (de_callB call_len good_len B.n_len (da_cons (de_ix (de_var 1) de_int) da_nil)) (de_callB call_len good_len B.n_len (da_cons (de_ix (de_var 1) de_int) da_nil))) (de_op op_sub good_sub (de_ix (de_var 1) de_int) de_int)) (dw_or (dt_cmp op_notN good_notN (de_call (n := 1) c_no_room hr (by decide) (da_cons (de_var 1) da_nil)) de_non) (dw_or1 (dt_cmp op_notN good_notN (de_call (n := 1) c_loose_lot hr (by decide) (da_cons (de_var 1) da_nil)) de_non))))) (ds_one (ds_ret de_bl)) ds_nil)
  (ds_one (ds_ret (de_cmp (op_eqD r.hu64) good_eq (de_callB call_len good_len B.n_len (da_cons (de_call (n := 1) c_hung_lots hr (by decide) (da_cons (de_var 1) da_nil)) da_nil)) de_int)))))) ?_
  rintro ds P' - ⟨d, s, rfl, hs, hd, h⟩
  simp [initD, F_tuple_of]
  refine ⟨(hs.sh hd).mono (by decide), ?_⟩
  rw [hs.tp hd]
  simp only [Deal.D, wIx_t, wLen_t, at0, at1, at2, Option.some.injEq, exists_eq_left']
  simp [wI0]
  rw [← Deal.D]
  by_cases hq : d.n ≤ d.hard.length + d.ease.length + 1
  · refine .inl ⟨by omega, d, rfl, hd, fun r hr => ⟨rfl, ?_⟩⟩
    dsimp only
    rw [selB, isNon_nr]
    cases r with
    | some ks =>
      have hnf : ¬ d.Feas := fun hf => by
        have := hf.ring hr.1
        have := hr.2
        omega
      rw [stands_no (fun z => hnf z.2.1)] at h
      exact h
    | none =>
      have hf : d.Feas := hr
      simp only [Option.isNone_none, Bool.not_true, Bool.false_eq_true, if_false]
      refine ⟨d, d.D, rfl, .inl rfl, hd, rfl, ?_⟩
      dsimp only
      rw [selB, isNon_opt]
      cases hl : d.loose with
      | some l =>
        rw [stands_no (fun z => by rw [hl] at z; cases z.2.2.1)] at h
        exact h
      | none =>
        simp only [Option.isNone_none, Bool.not_true, Bool.false_eq_true, if_false]
        refine ⟨d, d.D, rfl, .inl rfl, hd, hf, ?_⟩
        rw [stands_yes hq hf hl] at h
        unfold hungD
        rw [wLen_t]
        refine ⟨shp_int _, shp_int _, ?_⟩
        rw [eqv_int, List.length_map]
        have e : decide (((Nm.lotsOf (Nm.namesOf d.n d.ties)).length : Int) = 1) = decide (d.lots.length = 1) := by
          unfold Deal.lots
          by_cases z : (Nm.lotsOf (Nm.namesOf d.n d.ties)).length = 1
          · rw [decide_eq_true z, decide_eq_true (by omega)]
          · rw [decide_eq_false z, decide_eq_false (by omega)]
        rw [e]
        exact h
  · refine .inr ⟨by omega, ?_⟩
    rw [stands_no (fun z => hq z.1)] at h
    exact h
end Lk

set_option Elab.async false
set_option linter.all false
set_option maxRecDepth 100000
set_option maxHeartbeats 4000000
/-! several clauses 'except X as n'; exceptions with an __init__, context None -/
namespace Lk
open PySem PySem.Spec PyProof.Rows L2 L2H HotX LkHot
def wManyAs (K : PySem.W.Frag) (i : Nat) (Wout : WX) (D : Ends) : List (Value × (Addr → Value → Option Addr → TS)) → WX
  | [] => Wout
  | (c, ts) :: r => fun cls d σ H => ∃ b, PySem.W.exmOne K cls c = some b ∧
    (b = true → ∀ a, H a = none → ts a cls d { nx := fun σ' H' => D.nx (σ'.set i none) H', rt := D.rt, bk := fun σ' H' => D.bk (σ'.set i none) H', ct := fun σ' H' => D.ct (σ'.set i none) H' } (σ.set i (some (.ref a))) H) ∧ (b = false → wManyAs K i Wout D r cls d σ H)
inductive HdsAs (X : Cx) (n : Str) : List ExceptHandler → List (Value × (Addr → Value → Option Addr → TS)) → Prop
  | nil : HdsAs X n [] []
  | cons {x : Str} {c : Value} {ts : Addr → Value → Option Addr → TS} {b₀ : Stmt} {suite : List Stmt} {np pos' : Pos} {hds : List ExceptHandler} {l : List (Value × (Addr → Value → Option Addr → TS))} (hc : Names X x c)
      (hsu : ∀ (a : Addr) (oe : Obj) (cls : Value) (d : Option Addr) (pn : List (Addr × Obj)), L2N.Zn cls d oe → (∃ vs, oe.data = .fields vs) → PSs (X.suite a ((a, oe) :: pn)) (b₀ :: suite) (ts a cls d)) (r : HdsAs X n hds l) :
      HdsAs X n (.ExceptHandler (some (.Name x np)) (some n) (b₀ :: suite) pos' :: hds) ((c, ts) :: l)
section
variable {X : Cx} {body : List Stmt} {h₀ : ExceptHandler} {hds : List ExceptHandler} {l : List (Value × (Addr → Value → Option Addr → TS))} {pos : Pos} {tb : WX → TS} {Wout : WX} {n : Str} {i : Nat}
theorem ps_try_manyAs (hs : X.stack = X.env :: X.outer) (hf : X.env.frame = some X.env.locals) (hN : X.N.Nodup) (hi : X.N[i]? = some n) (hln : X.env.kindOf n = some .local) (tk : L2N.Takes X Wout)
    (hb : ∀ (W : WX) (pn : List (Addr × Obj)) (xe : Value → Shared → Prop), L2N.Takes (X.tr pn xe) W → PassesOwn (model X.prog X.w) X.A X.env xe → PSs (X.tr pn xe) body (tb W))
    (hh : HdsAs X n (h₀ :: hds) l) : PS X (.Try body (h₀ :: hds) [] [] pos) (fun D σ H => tb (wManyAs X.K i Wout D l) D σ H) := by
  refine ⟨fun pins s σ H D I h => ?_⟩
  have ok := I.ok
  have hfr : X.A.frames = some (X.env :: X.outer) := by rw [ok.frames, hs]
  have hloc : Loc X.env.scope n := .inl hln
  refine wpAny_Try_except ?_
  refine wpAny_mono ((hb (wManyAs X.K i Wout D l) (X.pn ++ pins) (fun e s₁ => wpAny (model X.prog X.w) X.A (noteFrame e X.env) (fun _ s₂ => wpAny (model X.prog X.w) X.A (setFlight e none) (fun _ s₃ =>
    wpAny (model X.prog X.w) X.A (handleBy e X.env (h₀ :: hds)) (SP X pins D) X.xe s₃) X.xe s₂) X.xe s₁) (fun u s' xx => ?_) PassesOwn.looking).run [] s σ H D (I.toTry _) h) (fun f s1 hsp => ?_) (fun e s1 he => he)
  · obtain ⟨a, B, sI, pins', σ', H', cls, d, rfl, J', nb, up, sky, na, os, ag, w⟩ := xx
    have J : Inv X pins σ' H' sI := J'.ofTry ok
    have sky' : Sky B (X.env :: X.outer) a (L2N.Zn cls d) X.env.locals s'.heap := by rw [← hs]; exact sky
    show wpAny (model X.prog X.w) X.A (noteFrame (.ref a) X.env) _ _ _
    refine L2N.Sky.land L2N.Zn.steady hfr hf sky' fun h3 fl3 up3 => ?_
    have J3 : Inv X pins σ' H' { s' with heap := h3 } := J.landed nb fl3.1 (up.trans up3) os ag
    obtain ⟨oe3, vs3, he3, hz3, hd3⟩ := fl3.there
    have notFr : ∀ {h : Heap} {o : Obj} {vs : Array Value}, h.FunFrames B (X.env :: X.outer) → h.get? a = some o → o.data = .fields vs → a ∉ frs (X.env :: X.outer) := fun {h o vs} ff e dd hm => by
      obtain ⟨_, o', e', hnf⟩ := ff.mem hm
      rw [e] at e'; cases e'
      exact hnf _ dd
    have nfr := notFr fl3.2.2.1 he3 hd3
    have nL : a ≠ X.env.locals := fun z => nfr (List.mem_filterMap.mpr ⟨X.env, List.mem_cons_self, by rw [hf, z]⟩)
    have nF : a ∉ X.fs := fun hm => by
      obtain ⟨e, he, q⟩ := List.mem_filterMap.mp hm
      exact nfr (List.mem_filterMap.mpr ⟨e, List.mem_cons_of_mem _ he, q⟩)
    have S3 := J3.suite he3 hd3 na nL nF
    have go : ∀ {hds' : List ExceptHandler} {l' : List (Value × (Addr → Value → Option Addr → TS))}, HdsAs X n hds' l' → wManyAs X.K i Wout D l' cls d σ' H' →
        wpAny (model X.prog X.w) X.A (handleBy (.ref a) X.env hds') (SP X pins D) X.xe { s' with heap := h3 } := by
      intro hds' l' hk
      induction hk with
      | nil =>
        intro w
        refine wpAny_handleBy_nil ?_
        obtain ⟨k1, k2, k3, oe, vs, T, oT, ts', he, hz, hd, h1, hr⟩ := id fl3
        unfold PySem.passOn
        refine wpAny_bind (wpAny_field he hd h1 ?_)
        rw [if_neg (show ¬ ((Value.ref T == Value.none) = true) from by simp)]
        have fin : wpAny (model X.prog X.w) X.A (setFlight (.ref a) X.env.frame) (fun _ s4 => wpAny (model X.prog X.w) X.A (throw (.ref a) : Sem Flow) (SP X pins D) X.xe s4) X.xe { s' with heap := h3 } := by
          rw [hf]
          refine HandSPX.setFlight_upZ fl3 fun h4 hh4 up4 => wpAny_throw (tk _ _ ?_)
          exact ⟨a, B, sI, pins, σ', H', cls, d, rfl, J, nb, (up.trans up3).trans up4, .inr (.inr (by rw [hs]; exact hh4)), na, os, ag, w⟩
        first
          | exact wpAny_bind (wpAny_pure (wpAny_bind fin))
          | exact wpAny_bind fin
      | @cons x c ts b₀ suite np pos' hds2 l2 hc hsu r ih =>
        intro w
        obtain ⟨b, hb1, hyes, hno⟩ := w
        refine wpAny_handleBy_cons (codeAny_handlers_test ?_) (by intro q; cases q)
        have LT : PySem.W.Looks (model X.prog X.w) h3 (typeOf (.ref a)) cls := fun A Q E s k q => wpAny_typeOf_ref (k _ _ he3) (by rw [hz3.1]; exact q)
        have LM := PySem.W.exm_one (M := model X.prog X.w) (J3.kIn) LT hb1
        have test : ∀ {Q : Value → Shared → Prop} {E : Value → Shared → Prop}, Q c { s' with heap := h3 } → wpAny (model X.prog X.w) (X.A.mark (some (.ref a))) (eval (.Name x np) X.env) Q E { s' with heap := h3 } := fun {Q E} q => by
          obtain ⟨hg, hdbg, hm | ⟨hm, hv, hnn⟩⟩ := hc
          · exact ld_glob (X := X.suite a ((a, oe3) :: (X.pn ++ pins))) S3 hg hm q hdbg
          · exact ld_blt (X := X.suite a ((a, oe3) :: (X.pn ++ pins))) S3 hg hm hv q hnn hdbg
        refine test (LM.here ?_)
        cases b with
        | true =>
          refine codeAny_handlers_suite_as ?_
          refine HandSPX.lands_againZ fl3 fun h4 fl4 up4 => ?_
          have J4 : Inv X pins σ' H' { s' with heap := h4 } := J.landed nb fl4.1 ((up.trans up3).trans up4) os ag
          obtain ⟨oe4, vs4, he4, hz4, hd4⟩ := fl4.there
          have S4 := J4.suite he4 hd4 na nL nF
          refine store_ok (X := X.suite a ((a, oe4) :: (X.pn ++ pins))) (v := .ref a) S4 hN hi hloc rfl (fun s5 S5 => ?_) (.inr hln)
          refine wpAny_mono ((hsu a oe4 cls d (X.pn ++ pins) hz4 ⟨_, hd4⟩).run [] s5 _ H' _ S5 (hyes rfl a na)) (fun f s6 hsp => ?_) (fun _ _ z => False.elim z)
          have end_ : ∀ {σ6 : L2.St} {H6 : Hp} {Q : Shared → Prop}, Inv (X.suite a ((a, oe4) :: (X.pn ++ pins))) [] σ6 H6 s6 → (∀ s7, Inv X pins (σ6.set i none) H6 s7 → Q s7) →
              wpAny (model X.prog X.w) X.A (do bindName X.env n .none; unbindBehindTheSuite X.env n pos') (fun _ s7 => Q s7) X.xe s6 := fun {σ6 H6 Q} S6 hq => gone_ok (S6.unsuite ok) hN hi hln hq
          cases f with
          | next =>
            obtain ⟨σ6, H6, S6, q6⟩ := hsp
            exact end_ S6 fun s7 I7 => ⟨_, _, I7, q6⟩
          | brk =>
            obtain ⟨σ6, H6, S6, q6⟩ := hsp
            exact end_ S6 fun s7 I7 => ⟨_, _, I7, q6⟩
          | cont =>
            obtain ⟨σ6, H6, S6, q6⟩ := hsp
            exact end_ S6 fun s7 I7 => ⟨_, _, I7, q6⟩
          | ret u =>
            obtain ⟨v6, σ6, H6, S6, r6, q6⟩ := hsp
            exact end_ S6 fun s7 I7 => ⟨_, _, _, I7, r6, q6⟩
        | false =>
          show wpAny _ X.A (handleBy (.ref a) X.env hds2) _ _ _
          exact ih (hno rfl)
    exact go hh w
  · cases f with
    | next =>
      obtain ⟨σ', H', J', q⟩ := hsp
      exact wpAny_execs_nil ⟨σ', H', J'.ofTry ok, q⟩
    | brk =>
      obtain ⟨σ', H', J', q⟩ := hsp
      exact ⟨σ', H', J'.ofTry ok, q⟩
    | cont =>
      obtain ⟨σ', H', J', q⟩ := hsp
      exact ⟨σ', H', J'.ofTry ok, q⟩
    | ret u =>
      obtain ⟨v, σ', H', J', r, q⟩ := hsp
      exact ⟨v, σ', H', J'.ofTry ok, r, q⟩
end
section
variable {X : Cx} {e : Expr} {es : List Expr} {ta : TA} {p pos : Pos}
theorem pmk_oexN {CX : CXT} {x : Str} {C fI : Addr} {k : Nat} {fd : FuncData} {ps : List Str} {sp : Sp} {ds : List Value} {dvs : List V} (T : OexC X.K C) (iC : PySem.W.findIn X.K (.ref C) "__init__" = some (some (.ref fI))) (tI : PySem.W.typeIn X.K (.ref fI) = some (.type "function"))
    (F1 : FnOk X.prog X.w X.K X.mg X.base CX k fI fd ps sp) (hr : Room (k + 1) X.A) (hb : Binds X.K fd ps ds) (hd : Vals dvs ds) (hx : Passes CX X (fun _ _ _ => False)) (hg : Gl X x) (hm : X.mg x = some (.ref C)) (ha : PA X (e :: es) ta)
    (hdb : (x == ("__debug__" : Str)) = false := by decide) (he : starEach (e :: es) X.env = (false, eval e X.env) :: starEach es X.env := by rfl) (hpl : (backTo pos (starEach es X.env)).any (·.1) = false := by rfl) :
    L2N.PMk X (.Call (.Name x p) (e :: es) [] pos) (tMkO C sp dvs ta) := by
  intro pins s σ H Q I h
  obtain ⟨nm, q, N, bs, bm, sn, sub, ab, col, dd, k0, k1, k2, k3, k5, hC, hbm⟩ := T.cls
  refine wpAny_Call_Name_kw (ld_glob I hg hm ?_ hdb)
  refine PySem.W.callWith_K (h₀ := X.base) I.ok.mod.kin T.kC (thn (ha.run pos pins s σ H _ I h) fun us s1 ⟨vs, H1, I1, r1, hz, q1⟩ => ⟨I1.kIn, ?_⟩) he hpl
  show wpAny _ _ (call (.ref C) us) _ _ _
  obtain ⟨hp, g, dr, tk, os⟩ := s1
  have hsz : hp.objs.size ≤ hp.objs.size + 1 := Nat.le_succ _
  have hn : H1 (hp.objs.size + 1) = none := I1.hok.fresh hsz
  have hq := q1 (hp.objs.size + 1) hn
  have kk : ∀ b o, hp.get? b = some o → ((hp.push (PySem.W.kdv_tup us)).push (PySem.HandSPX.excO C hp.objs.size)).get? b = some o := fun b o e => Heap.get?_push_of_some _ (Heap.get?_push_of_some _ e)
  have hget : ((hp.push (PySem.W.kdv_tup us)).push (PySem.HandSPX.excO C hp.objs.size)).get? (hp.objs.size + 1) = some (PySem.HandSPX.excO C hp.objs.size) := by heap_get
  have I2 : Inv X pins σ (upd H1 (hp.objs.size + 1) (exo (hp.objs.size + 1) C none)) ⟨(hp.push (PySem.W.kdv_tup us)).push (PySem.HandSPX.excO C hp.objs.size), g, dr, tk, os⟩ :=
    I1.laid (t' := tk) (a := hp.objs.size + 1) (o := exo (hp.objs.size + 1) C none) (h' := (hp.push (PySem.W.kdv_tup us)).push (PySem.HandSPX.excO C hp.objs.size)) kk hsz (exo_ok hget)
  have r2 : Vals (V.ref (hp.objs.size + 1) :: (vs ++ dvs)) (Value.ref (hp.objs.size + 1) :: (us ++ ds)) := .cons rfl (r1.append hd)
  have hl : (Value.ref (hp.objs.size + 1) :: us ++ ds).length = ps.length := by
    have e := r2.length
    rw [F1.len _ _ _ _ hq] at e
    exact e.symm
  have hus : us.length ≤ sizeLine := by
    rw [← Paired.length r1, sizeLine_eq]
    omega
  refine wpAny_call (PySem.HandSPX.call_own F.excBase_ValueError (fun Y => PySem.HandSPX.refsVE_contains Y bm hbm) (I1.kIn _ _ hC) (PySem.W.looks_findIn I1.kIn iC) (fun self => PySem.W.bind_fn I1.kIn self tI) hus
    (codeAny_mono (F1.run _ X.stack _ _ ⟨Value.ref (hp.objs.size + 1) :: us, []⟩ (Value.ref (hp.objs.size + 1) :: (us ++ ds)) _ _ (fun _ _ _ => False) (hr.make C us []) (I2.env0.make C us []) (hb _ (Value.ref (hp.objs.size + 1) :: us) I2.kIn hl) r2 hq) fun r s' hq' => ?_))
  cases r with
  | error er => exact hx pins σ _ _ er s' I2 hq'
  | ok fl =>
    cases fl with
    | ret u =>
      obtain ⟨v, H2, os2, bare2, un2, hok2, rv, ev, d, fs, ea, ed, hd1, q2⟩ := hq'
      subst ev
      obtain ⟨h2, g2, d2, t2, os'⟩ := s'
      refine ⟨rv, ?_⟩
      obtain ⟨t0, G, J, kG, ge, hoe, na⟩ := mk_end0 (d2 := d2) (t2 := t2) I1 hsz kk un2 hok2 os2 bare2 ea ed hd1
      exact ⟨_, _, _, ⟨G, g2, d2, t2, os'⟩, _, .ref C, some d, rfl, J, kG, ge, hoe, ⟨rfl, rfl, fun vs e => by cases e; rfl⟩, rfl, rfl, na, rfl, bare2, raises_own T.exC T.tyC, q2⟩
    | next => exact False.elim hq'
    | brk => exact False.elim hq'
    | cont => exact False.elim hq'
end
end Lk

set_option Elab.async false
set_option linter.all false
set_option maxRecDepth 100000
set_option maxHeartbeats 4000000
/-! exceptions over data -/
namespace Lk
open PySem PySem.Spec PyProof.Rows L2 L2H HotX LkHot
structure DEx where
  nx : Nat → List Sv → Prop
  rt : Nat → PyData → Prop
  ex : Addr → PyData → Nat → List Sv → Prop
abbrev DStX := DEx → Nat → List Sv → Prop
section
variable (K : PySem.W.Frag) (W : Option Addr) (Wx : WX) (fld : Addr → Str)
def tSX (G : DStX) : TS := fun D σ H => ∃ E O g δ P, Rel K W E O g H σ δ ∧ G P g δ ∧
  (∀ O' g' δ' σ' H', P.nx g' δ' → Rel K W E O' g' H' σ' δ' → (∀ a, O a = true → O' a = true) → Same (hid O H) (hid O' H') → D.nx σ' H') ∧
  (∀ g' d v H', P.rt g' d → Fin K W E g' H' v d → D.rt v H') ∧
  (∀ C d v dd O' g' δ' σ' H', P.ex C d g' δ' → Rel K W E O' g' H' σ' δ' → (∀ a, O a = true → O' a = true) → Same (hid O H) (hid O' H') → hid O' H' dd = some (.xd [(fld C, v)]) → Dp K (hid O' H') v d → Wx (.ref C) (some dd) σ' H')
/-- a contract that may let an exception out -/
abbrev DSpX := List PyData → (PyData → Prop) → (Addr → PyData → Prop) → Prop
def spDX (n : Nat) (F : DSpX) : Sp := fun vs H Q E => vs.length = n ∧ ∃ O ds P PE, (∀ a, O a = true → H a ≠ none) ∧ DpAll K (hid O H) vs ds ∧ F ds P PE ∧ (∀ d v H', P d → Same H H' → Dp K (hid O H') v d → Q v H') ∧
  (∀ C d v dd H', PE C d → Same H H' → hid O H' dd = some (.xd [(fld C, v)]) → Dp K (hid O H') v d → E (.ref C) (some dd) H')
end
structure CaX (P : Program) (w : World) (K : PySem.W.Frag) (mg : Str → Option Value) (base : Heap) (k : Nat) (x : Str) (sp : Sp) : Prop where
  ex : ∃ (f : Addr) (fd : FuncData) (ps : List Str), FnOk P w K mg base (L2N.CX P w) k f fd ps sp ∧ mg x = some (.ref f) ∧ PySem.W.keepIn K (.ref f) = true ∧ Binds K fd ps []
section
variable {X : Cx} {W : Option Addr} {Wx : WX} {fld : Addr → Str}
abbrev DSX (X : Cx) (W : Option Addr) (Wx : WX) (fld : Addr → Str) (st : Stmt) (G : DStX) : Prop := PS X st (tSX X.K W Wx fld G)
abbrev DSsX (X : Cx) (W : Option Addr) (Wx : WX) (fld : Addr → Str) (st : List Stmt) (G : DStX) : Prop := PSs X st (tSX X.K W Wx fld G)
theorem dsx_of {st : Stmt} {G : DSt} (h : DS X W st G) : DSX X W Wx fld st (fun P g δ => G ⟨P.nx, P.rt⟩ g δ) :=
  ps_mono h fun D σ H ⟨E, O, g, δ, P, R, f, kn, kr, kx⟩ => ⟨E, O, g, δ, _, R, f, kn, kr⟩
theorem dsx_nil : DSsX X W Wx fld [] (fun P g δ => P.nx g δ) :=
  pss_mono pss_nil fun D σ H ⟨E, O, g, δ, P, R, f, kn, kr, kx⟩ => kn O g δ σ H f R (fun _ h => h) (Same.refl _)
theorem dsx_one {s : Stmt} {G : DStX} (h : DSX X W Wx fld s G) : DSsX X W Wx fld [s] G := pss_one h
theorem dsx_cons {s : Stmt} {r : List Stmt} {G1 G2 : DStX} (h1 : DSX X W Wx fld s G1) (h2 : DSsX X W Wx fld r G2) : DSsX X W Wx fld (s :: r) (fun P g δ => G1 ⟨fun g1 δ1 => G2 P g1 δ1, P.rt, P.ex⟩ g δ) :=
  pss_mono (pss_cons h1 h2) fun D σ H ⟨E, O, g, δ, P, R, f, kn, kr, kx⟩ => ⟨E, O, g, δ, _, R, f, fun O1 g1 δ1 σ1 H1 p R1 u1 s1 =>
    ⟨E, O1, g1, δ1, P, R1, p, fun O2 g2 δ2 σ2 H2 p2 R2 u2 s2 => kn O2 g2 δ2 σ2 H2 p2 R2 (fun a h => u2 a (u1 a h)) (s1.trans s2), kr,
      fun C d v dd O2 g2 δ2 σ2 H2 p2 R2 u2 s2 e x => kx C d v dd O2 g2 δ2 σ2 H2 p2 R2 (fun a h => u2 a (u1 a h)) (s1.trans s2) e x⟩, kr, kx⟩
theorem dsx_if {c : Expr} {a b : List Stmt} {Fc : DB} {G1 G2 : DStX} {pos : Pos} (hc : DTs X W c Fc) (ha : DSsX X W Wx fld a G1) (hb : DSsX X W Wx fld b G2) : DSX X W Wx fld (.If c a b pos) (fun P g δ => Fc g δ fun g1 k => if k = true then G1 P g1 δ else G2 P g1 δ) :=
  ps_mono (ps_if hc ha hb) fun D σ H ⟨E, O, g, δ, P, R, f, kn, kr, kx⟩ => ⟨E, O, g, δ, _, R, f, fun g1 c H1 p R1 s1 => by
    have kx' := fun C d v dd O2 g2 δ2 σ2 H2 (p2 : P.ex C d g2 δ2) R2 u2 s2 e x => kx C d v dd O2 g2 δ2 σ2 H2 p2 R2 u2 (s1.hid.trans s2) e x
    cases c with
    | true => exact ⟨E, O, g1, δ, P, R1, p, fun O2 g2 δ2 σ2 H2 p2 R2 u2 s2 => kn O2 g2 δ2 σ2 H2 p2 R2 u2 (s1.hid.trans s2), kr, kx'⟩
    | false => exact ⟨E, O, g1, δ, P, R1, p, fun O2 g2 δ2 σ2 H2 p2 R2 u2 s2 => kn O2 g2 δ2 σ2 H2 p2 R2 u2 (s1.hid.trans s2), kr, kx'⟩⟩
/-- the __init__ of an own exception that stores its argument -/
def spI (K : PySem.W.Frag) (C : Addr) (f : Str) : Sp := fun vs H Q _ => ∃ (a : Addr) (y : V), vs = [.ref a, y] ∧ OexC K C ∧ PySem.W.findIn K (.ref C) f = some none ∧ H a = some (exo a C none) ∧ ∀ dx, H dx = none → dx ≠ a → Q .non (upd (upd H dx (exd dx [(f, y)])) a (exo a C (some dx)))
structure Ec (P : Program) (w : World) (K : PySem.W.Frag) (mg : Str → Option Value) (base : Heap) (x f : Str) (C : Addr) : Prop where
  oex : OexC K C
  xf : XfC K C
  no : PySem.W.findIn K (.ref C) f = some none
  hm : mg x = some (.ref C)
  ini : ∃ (fI : Addr) (fd : FuncData) (ps : List Str), PySem.W.findIn K (.ref C) "__init__" = some (some (.ref fI)) ∧ PySem.W.typeIn K (.ref fI) = some (.type "function") ∧ FnOk P w K mg base CX0 1 fI fd ps (spI K C f) ∧ Binds K fd ps []
theorem dsx_raise {x : Str} {C : Addr} {e : Expr} {F : DT} {p cp pos : Pos} {k : Nat} (hc : X.calm = true) (tk : L2N.Takes X Wx) (Ex : Ec X.prog X.w X.K X.mg X.base x (fld C) C) (hr : Room k X.A) (hk : 2 ≤ k) (ha : DE X W e F)
    (hg : Gl X x := by rfl) (hdb : (x == ("__debug__" : Str)) = false := by decide) (he : starEach [e] X.env = (false, eval e X.env) :: starEach [] X.env := by rfl) (hpl : (backTo cp (starEach [] X.env)).any (·.1) = false := by rfl) :
    DSX X W Wx fld (.Raise (some (.Call (.Name x p) [e] [] cp)) none pos) (fun P g δ => F g δ fun g1 d => P.ex C d g1 δ) := by
  obtain ⟨fI, fd, ps, i1, i2, i3, i4⟩ := Ex.ini
  refine ps_mono (L2N.ps_raise hc tk (pmk_oexN (CX := CX0) (dvs := []) Ex.oex i1 i2 i3 (hr.mono hk) i4 .nil pass0 hg Ex.hm (pa_cons ha pa_nil he) hdb he hpl)) fun D σ H ⟨E, O, g, δ, P, R, f, kn, kr, kx⟩ => ?_
  refine ⟨E, O, g, δ, _, R, f, fun g1 d v H1 p R1 s1 x1 => ⟨by show 1 ≤ 1000; decide, fun a na => ?_⟩⟩
  refine ⟨a, v, rfl, Ex.oex, Ex.no, upd_same, fun dx hdx hne => ?_⟩
  have n1 : H1 dx = none := by rw [upd_ne hne] at hdx; exact hdx
  refine ⟨rfl, dx, [(fld C, v)], upd_same, ?_, n1, ?_⟩
  · rw [upd_ne hne, upd_same]
  have eq : upd (del (upd (upd (upd H1 a (exo a C none)) dx (exd dx [(fld C, v)])) a (exo a C (some dx))) a) dx (.xd [(fld C, v)]) = upd H1 dx (.xd [(fld C, v)]) := by
    funext b
    by_cases h1 : b = dx
    · subst h1; rw [upd_same, upd_same]
    · rw [upd_ne h1, upd_ne h1]
      by_cases h2 : b = a
      · subst h2; rw [del_same, na]
      · rw [del_ne h2, upd_ne h2, upd_ne h1, upd_ne h2]
  rw [eq]
  have od : O dx = false := R1.free n1
  refine kx C d v dx O g1 δ σ _ p (R1.grow (same_new n1)) (fun _ h => h) (s1.hid.trans (same_hid (same_new n1))) ?_ (x1.keep (same_hid (same_new n1)))
  rw [hid_no od, upd_same]
theorem dsx_set {x fx : Str} {p pp cp pos : Pos} {e : Expr} {es : List Expr} {Fs : DL} {n k j : Nat} {F : DSpX} (i : Nat) (hN : X.N.Nodup) (tk : L2N.Takes X Wx) (c : CaX X.prog X.w X.K X.mg X.base k fx (spDX X.K fld n F)) (hr : Room j X.A) (hk : k ≤ j) (ha : DA X W (e :: es) Fs)
    (hi : X.N[i]? = some x := by rfl) (hx : Loc X.env.scope x := by first | exact Or.inl rfl | exact Or.inr rfl) (hs : swapsWith (.Call (.Name fx p) (e :: es) [] cp) (some (.Name x pp)) pos.line X.env = pure false := by rfl)
    (hf : X.fn x = true ∨ X.env.scope.names.lookup x = some .local := by first | exact .inl rfl | exact .inr rfl | assumption) (hg : Gl X fx := by rfl)
    (hdb : (fx == ("__debug__" : Str)) = false := by decide) (he : starEach (e :: es) X.env = (false, eval e X.env) :: starEach es X.env := by rfl) (hpl : (backTo cp (starEach es X.env)).any (·.1) = false := by rfl) :
    DSX X W Wx fld (.Assign [.Name x pp] (.Call (.Name fx p) (e :: es) [] cp) pos) (fun P g δ => Fs g δ fun g1 ds => ds.length = n ∧ F ds (fun d => P.nx g1 (δ.set i (.dat d))) (fun C d => P.ex C d g1 δ)) := by
  obtain ⟨f, fd, ps, h1, h2, h3, h4⟩ := c.ex
  refine ps_mono (ps_set hN hi hx (pe_callS (E := fun σ => WE Wx σ) h1 (hr.mono hk) hg h2 h3 h4 (fun σ => L2N.passAt tk σ) ha hdb he hpl) hs hf) fun D σ H ⟨E, O, g, δ, P, R, f, kn, kr, kx⟩ => ?_
  refine ⟨E, O, g, δ, _, R, f, fun g1 ds vs H1 ⟨l, q⟩ R1 s1 x1 => ⟨by rw [dpAll_len x1]; exact l, O, ds, _, _, R1.there, x1, q, fun d v H' p s x => ?_, fun C d v dd H' p s e x => ?_⟩⟩
  · exact kn O g1 _ _ H' p ((R1.grow s).setD x) (fun _ h => h) (s1.hid.trans (same_hid s))
  · exact kx C d v dd O g1 δ σ H' p (R1.grow s) (fun _ h => h) (s1.hid.trans (same_hid s)) e x
end
section
variable {P : Program} {w : World} {K : PySem.W.Frag} {mg : Str → Option Value} {base : Heap} {x qual : Str} {params : Arguments} {body : List Stmt} {scope : Scope} {f : Addr} {fd : FuncData} {N ps : List Str} {k n : Nat} {F : DSpX} {G : DStX} {fld : Addr → Str}
abbrev cxN (P : Program) (w : World) (K : PySem.W.Frag) (mg : Str → Option Value) (base : Heap) (N : List Str) (qual : Str) (scope : Scope) (f : Addr) (cd : Value) (A : Around) (outer : List Env) (s : Shared) (H : Hp) (E : XK) : Cx :=
  cxOf (L2N.CX P w) P w K mg base N qual scope f cd A outer s H E
theorem takes_cxN {cd : Value} {A : Around} {outer : List Env} {s : Shared} {H : Hp} {E : XK} : L2N.Takes (cxN P w K mg base N qual scope f cd A outer s H E) (fun cls d _ H => E cls d H) :=
  L2N.takes_of rfl rfl rfl rfl
theorem cax_of (Fd : FunD K x qual params body scope [] [] f fd) (S : FnScope N ps scope) (hps : ps.length = n) (hm : mg x = some (.ref f))
    (hbd : ∀ (kV doc pm : Value) (an : Option Addr) (cdv ct : Value) (us : List Value), us.length = ps.length → bindArgs (PySem.W.fnOf x qual params body scope .none kV doc pm an cdv ct) ⟨us, []⟩ = pure (ps.zip us))
    (hb : ∀ cdv A outer s H E, Room k (A.deeper (envOfC qual scope s.heap.objs.size f cdv)) → DSsX (cxN P w K mg base N qual scope f cdv A outer s H E) none (fun cls d _ H => E cls d H) fld body G)
    (pure_ : ∀ ds P PE, ds.length = n → F ds P PE → G ⟨fun _ _ => P .none, fun _ d => P d, fun C d _ _ => PE C d⟩ 0 (initD N ds)) : CaX P w K mg base (k + 1) x (spDX K fld n F) := by
  have hn : n ≤ N.length := by have := congrArg List.length S.pre; rw [List.length_take] at this; omega
  refine ⟨f, fd, ps, Fd.ok S (fun vs H Q E h => h.1.trans hps.symm) (fun cdv A outer s H vs Q E hr h => ⟨_, hb cdv A outer s H E hr, ?_⟩), hm, Fd.kp, Fd.bindsN hbd⟩
  obtain ⟨l, O, ds, P, PE, t, x, f, kk, kx⟩ := h
  refine ⟨⟨O, H⟩, O, 0, initD N ds, _, rel_start t x (by omega), pure_ ds P PE (by rw [← dpAll_len x]; exact l) f, fun O' g' δ' σ' H' p R' u s => ?_, fun g' d v H' p f' => ?_, fun C d v dd O' g' δ' σ' H' p R' u s e x' => ?_⟩
  · exact kk .none .non H' p (fun a o q => R'.same a o (fun z => nomatch z) q) .non
  · exact kk d v H' p (fun a o q => f'.same a o (fun z => nomatch z) q) f'.dat
  · have hl := hid_less (H := H') R'.sub
    exact kx C d v dd H' p (fun a o q => R'.same a o (fun z => nomatch z) q) (hl _ _ e) (x'.keep hl)
end
end Lk

set_option Elab.async false
set_option linter.all false
set_option maxRecDepth 100000
set_option maxHeartbeats 4000000
/-! try with three clauses, over data -/
namespace Lk
open PySem PySem.Spec PyProof.Rows L2 L2H HotX LkHot
structure Ecs (P : Program) (w : World) (K : PySem.W.Frag) (mg : Str → Option Value) (base : Heap) (a b c : Addr) : Prop where
  nr : Ec P w K mg base "NoRoom" "ring" a
  lo : Ec P w K mg base "Loose" "lot" b
  af : Ec P w K mg base "Afloat" "lot" c
  ab : b ≠ a
  ac : c ≠ a
  bc : c ≠ b
  aa : PySem.W.exmOne K (.ref a) (.ref a) = some true
  ba : PySem.W.exmOne K (.ref b) (.ref a) = some false
  bb : PySem.W.exmOne K (.ref b) (.ref b) = some true
  ca : PySem.W.exmOne K (.ref c) (.ref a) = some false
  cb : PySem.W.exmOne K (.ref c) (.ref b) = some false
  cc : PySem.W.exmOne K (.ref c) (.ref c) = some true
def fldE (a : Addr) : Addr → Str := fun C => if C = a then "ring" else "lot"
section
variable {X : Cx} {W : Option Addr} {K : PySem.W.Frag} {E : En} {O : Own} {g : Nat} {H : Hp} {σ : L2.St} {δ : List Sv} {i : Nat}
/-- a slot gets something that is not owned -/
theorem Rel.setN (R : Rel K W E O g H σ δ) {v : V} {x : Sv} (hx : x.isOwn = false) (h : Sl K O H (some v) x) : Rel K W E O g H (σ.set i (some v)) (δ.set i x) where
  len := by rw [List.length_set, List.length_set]; exact R.len
  same := R.same
  sub := R.sub
  new := R.new
  there := R.there
  urn := R.urn
  sl := fun j y q => by
    by_cases e : i = j
    · subst e
      have hi : i < δ.length := by
        rcases Nat.lt_or_ge i δ.length with z | z
        · exact z
        · rw [List.getElem?_eq_none (by simpa using z)] at q; cases q
      rw [List.getElem?_set_self hi] at q
      cases q
      exact ⟨some v, by rw [List.getElem?_set_self (by rw [R.len]; exact hi)], h⟩
    · rw [List.getElem?_set_ne e] at q
      obtain ⟨z, h1, h2⟩ := R.sl j y q
      exact ⟨z, by rw [List.getElem?_set_ne e]; exact h1, h2⟩
  own0 := fun j y a q o z => by
    by_cases e : i = j
    · subst e
      by_cases hi : i < δ.length
      · rw [List.getElem?_set_self hi] at q
        cases q; rw [hx] at o; cases o
      · rw [List.getElem?_eq_none (by simpa using hi)] at q; cases q
    · rw [List.getElem?_set_ne e] at q z
      exact R.own0 j y a q o z
  apart := fun j k y y' a n q q' o o' z => by
    by_cases e : i = j
    · subst e
      by_cases hi : i < δ.length
      · rw [List.getElem?_set_self hi] at q
        cases q; rw [hx] at o; cases o
      · rw [List.getElem?_eq_none (by simpa using hi)] at q; cases q
    · by_cases e' : i = k
      · subst e'
        by_cases hi : i < δ.length
        · rw [List.getElem?_set_self hi] at q'
          cases q'; rw [hx] at o'; cases o'
        · rw [List.getElem?_eq_none (by simpa using hi)] at q'; cases q'
      · rw [List.getElem?_set_ne e] at q z
        rw [List.getElem?_set_ne e'] at q' ⊢
        exact R.apart j k y y' a n q q' o o' z
theorem Rel.unset (R : Rel K W E O g H σ δ) : Rel K W E O g H (σ.set i none) (δ.set i .emp) :=
  R.forget (List.length_set ..) (List.length_set ..) fun j x h => by
    by_cases e : i = j
    · subst e
      by_cases hi : i < δ.length
      · rw [List.getElem?_set_self hi] at h
        cases h
        exact .inl rfl
      · rw [List.getElem?_eq_none (by simpa using hi)] at h; cases h
    · rw [List.getElem?_set_ne e] at h
      exact .inr ⟨h, List.getElem?_set_ne e⟩
/-- flaw.f in a suite -/
theorem de_xf {a0 C : Addr} {oe : Obj} {cls : Value} {d : Option Addr} {pn : List (Addr × Obj)} {x f : Str} {p pos : Pos} (i : Nat) (T : XfC X.K C) (hno : PySem.W.findIn X.K (.ref C) f = some none) (hz : L2N.Zn cls d oe) (hf : ∃ vs, oe.data = .fields vs)
    (hN : X.N[i]? = some x := by rfl) (hv : Vis X.env.scope x := by first | exact Or.inl rfl | exact Or.inr (Or.inl rfl) | exact Or.inr (Or.inr rfl)) (hd : (x == ("__debug__" : Str)) = false := by decide)
    (hcd : (x == ("__classdict__" : Str)) = false := by decide) (hb : attributeBase (.Name x p) f X.env (eval (.Name x p) X.env) = eval (.Name x p) X.env := by rfl) :
    DE (X.suite a0 ((a0, oe) :: pn)) W (.Attribute (.Name x p) f pos) (fun g δ P => ∃ dd e, cls = .ref C ∧ d = some dd ∧ δ[i]? = some (.exc a0 dd f e) ∧ P g e) :=
  pe_mono (pe_xf T hno hz.zc hf (pe_var (X := X.suite a0 ((a0, oe) :: pn)) hN hv hd hcd) hb) fun σ H Q ⟨E, O, g, δ, P, R, ⟨dd, e, e1, e2, e3, q⟩, k⟩ => by
    obtain ⟨y, h1, h2, v, h3, h4⟩ := R.sl i _ e3
    subst h2
    exact ⟨.ref a0, h1, rfl, e1, dd, [(f, v)], v, e2, hid_same _ _ h3, by simp [List.lookup], k g e v H q R .refl h4⟩
theorem md_suite {a0 : Addr} {oe : Obj} {cls : Value} {d : Option Addr} {pn : List (Addr × Obj)} (hz : L2N.Zn cls d oe) (hf : ∃ vs, oe.data = .fields vs) : Md (X.suite a0 ((a0, oe) :: pn)) := by
  obtain ⟨vs, hd⟩ := hf
  exact .inr ⟨rfl, (a0, oe), ⟨rfl, vs, hd, hz.2.2 vs hd⟩, List.mem_cons_self⟩
theorem rm_suite {k : Nat} (r : Room k X.A) {a0 : Addr} {pn : List (Addr × Obj)} : Rm (X.suite a0 pn) k := ⟨⟨r.dp, r.un⟩, fun z => by cases z⟩
abbrev HdG := Addr → Value → Option Addr → DSt
/-- try: .. except A as n: .. except B as n: .. except C as n: .. -/
theorem ds_try3 {a b c : Addr} {base : Heap} {body s1 s2 s3 : List Stmt} {t1 t2 t3 : Stmt} {n x1 x2 x3 : Str} {p1 p2 p3 q1 q2 q3 pos : Pos} {Gb : DStX} {G1 G2 G3 : HdG} (i : Nat) (Ex : Ecs X.prog X.w X.K X.mg base a b c) (hs : X.stack = X.env :: X.outer) (hf : X.env.frame = some X.env.locals) (hN : X.N.Nodup)
    (hb : ∀ (Wx : WX) (pn : List (Addr × Obj)) (xe : Value → Shared → Prop), L2N.Takes (X.tr pn xe) Wx → DSsX (X.tr pn xe) W Wx (fldE a) body Gb)
    (h1 : ∀ (a0 : Addr) (oe : Obj) (cls : Value) (d : Option Addr) (pn : List (Addr × Obj)), L2N.Zn cls d oe → (∃ vs, oe.data = .fields vs) → DSs (X.suite a0 ((a0, oe) :: pn)) W (t1 :: s1) (G1 a0 cls d))
    (h2 : ∀ (a0 : Addr) (oe : Obj) (cls : Value) (d : Option Addr) (pn : List (Addr × Obj)), L2N.Zn cls d oe → (∃ vs, oe.data = .fields vs) → DSs (X.suite a0 ((a0, oe) :: pn)) W (t2 :: s2) (G2 a0 cls d))
    (h3 : ∀ (a0 : Addr) (oe : Obj) (cls : Value) (d : Option Addr) (pn : List (Addr × Obj)), L2N.Zn cls d oe → (∃ vs, oe.data = .fields vs) → DSs (X.suite a0 ((a0, oe) :: pn)) W (t3 :: s3) (G3 a0 cls d))
    (n1 : Names X x1 (.ref a)) (n2 : Names X x2 (.ref b)) (n3 : Names X x3 (.ref c)) (hi : X.N[i]? = some n := by rfl) (hln : X.env.kindOf n = some .local := by rfl) :
    DS X W (.Try body [.ExceptHandler (some (.Name x1 p1)) (some n) (t1 :: s1) q1, .ExceptHandler (some (.Name x2 p2)) (some n) (t2 :: s2) q2, .ExceptHandler (some (.Name x3 p3)) (some n) (t3 :: s3) q3] [] [] pos)
      (fun P g δ => Gb ⟨P.nx, P.rt, fun C d g1 δ1 => ∀ a0 dd, (C = a ∧ G1 a0 (.ref C) (some dd) ⟨fun g2 δ2 => P.nx g2 (δ2.set i .emp), P.rt⟩ g1 (δ1.set i (.exc a0 dd "ring" d))) ∨ (C = b ∧ G2 a0 (.ref C) (some dd) ⟨fun g2 δ2 => P.nx g2 (δ2.set i .emp), P.rt⟩ g1 (δ1.set i (.exc a0 dd "lot" d))) ∨
        (C = c ∧ G3 a0 (.ref C) (some dd) ⟨fun g2 δ2 => P.nx g2 (δ2.set i .emp), P.rt⟩ g1 (δ1.set i (.exc a0 dd "lot" d)))⟩ g δ) := by
  refine ps_mono (ps_try_manyAs (tb := fun Wx => tSX X.K W Wx (fldE a) Gb) (Wout := fun _ _ _ _ => False) (i := i) hs hf hN hi hln (fun u s' ⟨_, _, _, _, _, _, _, _, _, _, _, _, _, _, _, _, z⟩ => z.elim) (fun Wx pn xe tk _ => hb Wx pn xe tk)
    (.cons n1 (ts := fun a0 cls d => tS X.K W (G1 a0 cls d)) (fun a0 oe cls d pn hz hf => h1 a0 oe cls d pn hz hf) (.cons n2 (ts := fun a0 cls d => tS X.K W (G2 a0 cls d)) (fun a0 oe cls d pn hz hf => h2 a0 oe cls d pn hz hf) (.cons n3 (ts := fun a0 cls d => tS X.K W (G3 a0 cls d)) (fun a0 oe cls d pn hz hf => h3 a0 oe cls d pn hz hf) .nil))))
    fun D σ H ⟨E, O, g, δ, P, R, f, kn, kr⟩ => ?_
  refine ⟨E, O, g, δ, _, R, f, kn, kr, fun C d v dd O' g' δ' σ' H' p R' u' s' e x => ?_⟩
  have key : ∀ (G : HdG) (fl : Str), fl = fldE a C → (∀ a0 dd, G a0 (.ref C) (some dd) ⟨fun g2 δ2 => P.nx g2 (δ2.set i .emp), P.rt⟩ g' (δ'.set i (.exc a0 dd fl d))) → ∀ a0, tS X.K W (G a0 (.ref C) (some dd)) { nx := fun σ' H' => D.nx (σ'.set i none) H', rt := D.rt, bk := fun σ' H' => D.bk (σ'.set i none) H', ct := fun σ' H' => D.ct (σ'.set i none) H' } (σ'.set i (some (.ref a0))) H' := fun G fl efl hG a0 => by
    subst efl
    refine ⟨E, O', g', _, _, R'.setN (x := .exc a0 dd (fldE a C) d) rfl ⟨rfl, v, e, x⟩, hG a0 dd, fun O2 g2 δ2 σ2 H2 p2 R2 u2 s2 => ?_, kr⟩
    exact kn O2 g2 _ _ H2 p2 R2.unset (fun a h => u2 a (u' a h)) (s'.trans s2)
  have key2 : ∀ (G : HdG) (fl : Str), fl = fldE a C → (∀ a0 dd, G a0 (.ref C) (some dd) ⟨fun g2 δ2 => P.nx g2 (δ2.set i .emp), P.rt⟩ g' (δ'.set i (.exc a0 dd fl d))) → ∀ a0, H' a0 = none → tS X.K W (G a0 (.ref C) (some dd)) { nx := fun σ' H' => D.nx (σ'.set i none) H', rt := D.rt, bk := fun σ' H' => D.bk (σ'.set i none) H', ct := fun σ' H' => D.ct (σ'.set i none) H' } (σ'.set i (some (.ref a0))) H' := fun G fl efl hG a0 _ => key G fl efl hG a0
  by_cases ea : C = a
  · subst ea
    refine ⟨true, Ex.aa, fun _ => key2 G1 "ring" (by unfold fldE; rw [if_pos rfl]) fun a0 dd => ?_, fun z => by cases z⟩
    rcases p a0 dd with q | q | q
    · exact q.2
    · exact absurd q.1.symm Ex.ab
    · exact absurd q.1.symm Ex.ac
  · by_cases eb : C = b
    · subst eb
      refine ⟨false, Ex.ba, fun z => by (cases z), fun _ => ⟨true, Ex.bb, fun _ => key2 G2 "lot" (by unfold fldE; rw [if_neg Ex.ab]) fun a0 dd => ?_, fun z => by (cases z)⟩⟩
      rcases p a0 dd with q | q | q
      · exact absurd q.1 ea
      · exact q.2
      · exact absurd q.1.symm Ex.bc
    · have ec : C = c := by
        rcases p 0 0 with q | q | q
        · exact absurd q.1 ea
        · exact absurd q.1 eb
        · exact q.1
      subst ec
      refine ⟨false, Ex.ca, fun z => by (cases z), fun _ => ⟨false, Ex.cb, fun z => by (cases z), fun _ => ⟨true, Ex.cc, fun _ => key2 G3 "lot" (by unfold fldE; rw [if_neg Ex.ac]) fun a0 dd => ?_, fun z => by (cases z)⟩⟩⟩
      rcases p a0 dd with q | q | q
      · exact absurd q.1 ea
      · exact absurd q.1 eb
      · exact q.2
end
end Lk

set_option Elab.async false
set_option linter.all false
set_option maxRecDepth 100000
set_option maxHeartbeats 4000000
namespace Lk
open PySem PySem.Spec PyProof.Rows L2 L2H HotX LkHot LkHead
variable {P : Program} {w : World} {K : PySem.W.Frag} {mg : Str → Option Value} {base : Heap}
open Classical
/-! ### what may be let out -/
theorem ex_nr {a b c : Addr} (Ex : Ecs P w K mg base a b c) : Ec P w K mg base "NoRoom" (fldE a a) a := by
  have : fldE a a = "ring" := if_pos rfl
  rw [this]; exact Ex.nr
theorem ex_lo {a b c : Addr} (Ex : Ecs P w K mg base a b c) : Ec P w K mg base "Loose" (fldE a b) b := by
  have : fldE a b = "lot" := if_neg Ex.ab
  rw [this]; exact Ex.lo
theorem ex_af {a b c : Addr} (Ex : Ecs P w K mg base a b c) : Ec P w K mg base "Afloat" (fldE a c) c := by
  have : fldE a c = "lot" := if_neg Ex.ac
  rw [this]; exact Ex.af
def ringD (ks : List Nat) : PyData := .tuple (ks.map fun k => mkD (true, k))
def X_sure_room (a b c : Addr) : DSpX := fun ds P PE => ∃ (d : Deal) (s : PyData), ds = [s] ∧ d.At s ∧ d.Ok ∧ (d.Feas → P d.D) ∧ (∀ ks, d.NR (some ks) → PE a (ringD ks))
def Deal.near (d : Deal) : List Nat := d.lots.headD []
def Deal.rest (d : Deal) : List Nat := (List.range d.n).filter fun k => !decide (k ∈ d.near)
def X_standing (a b c : Addr) : DSpX := fun ds P PE => ∃ (d : Deal) (s : PyData), ds = [s] ∧ d.At s ∧ d.Ok ∧ (∀ ks, d.NR (some ks) → PE a (ringD ks)) ∧
  (d.Feas → ∀ l, d.loose = some l → PE b (lotD l)) ∧ (d.Feas → d.loose = none → d.near.length < d.n → PE c (lotD d.rest)) ∧ (d.Feas → d.loose = none → d.n ≤ d.near.length → P d.D)
theorem lots_ne {d : Deal} (k : d.Ok) : ∃ l r, d.lots = l :: r := by
  have h := Nm.kept_fold d.ties (List.range d.n)
  have o := Nm.names_ok k.ties
  have hp := k.pos
  have h0 : (Nm.namesOf d.n d.ties).getD 0 0 ∈ Nm.kept (Nm.namesOf d.n d.ties) := by
    unfold Nm.kept
    have hm : (Nm.namesOf d.n d.ties).getD 0 0 ∈ Nm.namesOf d.n d.ties := by
      rw [List.getD_eq_getElem?_getD, List.getElem?_eq_getElem (by rw [o.len]; exact hp)]
      exact List.getElem_mem _
    rw [List.mem_filter, List.mem_range, o.len]
    exact ⟨names_lt o _ hm, by simpa using hm⟩
  unfold Deal.lots Nm.lotsOf
  cases q : Nm.kept (Nm.namesOf d.n d.ties) with
  | nil => rw [q] at h0; cases h0
  | cons x xs => exact ⟨_, _, rfl⟩
theorem Deal.Ring.len {d : Deal} {ks : List Nat} (r : d.Ring (hardM ks)) (k : d.Ok) : ks.length ≤ d.n := by
  obtain ⟨rs, r1, r2, r3, r4⟩ := r.hs
  rw [← r2]
  have h := r3.2.2
  rw [List.map_map] at h
  have := nodup_le (n := d.n) h (fun x hx => by
    obtain ⟨e, he, rfl⟩ := List.mem_map.mp hx
    have : some e ∈ rs.map some := List.mem_map.mpr ⟨e, he, rfl⟩
    rw [← r4] at this
    obtain ⟨q, _, e2⟩ := List.mem_map.mp this
    exact (k.hard e (List.mem_of_getElem? e2)).1)
  simpa using this
theorem loose_lot_of {d : Deal} {l : List Nat} (h : d.loose = some l) : ∃ i, l = d.lot i := by
  have key : ∀ es : List (Nat × Nat × PyData), d.looseIn es = some l → ∃ i, l = d.lot i := by
    intro es
    induction es with
    | nil => intro h; cases h
    | cons e es ih =>
      intro h
      unfold Deal.looseIn at h
      split at h
      · exact ih h
      · exact ⟨_, (Option.some.inj h).symm⟩
  exact key _ h
theorem lot_len (d : Deal) (i : Nat) : (d.lot i).length ≤ d.n := by
  unfold Deal.lot
  have := List.length_filter_le (fun j => decide (d.Reach i j)) (List.range d.n)
  simpa using this
def F_law_heard : DSp := fun ds P => ∃ (d : Deal) (s : PyData), ds = [s] ∧ d.At s ∧ d.Ok ∧ (¬ d.Feas → P (.list [.str "room", .bool true])) ∧
  (d.Feas → ∀ l, d.loose = some l → P (.list [.str "loose", .bool (d.isLoose l)])) ∧ (d.Feas → d.loose = none → d.near.length < d.n → P (.list [.str "afloat", lotD d.rest])) ∧ (d.Feas → d.loose = none → d.n ≤ d.near.length → P d.D)
abbrev s_iNR : Stmt := inClass (top 4) 0
abbrev s_iLo : Stmt := inClass (top 5) 0
abbrev s_iAf : Stmt := inClass (top 6) 0
theorem sc_iNR : FnScope ["self", "ring"] ["self", "ring"] (defScope s_iNR) := ⟨rfl, rfl, rfl, by decide +kernel, rfl, by decide +kernel, by decide +kernel⟩
theorem ini_iNR {C f : Addr} {fd : FuncData} (Fd : FunD K "__init__" "NoRoom.__init__" (defArgs s_iNR) (defBody s_iNR) (defScope s_iNR) [] [] f fd) : FnOk P w K mg base CX0 1 f fd ["self", "ring"] (spI K C "ring") := by
  refine Fd.ok sc_iNR (fun vs H Q E h => ?_) (fun cdv A outer s H vs Q E hr h => ?_)
  · obtain ⟨a, y, rfl, _⟩ := h
    rfl
  · obtain ⟨a, y, rfl, T, hno, ha, k⟩ := h
    refine ⟨_, pss_one (ps_ost (pe_var (i := 0) rfl (.inl rfl)) (pe_var (i := 1) rfl (.inl rfl))), ?_⟩
    exact ⟨y, rfl, .ref a, rfl, a, C, rfl, T, hno, .inl ⟨ha, fun dx n ne => k dx n ne⟩⟩
theorem sc_iLo : FnScope ["self", "lot"] ["self", "lot"] (defScope s_iLo) := ⟨rfl, rfl, rfl, by decide +kernel, rfl, by decide +kernel, by decide +kernel⟩
theorem ini_iLo {C f : Addr} {fd : FuncData} (Fd : FunD K "__init__" "Loose.__init__" (defArgs s_iLo) (defBody s_iLo) (defScope s_iLo) [] [] f fd) : FnOk P w K mg base CX0 1 f fd ["self", "lot"] (spI K C "lot") := by
  refine Fd.ok sc_iLo (fun vs H Q E h => ?_) (fun cdv A outer s H vs Q E hr h => ?_)
  · obtain ⟨a, y, rfl, _⟩ := h
    rfl
  · obtain ⟨a, y, rfl, T, hno, ha, k⟩ := h
    refine ⟨_, pss_one (ps_ost (pe_var (i := 0) rfl (.inl rfl)) (pe_var (i := 1) rfl (.inl rfl))), ?_⟩
    exact ⟨y, rfl, .ref a, rfl, a, C, rfl, T, hno, .inl ⟨ha, fun dx n ne => k dx n ne⟩⟩
theorem sc_iAf : FnScope ["self", "lot"] ["self", "lot"] (defScope s_iAf) := ⟨rfl, rfl, rfl, by decide +kernel, rfl, by decide +kernel, by decide +kernel⟩
theorem ini_iAf {C f : Addr} {fd : FuncData} (Fd : FunD K "__init__" "Afloat.__init__" (defArgs s_iAf) (defBody s_iAf) (defScope s_iAf) [] [] f fd) : FnOk P w K mg base CX0 1 f fd ["self", "lot"] (spI K C "lot") := by
  refine Fd.ok sc_iAf (fun vs H Q E h => ?_) (fun cdv A outer s H vs Q E hr h => ?_)
  · obtain ⟨a, y, rfl, _⟩ := h
    rfl
  · obtain ⟨a, y, rfl, T, hno, ha, k⟩ := h
    refine ⟨_, pss_one (ps_ost (pe_var (i := 0) rfl (.inl rfl)) (pe_var (i := 1) rfl (.inl rfl))), ?_⟩
    exact ⟨y, rfl, .ref a, rfl, a, C, rfl, T, hno, .inl ⟨ha, fun dx n ne => k dx n ne⟩⟩
theorem cx_sure_room {a b c : Addr} {f : Addr} {fd : FuncData} (B : Bi K mg) (Ex : Ecs P w K mg base a b c) (Fd : FunD K "sure_room" "sure_room" (defArgs s_sure_room) (defBody s_sure_room) (defScope s_sure_room) [] [] f fd) (hm : mg "sure_room" = some (.ref f)) (c_tuple_of : Ca2 P w K mg base 13 "tuple_of" (spD K 1 (F_tuple_of 12))) (c_no_room : Ca P w K mg base 14 "no_room" (spD K 1 F_no_room)) :
    CaX P w K mg base 15 "sure_room" (spDX K (fldE a) 1 (X_sure_room a b c)) := by
  refine cax_of (k := 14) (fld := fldE a) Fd sc_sure_room rfl hm (fun _ _ _ _ _ _ us hl => match us, hl with | [_], _ => rfl) (fun cdv A outer s H E hr =>
  have m := md_calm (cxN P w K mg base ["sheet", "own", "ring"] "sure_room" (defScope s_sure_room) f cdv A outer s H E) rfl rfl
  have r : Rm (cxN P w K mg base ["sheet", "own", "ring"] "sure_room" (defScope s_sure_room) f cdv A outer s H E) 14 := rm_calm hr
  have tk : L2N.Takes (cxN P w K mg base ["sheet", "own", "ring"] "sure_room" (defScope s_sure_room) f cdv A outer s H E) (fun cls d _ H => E cls d H) := takes_cxN
  (dsx_cons (dsx_of (ds_set 1 sc_sure_room.nd (de_call (n := 1) c_tuple_of.ca hr (by decide) (da_cons (de_var 0) da_nil))))
  (dsx_cons (dsx_of (ds_set 2 sc_sure_room.nd (de_call (n := 1) c_no_room hr (by decide) (da_cons (de_var 1) da_nil))))
  (dsx_cons (dsx_if (dt_cmp op_notN good_notN (de_var 2) de_non) (dsx_one (dsx_raise (C := a) rfl tk (by first | exact Ex.nr | exact ex_nr Ex) hr (by decide) (de_var 2))) dsx_nil)
  (dsx_one (dsx_of (ds_ret (de_var 1)))))))) ?_
  rintro ds P' PE - ⟨d, s, rfl, hs, hd, hp, hx⟩
  simp [initD, F_tuple_of, F_no_room]
  refine ⟨(hs.sh hd).mono (by decide), ?_⟩
  rw [hs.tp hd]
  refine ⟨d, rfl, hd, fun r hr => ⟨rfl, ?_⟩⟩
  dsimp only
  rw [selB, isNon_nr]
  cases r with
  | none => exact hp hr
  | some ks => exact hx ks hr
theorem sc_standing : FnScope ["sheet", "own", "lot", "near", "one"] ["sheet"] (defScope s_standing) := ⟨rfl, rfl, rfl, by decide +kernel, rfl, by decide +kernel, by decide +kernel⟩
theorem cx_standing {a b c : Addr} {f : Addr} {fd : FuncData} (B : Bi K mg) (Ex : Ecs P w K mg base a b c) (Fd : FunD K "standing" "standing" (defArgs s_standing) (defBody s_standing) (defScope s_standing) [] [] f fd) (hm : mg "standing" = some (.ref f)) (cx_sure_room : CaX P w K mg base 15 "sure_room" (spDX K (fldE a) 1 (X_sure_room a b c))) (c_hung_lots : Ca P w K mg base 16 "hung_lots" (spD K 1 F_hung_lots)) (c_loose_lot : Ca P w K mg base 14 "loose_lot" (spD K 1 F_loose_lot)) :
    CaX P w K mg base 17 "standing" (spDX K (fldE a) 1 (X_standing a b c)) := by
  refine cax_of (k := 16) (fld := fldE a) Fd sc_standing rfl hm (fun _ _ _ _ _ _ us hl => match us, hl with | [_], _ => rfl) (fun cdv A outer s H E hr =>
  have m := md_calm (cxN P w K mg base ["sheet", "own", "lot", "near", "one"] "standing" (defScope s_standing) f cdv A outer s H E) rfl rfl
  have r : Rm (cxN P w K mg base ["sheet", "own", "lot", "near", "one"] "standing" (defScope s_standing) f cdv A outer s H E) 16 := rm_calm hr
  have tk : L2N.Takes (cxN P w K mg base ["sheet", "own", "lot", "near", "one"] "standing" (defScope s_standing) f cdv A outer s H E) (fun cls d _ H => E cls d H) := takes_cxN
  (dsx_cons (dsx_set (n := 1) 1 sc_standing.nd tk cx_sure_room hr (by decide) (da_cons (de_var 0) da_nil))
  (dsx_cons (dsx_of (ds_set 2 sc_standing.nd (de_call (n := 1) c_loose_lot hr (by decide) (da_cons (de_var 1) da_nil))))
  (dsx_cons (dsx_if (dt_cmp op_notN good_notN (de_var 2) de_non) (dsx_one (dsx_raise (C := b) rfl tk (by first | exact Ex.lo | exact ex_lo Ex) hr (by decide) (de_var 2))) dsx_nil)
  (dsx_cons (dsx_of (ds_set 3 sc_standing.nd (de_ix (de_call (n := 1) c_hung_lots hr (by decide) (da_cons (de_var 1) da_nil)) de_int)))
  (dsx_cons (dsx_if (dt_cmp op_lt good_lt (de_callB call_len good_len B.n_len (da_cons (de_var 3) da_nil)) (de_ix (de_var 1) de_int)) (dsx_one (dsx_raise (C := c) rfl tk (by first | exact Ex.af | exact ex_af Ex) hr (by decide) (de_callTy call_tuple_of good_tup B.n_tuple (da_cons (de_of (df_lc (own := [("one", 4)]) m sc_standing.nd (di_range1 B.n_range (de_ix (de_var 1) de_int)) (blkOk_by (N := ["sheet", "own", "lot", "near", "one"]) (sc := (defScope s_standing)) (by decide +kernel)) (fun _ _ _ _ _ => (dg_name 4 sc_standing.nd)) (fun _ _ _ _ _ => (dtt_one (dt_cmp op_notIn_seq (good_inI (neg := true)) (de_var 4) (de_var 3)))) (fun _ _ _ _ _ => (de_var 4)))) da_nil)))) dsx_nil)
  (dsx_one (dsx_of (ds_ret (de_var 1)))))))))) ?_
  rintro ds P' PE - ⟨d, s, rfl, hs, hd, hx1, hx2, hx3, hp⟩
  simp [initD]
  refine ⟨d, s, rfl, hs, hd, fun hf => ?_, fun ks hk => hx1 ks hk⟩
  refine ⟨d, d.D, rfl, .inl rfl, hd, rfl, ?_⟩
  dsimp only
  rw [selB, isNon_opt]
  cases hl : d.loose with
  | some l => exact hx2 hf l hl
  | none =>
    simp only [Option.isNone_none, Bool.not_true, Bool.false_eq_true, if_false]
    refine ⟨d, d.D, rfl, .inl rfl, hd, hf, ?_⟩
    obtain ⟨l, lr, e⟩ := lots_ne hd
    have en : d.near = l := by unfold Deal.near; rw [e]; rfl
    have et : hungD (Nm.namesOf d.n d.ties) = .tuple (lotD l :: lr.map lotD) := by
      show PyData.tuple (d.lots.map lotD) = _
      rw [e]; rfl
    rw [et, wIx_t]
    refine ⟨_, at0 _ _, ?_⟩
    simp only [Deal.D, wIx_t, at0, Option.some.injEq, exists_eq_left']
    rw [← Deal.D, ← en]
    show wLen [.tuple (natD d.near)] _
    rw [wLen_t]
    refine ⟨_, _, rfl, rfl, ?_⟩
    dsimp only
    have ln : (natD d.near).length = d.near.length := by simp [natD]
    have h20 := hd.nn
    rw [selB, ln]
    by_cases hq : d.near.length < d.n
    · rw [if_pos (decide_eq_true (by omega))]
      refine ⟨_, rfl, by omega, by omega, ?_⟩
      rw [rgD_map]
      refine compD_map (t := fun k => !decide (k ∈ d.near)) (f := fun (k : Nat) => .int (k : Int)) (List.range d.n) (fun x hx => ⟨_, rfl, by simp, fun kk g q => ?_, fun _ kk g q => ?_⟩) ?_
      · refine ⟨_, rfl, _, rfl, ?_⟩
        show wInI true (.int (x : Int)) (lotD d.near) _
        rw [wInI_nat, selB]
        by_cases z : x ∈ d.near
        · simpa [z] using q
        · simpa [z] using q
      · exact ⟨_, rfl, q⟩
      · exact hx3 hf hl hq
    · rw [if_neg (by simp only [decide_eq_true_iff]; omega)]
      exact hp hf hl (by omega)
theorem sc_law_heard : FnScope ["_law_deal", "_law_found", "flaw"] ["_law_deal"] (defScope s_law_heard) := ⟨rfl, rfl, rfl, by decide +kernel, rfl, by decide +kernel, by decide +kernel⟩
theorem ca_law_heard {a b c : Addr} {f : Addr} {fd : FuncData} (B : Bi K mg) (Ex : Ecs P w K mg base a b c) (Fd : FunD K "_law_heard" "_law_heard" (defArgs s_law_heard) (defBody s_law_heard) (defScope s_law_heard) [] [] f fd) (hm : mg "_law_heard" = some (.ref f)) (c_is_no_room : Ca2 P w K mg base 16 "is_no_room" (spD K 2 F_is_no_room)) (c_is_loose_lot : Ca2 P w K mg base 14 "is_loose_lot" (spD K 2 F_is_loose_lot)) (cx_standing : CaX P w K mg base 17 "standing" (spDX K (fldE a) 1 (X_standing a b c))) (c_is_no_room : Ca2 P w K mg base 16 "is_no_room" (spD K 2 F_is_no_room)) (c_is_loose_lot : Ca2 P w K mg base 14 "is_loose_lot" (spD K 2 F_is_loose_lot)) :
    Ca P w K mg base 18 "_law_heard" (spD K 1 F_law_heard) := by
  refine ca_of (k := 17) Fd sc_law_heard rfl hm (fun _ _ _ _ _ _ us hl => match us, hl with | [_], _ => rfl) (fun cdv A outer s H E hr =>
  have m := md_calm (cx2 P w K mg base ["_law_deal", "_law_found", "flaw"] "_law_heard" (defScope s_law_heard) f cdv A outer s H E true []) rfl rfl
  have r : Rm (cx2 P w K mg base ["_law_deal", "_law_found", "flaw"] "_law_heard" (defScope s_law_heard) f cdv A outer s H E true []) 17 := rm_calm hr
  (ds_cons (ds_set 1 sc_law_heard.nd de_non)
  (ds_cons (ds_try3 (base := base) 2 Ex rfl rfl sc_law_heard.nd (fun Wx pn xe tk => dsx_one (dsx_set (n := 1) 1 sc_law_heard.nd tk cx_standing hr (by decide) (da_cons (de_var 0) da_nil)))
    (fun a0 oe cls d pn hz hf => ds_one (ds_set 1 sc_law_heard.nd (de_of (df_lst (da_cons de_str (da_cons (de_call2 (n := 2) (md_suite hz hf) c_is_no_room (rm_suite hr) (by decide) (da_cons (de_var 0) (da_cons (de_xf 2 Ex.nr.xf Ex.nr.no hz hf) da_nil))) da_nil))))))
    (fun a0 oe cls d pn hz hf => ds_one (ds_set 1 sc_law_heard.nd (de_of (df_lst (da_cons de_str (da_cons (de_call2 (n := 2) (md_suite hz hf) c_is_loose_lot (rm_suite hr) (by decide) (da_cons (de_var 0) (da_cons (de_xf 2 Ex.lo.xf Ex.lo.no hz hf) da_nil))) da_nil))))))
    (fun a0 oe cls d pn hz hf => ds_one (ds_set 1 sc_law_heard.nd (de_of (df_lst (da_cons de_str (da_cons (de_xf 2 Ex.af.xf Ex.af.no hz hf) da_nil))))))
    ⟨rfl, by decide, .inl Ex.nr.hm⟩ ⟨rfl, by decide, .inl Ex.lo.hm⟩ ⟨rfl, by decide, .inl Ex.af.hm⟩)
  (ds_one (ds_ret (de_var 1)))))) ?_
  rintro ds P' - ⟨d, s, rfl, hs, hd, h1, h2, h3, h4⟩
  simp [initD]
  refine ⟨d, s, rfl, hs, hd, fun ks hk => .inl ⟨rfl, d, s, ks, rfl, hs, hd, hk.1, hk.2, by have := hk.1.len hd; have := hd.nn; omega, by decide, h1 fun hf => ?_⟩, fun hf l hl => .inr (.inl ⟨rfl, d, s, hs, hd, .inr ⟨l, rfl, ?_, by decide, h2 hf l hl⟩⟩), fun hf hl hn => .inr (.inr ⟨rfl, by decide, h3 hf hl hn⟩), h4⟩
  · have := hf.ring hk.1
    have := hk.2
    omega
  · obtain ⟨i, rfl⟩ := loose_lot_of hl
    have := lot_len d i
    have := hd.nn
    omega
end Lk

set_option Elab.async false
set_option linter.all false
set_option maxRecDepth 100000
set_option maxHeartbeats 4000000
/-! the urn -/
namespace Lk
open PySem PySem.Spec PyProof.Rows L2 L2H HotX LkHot
def spU (K : PySem.W.Frag) (n c : Nat) (F : DSp) : Sp := fun vs H Q _ => vs.length = n + 1 ∧ ∃ u vs', vs = .ref u :: vs' ∧ ∃ O g ds P, (∀ a, O a = true → H a ≠ none) ∧ O u = true ∧ UrnAt H u g ∧ g + c ≤ 1000 ∧ DpAll K (hid O H) vs' ds ∧ F ds P ∧
  ∀ d v H', P d → (∀ a o, a ≠ u → H a = some o → H' a = some o) → UrnAt H' u (g + c) → Dp K (hid O H') v d → Q v H'
theorem UrnAt.mono {H : Hp} {u : Addr} {g g' : Nat} (h : UrnAt H u g) (k : g ≤ g') : UrnAt H u g' := by
  obtain ⟨a, b, c, h1, h2, h3, h4, h5, h6⟩ := h
  exact ⟨a, b, c, h1, h2, h3, h4, h5, by omega⟩
section
variable {X : Cx} {K : PySem.W.Frag} {u : Addr}
theorem Rel.urnPut {E : En} {O : Own} {g g' : Nat} {H H' : Hp} {σ : L2.St} {δ : List Sv} (R : Rel K (some u) E O g H σ δ) (s : ∀ a o, a ≠ u → H a = some o → H' a = some o) (h : UrnAt H' u g') : Rel K (some u) E O g' H' σ δ ∧ Ext (some u) O H H' := by
  have ou := R.sub u (R.urn u rfl).1
  have e : Ext (some u) O H H' := ⟨fun a o n q => s a o (fun z => n (by rw [z])) q, fun a o q => by
    have hne : a ≠ u := by
      rintro rfl
      rw [hid_yes ou] at q; cases q
    have z := s a o hne (hid_same _ _ q)
    unfold hid at q ⊢
    split at q
    · cases q
    · rename_i w
      rw [if_neg w]; exact z⟩
  exact ⟨R.ext e fun w hw => by cases hw; exact h, e⟩
def UB (k : Int) (g : Nat) (v : Int) : Prop := (k = 0 ∧ 0 ≤ v) ∨ (k = 1 ∧ 0 ≤ v ∧ v < 2 ^ 62) ∨ (k = 2 ∧ 0 ≤ v ∧ v ≤ (g : Int))
theorem de_urn {x : Str} {k : Int} {j : Nat} {p p2 pos : Pos} (i : Nat) (hk : k = 0 ∨ k = 1 ∨ k = 2) (hN : X.N[i]? = some x := by rfl) (hv : Vis X.env.scope x := by first | exact Or.inl rfl | exact Or.inr (Or.inl rfl) | exact Or.inr (Or.inr rfl)) (hd : (x == ("__debug__" : Str)) = false := by decide) (hcd : (x == ("__classdict__" : Str)) = false := by decide)
    (hs : PlainIx (.Constant (.int k) j p2) := by exact fun _ _ => rfl) : DE X (some u) (.Subscript (.Name x p) (.Constant (.int k) j p2) pos) (fun g δ P => δ[i]? = some (.raw (.ref u)) ∧ ∀ v : Int, UB k g v → P g (.int v)) :=
  pe_mono (pe_ix ix_seq (pe_var hN hv hd hcd) pe_int hs) fun σ H Q ⟨E, O, g, δ, P, R, ⟨e, f⟩, kk⟩ => by
    obtain ⟨y, h1, h2⟩ := R.sl i _ e
    have h2 : y = some (.ref u) := h2
    subst h2
    obtain ⟨_, a, b, c, hu, h3, h4, h5, h6, h7⟩ := R.urn u rfl
    refine ⟨.ref u, h1, ?_⟩
    rcases hk with rfl | rfl | rfl
    · exact .inl ⟨u, _, 0, .int a, rfl, rfl, SqL.of hu, rfl, kk g _ _ H (f a (.inl ⟨rfl, h3⟩)) R .refl (.int _)⟩
    · exact .inl ⟨u, _, 1, .int b, rfl, rfl, SqL.of hu, rfl, kk g _ _ H (f b (.inr (.inl ⟨rfl, h4, h5⟩))) R .refl (.int _)⟩
    · exact .inl ⟨u, _, 2, .int c, rfl, rfl, SqL.of hu, rfl, kk g _ _ H (f c (.inr (.inr ⟨rfl, h6, h7⟩))) R .refl (.int _)⟩
/-- urn[0] = e, urn[2] = e -/
theorem ds_urn {x : Str} {k : Int} {j : Nat} {e : Expr} {F : DT} {p p2 p3 pos : Pos} (i : Nat) (hk : k = 0 ∨ k = 2) (he : DE X (some u) e F) (hN : X.N[i]? = some x := by rfl) (hv : Vis X.env.scope x := by first | exact Or.inl rfl | exact Or.inr (Or.inl rfl) | exact Or.inr (Or.inr rfl)) (hd : (x == ("__debug__" : Str)) = false := by decide) (hcd : (x == ("__classdict__" : Str)) = false := by decide)
    (has : ∀ v, assign (.Subscript (.Name x p) (.Constant (.int k) j p2) p3) X.env v = (do
      let ov ← holding [v] (eval (.Name x p) X.env)
      let iv ← holding [v, ov] (eval (.Constant (.int k) j p2) X.env)
      standAt p3
      holding [v, ov, iv] (setItem ov iv v)
      release [v, ov, iv] []) := by intro _; rfl)
    (hs : swapsWithSole [.Subscript (.Name x p) (.Constant (.int k) j p2) p3] e pos.line X.env = pure false := by rfl) (hw : swappedStores [.Subscript (.Name x p) (.Constant (.int k) j p2) p3] e X.env = pure none := by rfl) :
    DS X (some u) (.Assign [.Subscript (.Name x p) (.Constant (.int k) j p2) p3] e pos) (fun P g δ => δ[i]? = some (.raw (.ref u)) ∧ F g δ fun g1 d => ∃ v : Int, d = .int v ∧ ((k = 0 ∧ 0 ≤ v ∧ P.nx g1 δ) ∨ (k = 2 ∧ 0 ≤ v ∧ ∃ g2 : Nat, v ≤ g2 ∧ g1 ≤ g2 ∧ P.nx g2 δ))) := by
  refine ps_mono (ps_asg he (pg_sub (pe_var hN hv hd hcd) pe_int set_list has) hs hw) fun D σ H ⟨E, O, g, δ, P, R, ⟨e, f⟩, kn, kr⟩ => ⟨E, O, g, δ, _, R, f, fun g1 d v H1 ⟨z, e1, q⟩ R1 s1 x1 => ?_⟩
  subst e1
  cases x1
  obtain ⟨y, h1, h2⟩ := R1.sl i _ e
  have h2 : y = some (.ref u) := h2
  subst h2
  obtain ⟨_, a, b, c, hu, h3, h4, h5, h6, h7⟩ := R1.urn u rfl
  refine ⟨.ref u, h1, ?_⟩
  rcases q with ⟨rfl, q1, q2⟩ | ⟨rfl, q1, g2, q2, q3, q4⟩
  · obtain ⟨R2, e2⟩ := R1.urnPut (g' := g1) (H' := upd H1 u (.lst [.int z, .int b, .int c])) (fun b' o hb h => by rw [upd_ne hb]; exact h) ⟨z, b, c, upd_same, q1, h4, h5, h6, h7⟩
    exact ⟨u, _, 0, 0, rfl, rfl, hu, rfl, kn O g1 _ _ _ q2 R2 (fun _ h => h) (s1.hid.trans e2.hid)⟩
  · obtain ⟨R2, e2⟩ := R1.urnPut (g' := g2) (H' := upd H1 u (.lst [.int a, .int b, .int z])) (fun b' o hb h => by rw [upd_ne hb]; exact h) ⟨a, b, z, upd_same, h3, h4, h5, q1, q2⟩
    exact ⟨u, _, 2, 2, rfl, rfl, hu, rfl, kn O g2 _ _ _ q4 R2 (fun _ h => h) (s1.hid.trans e2.hid)⟩
theorem de_callU {x ux : Str} {p pu pos : Pos} {es : List Expr} {Fs : DL} {n c k j : Nat} {F : DSp} (i : Nat) (cc : Ca X.prog X.w X.K X.mg X.base k x (spU X.K n c F)) (hr : Room j X.A) (hk : k ≤ j) (ha : DA X (some u) es Fs)
    (hN : X.N[i]? = some ux := by rfl) (hv : Vis X.env.scope ux := by first | exact Or.inl rfl | exact Or.inr (Or.inl rfl) | exact Or.inr (Or.inr rfl)) (hd : (ux == ("__debug__" : Str)) = false := by decide) (hcd : (ux == ("__classdict__" : Str)) = false := by decide)
    (hg : Gl X x := by rfl) (hdb : (x == ("__debug__" : Str)) = false := by decide) (he : starEach (.Name ux pu :: es) X.env = (false, eval (.Name ux pu) X.env) :: starEach es X.env := by rfl) (hpl : (backTo pos (starEach es X.env)).any (·.1) = false := by rfl) :
    DE X (some u) (.Call (.Name x p) (.Name ux pu :: es) [] pos) (fun g δ P => δ[i]? = some (.raw (.ref u)) ∧ Fs g δ fun g1 ds => ds.length = n ∧ g1 + c ≤ 1000 ∧ F ds (P (g1 + c))) := by
  obtain ⟨f, fd, ps, h1, h2, h3, h4⟩ := cc.ex
  refine pe_mono (pe_call h1 (hr.mono hk) hg h2 h3 h4 .nil pass0 (pa_cons (pe_var hN hv hd hcd) ha he) hdb he hpl) fun σ H Q ⟨E, O, g, δ, P, R, ⟨e, f⟩, kk⟩ => ?_
  obtain ⟨y, q1, q2⟩ := R.sl i _ e
  have q2 : y = some (.ref u) := q2
  subst q2
  refine ⟨.ref u, q1, E, O, g, δ, _, R, f, fun g1 ds vs H1 ⟨l, gb, q⟩ R1 s1 x1 => ?_⟩
  show spU X.K n c F (.ref u :: vs ++ []) H1 Q E0
  rw [List.append_nil]
  refine ⟨by rw [List.length_cons, dpAll_len x1, l], u, vs, rfl, O, g1, ds, P (g1 + c), R1.there, R1.sub u (R1.urn u rfl).1, (R1.urn u rfl).2, gb, x1, q, fun d v H' p s hu x => ?_⟩
  obtain ⟨R2, e2⟩ := R1.urnPut s hu
  exact kk (g1 + c) d v H' p R2 (s1.trans e2) x
end
section
variable {X : Cx} {W : Option Addr}
theorem seqIx_of {n : Nat} {i : Int} {j : Nat} (h : ixN n i = some j) : seqIndex? i n = some j ∧ j < n ∧ -(n : Int) ≤ i ∧ i < n := ixN_seq h
/-- x.append(y.pop(e)) -/
theorem ds_appendPop {x y : Str} {e : Expr} {F : DT} {p p2 apos cpos apos2 cpos2 pos : Pos} (i j : Nat) (hij : i ≠ j) (h : DE X W e F) (hN : X.N[i]? = some x := by rfl) (hv : Vis X.env.scope x := by first | exact Or.inl rfl | exact Or.inr (Or.inl rfl) | exact Or.inr (Or.inr rfl)) (hd : (x == ("__debug__" : Str)) = false := by decide) (hcd : (x == ("__classdict__" : Str)) = false := by decide)
    (hN2 : X.N[j]? = some y := by rfl) (hv2 : Vis X.env.scope y := by first | exact Or.inl rfl | exact Or.inr (Or.inl rfl) | exact Or.inr (Or.inr rfl)) (hd2 : (y == ("__debug__" : Str)) = false := by decide) (hcd2 : (y == ("__classdict__" : Str)) = false := by decide)
    (hbase : attributeBase (.Name x p) "append" X.env (eval (.Name x p) X.env) = eval (.Name x p) X.env := by rfl) (hbase2 : attributeBase (.Name y p2) "pop" X.env (eval (.Name y p2) X.env) = eval (.Name y p2) X.env := by rfl)
    (hfew : ((backTo cpos (starEach [Expr.Call (.Attribute (.Name y p2) "pop" apos2) [e] [] cpos2] X.env)).all (fun x => !x.1) && (backToKw cpos (keywordEach [] X.env)).all (fun x => x.1.isSome) && decide (([Expr.Call (.Attribute (.Name y p2) "pop" apos2) [e] [] cpos2] : List Expr).length + ([] : List Keyword).length + (if ([] : List Keyword).isEmpty then 0 else 1) < 30)) = true := by rfl)
    (hfew2 : ((backTo cpos2 (starEach [e] X.env)).all (fun x => !x.1) && (backToKw cpos2 (keywordEach [] X.env)).all (fun x => x.1.isSome) && decide (([e] : List Expr).length + ([] : List Keyword).length + (if ([] : List Keyword).isEmpty then 0 else 1) < 30)) = true := by rfl)
    (hline : (apos.endLine == cpos.line) = true := by rfl) (hline2 : (apos2.endLine == cpos2.line) = true := by rfl) (hs : starEach [Expr.Call (.Attribute (.Name y p2) "pop" apos2) [e] [] cpos2] X.env = (false, eval (Expr.Call (.Attribute (.Name y p2) "pop" apos2) [e] [] cpos2) X.env) :: starEach [] X.env := by rfl)
    (hs2 : starEach [e] X.env = (false, eval e X.env) :: starEach [] X.env := by rfl) (hplain : (backTo cpos (starEach [] X.env)).any (·.1) = false := by rfl) (hplain2 : (backTo cpos2 (starEach [] X.env)).any (·.1) = false := by rfl)
    (hsw : swapsWith (.Call (.Attribute (.Name x p) "append" apos) [.Call (.Attribute (.Name y p2) "pop" apos2) [e] [] cpos2] [] cpos) none pos.line X.env = pure false := by rfl) :
    DS X W (.Expr (.Call (.Attribute (.Name x p) "append" apos) [.Call (.Attribute (.Name y p2) "pop" apos2) [e] [] cpos2] [] cpos) pos) (fun P g δ => ∃ ds ps, δ[i]? = some (.own ds) ∧ δ[j]? = some (.own ps) ∧ ps.length ≤ 1000 ∧ F g δ fun g1 d => ∃ n k z, d = .int n ∧ ixN ps.length n = some k ∧ ps[k]? = some z ∧ ds.length < sizeLine ∧
      P.nx g1 ((δ.set j (.own (ps.eraseIdx k))).set i (.own (ds ++ [z])))) := by
  refine ps_mono (ps_expr (pe_bm PySem.F.plainAttrs_list PySem.F.slot_list_append PySem.F.type_list_append mt_append (pe_var hN hv hd hcd) (pa_cons (pe_bm PySem.F.plainAttrs_list PySem.F.slot_list_pop PySem.F.type_list_pop mt_popAt (pe_var hN2 hv2 hd2 hcd2) (pa_cons h pa_nil hs2) hbase2 hfew2 hline2 hs2 hplain2) pa_nil hs) hbase hfew hline hs hplain) hsw)
    fun D σ H ⟨E, O, g, δ, P, R, ⟨ds, ps, e1, e2, hpl, f⟩, kn, kr⟩ => ?_
  obtain ⟨a, vs, h1, h2, h3, h4⟩ := sl_own R e1
  obtain ⟨b, ws, k1, k2, k3, k4⟩ := sl_own R e2
  refine ⟨.ref a, h1, .inl ⟨rfl, vs, SqL.of h3⟩, .ref b, k1, .inl ⟨rfl, ws, SqL.of k3⟩, E, O, g, δ, _, R, f, fun g1 d v H1 ⟨n, k, z, q1, q2, q3, q4, q5⟩ R1 s1 x1 => ?_⟩
  subst q1
  cases x1
  have h3' := ext_own R e1 rfl h1 s1 h3
  have k3' := ext_own R e2 rfl k1 s1 k3
  have k4' := k4.keep s1.hid
  have lp := dpAll_len k4
  obtain ⟨w, m1, m2⟩ := dpAll_get2 k4' q3
  obtain ⟨i1, i2, i3, i4⟩ := seqIx_of q2
  have nab : a ≠ b := fun z => R.apart i j _ _ b hij e1 e2 rfl rfl (by rw [← z]; exact h1) k1
  refine ⟨b, ws, n, k, w, rfl, rfl, k3', by omega, by omega, by rw [lp]; exact i1, m1, ?_⟩
  have R2 := R1.write (x := .own (ps.eraseIdx k)) (o := .lst (ws.eraseIdx k)) e2 rfl k1 k2 ⟨b, _, rfl, k2, upd_same, by rw [hid_upd k2]; exact dpAll_erase k k4'⟩ rfl
  have ej : (δ.set j (.own (ps.eraseIdx k)))[i]? = some (.own ds) := by rw [List.getElem?_set_ne (Ne.symm hij)]; exact e1
  refine ⟨a, vs, w, rfl, rfl, by rw [upd_ne nab]; exact h3', by rw [dpAll_len h4]; exact q4, ?_⟩
  have R3 := R2.write (x := .own (ds ++ [z])) (o := .lst (vs ++ [w])) ej rfl h1 h2 ⟨a, _, rfl, h2, upd_same, by rw [hid_upd h2, hid_upd k2]; exact dpAll_app (h4.keep s1.hid) (dpAll_one m2)⟩ rfl
  refine kn O g1 _ _ _ q5 R3 (fun _ h => h) ?_
  rw [hid_upd h2, hid_upd k2]
  exact s1.hid
end
def initU (u : Addr) (N : List Str) (ds : List PyData) : List Sv := .raw (.ref u) :: ds.map Sv.dat ++ List.replicate (N.length - (ds.length + 1)) Sv.emp
theorem rel_startU {K : PySem.W.Frag} {O : Own} {H : Hp} {N : List Str} {u : Addr} {g : Nat} {vs : List V} {ds : List PyData} (t : ∀ a, O a = true → H a ≠ none) (ou : O u = true) (hu : UrnAt H u g) (x : DpAll K (hid O H) vs ds) : Rel K (some u) ⟨O, H⟩ O g H (L2.start N (.ref u :: vs)) (initU u N ds) := by
  have ln : ∀ (i : Nat) y, (initU u N ds)[i]? = some y → ∃ z, (L2.start N (.ref u :: vs))[i]? = some z ∧ Sl K O H z y := fun i y h => by
    unfold initU at h
    unfold L2.start
    have l1 := dpAll_len x
    cases i with
    | zero =>
      simp at h
      subst h
      exact ⟨some (.ref u), by simp, rfl⟩
    | succ i =>
      simp only [List.cons_append, List.getElem?_cons_succ, List.map_cons] at h ⊢
      by_cases hi : i < ds.length
      · rw [List.getElem?_append_left (by simpa using hi), List.getElem?_map] at h
        cases e : ds[i]? with
        | none => rw [e] at h; cases h
        | some d =>
          rw [e] at h
          cases h
          obtain ⟨v, h1, h2⟩ := dpAll_get2 x e
          exact ⟨some v, by rw [List.getElem?_append_left (by rw [List.length_map, l1]; exact hi), List.getElem?_map, h1]; rfl, v, rfl, h2⟩
      · rw [List.getElem?_append_right (by simpa using hi), List.getElem?_replicate] at h
        split at h
        · rename_i q
          cases h
          refine ⟨none, ?_, trivial⟩
          rw [List.getElem?_append_right (by rw [List.length_map, l1]; omega), List.getElem?_replicate, List.length_map, l1]
          simp only [List.length_map, List.length_cons, l1] at q ⊢
          rw [if_pos q]
        · cases h
  have no : ∀ (i : Nat) y, (initU u N ds)[i]? = some y → y.isOwn = false := fun i y h => by
    unfold initU at h
    have : y ∈ (.raw (.ref u) :: ds.map Sv.dat ++ List.replicate (N.length - (ds.length + 1)) Sv.emp : List Sv) := List.mem_of_getElem? h
    simp at this
    rcases this with rfl | ⟨d, _, rfl⟩ | ⟨_, rfl⟩ <;> rfl
  exact {
    len := by
      unfold L2.start initU
      have l1 := dpAll_len x
      simp [l1]
    same := fun _ _ _ h => h
    sub := fun _ h => h
    new := fun _ h => .inl h
    there := t
    urn := fun w hw => by cases hw; exact ⟨ou, hu⟩
    sl := ln
    own0 := fun i y a h ho => by rw [no i y h] at ho; cases ho
    apart := fun i j y y' a n h h' ho => by rw [no i y h] at ho; cases ho }
section
variable {P : Program} {w : World} {K : PySem.W.Frag} {mg : Str → Option Value} {base : Heap} {x qual : Str} {params : Arguments} {body : List Stmt} {scope : Scope} {f : Addr} {fd : FuncData} {N ps : List Str} {k n c : Nat} {F : DSp} {G : Addr → DSt}
theorem cau_of (Fd : FunD K x qual params body scope [] [] f fd) (S : FnScope N ps scope) (hps : ps.length = n + 1) (hm : mg x = some (.ref f))
    (hbd : ∀ (kV doc pm : Value) (an : Option Addr) (cdv ct : Value) (us : List Value), us.length = ps.length → bindArgs (PySem.W.fnOf x qual params body scope .none kV doc pm an cdv ct) ⟨us, []⟩ = pure (ps.zip us))
    (hb : ∀ u cdv A outer s H E, Room k (A.deeper (envOfC qual scope s.heap.objs.size f cdv)) → DSs (cx2 P w K mg base N qual scope f cdv A outer s H E true []) (some u) body (G u))
    (pure_ : ∀ u ds g P, ds.length = n → g + c ≤ 1000 → F ds P → G u ⟨fun g' _ => g' ≤ g + c ∧ P .none, fun g' d => g' ≤ g + c ∧ P d⟩ g (initU u N ds)) : Ca P w K mg base (k + 1) x (spU K n c F) := by
  refine ⟨f, fd, ps, Fd.ok S (fun vs H Q E h => h.1.trans hps.symm) (fun cdv A outer s H vs Q E hr h => ?_), hm, Fd.kp, Fd.bindsN hbd⟩
  obtain ⟨l, u, vs', rfl, O, g, ds, P, t, ou, hu, gb, x, f, kk⟩ := h
  refine ⟨_, hb u cdv A outer s H E hr, ⟨O, H⟩, O, g, initU u N ds, _, rel_startU t ou hu x, pure_ u ds g P ?_ gb f, fun O' g' δ' σ' H' p R' u' s' => ?_, fun g' d v H' p f' => ?_⟩
  · rw [← dpAll_len x]; simpa using l
  · exact kk .none .non H' p.2 (fun a o ne q => R'.same a o (fun z => ne (by cases z; rfl)) q) ((R'.urn u rfl).2.mono p.1) .non
  · exact kk d v H' p.2 (fun a o ne q => f'.same a o (fun z => ne (by cases z; rfl)) q) ((f'.urn u rfl).mono p.1) f'.dat
end
end Lk

set_option Elab.async false
set_option linter.all false
set_option maxRecDepth 100000
set_option maxHeartbeats 4000000
namespace Lk
open PySem PySem.Spec PyProof.Rows L2 L2H HotX LkHot LkHead
variable {P : Program} {w : World} {K : PySem.W.Frag} {mg : Str → Option Value} {base : Heap}
/-! ### what is drawn -/
set_option pp.deepTerms true
set_option pp.maxSteps 50000
theorem fr_12 (a : Int) {b : Int} (h : b = 1 ∨ b = 2) : ∃ k, fr a b = hf k := by
  rcases h with rfl | rfl
  · exact ⟨_, fr_one a⟩
  · exact ⟨_, rfl⟩
def F_law_take : DSp := fun ds P => ∃ low : Nat, ds = [.int (low : Int)] ∧ 0 < low ∧ low ≤ 1000 ∧ ∀ v : Nat, v < low → P (.int (v : Int))
def F_law_of : DSp := fun ds P => ∃ xs : List PyData, ds = [.list xs] ∧ 0 < xs.length ∧ xs.length ≤ 1000 ∧ ∀ x ∈ xs, P x
/-- ys: n of the items of xs, each at most once -/
inductive Pk : List PyData → Nat → List PyData → Prop
  | nil {xs : List PyData} : Pk xs 0 []
  | cons {xs : List PyData} {n k : Nat} {z : PyData} {ys : List PyData} : xs[k]? = some z → Pk (xs.eraseIdx k) n ys → Pk xs (n + 1) (z :: ys)
def F_law_pick : DSp := fun ds P => ∃ (xs : List PyData) (n : Nat), ds = [.list xs, .int (n : Int)] ∧ n ≤ 8 ∧ xs.length ≤ 1000 ∧ ∀ ys, Pk xs (min n xs.length) ys → P (.list ys)
def F_law_two : DSp := fun ds P => ∃ n : Nat, ds = [.int (n : Int)] ∧ 2 ≤ n ∧ n ≤ 1000 ∧ ∀ i j : Nat, i < n → j < n → i ≠ j → P (prD (i, j))
def ScOk (d : PyData) : Prop := Sh 4 d ∧ tpD d = d ∧ tpD (lsD d) = d
def F_law_scale : DSp := fun ds P => ds = [] ∧ ∀ d, ScOk d → P d
def F_law_spots : DSp := fun ds P => ∃ n : Nat, ds = [.int (n : Int)] ∧ 1 ≤ n ∧ n ≤ 6 ∧ ∀ ss : List Int, ss.length = n → ss[0]? = some 0 → P (.tuple (ss.map fun s => frD (hf s)))
def F_law_hards : DSp := fun ds P => ∃ (ss : List Int) (c : Nat), ds = [.tuple (ss.map fun s => frD (hf s)), .int (c : Int)] ∧ 2 ≤ ss.length ∧ ss.length ≤ 20 ∧ c ≤ 6 ∧
  ∀ hs : List (Nat × Nat × Int), hs.length = c → (∀ h ∈ hs, h.1 < ss.length ∧ h.2.1 < ss.length ∧ h.1 ≠ h.2.1) → P (.tuple (hs.map hD))
def F_law_counts : DSp := fun ds P => ∃ (n c : Nat), ds = [.int (n : Int), .int (c : Int)] ∧ 2 ≤ n ∧ n ≤ 20 ∧ c ≤ 5 ∧
  ∀ es : List (Nat × Nat × PyData), es.length = c → (∀ h ∈ es, h.1 < n ∧ h.2.1 < n ∧ h.1 ≠ h.2.1 ∧ ScOk h.2.2) → P (.tuple (es.map eD))
theorem sc_law_take : FnScope ["_law_urn", "_law_low_so", "_law_once", "_law_far_here", "_law_twice", "_law_took"] ["_law_urn", "_law_low_so"] (defScope s_law_take) := ⟨rfl, rfl, rfl, by decide +kernel, rfl, by decide +kernel, by decide +kernel⟩
theorem ca_law_take {f : Addr} {fd : FuncData} (B : Bi K mg) (Fd : FunD K "_law_take" "_law_take" (defArgs s_law_take) (defBody s_law_take) (defScope s_law_take) [] [] f fd) (hm : mg "_law_take" = some (.ref f)) :
    Ca P w K mg base 1 "_law_take" (spU K 1 1 F_law_take) := by
  refine cau_of (k := 0) Fd sc_law_take rfl hm (fun _ _ _ _ _ _ us hl => match us, hl with | [_, _], _ => rfl) (fun u cdv A outer s H E hr =>
  have m := md_calm (cx2 P w K mg base ["_law_urn", "_law_low_so", "_law_once", "_law_far_here", "_law_twice", "_law_took"] "_law_take" (defScope s_law_take) f cdv A outer s H E true []) rfl rfl
  have r : Rm (cx2 P w K mg base ["_law_urn", "_law_low_so", "_law_once", "_law_far_here", "_law_twice", "_law_took"] "_law_take" (defScope s_law_take) f cdv A outer s H E true []) 0 := rm_calm hr
  (ds_cons (ds_if (dt_cmp op_gt good_gt (de_urn 0 (by decide)) de_int) (ds_cons (ds_set 5 sc_law_take.nd (de_op op_mod good_mod (de_callTy call_int1 good_int B.n_int (da_cons (de_urn 0 (by decide)) da_nil)) (de_var 1)))
  (ds_cons (ds_urn 0 (by decide) (de_op op_fdivN good_fdivN (de_urn 0 (by decide)) (de_var 1)))
  (ds_one (ds_ret (de_var 5))))) ds_nil)
  (ds_cons (ds_urn 0 (by decide) (de_op op_add good_add (de_urn 0 (by decide)) de_int))
  (ds_cons (ds_set 2 sc_law_take.nd (de_op op_mod good_mod (de_callTy call_int1 good_int B.n_int (da_cons (de_op op_mul good_mul (de_op op_add good_add (de_urn 0 (by decide)) (de_op op_mul good_mul de_int (de_urn 0 (by decide)))) (de_op op_add good_add de_int (de_urn 0 (by decide)))) da_nil)) de_int))
  (ds_cons (ds_set 3 sc_law_take.nd (de_op op_add good_add (de_op op_mod good_mod (de_callTy call_int1 good_int B.n_int (da_cons (de_var 2) da_nil)) de_int) de_int))
  (ds_cons (ds_set 4 sc_law_take.nd (de_op op_mod good_mod (de_callTy call_int1 good_int B.n_int (da_cons (de_op op_mul good_mul (de_op op_add good_add (de_op op_add good_add (de_var 2) (de_urn 0 (by decide))) (de_op op_fdivN good_fdivN (de_urn 0 (by decide)) de_int)) (de_var 3)) da_nil)) de_int))
  (ds_one (ds_ret (de_op op_mod good_mod (de_callTy call_int1 good_int B.n_int (da_cons (de_op op_fdivN good_fdivN (de_op op_mod good_mod (de_callTy call_int1 good_int B.n_int (da_cons (de_op op_add good_add (de_op op_mul good_mul (de_var 4) de_int) (de_var 2)) da_nil)) de_int) de_int) da_nil)) (de_var 1)))))))))) ?_
  rintro u ds g P' - hg ⟨low, rfl, h0, h1, h⟩
  have fin : ∀ x : Int, P' (.int (x % (low : Int))) := fun x => by
    have h2 : 0 ≤ x % (low : Int) := Int.emod_nonneg _ (by omega)
    have h3 : x % (low : Int) < (low : Int) := Int.emod_lt_of_pos _ (by omega)
    have := h (x % (low : Int)).toNat (by omega)
    rwa [Int.toNat_of_nonneg h2] at this
  simp [initU, wI0, wI, UB]
  intro v hv
  split
  · intro v1 hv1
    refine ⟨h0, fun v2 hv2 => ⟨⟨by omega, by omega⟩, ?_, fin _⟩⟩
    rw [Int.fdiv_eq_ediv_of_nonneg _ (by omega)]
    exact Int.ediv_nonneg hv2 (by omega)
  · intro c hc hcg
    refine ⟨by omega, g + 1, by omega, by omega, fun b hb1 hb2 c2 h1 h2 => ⟨.inl ⟨by decide, by decide⟩, fun c3 h3 h4 => ⟨.inr ⟨by omega, by omega⟩, fun c4 h5 h6 b2 h7 h8 => ⟨⟨by decide, by decide⟩, .inr ⟨?_, ?_⟩, .inr ⟨by decide, by decide⟩, ⟨by decide, by decide⟩, h0, by omega, fin _⟩⟩⟩⟩
    · generalize (b + 48271 * c2) * (39373 + c3) % 2147483647 = z
      omega
    · generalize (b + 48271 * c2) * (39373 + c3) % 2147483647 = z
      omega
theorem sc_law_of : FnScope ["_law_urn", "_law_some_so"] ["_law_urn", "_law_some_so"] (defScope s_law_of) := ⟨rfl, rfl, rfl, by decide +kernel, rfl, by decide +kernel, by decide +kernel⟩
theorem ca_law_of {f : Addr} {fd : FuncData} (B : Bi K mg) (Fd : FunD K "_law_of" "_law_of" (defArgs s_law_of) (defBody s_law_of) (defScope s_law_of) [] [] f fd) (hm : mg "_law_of" = some (.ref f)) (c_law_take : Ca P w K mg base 1 "_law_take" (spU K 1 1 F_law_take)) :
    Ca P w K mg base 2 "_law_of" (spU K 1 1 F_law_of) := by
  refine cau_of (k := 1) Fd sc_law_of rfl hm (fun _ _ _ _ _ _ us hl => match us, hl with | [_, _], _ => rfl) (fun u cdv A outer s H E hr =>
  have m := md_calm (cx2 P w K mg base ["_law_urn", "_law_some_so"] "_law_of" (defScope s_law_of) f cdv A outer s H E true []) rfl rfl
  have r : Rm (cx2 P w K mg base ["_law_urn", "_law_some_so"] "_law_of" (defScope s_law_of) f cdv A outer s H E true []) 1 := rm_calm hr
  (ds_one (ds_ret (de_ix (de_var 1) (de_callU (n := 1) 0 c_law_take hr (by decide) (da_cons (de_callB call_len good_len B.n_len (da_cons (de_var 1) da_nil)) da_nil)))))) ?_
  rintro u ds g P' - hg ⟨xs, rfl, h0, h1, h⟩
  simp [initU]
  refine ⟨by omega, xs.length, rfl, h0, h1, fun v hv => ?_⟩
  dsimp only
  rw [wIx_l]
  exact ⟨_, atI_nat (List.getElem?_eq_getElem hv), h _ (List.getElem_mem _)⟩
theorem sc_law_pick : FnScope ["_law_urn", "_law_some", "_law_count", "_law_lap", "_law_pool", "_law_found"] ["_law_urn", "_law_some", "_law_count"] (defScope s_law_pick) := ⟨rfl, rfl, rfl, by decide +kernel, rfl, by decide +kernel, by decide +kernel⟩
theorem ca_law_pick {f : Addr} {fd : FuncData} (B : Bi K mg) (Fd : FunD K "_law_pick" "_law_pick" (defArgs s_law_pick) (defBody s_law_pick) (defScope s_law_pick) [] [] f fd) (hm : mg "_law_pick" = some (.ref f)) (c_law_take : Ca P w K mg base 1 "_law_take" (spU K 1 1 F_law_take)) :
    Ca P w K mg base 2 "_law_pick" (spU K 2 8 F_law_pick) := by
  refine cau_of (k := 1) Fd sc_law_pick rfl hm (fun _ _ _ _ _ _ us hl => match us, hl with | [_, _, _], _ => rfl) (fun u cdv A outer s H E hr =>
  have m := md_calm (cx2 P w K mg base ["_law_urn", "_law_some", "_law_count", "_law_lap", "_law_pool", "_law_found"] "_law_pick" (defScope s_law_pick) f cdv A outer s H E true []) rfl rfl
  have r : Rm (cx2 P w K mg base ["_law_urn", "_law_some", "_law_count", "_law_lap", "_law_pool", "_law_found"] "_law_pick" (defScope s_law_pick) f cdv A outer s H E true []) 1 := rm_calm hr
  (ds_cons (ds_par 4 5 rfl sc_law_pick.nd (dx_consF (df_list B.n_list (de_var 1)) (dx_consF (df_lst da_nil) dx_nil)))
  (ds_cons (ds_for m PassesOwn.leaving (di_range1 B.n_range (de_callB (call_min2 rfl) good_min B.n_min (da_cons (de_callTy call_int1 good_int B.n_int (da_cons (de_var 2) da_nil)) (da_cons (de_lenO 4 B.n_len) da_nil)))) (dg_name 3 sc_law_pick.nd) (ds_one (ds_appendPop 5 4 (by decide) (de_callU (n := 1) 0 c_law_take hr (by decide) (da_cons (de_lenO 4 B.n_len) da_nil)))))
  (ds_one (ds_retO 5))))) ?_
  rintro u ds g P' - hg ⟨xs, n, rfl, h0, h1, h⟩
  simp [initU, wMin]
  refine ⟨_, _, ⟨rfl, rfl⟩, _, rfl, _, _, ⟨rfl, rfl⟩, ?_⟩
  have em : (if (xs.length : Int) < (n : Int) then (xs.length : Int) else (n : Int)) = ((min n xs.length : Nat) : Int) := min_cast n xs.length
  rw [em]
  refine ⟨by omega, by omega, ?_⟩
  rw [rgD_map]
  have hsz : sizeLine = 16777216 := sizeLine_eq
  refine forD_rel (fun ks g' δ => ∃ xs' ys a, δ = [.raw (.ref u), .dat (.list xs), .dat (.int (n : Int)), a, .own xs', .own ys] ∧ (∀ zs, Pk xs' ks.length zs → Pk xs (min n xs.length) (ys ++ zs)) ∧ ks.length ≤ xs'.length ∧ xs'.length ≤ 1000 ∧ ys.length + ks.length ≤ 8 ∧ g' + ks.length ≤ g + 8)
    (fun x ks g' δ hI => ?_) (fun g' δ hI => ?_) (List.range (min n xs.length)) g _ ⟨xs, [], _, rfl, fun zs hz => by simpa using hz, by simp; omega, h1, by simp; omega, by simp; omega⟩
  · obtain ⟨xs', ys, a, rfl, hp, hl, hl2, hy, hg'⟩ := hI
    refine ⟨_, rfl, fun k hkr hk => ?_⟩
    simp at hl hy hg'
    simp [putD]
    refine ⟨hl2, by omega, xs'.length, rfl, by omega, hl2, fun v hv => ?_⟩
    refine ⟨_, rfl, v, ix_nat hv, _, List.getElem?_eq_getElem hv, by omega, ?_⟩
    refine hk _ _ ⟨xs'.eraseIdx v, ys ++ [xs'[v]], _, rfl, fun zs hz => ?_, ?_, ?_, by simp; omega, by omega⟩
    · have := hp (xs'[v] :: zs) (.cons (List.getElem?_eq_getElem hv) hz)
      simpa using this
    · rw [List.length_eraseIdx, if_pos hv]; omega
    · rw [List.length_eraseIdx, if_pos hv]; omega
  · obtain ⟨xs', ys, a, rfl, hp, hl, hl2, hy, hg'⟩ := hI
    have := hp [] .nil
    rw [List.append_nil] at this
    exact ⟨_, rfl, by simpa using hg', h ys this⟩
theorem sc_law_two : FnScope ["_law_urn", "_law_many"] ["_law_urn", "_law_many"] (defScope s_law_two) := ⟨rfl, rfl, rfl, by decide +kernel, rfl, by decide +kernel, by decide +kernel⟩
theorem ca_law_two {f : Addr} {fd : FuncData} (B : Bi K mg) (Fd : FunD K "_law_two" "_law_two" (defArgs s_law_two) (defBody s_law_two) (defScope s_law_two) [] [] f fd) (hm : mg "_law_two" = some (.ref f)) (c_law_pick : Ca P w K mg base 2 "_law_pick" (spU K 2 8 F_law_pick)) :
    Ca P w K mg base 3 "_law_two" (spU K 1 8 F_law_two) := by
  refine cau_of (k := 2) Fd sc_law_two rfl hm (fun _ _ _ _ _ _ us hl => match us, hl with | [_, _], _ => rfl) (fun u cdv A outer s H E hr =>
  have m := md_calm (cx2 P w K mg base ["_law_urn", "_law_many"] "_law_two" (defScope s_law_two) f cdv A outer s H E true []) rfl rfl
  have r : Rm (cx2 P w K mg base ["_law_urn", "_law_many"] "_law_two" (defScope s_law_two) f cdv A outer s H E true []) 2 := rm_calm hr
  (ds_one (ds_ret (de_callTy call_tuple_of good_tup B.n_tuple (da_cons (de_callU (n := 2) 0 c_law_pick hr (by decide) (da_cons (de_of (df_listRg1 rfl B.n_list B.n_range (de_var 1))) (da_cons de_int da_nil))) da_nil))))) ?_
  rintro u ds g P' - hg ⟨n, rfl, h0, h1, h⟩
  simp [initU]
  refine ⟨by omega, by omega, (rgI 0 (n : Int)).map PyData.int, 2, rfl, by decide, by simp [rgI]; omega, fun ys hy => ?_⟩
  have er : (rgI 0 (n : Int)).map PyData.int = natD (List.range n) := by simp [rgI, natD, Function.comp_def]
  rw [er] at hy
  have el : min 2 (natD (List.range n)).length = 2 := by simp [natD]; omega
  rw [el] at hy
  dsimp only
  rw [wTup_l]
  cases hy with
  | @cons _ _ k z ys1 e1 q1 =>
    cases q1 with
    | @cons _ _ k2 z2 ys2 e2 q2 =>
      cases q2
      simp only [natD, List.getElem?_map] at e1
      have hk : k < n := by
        rcases Nat.lt_or_ge k n with w | w
        · exact w
        · rw [List.getElem?_eq_none (by simpa using w)] at e1; cases e1
      rw [List.getElem?_range hk] at e1
      cases e1
      rw [List.getElem?_eraseIdx] at e2
      split at e2
      · rename_i hlt
        simp only [natD, List.getElem?_map] at e2
        rw [List.getElem?_range (by omega)] at e2
        cases e2
        exact h k k2 hk (by omega) (by omega)
      · rename_i hge
        simp only [natD, List.getElem?_map] at e2
        have hk2 : k2 + 1 < n := by
          rcases Nat.lt_or_ge (k2 + 1) n with w | w
          · exact w
          · rw [List.getElem?_eq_none (by simpa using w)] at e2; cases e2
        rw [List.getElem?_range hk2] at e2
        cases e2
        exact h k (k2 + 1) hk hk2 (by omega)
theorem sc_law_scale : FnScope ["_law_urn", "_law_lap", "_law_gap_so", "_law_ease_so", "_law_found"] ["_law_urn"] (defScope s_law_scale) := ⟨rfl, rfl, rfl, by decide +kernel, rfl, by decide +kernel, by decide +kernel⟩
theorem ca_law_scale {f : Addr} {fd : FuncData} (B : Bi K mg) (Fd : FunD K "_law_scale" "_law_scale" (defArgs s_law_scale) (defBody s_law_scale) (defScope s_law_scale) [] [] f fd) (hm : mg "_law_scale" = some (.ref f)) (c_law_take : Ca P w K mg base 1 "_law_take" (spU K 1 1 F_law_take)) (c_law_frac : Ca P w K mg base 1 "_law_frac" (spD K 2 F_law_frac)) (c_law_add : Ca P w K mg base 2 "_law_add" (spD K 2 F_law_add)) :
    Ca P w K mg base 3 "_law_scale" (spU K 0 16 F_law_scale) := by
  refine cau_of (k := 2) Fd sc_law_scale rfl hm (fun _ _ _ _ _ _ us hl => match us, hl with | [_], _ => rfl) (fun u cdv A outer s H E hr =>
  have m := md_calm (cx2 P w K mg base ["_law_urn", "_law_lap", "_law_gap_so", "_law_ease_so", "_law_found"] "_law_scale" (defScope s_law_scale) f cdv A outer s H E true []) rfl rfl
  have r : Rm (cx2 P w K mg base ["_law_urn", "_law_lap", "_law_gap_so", "_law_ease_so", "_law_found"] "_law_scale" (defScope s_law_scale) f cdv A outer s H E true []) 2 := rm_calm hr
  (ds_cons (ds_par3 2 3 4 rfl sc_law_scale.nd (dx_consD (de_tup (da_cons (de_op op_sub good_sub (de_callU (n := 1) 0 c_law_take hr (by decide) (da_cons de_int da_nil)) de_int) (da_cons de_int da_nil))) (dx_consD (de_tup (da_cons (de_op op_sub good_sub (de_callU (n := 1) 0 c_law_take hr (by decide) (da_cons de_int da_nil)) de_int) (da_cons de_int da_nil))) (dx_consF (df_lst da_nil) dx_nil))))
  (ds_cons (ds_for m PassesOwn.leaving (di_range1 B.n_range (de_op op_add good_add de_int (de_callU (n := 1) 0 c_law_take hr (by decide) (da_cons de_int da_nil)))) (dg_name 1 sc_law_scale.nd) (ds_cons (ds_append 4 (de_tup (da_cons (de_var 2) (da_cons (de_var 3) da_nil))))
  (ds_cons (ds_set 2 sc_law_scale.nd (de_call (n := 2) c_law_add hr (by decide) (da_cons (de_var 2) (da_cons (de_call (n := 2) c_law_frac hr (by decide) (da_cons (de_op op_add good_add de_int (de_callU (n := 1) 0 c_law_take hr (by decide) (da_cons de_int da_nil))) (da_cons (de_op op_add good_add de_int (de_callU (n := 1) 0 c_law_take hr (by decide) (da_cons de_int da_nil))) da_nil))) da_nil))))
  (ds_one (ds_set 3 sc_law_scale.nd (de_call (n := 2) c_law_add hr (by decide) (da_cons (de_var 3) (da_cons (de_call (n := 2) c_law_frac hr (by decide) (da_cons (de_op op_add good_add de_int (de_callU (n := 1) 0 c_law_take hr (by decide) (da_cons de_int da_nil))) (da_cons (de_op op_add good_add de_int (de_callU (n := 1) 0 c_law_take hr (by decide) (da_cons de_int da_nil))) da_nil))) da_nil))))))))
  (ds_one (ds_ret (de_tupO 4 B.n_tuple)))))) ?_
  rintro u ds g P' - hg ⟨rfl, h⟩
  simp [initU]
  have hsz : sizeLine = 16777216 := sizeLine_eq
  refine ⟨by omega, 7, rfl, by decide, by decide, fun v1 hv1 => ?_⟩
  refine ⟨_, _, rfl, rfl, by decide, by omega, 5, rfl, by decide, by decide, fun v2 hv2 => ?_⟩
  refine ⟨_, _, rfl, rfl, by decide, _, _, _, ⟨rfl, rfl, rfl⟩, by omega, 2, rfl, by decide, by decide, fun v3 hv3 => ?_⟩
  refine ⟨_, _, rfl, rfl, _, rfl, by omega, by omega, ?_⟩
  have en : (2 : Int) + (v3 : Int) = ((2 + v3 : Nat) : Int) := by omega
  rw [en, rgD_map]
  have e1 : PyData.tuple [.int ((v1 : Int) - 3), .int 1] = frD (hf (2 * ((v1 : Int) - 3))) := by rw [← fr_one]; simp [frD, fr]
  have e2 : PyData.tuple [.int ((v2 : Int) - 2), .int 1] = frD (hf (2 * ((v2 : Int) - 2))) := by rw [← fr_one]; simp [frD, fr]
  rw [e1, e2]
  refine forD_rel (fun ks g' δ => ∃ (a : Sv) (x y : Int) (ps : List (Int × Int)), δ = [.raw (.ref u), a, .dat (frD (hf x)), .dat (frD (hf y)), .own (ps.map fun p => .tuple [frD (hf p.1), frD (hf p.2)])] ∧ ps.length + ks.length ≤ 3 ∧ g' + 4 * ks.length ≤ g + 15)
    (fun z ks g' δ hI => ?_) (fun g' δ hI => ?_) (List.range (2 + v3)) _ _ ⟨_, _, _, [], rfl, by simp; omega, by simp; omega⟩
  · obtain ⟨a, x, y, ps, rfl, hl, hg'⟩ := hI
    refine ⟨_, rfl, fun k hkr hk => ?_⟩
    simp at hl hg'
    simp [putD]
    refine ⟨by decide, by omega, by omega, 4, rfl, by decide, by decide, fun w1 hw1 => ?_⟩
    refine ⟨_, _, rfl, rfl, by omega, 2, rfl, by decide, by decide, fun w2 hw2 => ?_⟩
    refine ⟨_, _, rfl, rfl, _, _, rfl, by omega, by omega, ?_⟩
    obtain ⟨k1, ek1⟩ := fr_12 (1 + (w1 : Int)) (b := 1 + (w2 : Int)) (by omega)
    rw [ek1]
    refine ⟨_, _, rfl, hf_ok _, hf_ok _, ?_⟩
    rw [plus_hf]
    refine ⟨by omega, 4, rfl, by decide, by decide, fun w3 hw3 => ?_⟩
    refine ⟨_, _, rfl, rfl, by omega, 2, rfl, by decide, by decide, fun w4 hw4 => ?_⟩
    refine ⟨_, _, rfl, rfl, _, _, rfl, by omega, by omega, ?_⟩
    obtain ⟨k2, ek2⟩ := fr_12 (1 + (w3 : Int)) (b := 1 + (w4 : Int)) (by omega)
    rw [ek2]
    refine ⟨_, _, rfl, hf_ok _, hf_ok _, ?_⟩
    rw [plus_hf]
    refine hk _ _ ⟨_, x + k1, y + k2, ps ++ [(x, y)], by simp; rfl, by simp; omega, by omega⟩
  · obtain ⟨a, x, y, ps, rfl, hl, hg'⟩ := hI
    refine ⟨_, rfl, by simp at hg'; omega, h _ ⟨?_, ?_, ?_⟩⟩
    · refine (sh_t (n := 2) fun z hz => ?_).mono (by decide)
      obtain ⟨p, _, rfl⟩ := List.mem_map.mp hz
      refine sh_t (n := 1) fun z hz => ?_
      simp only [List.mem_cons, List.not_mem_nil, or_false] at hz
      rcases hz with rfl | rfl <;> exact sh_frD _
    · simp [tpD, tpDs, tpDs_eq, frD, Function.comp_def]
    · simp [tpD, tpDs, tpDs_eq, lsD, lsDs, lsDs_eq, frD, Function.comp_def]
theorem sc_law_hards : FnScope ["_law_urn", "_law_spots_here", "_law_count", "_law_found", "_law_lap", "_law_spare_so", "_law_i", "_law_j"] ["_law_urn", "_law_spots_here", "_law_count"] (defScope s_law_hards) := ⟨rfl, rfl, rfl, by decide +kernel, rfl, by decide +kernel, by decide +kernel⟩
theorem ca_law_hards {f : Addr} {fd : FuncData} (B : Bi K mg) (Fd : FunD K "_law_hards" "_law_hards" (defArgs s_law_hards) (defBody s_law_hards) (defScope s_law_hards) [] [] f fd) (hm : mg "_law_hards" = some (.ref f)) (c_law_take : Ca P w K mg base 1 "_law_take" (spU K 1 1 F_law_take)) (c_law_of : Ca P w K mg base 2 "_law_of" (spU K 1 1 F_law_of)) (c_law_frac : Ca P w K mg base 1 "_law_frac" (spD K 2 F_law_frac)) (c_law_off : Ca P w K mg base 2 "_law_off" (spD K 2 F_law_off)) (c_law_two : Ca P w K mg base 3 "_law_two" (spU K 1 8 F_law_two)) :
    Ca P w K mg base 4 "_law_hards" (spU K 2 60 F_law_hards) := by
  refine cau_of (k := 3) Fd sc_law_hards rfl hm (fun _ _ _ _ _ _ us hl => match us, hl with | [_, _, _], _ => rfl) (fun u cdv A outer s H E hr =>
  have m := md_calm (cx2 P w K mg base ["_law_urn", "_law_spots_here", "_law_count", "_law_found", "_law_lap", "_law_spare_so", "_law_i", "_law_j"] "_law_hards" (defScope s_law_hards) f cdv A outer s H E true []) rfl rfl
  have r : Rm (cx2 P w K mg base ["_law_urn", "_law_spots_here", "_law_count", "_law_found", "_law_lap", "_law_spare_so", "_law_i", "_law_j"] "_law_hards" (defScope s_law_hards) f cdv A outer s H E true []) 3 := rm_calm hr
  (ds_cons (ds_setO 3 sc_law_hards.nd (df_lst da_nil))
  (ds_cons (ds_for m PassesOwn.leaving (di_range1 B.n_range (de_var 2)) (dg_name 4 sc_law_hards.nd) (ds_cons (ds_asgW (de_callU (n := 1) 0 c_law_two hr (by decide) (da_cons (de_callB call_len good_len B.n_len (da_cons (de_var 1) da_nil)) da_nil)) (dgw_tup (n := 2) rfl (dgws_cons (dgw_name 6 sc_law_hards.nd) (dgws_cons (dgw_name 7 sc_law_hards.nd) dgws_nil))))
  (ds_cons (ds_set 5 sc_law_hards.nd (de_call (n := 2) c_law_frac hr (by decide) (da_cons (de_callU (n := 1) 0 c_law_of hr (by decide) (da_cons (de_of (df_lst (da_cons de_int (da_cons de_int (da_cons de_int (da_cons de_int (da_cons de_int (da_cons de_int da_nil)))))))) da_nil)) (da_cons (de_op op_add good_add de_int (de_callU (n := 1) 0 c_law_take hr (by decide) (da_cons de_int da_nil))) da_nil))))
  (ds_one (ds_append 3 (de_tup (da_cons (de_var 6) (da_cons (de_var 7) (da_cons (de_call (n := 2) c_law_off hr (by decide) (da_cons (de_call (n := 2) c_law_off hr (by decide) (da_cons (de_ix (de_var 1) (de_var 7)) (da_cons (de_ix (de_var 1) (de_var 6)) da_nil))) (da_cons (de_var 5) da_nil))) da_nil)))))))))
  (ds_one (ds_ret (de_tupO 3 B.n_tuple)))))) ?_
  rintro u ds g P' - hg ⟨ss, c, rfl, h1, h2, h3, h⟩
  simp [initU]
  have hsz : sizeLine = 16777216 := sizeLine_eq
  refine ⟨by omega, ?_⟩
  rw [rgD_map]
  refine forD_rel (fun ks g' δ => ∃ (a b d e : Sv) (hs : List (Nat × Nat × Int)), δ = [.raw (.ref u), .dat (.tuple (ss.map fun s => frD (hf s))), .dat (.int (c : Int)), .own (hs.map hD), a, b, d, e] ∧ hs.length + ks.length = c ∧ (∀ h ∈ hs, h.1 < ss.length ∧ h.2.1 < ss.length ∧ h.1 ≠ h.2.1) ∧ g' + 10 * ks.length ≤ g + 60)
    (fun z ks g' δ hI => ?_) (fun g' δ hI => ?_) (List.range c) _ _ ⟨_, _, _, _, [], rfl, by simp, by simp, by simp; omega⟩
  · obtain ⟨a, b, d, e, hs, rfl, hl, hh, hg'⟩ := hI
    refine ⟨_, rfl, fun k hkr hk => ?_⟩
    simp at hl hg'
    simp [putD]
    refine ⟨by omega, ss.length, rfl, h1, by omega, fun i j hi hj hij => ?_⟩
    refine ⟨_, rfl, rfl, _, _, rfl, _, _, rfl, rfl, ?_⟩
    dsimp only
    refine ⟨by decide, by omega, _, rfl, by decide, by decide, fun s0 hs0 => ?_⟩
    obtain ⟨t0, rfl⟩ : ∃ t0 : Int, s0 = .int t0 := by
      simp only [List.mem_cons, List.not_mem_nil, or_false] at hs0
      rcases hs0 with rfl | rfl | rfl | rfl | rfl | rfl <;> exact ⟨_, rfl⟩
    refine ⟨by omega, 2, rfl, by decide, by decide, fun w2 hw2 => ?_⟩
    refine ⟨_, _, rfl, rfl, _, _, rfl, by omega, by omega, ?_⟩
    obtain ⟨k1, ek1⟩ := fr_12 t0 (b := 1 + (w2 : Int)) (by omega)
    rw [ek1]
    have ats : ∀ i, (hi : i < ss.length) → atI (ss.map fun s => frD (hf s)) (i : Int) = some (frD (hf ss[i])) := fun i hi => atI_nat (by rw [List.getElem?_map, List.getElem?_eq_getElem hi]; rfl)
    rw [wIx_t]
    refine ⟨_, ats j hj, ?_⟩
    rw [wIx_t]
    refine ⟨_, ats i hi, _, _, rfl, hf_ok _, hf_ok _, ?_⟩
    rw [off_hf]
    refine ⟨_, _, rfl, hf_ok _, hf_ok _, ?_⟩
    rw [off_hf]
    refine ⟨by decide, by omega, ?_⟩
    refine hk _ _ ⟨.dat (.int (z : Int)), .dat (frD (hf k1)), .dat (.int (i : Int)), .dat (.int (j : Int)), hs ++ [(i, j, _)], by simp [hD]; rfl, by simp; omega, fun q hq => ?_, by omega⟩
    rcases List.mem_append.mp hq with w | w
    · exact hh q w
    · simp at w
      subst w
      exact ⟨hi, hj, hij⟩
  · obtain ⟨a, b, d, e, hs, rfl, hl, hh, hg'⟩ := hI
    exact ⟨_, rfl, by simpa using hg', h hs (by simpa using hl) hh⟩
theorem sc_law_counts : FnScope ["_law_urn", "_law_many", "_law_count", "_law_found", "_law_lap", "_law_i", "_law_j"] ["_law_urn", "_law_many", "_law_count"] (defScope s_law_counts) := ⟨rfl, rfl, rfl, by decide +kernel, rfl, by decide +kernel, by decide +kernel⟩
theorem ca_law_counts {f : Addr} {fd : FuncData} (B : Bi K mg) (Fd : FunD K "_law_counts" "_law_counts" (defArgs s_law_counts) (defBody s_law_counts) (defScope s_law_counts) [] [] f fd) (hm : mg "_law_counts" = some (.ref f)) (c_law_scale : Ca P w K mg base 3 "_law_scale" (spU K 0 16 F_law_scale)) (c_law_two : Ca P w K mg base 3 "_law_two" (spU K 1 8 F_law_two)) :
    Ca P w K mg base 4 "_law_counts" (spU K 2 120 F_law_counts) := by
  refine cau_of (k := 3) Fd sc_law_counts rfl hm (fun _ _ _ _ _ _ us hl => match us, hl with | [_, _, _], _ => rfl) (fun u cdv A outer s H E hr =>
  have m := md_calm (cx2 P w K mg base ["_law_urn", "_law_many", "_law_count", "_law_found", "_law_lap", "_law_i", "_law_j"] "_law_counts" (defScope s_law_counts) f cdv A outer s H E true []) rfl rfl
  have r : Rm (cx2 P w K mg base ["_law_urn", "_law_many", "_law_count", "_law_found", "_law_lap", "_law_i", "_law_j"] "_law_counts" (defScope s_law_counts) f cdv A outer s H E true []) 3 := rm_calm hr
  (ds_cons (ds_setO 3 sc_law_counts.nd (df_lst da_nil))
  (ds_cons (ds_for m PassesOwn.leaving (di_range1 B.n_range (de_var 2)) (dg_name 4 sc_law_counts.nd) (ds_cons (ds_asgW (de_callU (n := 1) 0 c_law_two hr (by decide) (da_cons (de_var 1) da_nil)) (dgw_tup (n := 2) rfl (dgws_cons (dgw_name 5 sc_law_counts.nd) (dgws_cons (dgw_name 6 sc_law_counts.nd) dgws_nil))))
  (ds_one (ds_append 3 (de_tup (da_cons (de_var 5) (da_cons (de_var 6) (da_cons (de_callU (n := 0) 0 c_law_scale hr (by decide) da_nil) da_nil))))))))
  (ds_one (ds_ret (de_tupO 3 B.n_tuple)))))) ?_
  rintro u ds g P' - hg ⟨n, c, rfl, h1, h2, h3, h⟩
  simp [initU]
  have hsz : sizeLine = 16777216 := sizeLine_eq
  refine ⟨by omega, ?_⟩
  rw [rgD_map]
  refine forD_rel (fun ks g' δ => ∃ (a b d : Sv) (hs : List (Nat × Nat × PyData)), δ = [.raw (.ref u), .dat (.int (n : Int)), .dat (.int (c : Int)), .own (hs.map eD), a, b, d] ∧ hs.length + ks.length = c ∧ (∀ h ∈ hs, h.1 < n ∧ h.2.1 < n ∧ h.1 ≠ h.2.1 ∧ ScOk h.2.2) ∧ g' + 24 * ks.length ≤ g + 120)
    (fun z ks g' δ hI => ?_) (fun g' δ hI => ?_) (List.range c) _ _ ⟨_, _, _, [], rfl, by simp, by simp, by simp; omega⟩
  · obtain ⟨a, b, d, hs, rfl, hl, hh, hg'⟩ := hI
    refine ⟨_, rfl, fun k hkr hk => ?_⟩
    simp at hl hg'
    simp [putD]
    refine ⟨by omega, n, rfl, h1, by omega, fun i j hi hj hij => ?_⟩
    refine ⟨_, rfl, rfl, _, _, rfl, _, _, rfl, rfl, ?_⟩
    dsimp only
    refine ⟨by omega, rfl, fun sc hsc => ?_⟩
    dsimp only
    refine ⟨by decide, by omega, ?_⟩
    refine hk _ _ ⟨_, _, _, hs ++ [(i, j, sc)], by simp [eD]; exact ⟨rfl, rfl, rfl⟩, by simp; omega, fun q hq => ?_, by omega⟩
    rcases List.mem_append.mp hq with w | w
    · exact hh q w
    · simp at w
      subst w
      exact ⟨hi, hj, hij, hsc⟩
  · obtain ⟨a, b, d, hs, rfl, hl, hh, hg'⟩ := hI
    exact ⟨_, rfl, by simpa using hg', h hs (by simpa using hl) hh⟩
theorem sc_law_spots : FnScope ["_law_urn", "_law_many", "_law_k"] ["_law_urn", "_law_many"] (defScope s_law_spots) := ⟨rfl, rfl, rfl, by decide +kernel, rfl, by decide +kernel, by decide +kernel⟩
theorem ca_law_spots {f : Addr} {fd : FuncData} (B : Bi K mg) (Fd : FunD K "_law_spots" "_law_spots" (defArgs s_law_spots) (defBody s_law_spots) (defScope s_law_spots) [] [] f fd) (hm : mg "_law_spots" = some (.ref f)) (c_law_take : Ca P w K mg base 1 "_law_take" (spU K 1 1 F_law_take)) (c_law_frac : Ca P w K mg base 1 "_law_frac" (spD K 2 F_law_frac)) :
    Ca P w K mg base 2 "_law_spots" (spU K 1 12 F_law_spots) := by
  refine cau_of (k := 1) Fd sc_law_spots rfl hm (fun _ _ _ _ _ _ us hl => match us, hl with | [_, _], _ => rfl) (fun u cdv A outer s H E hr =>
  have m := md_calm (cx2 P w K mg base ["_law_urn", "_law_many", "_law_k"] "_law_spots" (defScope s_law_spots) f cdv A outer s H E true []) rfl rfl
  have r : Rm (cx2 P w K mg base ["_law_urn", "_law_many", "_law_k"] "_law_spots" (defScope s_law_spots) f cdv A outer s H E true []) 1 := rm_calm hr
  (ds_one (ds_ret (de_op op_catA good_catT (de_tup (da_cons (de_tup (da_cons de_int (da_cons de_int da_nil))) da_nil)) (de_callTy call_tuple_of good_tup B.n_tuple (da_cons (de_of (df_lc (own := [("_law_k", 2)]) m sc_law_spots.nd (di_range2 rfl B.n_range de_int (de_var 1)) (blkOk_by (N := ["_law_urn", "_law_many", "_law_k"]) (sc := (defScope s_law_spots)) (by decide +kernel)) (fun _ _ _ _ _ => (dg_name 2 sc_law_spots.nd)) (fun _ _ _ _ _ => dtt_nil) (fun _ _ _ _ _ => (de_call (n := 2) c_law_frac hr (by decide) (da_cons (de_op op_sub good_sub (de_callU (n := 1) 0 c_law_take hr (by decide) (da_cons de_int da_nil)) de_int) (da_cons (de_op op_add good_add de_int (de_callU (n := 1) 0 c_law_take hr (by decide) (da_cons de_int da_nil))) da_nil)))))) da_nil)))))) ?_
  rintro u ds g P' - hg ⟨n, rfl, h1, h2, h⟩
  simp [initU]
  have hsz : sizeLine = 16777216 := sizeLine_eq
  refine ⟨by decide, by decide, by omega, ?_⟩
  have er : rgD 1 (n : Int) = (List.range (n - 1)).map fun (i : Nat) => PyData.int (1 + (i : Int)) := by
    unfold rgD
    have : ((n : Int) - 1).toNat = n - 1 := by omega
    rw [this]
  rw [er]
  have key : ∀ (ks : List Nat) (ss : List Int) (g' : Nat), ss.length + ks.length = n → ss[0]? = some 0 → g' + 2 * ks.length ≤ g + 12 → compD (mName 2) [2] fYes
          (fun g δ P => δ[0]? = some (Sv.raw (V.ref u)) ∧ g ≤ 999 ∧ F_law_take [PyData.int 13] fun d => wI0 (fun i j => PyData.int (i - j)) d (PyData.int 6) fun d =>
                    δ[0]? = some (Sv.raw (V.ref u)) ∧ g ≤ 998 ∧ F_law_take [PyData.int 2] fun e => wI0 (fun i j => PyData.int (i + j)) (PyData.int 1) e fun d_1 => F_law_frac [d, d_1] (P (g + 1 + 1)))
          (wipeD [Sv.raw (V.ref u), Sv.dat (PyData.int ↑n), Sv.emp] [2]) (ks.map fun (i : Nat) => PyData.int (1 + (i : Int))) ((ss.drop 1).map fun s => frD (hf s)) g' fun g1 ds =>
          1 + ds.length ≤ sizeLine ∧ g1 ≤ g + 12 ∧ P' (PyData.tuple (PyData.tuple [PyData.int 0, PyData.int 1] :: ds)) := by
    intro ks
    induction ks with
    | nil =>
      intro ss g' hl h0 hg'
      cases ss with
      | nil => cases h0
      | cons s0 ss =>
        simp at h0 hl hg'
        subst h0
        refine ⟨by simp; omega, hg', ?_⟩
        have e0 : PyData.tuple [PyData.int 0, PyData.int 1] = frD (hf 0) := by rw [hf_zero]; rfl
        rw [e0]
        exact h (0 :: ss) (by simpa using hl) rfl
    | cons q ks ih =>
      intro ss g' hl h0 hg'
      simp at hl hg'
      refine ⟨_, rfl, by simp, ?_⟩
      refine ⟨rfl, by omega, 13, rfl, by decide, by decide, fun v1 hv1 => ?_⟩
      refine ⟨_, _, rfl, rfl, rfl, by omega, 2, rfl, by decide, by decide, fun v2 hv2 => ?_⟩
      refine ⟨_, _, rfl, rfl, _, _, rfl, by omega, by omega, ?_⟩
      obtain ⟨k1, ek1⟩ := fr_12 ((v1 : Int) - 6) (b := 1 + (v2 : Int)) (by omega)
      rw [ek1]
      have hss : 0 < ss.length := by
        rcases Nat.eq_zero_or_pos ss.length with w | w
        · rw [List.length_eq_zero_iff.mp w] at h0; cases h0
        · exact w
      have := ih (ss ++ [k1]) (g' + 1 + 1) (by simp; omega) (by rw [List.getElem?_append_left hss]; exact h0) (by omega)
      rw [List.drop_append_of_le_length (by omega)] at this
      simpa using this
  exact key (List.range (n - 1)) [0] g (by simp; omega) rfl (by simp; omega)
end Lk

set_option Elab.async false
set_option linter.all false
set_option maxRecDepth 100000
set_option maxHeartbeats 4000000
/-! sorted and min of nested data -/
namespace Lk
open PySem PySem.Spec PyProof.Rows L2 L2H HotX LkHot
section
variable {X : Cx} {W : Option Addr}
def idD : PyData → PyData := fun d => d
def sortD (ds : List PyData) : List PyData := ds.mergeSort (PySem.W.dataLe false idD)
theorem each_dp {K : PySem.W.Frag} {H : Hp} {R : Value → PyData → Prop} : ∀ {xs : List V} {us : List Value} {ds : List PyData}, DpAll K H xs ds → Vals xs us → (∀ x u d, Dp K H x d → RelV x u → R u d) → PySem.W.EachIs R us ds
  | [], _, [], .nil, .nil, _ => .nil
  | x :: xs, _ :: _, d :: ds, .cons h1 h2, .cons r1 r2, f => .cons (f x _ d h1 r1) (each_dp h2 r2 f)
theorem back_dp {K : PySem.W.Frag} {H : Hp} : ∀ {us : List Value} {ds : List PyData}, PySem.W.EachIs (fun u d => ∃ x, RelV x u ∧ Dp K H x d) us ds → ∃ xs, Vals xs us ∧ DpAll K H xs ds
  | _, _, .nil => ⟨[], .nil, .nil⟩
  | _, _, .cons h t => by
    obtain ⟨x, h1, h2⟩ := h
    obtain ⟨xs, h3, h4⟩ := back_dp t
    exact ⟨x :: xs, .cons h1 h3, .cons h2 h4⟩
def rSortD (K : PySem.W.Frag) : List V → Hp → VK → Prop := fun vs H Q => ∃ (G : Hp) (a : Addr) (xs : List V) (ds : List PyData), vs = [.ref a] ∧ Same G H ∧ SqL K H a xs ∧ DpAll K G xs ds ∧ PySem.W.AllAlike ds ∧ PySem.W.Sortable ds ∧ (∀ d ∈ ds, d.depth ≤ 60) ∧
  ∀ p ys, H p = none → DpAll K G ys (sortD ds) → Q (.ref p) (upd H p (.lst ys))
theorem cr_sortD (hu : X.A.units + 64 < cLine) : CallR X (.builtin "sorted") (rSortD X.K) := by
  intro pins s σ H vs us Q I r h
  obtain ⟨G, a, xs, ds, rfl, sg, hs, hx, hal, hk, hdep, q⟩ := h
  obtain ⟨its, rv, hl, hz⟩ := I.list hs
  rw [Vals.ref1 r]
  have hL : ds.length ≤ sizeLine := by rw [← dpAll_len hx]; exact hz
  have ei : ds.map idD = ds := List.map_id' ds
  refine PySem.W.sorted_data (bs := ds) (enc := idD) (R := fun u d => ∃ x, RelV x u ∧ Dp X.K G x d) (vs := its) hl.isList (each_dp hx rv fun x u d h1 h2 => ⟨x, h2, h1⟩) (each_dp hx rv fun x u d h1 h2 => Dp.reads I d x u (h1.keep sg) h2)
    (by rw [ei]; exact hal) (by rw [ei]; exact hk) hL (fun d hd => by have := hdep d hd; show X.A.units + 2 + d.depth < cLine; omega) fun out hlen he => ?_
  obtain ⟨ys, h3, h4⟩ := back_dp he
  have hfr : H (s.heap.objs.size + 1) = none := I.hok.fresh (Nat.le_succ _)
  have hly : ys.length ≤ sizeLine := by
    have := h3.length
    rw [this, hlen]; exact hL
  obtain ⟨n, hn⟩ := PyProof.Rows.sortedAll_at s.heap its out.toArray
  refine ⟨.ref (s.heap.objs.size + 1), upd H (s.heap.objs.size + 1) (.lst ys), I.laid (t' := s.toks) (fun b o e => PyProof.Rows.sortedAll_old e) (Nat.le_succ _) ⟨hly, out, n, h3, hn⟩, rfl, q _ ys hfr h4⟩
theorem df_sortD {a : Expr} {F : DT} {lx : Str} {p pos : Pos} (hu : X.A.units + 64 < cLine) (hm : X.mg lx = none) (ha : DE X W a F)
    (hv : bootBuiltins lx = some (.builtin "sorted") := by decide +kernel) (hg : Gl X lx := by rfl) (hn : lx ≠ "__name__" := by decide) (hdb : (lx == ("__debug__" : Str)) = false := by decide)
    (he : starEach [a] X.env = (false, eval a X.env) :: starEach [] X.env := by rfl) (hpl : (backTo pos (starEach [] X.env)).any (·.1) = false := by rfl) :
    DF X W (.Call (.Name lx p) [a] [] pos) (fun g δ P => F g δ fun g1 d => ∃ ds, d = .list ds ∧ PySem.W.AllAlike ds ∧ PySem.W.Sortable ds ∧ (∀ d ∈ ds, d.depth ≤ 60) ∧ P g1 (sortD ds)) :=
  pe_mono (pe_callB (cr_sortD hu) hg hm hv (pa_cons ha pa_nil he) (hn := hn) (hdb := hdb) (he := he) (hpl := hpl)) fun σ H Q ⟨E, O, g, δ, P, R, f, k⟩ => ⟨E, O, g, δ, _, R, f, fun g1 d v H1 ⟨ds, e, h1, h2, h3, pp⟩ R1 s1 x1 => by
    subst e
    cases x1 with
    | lst hs hx => exact ⟨hid O H1, _, _, ds, rfl, hid_same, Same.seq hid_same hs, hx, h1, h2, h3, fun p' ys hn' hy => k g1 _ _ p' H1 pp R1 s1 hn' hy⟩⟩
/-- sorted(x), x a list of one's own -/
theorem df_sortDO {lx x : Str} {p px pos : Pos} (i : Nat) (hu : X.A.units + 64 < cLine) (hm : X.mg lx = none)
    (hv : bootBuiltins lx = some (.builtin "sorted") := by decide +kernel) (hg : Gl X lx := by rfl) (hn : lx ≠ "__name__" := by decide) (hdb : (lx == ("__debug__" : Str)) = false := by decide)
    (hN : X.N[i]? = some x := by rfl) (hvs : Vis X.env.scope x := by first | exact Or.inl rfl | exact Or.inr (Or.inl rfl) | exact Or.inr (Or.inr rfl)) (hd : (x == ("__debug__" : Str)) = false := by decide) (hcd : (x == ("__classdict__" : Str)) = false := by decide)
    (he : starEach [.Name x px] X.env = (false, eval (.Name x px) X.env) :: starEach [] X.env := by rfl) (hpl : (backTo pos (starEach [] X.env)).any (·.1) = false := by rfl) :
    DF X W (.Call (.Name lx p) [.Name x px] [] pos) (fun g δ P => ∃ ds, δ[i]? = some (.own ds) ∧ PySem.W.AllAlike ds ∧ PySem.W.Sortable ds ∧ (∀ d ∈ ds, d.depth ≤ 60) ∧ P g (sortD ds)) :=
  pe_mono (pe_callB (cr_sortD hu) hg hm hv (pa_cons (pe_var hN hvs hd hcd) pa_nil he) (hn := hn) (hdb := hdb) (he := he) (hpl := hpl)) fun σ H Q ⟨E, O, g, δ, P, R, ⟨ds, e, q1, q2, q3, q4⟩, k⟩ => by
    obtain ⟨a, vs, h1, h2, h3, h4⟩ := sl_own R e
    exact ⟨.ref a, h1, hid O H, a, vs, ds, rfl, hid_same, SqL.of h3, h4, q1, q2, q3, fun p' ys hn' hy => k g _ _ p' H q4 R .refl hn' hy⟩
/-! ### min -/
def rMinD (K : PySem.W.Frag) : List V → Hp → VK → Prop := fun vs H Q => ∃ (G : Hp) (a : Addr) (xs : List V) (d : PyData) (ds : List PyData), vs = [.ref a] ∧ Same G H ∧ SqT K H a xs ∧ DpAll K G xs (d :: ds) ∧ PySem.W.AlikeAll (d :: ds) ∧ PyData.depthAll (d :: ds) ≤ 60 ∧ PyData.canLayAll0 (d :: ds) = true ∧
  ∀ x, Dp K G x (PySem.W.minD d ds) → Q x H
theorem minD_mem (d : PyData) (ds : List PyData) : PySem.W.minD d ds ∈ d :: ds := by
  unfold PySem.W.minD
  have : ∀ (ds : List PyData) (d : PyData), ds.foldl (fun a y => if PySem.W.dataLt y a = true then y else a) d ∈ d :: ds := by
    intro ds
    induction ds with
    | nil => intro d; simp
    | cons e ds ih =>
      intro d
      rw [List.foldl_cons]
      have := ih (if PySem.W.dataLt e d = true then e else d)
      rcases List.mem_cons.mp this with h | h
      · rw [h]
        split
        · exact List.mem_cons_of_mem _ List.mem_cons_self
        · exact List.mem_cons_self
      · exact List.mem_cons_of_mem _ (List.mem_cons_of_mem _ h)
  exact this ds d
theorem reads_all {pins : List (Addr × Obj)} {σ : L2.St} {H : Hp} {s : Shared} (I : Inv X pins σ H s) : ∀ {xs : List V} {us : List Value} {ds : List PyData}, DpAll X.K H xs ds → Vals xs us → ∃ as, ReadsAll s.heap us ds as
  | [], _, [], .nil, .nil => ⟨_, .nil⟩
  | x :: xs, _ :: _, d :: ds, .cons h1 h2, .cons r1 r2 => by
    obtain ⟨as, e1⟩ := Dp.reads I d x _ h1 r1
    obtain ⟨bs, e2⟩ := reads_all I h2 r2
    exact ⟨_, .cons e1 e2⟩
theorem cr_minD (hc : X.calm = true) (hu : X.A.units + 64 < cLine) : CallR X (.builtin "min") (rMinD X.K) := by
  intro pins s σ H vs us Q I r h
  obtain ⟨G, a, xs, d, ds, rfl, sg, hs, hx, hal, hdep, hcan, q⟩ := h
  obtain ⟨its, rv, hl, hz⟩ := I.tuple hs
  rw [Vals.ref1 r]
  have hxH : DpAll X.K H xs (d :: ds) := hx.keep sg
  obtain ⟨as, hr⟩ := reads_all I hxH rv
  refine PySem.W.min_tuple_data (vs := its.toArray) (I.ok.hd hc) hl hr hal (by omega) fun i v h' tk bs hv hrd hk => ?_
  have hv' : its[i]? = some v := by simpa using hv
  have hi : i < xs.length := by
    have := (List.getElem?_eq_some_iff.mp hv').1
    rw [rv.length]; exact this
  have hxi : xs[i]? = some xs[i] := List.getElem?_eq_getElem hi
  obtain ⟨u, hu1, hu2⟩ := rv.get hxi
  rw [hv'] at hu1
  cases hu1
  obtain ⟨e, he1, he2⟩ := dpAll_get hx hxi
  obtain ⟨cs, hr2⟩ := Dp.reads I e xs[i] v (he2.keep sg) hu2
  have hmem : e ∈ d :: ds := List.mem_of_getElem? he1
  have I2 : Inv X pins σ H { s with heap := h', toks := tk } := I.kept hk
  have ee : e = PySem.W.minD d ds := SeqAt.Reads.unique e _ v _ _ (PyData.canLay0_of_mem _ _ hcan hmem) (PyProof.Rows.Reads.keeps hk hr2) hrd
  rw [ee] at he2
  exact ⟨xs[i], H, I2, hu2, q _ he2⟩
theorem de_minD {a : Expr} {F : DT} {lx : Str} {p pos : Pos} (hc : X.calm = true) (hu : X.A.units + 64 < cLine) (hm : X.mg lx = none) (ha : DE X W a F)
    (hv : bootBuiltins lx = some (.builtin "min") := by decide +kernel) (hg : Gl X lx := by rfl) (hn : lx ≠ "__name__" := by decide) (hdb : (lx == ("__debug__" : Str)) = false := by decide)
    (he : starEach [a] X.env = (false, eval a X.env) :: starEach [] X.env := by rfl) (hpl : (backTo pos (starEach [] X.env)).any (·.1) = false := by rfl) :
    DE X W (.Call (.Name lx p) [a] [] pos) (fun g δ P => F g δ fun g1 e => ∃ d ds, e = .tuple (d :: ds) ∧ PySem.W.AlikeAll (d :: ds) ∧ PyData.depthAll (d :: ds) ≤ 60 ∧ PyData.canLayAll0 (d :: ds) = true ∧ P g1 (PySem.W.minD d ds)) :=
  pe_mono (pe_callB (cr_minD hc hu) hg hm hv (pa_cons ha pa_nil he) (hn := hn) (hdb := hdb) (he := he) (hpl := hpl)) fun σ H Q ⟨E, O, g, δ, P, R, f, k⟩ => ⟨E, O, g, δ, _, R, f, fun g1 d v H1 ⟨d0, ds, e, h1, h2, h3, pp⟩ R1 s1 x1 => by
    subst e
    cases x1 with
    | tup hs hx => exact ⟨hid O H1, _, _, d0, ds, rfl, hid_same, seqT_keep hid_same hs, hx, h1, h2, h3, fun x hx => k g1 _ _ H1 pp R1 s1 hx⟩⟩
end
end Lk

set_option Elab.async false
set_option linter.all false
set_option maxRecDepth 100000
set_option maxHeartbeats 4000000
namespace Lk
open PySem PySem.Spec PyProof.Rows L2 L2H HotX LkHot LkHead
variable {P : Program} {w : World} {K : PySem.W.Frag} {mg : Str → Option Value} {base : Heap}
set_option pp.deepTerms true
set_option pp.maxSteps 50000
/-! ### cuts, orders -/
def cutsL (n : Nat) : List (List Nat) := (List.range n).foldl (fun f k => f ++ f.map (fun o => o ++ [k])) [[]]
def properL (n : Nat) : List (List Nat) := (cutsL n).filter fun o => decide (0 < o.length) && decide (o.length < n)
def cuts (n : Nat) : List (List Nat) := (properL n).mergeSort (PySem.W.dataLe false lotD)
def F_law_cuts : DSp := fun ds P => ∃ n : Nat, ds = [.int (n : Int)] ∧ 2 ≤ n ∧ n ≤ 5 ∧ P (.list ((cuts n).map lotD))
def ordStep (some : List Nat) (s : List (List Nat) × List (List Nat)) : List (List Nat) × List (List Nat) :=
  let later := s.2.flatMap fun row => (some.filter fun o => !decide (o ∈ row) && decide (row.headD 0 < o)).map fun o => row ++ [o]
  (s.1 ++ later, later)
def ordersN (n : Nat) : List (List Nat) := ((List.range (n - 1)).foldl (fun s _ => ordStep (List.range n) s) ([], (List.range n).map fun x => [x])).1
def F_law_orders : DSp := fun ds P => ∃ n : Nat, ds = [.list (natD (List.range n))] ∧ 2 ≤ n ∧ n ≤ 5 ∧ P (.list ((ordersN n).map lotD))
theorem alike_lots (a b : List Nat) : PySem.W.alike (lotD a) (lotD b) = true := by
  have e : ∀ l : List Nat, lotD l = .tuple ((l.map fun (x : Nat) => (x : Int)).map PyData.int) := fun l => by simp [lotD, natD]
  rw [e, e]
  simp only [PySem.W.alike]
  exact PySem.W.alike_ints _ _
theorem sh_lot {n : Nat} (l : List Nat) : Sh (n + 1) (lotD l) := sh_t fun x hx => by
  obtain ⟨k, _, rfl⟩ := List.mem_map.mp hx
  exact sh_i _
theorem sort_map {α : Type} (enc : α → PyData) (bs : List α) : sortD (bs.map enc) = (bs.mergeSort (PySem.W.dataLe false enc)).map enc := by
  unfold sortD
  exact (List.map_mergeSort (f := enc) (r := PySem.W.dataLe false enc) (s := PySem.W.dataLe false idD) (fun a _ b _ => rfl)).symm
def ordInit (n : Nat) : List (List Nat) × List (List Nat) := ([], (List.range n).map fun x => [x])
def ordAt (n j : Nat) : List (List Nat) × List (List Nat) := (List.range j).foldl (fun s _ => ordStep (List.range n) s) (ordInit n)
def ordExt (n : Nat) (row : List Nat) : List (List Nat) := ((List.range n).filter fun o => !decide (o ∈ row) && decide (row.headD 0 < o)).map fun o => row ++ [o]
theorem ordAt_succ (n j : Nat) : ordAt n (j + 1) = ((ordAt n j).1 ++ (ordAt n j).2.flatMap (ordExt n), (ordAt n j).2.flatMap (ordExt n)) := by
  unfold ordAt
  rw [List.range_succ, List.foldl_append]
  rfl
theorem ordAt_ok : ∀ n, n ≤ 5 → ∀ j, j ≤ 4 → (ordAt n j).1.length ≤ 1000 ∧ (ordAt n j).2.length ≤ 1000 ∧ ∀ r ∈ (ordAt n j).2, 0 < r.length ∧ r.length ≤ 6 := by decide +kernel
theorem sc_law_cuts : FnScope ["_law_many", "_law_found", "_law_k", "_law_own"] ["_law_many"] (defScope s_law_cuts) := ⟨rfl, rfl, rfl, by decide +kernel, rfl, by decide +kernel, by decide +kernel⟩
theorem ca_law_cuts {f : Addr} {fd : FuncData} (B : Bi K mg) (Fd : FunD K "_law_cuts" "_law_cuts" (defArgs s_law_cuts) (defBody s_law_cuts) (defScope s_law_cuts) [] [] f fd) (hm : mg "_law_cuts" = some (.ref f)) :
    Ca P w K mg base 1 "_law_cuts" (spD K 1 F_law_cuts) := by
  refine ca_of (k := 0) Fd sc_law_cuts rfl hm (fun _ _ _ _ _ _ us hl => match us, hl with | [_], _ => rfl) (fun cdv A outer s H E hr =>
  have m := md_calm (cx2 P w K mg base ["_law_many", "_law_found", "_law_k", "_law_own"] "_law_cuts" (defScope s_law_cuts) f cdv A outer s H E true []) rfl rfl
  have r : Rm (cx2 P w K mg base ["_law_many", "_law_found", "_law_k", "_law_own"] "_law_cuts" (defScope s_law_cuts) f cdv A outer s H E true []) 0 := rm_calm hr
  (ds_cons (ds_set 1 sc_law_cuts.nd (de_of (df_lst (da_cons (de_tup da_nil) da_nil))))
  (ds_cons (ds_for m PassesOwn.leaving (di_range1 B.n_range (de_var 0)) (dg_name 2 sc_law_cuts.nd) (ds_one (ds_set 1 sc_law_cuts.nd (de_op op_catL good_catL (de_var 1) (de_of (df_lc (own := [("_law_own", 3)]) m sc_law_cuts.nd (di_list (de_var 1)) (blkOk_by (N := ["_law_many", "_law_found", "_law_k", "_law_own"]) (sc := (defScope s_law_cuts)) (by decide +kernel)) (fun _ _ _ _ _ => (dg_name 3 sc_law_cuts.nd)) (fun _ _ _ _ _ => dtt_nil) (fun _ _ _ _ _ => (de_op op_catA good_catT (de_var 3) (de_tup (da_cons (de_var 2) da_nil))))))))))
  (ds_one (ds_ret (de_of (df_sortD r.hu64 B.n_sorted (de_of (df_lc (own := [("_law_own", 3)]) m sc_law_cuts.nd (di_list (de_var 1)) (blkOk_by (N := ["_law_many", "_law_found", "_law_k", "_law_own"]) (sc := (defScope s_law_cuts)) (by decide +kernel)) (fun _ _ _ _ _ => (dg_name 3 sc_law_cuts.nd)) (fun _ _ _ _ _ => (dtt_one (dt_chain op_lt good_lt op_lt good_lt de_int (de_callB call_len good_len B.n_len (da_cons (de_var 3) da_nil)) (de_var 0)))) (fun _ _ _ _ _ => (de_var 3))))))))))) ?_
  rintro ds P' - ⟨n, rfl, h1, h2, h⟩
  simp [initD]
  have hsz : sizeLine = 16777216 := sizeLine_eq
  refine ⟨by decide, by omega, ?_⟩
  rw [rgD_map]
  refine forD_rel (fun ks g δ => ∃ (f : List (List Nat)) (a b : Sv), δ = [.dat (.int (n : Int)), .dat (.list (f.map lotD)), a, b] ∧ f.length * 2 ^ ks.length ≤ 32 ∧ (∀ o ∈ f, o.length + ks.length ≤ 5) ∧ ks.foldl (fun f k => f ++ f.map (fun o => o ++ [k])) f = cutsL n)
    (fun x xs g δ hI => ?_) (fun g δ hI => ?_) (List.range n) 0 _ ⟨[[]], _, _, rfl, ?_, ?_, rfl⟩
  · obtain ⟨f, a, b, rfl, hl, ho, hf⟩ := hI
    refine ⟨_, rfl, fun k hkr hk => ?_⟩
    simp [putD]
    rw [List.length_cons, Nat.pow_succ] at hl
    have hp : 1 ≤ 2 ^ xs.length := Nat.one_le_two_pow
    have hfl : f.length * 2 ≤ 32 := by
      have : f.length * 2 ≤ f.length * (2 ^ xs.length * 2) := Nat.mul_le_mul_left _ (by omega)
      omega
    refine compD_all (f := fun o => lotD (o ++ [x])) f (fun o hoo => ⟨_, rfl, by simp, fun kk g q => ?_⟩) ?_
    · have := ho o hoo
      simp at this
      refine ⟨_, rfl, _, rfl, by decide, ?_⟩
      show wCatT (.tuple (natD o)) _ _
      rw [wCatT_t]
      refine ⟨by simp [natD]; omega, ?_⟩
      have e : PyData.tuple (natD o ++ [.int (x : Int)]) = lotD (o ++ [x]) := by simp [lotD, natD]
      rw [e]; exact q
    · refine ⟨by simp; omega, ?_⟩
      refine hk _ _ ⟨f ++ f.map (fun o => o ++ [x]), _, _, by simp [Function.comp_def]; exact ⟨rfl, rfl⟩, ?_, fun o hoo => ?_, by rw [List.foldl_cons] at hf; exact hf⟩
      · rw [List.length_append, List.length_map, Nat.add_mul, ← Nat.mul_two]
        rw [Nat.mul_comm (2 ^ xs.length) 2, ← Nat.mul_assoc] at hl
        have e : f.length * 2 ^ xs.length * 2 = f.length * 2 * 2 ^ xs.length := by rw [Nat.mul_assoc, Nat.mul_comm (2 ^ xs.length), ← Nat.mul_assoc]
        omega
      · rcases List.mem_append.mp hoo with z | z
        · have := ho o z
          simp at this
          omega
        · obtain ⟨o', h', rfl⟩ := List.mem_map.mp z
          have := ho o' h'
          simp at this ⊢
          omega
  · obtain ⟨f, a, b, rfl, hl, ho, hf⟩ := hI
    rw [List.foldl_nil] at hf
    subst hf
    refine ⟨_, rfl, _, rfl, ?_⟩
    refine compD_map (t := fun o => decide (0 < o.length) && decide (o.length < n)) (f := lotD) (cutsL n) (fun o hoo => ⟨_, rfl, by simp, fun kk g q => ?_, fun _ kk g q => ⟨_, rfl, q⟩⟩) ?_
    · refine ⟨_, rfl, ?_⟩
      show wLen [.tuple (natD o)] _
      rw [wLen_t]
      have ln : (natD o).length = o.length := by simp [natD]
      refine ⟨_, _, rfl, rfl, ?_⟩
      dsimp only
      rw [selB, ln]
      by_cases z : 0 < o.length
      · rw [if_pos (by simpa using z)]
        refine ⟨_, rfl, _, _, rfl, rfl, ?_⟩
        dsimp only
        rw [selB]
        by_cases z2 : o.length < n
        · rw [if_pos (by simpa using z2)]
          simpa [z, z2] using q
        · rw [if_neg (by simpa using z2)]
          simpa [z, z2] using q
      · rw [if_neg (by simpa using z)]
        simpa [z] using q
    · rw [List.nil_append]
      have em : ((cutsL n).filter fun o => decide (0 < o.length) && decide (o.length < n)) = properL n := rfl
      rw [em]
      refine ⟨fun d hd d' hd' => ?_, .inl fun d hd => ?_, fun d hd => ?_, ?_⟩
      · obtain ⟨x, _, rfl⟩ := List.mem_map.mp hd
        obtain ⟨y, _, rfl⟩ := List.mem_map.mp hd'
        exact alike_lots x y
      · obtain ⟨x, hx, rfl⟩ := List.mem_map.mp hd
        have := (List.mem_filter.mp hx).2
        cases x with
        | nil => simp at this
        | cons a r => exact ⟨_, _, rfl⟩
      · obtain ⟨x, _, rfl⟩ := List.mem_map.mp hd
        exact Nat.le_trans (sh_lot (n := 0) x).2 (by decide)
      · rw [sort_map]; exact h
  · simp
    have : 2 ^ n ≤ 2 ^ 5 := Nat.pow_le_pow_right (by decide) h2
    omega
  · intro o ho
    simp at ho
    subst ho
    simp; omega
theorem sc_law_orders : FnScope ["_law_some", "_law_lap", "_law_found", "_law_rows", "_law_later", "_law_row", "_law_own"] ["_law_some"] (defScope s_law_orders) := ⟨rfl, rfl, rfl, by decide +kernel, rfl, by decide +kernel, by decide +kernel⟩
theorem ca_law_orders {f : Addr} {fd : FuncData} (B : Bi K mg) (Fd : FunD K "_law_orders" "_law_orders" (defArgs s_law_orders) (defBody s_law_orders) (defScope s_law_orders) [] [] f fd) (hm : mg "_law_orders" = some (.ref f)) :
    Ca P w K mg base 1 "_law_orders" (spD K 1 F_law_orders) := by
  refine ca_of (k := 0) Fd sc_law_orders rfl hm (fun _ _ _ _ _ _ us hl => match us, hl with | [_], _ => rfl) (fun cdv A outer s H E hr =>
  have m := md_calm (cx2 P w K mg base ["_law_some", "_law_lap", "_law_found", "_law_rows", "_law_later", "_law_row", "_law_own"] "_law_orders" (defScope s_law_orders) f cdv A outer s H E true []) rfl rfl
  have r : Rm (cx2 P w K mg base ["_law_some", "_law_lap", "_law_found", "_law_rows", "_law_later", "_law_row", "_law_own"] "_law_orders" (defScope s_law_orders) f cdv A outer s H E true []) 0 := rm_calm hr
  (ds_cons (ds_par2 2 3 m sc_law_orders.nd (da_cons (de_of (df_lst da_nil)) (da_cons (de_of (df_lc (own := [("_law_own", 6)]) m sc_law_orders.nd (di_list (de_var 0)) (blkOk_by (N := ["_law_some", "_law_lap", "_law_found", "_law_rows", "_law_later", "_law_row", "_law_own"]) (sc := (defScope s_law_orders)) (by decide +kernel)) (fun _ _ _ _ _ => (dg_name 6 sc_law_orders.nd)) (fun _ _ _ _ _ => dtt_nil) (fun _ _ _ _ _ => (de_tup (da_cons (de_var 6) da_nil))))) da_nil)))
  (ds_cons (ds_for m PassesOwn.leaving (di_range1 B.n_range (de_op op_sub good_sub (de_callB call_len good_len B.n_len (da_cons (de_var 0) da_nil)) de_int)) (dg_name 1 sc_law_orders.nd) (ds_cons (ds_set 4 sc_law_orders.nd (de_of (df_lst da_nil)))
  (ds_cons (ds_for m PassesOwn.leaving (di_list (de_var 3)) (dg_name 5 sc_law_orders.nd) (ds_one (ds_set 4 sc_law_orders.nd (de_op op_catL good_catL (de_var 4) (de_of (df_lc (own := [("_law_own", 6)]) m sc_law_orders.nd (di_list (de_var 0)) (blkOk_by (N := ["_law_some", "_law_lap", "_law_found", "_law_rows", "_law_later", "_law_row", "_law_own"]) (sc := (defScope s_law_orders)) (by decide +kernel)) (fun _ _ _ _ _ => (dg_name 6 sc_law_orders.nd)) (fun _ _ _ _ _ => (dtt_one (dt_of (dw_and (dt_cmp op_notIn_seq (good_inI (neg := true)) (de_var 6) (de_var 5)) (dw_and1 (dt_cmp op_gt good_gt (de_var 6) (de_ix (de_var 5) de_int))))))) (fun _ _ _ _ _ => (de_op op_catA good_catT (de_var 5) (de_tup (da_cons (de_var 6) da_nil))))))))))
  (ds_one (ds_par2 2 3 m sc_law_orders.nd (da_cons (de_op op_catL good_catL (de_var 2) (de_var 4)) (da_cons (de_var 4) da_nil)))))))
  (ds_one (ds_ret (de_var 2)))))) ?_
  rintro ds P' - ⟨n, rfl, h1, h2, h⟩
  simp [initD]
  have hsz : sizeLine = 16777216 := sizeLine_eq
  refine compD_all (f := fun x => lotD [x]) (List.range n) (fun o hoo => ⟨_, rfl, by simp, fun kk g q => ⟨_, rfl, by decide, q⟩⟩) ?_
  refine ⟨_, _, ⟨rfl, rfl⟩, _, _, rfl, rfl, ?_⟩
  have ln : (natD (List.range n)).length = n := by simp [natD]
  rw [ln]
  refine ⟨_, rfl, by omega, by omega, ?_⟩
  have er : rgD 0 ((n : Int) - 1) = (List.range (n - 1)).map fun (i : Nat) => PyData.int (i : Int) := by
    have : (n : Int) - 1 = ((n - 1 : Nat) : Int) := by omega
    rw [this, rgD_map]
  rw [er]
  refine forD_rel (fun ks g δ => ∃ (j : Nat) (a b c e : Sv), δ = [.dat (.list (natD (List.range n))), a, .dat (.list ((ordAt n j).1.map lotD)), .dat (.list ((ordAt n j).2.map lotD)), b, c, e] ∧ j + ks.length = n - 1)
    (fun x xs g δ hI => ?_) (fun g δ hI => ?_) (List.range (n - 1)) 0 _ ⟨0, _, _, _, _, by simp [ordAt, ordInit, Function.comp_def]; exact ⟨rfl, rfl, rfl, rfl⟩, by simp⟩
  · obtain ⟨j, a, b, c, e, rfl, hj⟩ := hI
    simp at hj
    obtain ⟨b1, b2, b3⟩ := ordAt_ok n h2 j (by omega)
    obtain ⟨c1, c2, c3⟩ := ordAt_ok n h2 (j + 1) (by omega)
    have hsu := ordAt_succ n j
    refine ⟨_, rfl, fun k hkr hk => ?_⟩
    simp [putD]
    refine forD_rel (fun rs g δ => ∃ (later : List (List Nat)) (a c e : Sv), δ = [.dat (.list (natD (List.range n))), a, .dat (.list ((ordAt n j).1.map lotD)), .dat (.list ((ordAt n j).2.map lotD)), .dat (.list (later.map lotD)), c, e] ∧ later ++ rs.flatMap (ordExt n) = (ordAt n j).2.flatMap (ordExt n) ∧ (∀ r ∈ rs, 0 < r.length ∧ r.length ≤ 6))
      (fun row rs g δ hI => ?_) (fun g δ hI => ?_) (ordAt n j).2 g _ ⟨[], _, _, _, rfl, rfl, b3⟩
    · obtain ⟨later, a, c, e, rfl, hla, hr⟩ := hI
      refine ⟨_, rfl, fun k2 hk2r hk2 => ?_⟩
      obtain ⟨r1, r2⟩ := hr row List.mem_cons_self
      refine ⟨_, rfl, _, rfl, _, rfl, ?_⟩
      have hll : (later ++ ordExt n row).length ≤ 1000 := by
        have : (ordAt n (j + 1)).2 = later ++ (row :: rs).flatMap (ordExt n) := by rw [hsu, hla]
        rw [this] at c2
        simp at c2 ⊢
        omega
      refine compD_map (t := fun o => !decide (o ∈ row) && decide (row.headD 0 < o)) (f := fun o => lotD (row ++ [o])) (List.range n) (fun o hoo => ⟨_, rfl, by simp, fun kk g q => ?_, fun _ kk g q => ?_⟩) ?_
      · refine ⟨_, rfl, _, rfl, ?_⟩
        rw [wInI_nat, selB]
        by_cases z : o ∈ row
        · simpa [z] using q
        · simp only [z, decide_false, Bool.not_false, if_true]
          refine ⟨_, rfl, _, rfl, ?_⟩
          cases row with
          | nil => simp at r1
          | cons h0 tl =>
            show wIx (.tuple (natD (h0 :: tl))) _ _
            rw [wIx_t]
            refine ⟨.int (h0 : Int), at0 _ _, _, _, rfl, rfl, ?_⟩
            dsimp only
            rw [selB]
            by_cases z2 : h0 < o
            · rw [if_pos (by simpa using z2)]
              simpa [z, z2] using q
            · rw [if_neg (by simpa using z2)]
              simpa [z, z2] using q
      · refine ⟨_, rfl, _, rfl, by decide, ?_⟩
        show wCatT (.tuple (natD row)) _ _
        rw [wCatT_t]
        refine ⟨by simp [natD]; omega, ?_⟩
        have e : PyData.tuple (natD row ++ [.int (o : Int)]) = lotD (row ++ [o]) := by simp [lotD, natD]
        rw [e]; exact q
      · rw [List.nil_append, wCatL_l]
        have ex : (((List.range n).filter fun o => !decide (o ∈ row) && decide (row.headD 0 < o)).map fun o => lotD (row ++ [o])) = (ordExt n row).map lotD := by simp [ordExt, Function.comp_def]
        rw [ex]
        refine ⟨by simp at hll ⊢; omega, ?_⟩
        refine hk2 _ _ ⟨later ++ ordExt n row, _, _, _, by simp; rfl, by rw [← hla]; simp, fun r hr' => hr r (List.mem_cons_of_mem _ hr')⟩
    · obtain ⟨later, a, c, e, rfl, hla, hr⟩ := hI
      simp at hla
      have e1 : (ordAt n (j + 1)).1 = (ordAt n j).1 ++ later := by rw [hsu, hla]
      have e2 : (ordAt n (j + 1)).2 = later := by rw [hsu, hla]
      refine ⟨_, rfl, _, rfl, ?_⟩
      rw [wCatL_l]
      refine ⟨by rw [e1] at c1; simp at c1 ⊢; omega, _, rfl, _, _, ⟨rfl, rfl⟩, ?_⟩
      refine hk _ _ ⟨j + 1, _, _, _, _, by rw [e1, e2]; simp; exact ⟨rfl, rfl, rfl, rfl⟩, by omega⟩
  · obtain ⟨j, a, b, c, e, rfl, hj⟩ := hI
    simp at hj
    subst hj
    exact ⟨_, rfl, h⟩
end Lk

set_option Elab.async false
set_option linter.all false
set_option maxRecDepth 100000
set_option maxHeartbeats 4000000
/-! tuples on which no dict hangs -/
namespace Lk
open PySem PySem.Spec PyProof.Rows L2 L2H HotX LkHot
theorem Nds.tup {K : PySem.W.Frag} {H : Hp} {v : V} {ds : List PyData} (h : Nds K H v (.tuple ds)) : Nd H v := by
  rcases h with ⟨_, _, h⟩ | ⟨_, _, _, h, _⟩
  · exact h
  · cases h
theorem Nds.lst {K : PySem.W.Frag} {H : Hp} {v : V} {ds : List PyData} (h : Nds K H v (.list ds)) : ∃ (a : Addr) (vs : List V), v = .ref a ∧ SqL K H a vs ∧ DpAll K H vs ds ∧ ∀ w ∈ vs, Nd H w := by
  rcases h with ⟨_, h, _⟩ | ⟨_, a, vs, h, h1, h2, h3, h4⟩
  · cases h
  · cases h; exact ⟨a, vs, h1, h2, h3, h4⟩
section
variable {X : Cx} {W : Option Addr} {K : PySem.W.Frag}
def tTupN (t : TA) : TE := fun σ H Q => t σ H fun xs H1 => xs.length ≤ sizeLine ∧ ∀ p o, o.dict = none → H1 p = none → Q (.ref p) (upd H1 p (.frz o (.tup xs)))
theorem pe_tupN {es : List Expr} {t : TA} {x1} {pos : Pos} (h : PA X es t) : PE X (.Tuple es x1 pos) (tTupN t) := by
  refine ⟨fun pins s σ H Q I hq => ?_⟩
  refine wpAny_Tuple_spliced (thn (h.run pos pins s σ H _ I hq) fun us s1 ⟨xs, H1, I1, r, z, q⟩ => ⟨by rw [← r.length]; exact z, ?_⟩)
  have hf : H1 s1.heap.objs.size = none := I1.hok.fresh (Nat.le_refl _)
  refine ⟨.ref s1.heap.objs.size, upd H1 s1.heap.objs.size (.frz { cls := .type "tuple", data := .seq us.toArray } (.tup xs)), I1.laid (t' := s1.toks) (fun b u e => Heap.get?_push_of_some _ e) (Nat.le_refl _) ?_, rfl, q _ _ rfl hf⟩
  exact ⟨Heap.get?_push_size _ rfl, z, us, r, ⟨_, Heap.get?_push_size _ rfl, rfl, _, rfl⟩⟩
def rCatN (K : PySem.W.Frag) : R2 := fun x y H Q => ∃ a b xs ys, x = .ref a ∧ y = .ref b ∧ SqT K H a xs ∧ SqT K H b ys ∧ xs.length + ys.length ≤ sizeLine ∧
  (xs = [] → Q (.ref b) H) ∧ (xs ≠ [] → ys = [] → Q (.ref a) H) ∧ (xs ≠ [] → ys ≠ [] → ∀ p o, o.dict = none → H p = none → Q (.ref p) (upd H p (.frz o (.tup (xs ++ ys)))))
theorem op_catN : OpR X (binaryOp .Add) (rCatN X.K) := by
  intro pins s σ H x y v u Q I rx ry h
  obtain ⟨a, b, xs, ys, rfl, rfl, ha, hb, hz, q0, q1, q2⟩ := h
  by_cases hx : xs = []
  · exact op_catA pins s σ H _ _ v u Q I rx ry ⟨a, b, xs, ys, rfl, rfl, ha, hb, hz, q0, fun z => absurd hx z, fun z => absurd hx z⟩
  · cases rx
    cases ry
    obtain ⟨its, r1, p1, _⟩ := I.tuple ha
    obtain ⟨its2, r2, p2, _⟩ := I.tuple hb
    refine HT.cat_tup p1 p2 (fun z => hx (r1.nil_iff.mp z)) (fun z => ⟨.ref a, H, I, rfl, q1 hx (r2.nil_iff.mp z)⟩) (fun z => ?_) (by rw [← r1.length, ← r2.length]; exact hz)
    refine ⟨.ref s.heap.objs.size, _, I.laid (t' := s.toks) (o := .frz { cls := .type "tuple", data := .seq (its ++ its2).toArray } (.tup (xs ++ ys))) (fun b ob q => Heap.get?_push_of_some _ q) (Nat.le_refl _) ?_, rfl, q2 hx (fun w => z (r2.nil_iff.mpr w)) _ _ rfl (I.hok.fresh (Nat.le_refl _))⟩
    exact ⟨Heap.get?_push_size _ rfl, by rw [List.length_append]; exact hz, _, r1.append r2, IsTup.new _ _⟩
section
variable (K : PySem.W.Frag) (W : Option Addr)
def tN (F : DT) : TE := fun σ H Q => ∃ E O g δ P, Rel K W E O g H σ δ ∧ F g δ P ∧
  ∀ g' d v H', P g' d → Rel K W E O g' H' σ δ → Ext W O H H' → Dp K (hid O H') v d → Nds K (hid O H') v d → Q v H'
def tFN (F : DL) : TE := fun σ H Q => ∃ E O g δ P, Rel K W E O g H σ δ ∧ F g δ P ∧
  ∀ g' ds vs p H', P g' ds → Rel K W E O g' H' σ δ → Ext W O H H' → H' p = none → DpAll K (hid O H') vs ds → (∀ w ∈ vs, Nd (hid O H') w) → Q (.ref p) (upd H' p (.lst vs))
end
abbrev DN (X : Cx) (W : Option Addr) (e : Expr) (F : DT) : Prop := PE X e (tN X.K W F)
abbrev DFN (X : Cx) (W : Option Addr) (e : Expr) (F : DL) : Prop := PE X e (tFN X.K W F)
def tupOnly (F : DT) : DT := fun g δ P => F g δ fun g1 d => (∃ ds, d = .tuple ds) ∧ P g1 d
theorem de_ofN {e : Expr} {F : DT} (h : DN X W e F) : DE X W e F := pe_mono h fun σ H Q ⟨E, O, g, δ, P, R, f, k⟩ => ⟨E, O, g, δ, P, R, f, fun g' d v H' p R' s' x' _ => k g' d v H' p R' s' x'⟩
theorem nd_new {O : Own} {H : Hp} {p : Addr} {o : Obj} {vs : List V} (t : ∀ a, O a = true → H a ≠ none) (n : H p = none) (ho : o.dict = none) : Nd (hid O (upd H p (.frz o (.tup vs)))) (.ref p) := by
  have op : O p = false := by
    cases q : O p with
    | false => rfl
    | true => exact absurd n (t p q)
  exact ⟨p, o, vs, rfl, by rw [hid_no op, upd_same], ho⟩
theorem dp_newF {O : Own} {H : Hp} {p : Addr} {o : Obj} {vs : List V} {ds : List PyData} (t : ∀ a, O a = true → H a ≠ none) (n : H p = none) (h : DpAll K (hid O H) vs ds) : Dp K (hid O (upd H p (.frz o (.tup vs)))) (.ref p) (.tuple ds) := by
  have op : O p = false := by
    cases q : O p with
    | false => rfl
    | true => exact absurd n (t p q)
  exact .tup (.inl (.inr ⟨o, by rw [hid_no op, upd_same]⟩)) (h.keep (same_hid (same_new n)))
theorem dn_tup {es : List Expr} {Fs : DL} {x1} {pos : Pos} (h : DA X W es Fs) : DN X W (.Tuple es x1 pos) (fun g δ P => Fs g δ fun g1 ds => ds.length ≤ sizeLine ∧ P g1 (.tuple ds)) :=
  pe_mono (pe_tupN h) fun σ H Q ⟨E, O, g, δ, P, R, f, k⟩ => ⟨E, O, g, δ, _, R, f, fun g1 ds vs H1 ⟨l, p⟩ R1 s1 x1 => ⟨by rw [dpAll_len x1]; exact l, fun q o ho n =>
    k g1 _ _ _ p (R1.grow (same_new n)) (s1.trans (.of (same_new n))) (dp_newF R1.there n x1) (.inl ⟨ds, rfl, nd_new R1.there n ho⟩)⟩⟩
theorem dn_cat {a b : Expr} {Fa Fb : DT} {pos : Pos} (ha : DN X W a Fa) (hb : DN X W b Fb) : DN X W (.BinOp a .Add b pos) (fun g δ P => Fa g δ fun g1 d => Fb g1 δ fun g2 e => wCatT d e (P g2)) :=
  pe_mono (pe_op op_catN ha hb) fun σ H Q ⟨E, O, g, δ, P, R, f, k⟩ => ⟨E, O, g, δ, _, R, f, fun g1 d v H1 f1 R1 s1 x1 y1 => ⟨E, O, g1, δ, _, R1, f1, fun g2 e v2 H2 ⟨xs, ys, e1, e2, l, p⟩ R2 s2 x2 y2 => by
    subst e1 e2
    have x1' := x1.keep s2.hid
    have y1' := y1.keep s2.hid
    cases x1' with
    | tup hs ha =>
      cases x2 with
      | tup hs' ha' =>
        have l1 := dpAll_len ha
        have l2 := dpAll_len ha'
        refine ⟨_, _, _, _, rfl, rfl, seqT_keep hid_same hs, seqT_keep hid_same hs', by omega, fun z => ?_, fun z z' => ?_, fun z z' p' o ho n => ?_⟩
        · subst z
          cases xs with
          | nil => exact k g2 _ _ H2 p R2 (s1.trans s2) (.tup hs' ha') y2
          | cons _ _ => cases l1
        · subst z'
          cases ys with
          | nil =>
            rw [List.append_nil] at p
            exact k g2 _ _ H2 p R2 (s1.trans s2) (.tup hs ha) y1'
          | cons _ _ => cases l2
        · exact k g2 _ _ _ p (R2.grow (same_new n)) ((s1.trans s2).trans (.of (same_new n))) (dp_newF R2.there n (dpAll_app ha ha')) (.inl ⟨_, rfl, nd_new R2.there n ho⟩)⟩⟩
theorem dn_var (i : Nat) {x : Str} {pos : Pos} (hN : X.N[i]? = some x := by rfl) (hv : Vis X.env.scope x := by first | exact Or.inl rfl | exact Or.inr (Or.inl rfl) | exact Or.inr (Or.inr rfl)) (hd : (x == ("__debug__" : Str)) = false := by decide)
    (hcd : (x == ("__classdict__" : Str)) = false := by decide) : DN X W (.Name x pos) (fun g δ P => ∃ d, δ[i]? = some (.wy d) ∧ P g d) :=
  pe_mono (pe_var hN hv hd hcd) fun σ H Q ⟨E, O, g, δ, P, R, ⟨d, e, p⟩, k⟩ => by
    obtain ⟨y, h1, v, h2, h3, h4⟩ := R.sl i _ e
    subst h2
    exact ⟨v, h1, k g d v H p R .refl h3 h4⟩
theorem dn_lst0 {pos : Pos} : DN X W (.List [] pos) (fun g δ P => P g (.list [])) :=
  pe_mono (pe_lst pa_nil) fun σ H Q ⟨E, O, g, δ, P, R, f, k⟩ => ⟨Nat.zero_le _, fun p n => by
    have op := R.free n
    exact k g _ _ _ f (R.grow (same_new n)) (.of (same_new n)) (dp_newL R.there n .nil) (.inr ⟨[], p, [], rfl, rfl, SqL.of (by rw [hid_no op, upd_same]), .nil, fun _ z => nomatch z⟩)⟩
theorem dn_lst1 {e : Expr} {F : DT} {pos : Pos} (h : DN X W e F) (hs : starEach [e] X.env = (false, eval e X.env) :: starEach [] X.env := by rfl) : DN X W (.List [e] pos) (fun g δ P => tupOnly F g δ fun g1 d => P g1 (.list [d])) :=
  pe_mono (pe_lst (pa_cons h pa_nil hs)) fun σ H Q ⟨E, O, g, δ, P, R, f, k⟩ => ⟨E, O, g, δ, _, R, f, fun g1 d v H1 ⟨⟨ds, ed⟩, p⟩ R1 s1 x1 y1 => ⟨by show 1 ≤ sizeLine; rw [sizeLine_eq]; decide, fun q n => by
    have op := R1.free n
    subst ed
    refine k g1 _ _ _ p (R1.grow (same_new n)) (s1.trans (.of (same_new n))) (dp_newL R1.there n (.cons x1 .nil)) (.inr ⟨_, q, [v], rfl, rfl, SqL.of (by rw [hid_no op, upd_same]), .cons (x1.keep (same_hid (same_new n))) .nil, fun w hw => ?_⟩)
    rw [List.mem_singleton.mp hw]
    exact y1.tup.keep (same_hid (same_new n))⟩⟩
theorem tLcN_of {mt : DM} {Fi : DL} {Ft : DB} {Fe : DT} {own : List Nat} : ∀ σ H Q, tFN K W (fun g δ P => Fi g δ fun g1 ds => compD mt own Ft (tupOnly Fe) (wipeD δ own) ds [] g1 P) σ H Q → tLc (tI K W Fi) (tG K mt) (tDb K W Ft) (tN K W Fe) own σ H Q :=
  fun σ H Q ⟨E, O, g, δ, P, R, f, k⟩ => ⟨E, O, g, δ, _, R, f, fun g1 ds J H1 p R1 s1 it D nD => by
    have RA := R1.add (o := .lst []) nD
    have uD : W ≠ some D := fun w => by
      obtain ⟨_, _, _, _, z, _⟩ := R1.urn D w
      rw [nD] at z; cases z
    have oD := R1.free nD
    refine ⟨fun i n H' => n = ds.length - i ∧ i ≤ ds.length ∧ ∃ g' acc vs, Rel K W E (addO O D) g' H' (L2.wipe σ own) (wipeD δ own) ∧ compD mt own Ft (tupOnly Fe) (wipeD δ own) (ds.drop i) acc g' P ∧
      H' D = some (.lst vs) ∧ DpAll K (hid (addO O D) H') vs acc ∧ (∀ w ∈ vs, Nd (hid (addO O D) H') w) ∧ acc.length ≤ i ∧ (∀ a o, a ≠ D → W ≠ some a → H1 a = some o → H' a = some o) ∧ Same (hid O H1) (hid (addO O D) H'),
      ⟨ds.length, (Nat.sub_zero _).symm, Nat.zero_le _, g1, [], [], RA.wipe own, (by rw [List.drop_zero]; exact p), upd_same, .nil, (fun _ z => nomatch z), Nat.le_refl _, fun a o ha _ h => by rw [upd_ne ha]; exact h, hid_add nD⟩, ?_⟩
    rintro i n H' ⟨hn, hi, g', acc, vs, R', p', hD, ha, hnd, hl, all, sm⟩
    by_cases hlt : i < ds.length
    · refine .inr ⟨it.go _ H' i sm hlt, fun H2 => ds.length - (i + 1) = ds.length - (i + 1) ∧ i + 1 ≤ ds.length ∧ ∃ g' acc vs, Rel K W E (addO O D) g' H2 (L2.wipe σ own) (wipeD δ own) ∧ compD mt own Ft (tupOnly Fe) (wipeD δ own) (ds.drop (i + 1)) acc g' P ∧
        H2 D = some (.lst vs) ∧ DpAll K (hid (addO O D) H2) vs acc ∧ (∀ w ∈ vs, Nd (hid (addO O D) H2) w) ∧ acc.length ≤ i + 1 ∧ (∀ a o, a ≠ D → W ≠ some a → H1 a = some o → H2 a = some o) ∧ Same (hid O H1) (hid (addO O D) H2), fun H2 w => ⟨_, by omega, w⟩, fun x H2 y => ?_⟩
      have hd : ds.drop i = ds[i] :: ds.drop (i + 1) := List.drop_eq_getElem_cons hlt
      rw [hd] at p'
      obtain ⟨l, e, ho, q⟩ := p'
      obtain ⟨s2, x2⟩ := it.yld _ H' i x H2 ds[i] R'.there sm (List.getElem?_eq_getElem hlt) y
      refine ⟨hid (addO O D) H2, ds[i], l, hid_same, x2, e, fun ws pw => ⟨(wipe_putV fun w hw => ?_).trans (wipe_wipe σ own), ?_⟩⟩
      · have : ∀ {ws : List (Nat × V)} {l : List (Nat × PyData)}, Paired (fun (p : Nat × V) (q : Nat × PyData) => p.1 = q.1 ∧ Dp K (hid (addO O D) H2) p.2 q.2) ws l → (∀ p ∈ l, p.1 ∈ own) → ∀ w ∈ ws, w.1 ∈ own := by
          intro ws l pw
          induction pw with
          | nil => intro _ w hw; cases hw
          | cons h t ih =>
            intro hl w hw
            rcases List.mem_cons.mp hw with z | z
            · rw [z, h.1]; exact hl _ List.mem_cons_self
            · exact ih (fun p hp => hl p (List.mem_cons_of_mem _ hp)) w z
        exact this pw ho w hw
      · have R2 := rel_putDs (R'.grow s2) pw
        have all2 : ∀ a o, a ≠ D → W ≠ some a → H1 a = some o → H2 a = some o := fun a o h1 h2 h3 => s2 a o (all a o h1 h2 h3)
        have hD2 : H2 D = some (.lst vs) := s2 _ _ hD
        have ha2 := ha.keep (same_hid (O := addO O D) s2)
        have hn2 : ∀ w ∈ vs, Nd (hid (addO O D) H2) w := fun w hw => (hnd w hw).keep (same_hid (O := addO O D) s2)
        have sm2 := sm.trans (same_hid (O := addO O D) s2)
        refine ⟨E, addO O D, g', _, _, R2, q, fun g3 b H3 q3 R3 s3 => ?_⟩
        have back : ∀ {g4 : Nat} {H4 : Hp}, Rel K W E (addO O D) g4 H4 (putV (L2.wipe σ own) ws) (putD (wipeD δ own) l) → ∀ (hu : ∀ u, W = some u → UrnAt H4 u g4), Ext W (addO O D) H2 H4 → Rel K W E (addO O D) g4 H4 (L2.wipe σ own) (wipeD δ own) :=
          fun R4 hu e4 => (R'.grow s2).ext e4 hu
        cases b with
        | false =>
          exact ⟨rfl, hlt, g3, acc, vs, back R3 (fun u w => (R3.urn u w).2) s3, q3, s3.all _ _ uD hD2, ha2.keep s3.hid, (fun w hw => (hn2 w hw).keep s3.hid), Nat.le_succ_of_le hl, fun a o h1 h2 h3 => s3.all a o h2 (all2 a o h1 h2 h3), sm2.trans s3.hid⟩
        | true =>
          refine ⟨E, addO O D, g3, _, _, R3, q3, fun g4 e4 v4 H4 ⟨⟨e4s, he4⟩, q4⟩ R4 s4 x4 y4 => ⟨vs, s4.all _ _ uD (s3.all _ _ uD hD2), ?_, ?_⟩⟩
          · rw [dpAll_len ha]
            have := it.len
            omega
          · have s34 := s3.trans s4
            have RB := back R4 (fun u w => (R4.urn u w).2) s34
            have hD4 := s4.all _ _ uD (s3.all _ _ uD hD2)
            have eh : hid (addO O D) (upd H4 D (.lst (vs ++ [v4]))) = hid (addO O D) H4 := hid_upd addO_self
            refine ⟨rfl, hlt, g4, acc ++ [e4], vs ++ [v4], ?_, q4, upd_same, ?_, ?_, by rw [List.length_append]; exact Nat.succ_le_succ hl, fun a o h1 h2 h3 => ?_, ?_⟩
            · refine RB.poke addO_self (R1.ent nD).1 (R1.ent nD).2 fun j x hj hx hz => ?_
              rcases wipeD_get δ own j x hj with z | ⟨z, z'⟩
              · rw [z] at hx; cases hx
              · rw [wipe_get σ own j z'] at hz
                exact R1.noslot nD j x z hx hz
            · rw [eh]
              exact dpAll_app (ha2.keep s34.hid) (dpAll_one x4)
            · rw [eh]
              intro w hw
              rcases List.mem_append.mp hw with z | z
              · exact (hn2 w z).keep s34.hid
              · rw [List.mem_singleton.mp z]
                subst he4
                exact y4.tup
            · rw [upd_ne h1]
              exact s34.all a o h2 (all2 a o h1 h2 h3)
            · rw [eh]
              exact sm2.trans s34.hid
    · have e : i = ds.length := by omega
      subst e
      rw [List.drop_length] at p'
      refine .inl ⟨it.stop _ H' _ sm (Nat.le_refl _), ?_⟩
      obtain ⟨H0, n0, e0, k0⟩ := upd_hid hD
      have hs : Same (hid (addO O D) H') (hid O H0) := fun a u h => by
        have hne : a ≠ D := by
          rintro rfl
          rw [hid_yes addO_self] at h; cases h
        have oa : O a = false := by
          cases q : O a with
          | false => rfl
          | true => rw [hid_yes (addO_old q)] at h; cases h
        rw [hid_no oa, k0 a hne]
        exact hid_same _ _ h
      have ex : Ext W O H1 H0 := ⟨fun a o w h => by rw [k0 a (by rintro rfl; rw [nD] at h; cases h)]; exact all a o (by rintro rfl; rw [nD] at h; cases h) w h, sm.trans hs⟩
      rw [e0]
      refine k g' acc vs D H0 p' (R1.ext ex fun u w => ?_) (s1.trans ex) n0 (ha.keep hs) (fun w hw => (hnd w hw).keep hs)
      obtain ⟨_, a, b, c, z, r⟩ := R'.urn u w
      exact ⟨a, b, c, by rw [k0 u (by rintro rfl; exact uD w)]; exact z, r⟩⟩

theorem dfn_lc {elt tg iter : Expr} {ifs : List Expr} {scope : Scope} {pos : Pos} {mt : DM} {Fi : DL} {Ft : DB} {Fe : DT} (own : List (Str × Nat)) (hc : X.calm = true) (hp : X.pn = []) (hN : X.N.Nodup) (hi : DI X W tg iter Fi) (ok : BlkOk X.N X.env.scope scope own)
    (hg : ∀ s H C cl fp, PG (blk2 X s H scope (compEnvC scope cl C X.env) fp) tg (tG X.K mt)) (ht : ∀ s H C cl fp, DTt (blk2 X s H scope (compEnvC scope cl C X.env) fp) W ifs Ft)
    (he : ∀ s H C cl fp, DN (blk2 X s H scope (compEnvC scope cl C X.env) fp) W elt Fe) (hs : ∀ x, foldedSetIterable iter X.env x = pure x := by intro _; rfl) :
    DFN X W (.ListComp elt [⟨tg, iter, ifs, 0⟩] scope pos) (fun g δ P => Fi g δ fun g1 ds => compD mt (own.map (·.2)) Ft (tupOnly Fe) (wipeD δ (own.map (·.2))) ds [] g1 P) := by
  have e := fun s H C cl fp => blk2_calm hp s H scope (compEnvC scope cl C X.env) fp
  exact pe_mono (pe_lc (own := own) hc hN (hi.1 hc) ok (fun s H C cl fp => e s H C cl fp ▸ hg s H C cl fp) (fun s H C cl fp => e s H C cl fp ▸ ht s H C cl fp) (fun s H C cl fp => e s H C cl fp ▸ he s H C cl fp) hs) tLcN_of
/-- l + [..], lists of such tuples -/
theorem dn_catL {a b : Expr} {Fa : DT} {Fb : DL} {pos : Pos} (ha : DN X W a Fa) (hb : DFN X W b Fb) : DN X W (.BinOp a .Add b pos) (fun g δ P => Fa g δ fun g1 d => ∃ xs, d = .list xs ∧ Fb g1 δ fun g2 ys => xs.length + ys.length ≤ sizeLine ∧ P g2 (.list (xs ++ ys))) :=
  pe_mono (pe_op op_catL ha hb) fun σ H Q ⟨E, O, g, δ, P, R, f, k⟩ => ⟨E, O, g, δ, _, R, f, fun g1 d v H1 ⟨xs, e1, f1⟩ R1 s1 x1 y1 => ⟨E, O, g1, δ, _, R1, f1, fun g2 ys ws q H2 ⟨l, p⟩ R2 s2 n x2 y2 => by
    subst e1
    obtain ⟨a, vs, ev, z1, z2, z3⟩ := y1.lst
    have sn : Same H2 (upd H2 q (.lst ws)) := same_new n
    have z1' : SqL X.K (hid O (upd H2 q (.lst ws))) a vs := (s2.hid.trans (same_hid sn)).seq z1
    have z2' := (z2.keep s2.hid).keep (same_hid sn)
    have l1 := dpAll_len z2
    have l2 := dpAll_len x2
    have R3 := R2.grow sn
    have e3 : Ext W O H (upd H2 q (.lst ws)) := (s1.trans s2).trans (.of sn)
    refine ⟨a, q, vs, ws, ev, rfl, Same.seq hid_same z1', SqL.of upd_same, by omega, fun r nr => ?_⟩
    have or := R3.free nr
    have sr : Same (hid O (upd H2 q (.lst ws))) (hid O (upd (upd H2 q (.lst ws)) r (.lst (vs ++ ws)))) := same_hid (same_new nr)
    have xx : DpAll X.K (hid O (upd H2 q (.lst ws))) (vs ++ ws) (xs ++ ys) := dpAll_app z2' (x2.keep (same_hid sn))
    refine k g2 _ _ _ p (R3.grow (same_new nr)) (e3.trans (.of (same_new nr))) (dp_newL R3.there nr xx) (.inr ⟨_, r, vs ++ ws, rfl, rfl, SqL.of (by rw [hid_no or, upd_same]), xx.keep sr, fun w hw => ?_⟩)
    rcases List.mem_append.mp hw with z | z
    · exact ((z3 w z).keep (s2.hid.trans (same_hid sn))).keep sr
    · exact ((y2 w z).keep (same_hid sn)).keep sr⟩⟩
/-- a slot gets such a value -/
theorem Rel.setP {E : En} {O : Own} {g : Nat} {H : Hp} {σ : L2.St} {δ : List Sv} {i : Nat} (R : Rel K W E O g H σ δ) {v : V} {x : Sv} (h : Sl K O H (some v) x) (ho : x.isOwn = false) : Rel K W E O g H (σ.set i (some v)) (δ.set i x) := by
  have hlen := R.len
  refine { len := by rw [List.length_set, List.length_set]; exact R.len, same := R.same, sub := R.sub, new := R.new, there := R.there, urn := R.urn, sl := fun j y q => ?_, own0 := fun j y a q o z => ?_, apart := fun j k y y' a n q q' o o' z => ?_ }
  · rw [List.getElem?_set] at q
    rw [List.getElem?_set]
    by_cases e : i = j
    · subst e
      by_cases hi : i < δ.length
      · rw [if_pos rfl, if_pos hi] at q
        cases q
        exact ⟨some v, by rw [if_pos rfl, if_pos (by rw [hlen]; exact hi)], h⟩
      · rw [if_pos rfl, if_neg hi] at q; cases q
    · rw [if_neg e] at q
      rw [if_neg e]
      exact R.sl j y q
  · rw [List.getElem?_set] at q z
    by_cases e : i = j
    · subst e
      by_cases hi : i < δ.length
      · rw [if_pos rfl, if_pos hi] at q
        cases q
        rw [ho] at o; cases o
      · rw [if_pos rfl, if_neg hi] at q; cases q
    · rw [if_neg e] at q z
      exact R.own0 j y a q o z
  · rw [List.getElem?_set] at q q' z ⊢
    by_cases e : i = j
    · subst e
      by_cases hi : i < δ.length
      · rw [if_pos rfl, if_pos hi] at q
        cases q
        rw [ho] at o; cases o
      · rw [if_pos rfl, if_neg hi] at q; cases q
    · rw [if_neg e] at q z
      by_cases e' : i = k
      · subst e'
        by_cases hi : i < δ.length
        · rw [if_pos rfl, if_pos hi] at q'
          cases q'
          rw [ho] at o'; cases o'
        · rw [if_pos rfl, if_neg hi] at q'; cases q'
      · rw [if_neg e'] at q' ⊢
        exact R.apart j k y y' a n q q' o o' z
theorem ds_setN {x : Str} {e : Expr} {pos' pos : Pos} {F : DT} (i : Nat) (hN : X.N.Nodup) (h : DN X W e F) (hi : X.N[i]? = some x := by rfl) (hx : Loc X.env.scope x := by first | exact Or.inl rfl | exact Or.inr rfl) (hs : swapsWith e (some (.Name x pos')) pos.line X.env = pure false := by rfl)
    (hf : X.fn x = true ∨ X.env.scope.names.lookup x = some .local := by first | exact .inl rfl | exact .inr rfl | assumption) :
    DS X W (.Assign [.Name x pos'] e pos) (fun P g δ => F g δ fun g1 d => P.nx g1 (δ.set i (.wy d))) :=
  ps_mono (ps_set hN hi hx h hs hf) fun D σ H ⟨E, O, g, δ, P, R, f, kn, kr⟩ => ⟨E, O, g, δ, _, R, f, fun g1 d v H1 p R1 s1 x1 y1 => kn O g1 _ _ H1 p (R1.setP ⟨v, rfl, x1, y1⟩ rfl) (fun _ h => h) s1.hid⟩
/-! ### for x in ways -/
def forN (i : Nat) (Gb : DSt) : List PyData → DEn → Nat → List Sv → Prop
  | [], P, g, δ => P.nx g δ
  | d :: ds, P, g, δ => (∃ es, d = .tuple es) ∧ Gb ⟨fun g1 δ1 => forN i Gb ds P g1 δ1, P.rt⟩ g (δ.set i (.wy d))
def tNB (K : PySem.W.Frag) (W : Option Addr) (F : DT) : TE := fun σ H Q => ∃ E O g δ P, Rel K W E O g H σ δ ∧ F g δ P ∧
  ∀ g' d v H', P g' d → Rel K W E O g' H' σ δ → Ext W O H H' → Dp K (hid O H') v d → Nds K (hid O H') v d → Bnd d → Q v H'
theorem dn_bnd {e : Expr} {F : DT} (h : DN X W e F) : PE X e (tNB X.K W F) := ⟨fun pins s σ H Q I ⟨E, O, g, δ, P, R, f, k⟩ =>
  thn (h.run pins s σ H (fun v H1 => ∃ d, Dp X.K (hid O H1) v d ∧ (Bnd d → Q v H1)) I ⟨E, O, g, δ, P, R, f, fun g' d v H' p R' s' x' y' => ⟨d, x', fun b => k g' d v H' p R' s' x' y' b⟩⟩)
    fun u s1 ⟨v, H1, I1, r, d, x, q⟩ => ⟨v, H1, I1, r, q (bnd_of I1 x)⟩⟩
def tGv (i : Nat) : TG := gName i
theorem ds_forN {x y : Str} {px py : Pos} {body : List Stmt} {pos : Pos} {Gb : DSt} (i j : Nat) (hc : X.calm = true) (hp : PassesOwn (model X.prog X.w) X.A X.env X.xe) (hN : X.N.Nodup) (hb : DSs X W body Gb) (hi : X.N[i]? = some x := by rfl) (hx : Loc X.env.scope x := by first | exact Or.inl rfl | exact Or.inr rfl)
    (hf : X.fn x = true ∨ X.env.scope.names.lookup x = some .local := by first | exact .inl rfl | exact .inr rfl | assumption)
    (hNj : X.N[j]? = some y := by rfl) (hv : Vis X.env.scope y := by first | exact Or.inl rfl | exact Or.inr (Or.inl rfl) | exact Or.inr (Or.inr rfl)) (hd : (y == ("__debug__" : Str)) = false := by decide)
    (hcd : (y == ("__classdict__" : Str)) = false := by decide)
    (hs : ∀ z, foldedSetIterable (.Name y py) X.env z = pure z := by intro _; rfl) : DS X W (.For (.Name x px) (.Name y py) body [] pos) (fun P g δ => ∃ ds, δ[j]? = some (.wy (.list ds)) ∧ forN i Gb ds P g δ) :=
  ps_mono (ps_for hp hc (pi_list (dn_bnd (W := W) (dn_var j hNj hv hd hcd))) (pg_name hN hi hx hf) hb hs) fun D σ H ⟨E, O, g, δ, P, R, ⟨ds, ej, f⟩, kn, kr⟩ => ⟨E, O, g, δ, fun g1 d => g1 = g ∧ d = .list ds, R, ⟨_, ej, rfl, rfl⟩, fun g1 d v H1 ⟨eg, ed⟩ R1 s1 x1 y1 bd => by
    subst eg ed
    obtain ⟨a, vs, ev, z1, z2, z3⟩ := y1.lst
    have hl := dpAll_len z2
    refine ⟨a, ev, ⟨vs, Same.seq hid_same z1⟩, fun k n σ' H' => n = ds.length - k ∧ k ≤ ds.length ∧ ∃ O' g' δ', Rel X.K W E O' g' H' σ' δ' ∧ forN i Gb (ds.drop k) P g' δ' ∧ (∀ a, O a = true → O' a = true) ∧ Same (hid O H1) (hid O' H'),
      ⟨ds.length, (Nat.sub_zero _).symm, Nat.zero_le _, O, g1, δ, R1, (by rw [List.drop_zero]; exact f), fun _ h => h, Same.refl _⟩, fun k n σ' H' ⟨hn, hk, O', g', δ', R', p', u', s'⟩ => ?_⟩
    have zs : SqL X.K H' a vs := Same.seq (s'.trans hid_same) z1
    by_cases hlt : k < ds.length
    · have hlv : k < vs.length := by omega
      refine .inr ⟨⟨vs, vs[k], zs, List.getElem?_eq_getElem hlv⟩, fun σ2 H2 => ds.length - (k + 1) = ds.length - (k + 1) ∧ k + 1 ≤ ds.length ∧ ∃ O' g' δ', Rel X.K W E O' g' H2 σ2 δ' ∧ forN i Gb (ds.drop (k + 1)) P g' δ' ∧ (∀ a, O a = true → O' a = true) ∧ Same (hid O H1) (hid O' H2),
        fun σ2 H2 w => ⟨_, by omega, w⟩, fun x2 H2 ⟨e2, yy⟩ => ?_⟩
      subst e2
      have hx2 := yy vs zs
      rw [List.getElem?_eq_getElem hlv] at hx2
      have hx2 : vs[k] = x2 := Option.some.inj hx2
      have hd : ds.drop k = ds[k] :: ds.drop (k + 1) := List.drop_eq_getElem_cons hlt
      rw [hd] at p'
      obtain ⟨⟨es, hes⟩, q⟩ := p'
      have dk : Dp X.K (hid O H1) x2 ds[k] := by
        obtain ⟨w, h1, h2⟩ := dpAll_get2 z2 (List.getElem?_eq_getElem hlt)
        rw [List.getElem?_eq_getElem hlv] at h1
        cases h1
        rw [← hx2]; exact h2
      have nk : Nd (hid O H1) x2 := z3 _ (hx2 ▸ List.getElem_mem hlv)
      exact ⟨E, O', g', δ'.set i (.wy ds[k]), _, R'.setP ⟨x2, rfl, dk.keep s', .inl ⟨es, hes, nk.keep s'⟩⟩ rfl, q, fun O3 g3 δ3 σ3 H3 p3 R3 u3 s3 => ⟨rfl, hlt, O3, g3, δ3, R3, p3, fun a h => u3 a (u' a h), s'.trans s3⟩, kr⟩
    · have e : k = ds.length := by omega
      subst e
      rw [List.drop_length] at p'
      exact .inl ⟨⟨vs, zs, by omega⟩, kn O' g' δ' σ' H' p' R' u' (s1.hid.trans s')⟩⟩
/-! ### t.index(x) -/
theorem ty_nd : TyOk X "tuple" (fun x H => Nd H x) := by
  intro pins σ H s x v I r ty
  obtain ⟨a, o, xs, rfl, h1, h2⟩ := ty
  cases r
  obtain ⟨ho, _, its, _, ⟨o', ho', hc, _⟩⟩ := I.hok a _ h1
  rw [ho] at ho'
  cases ho'
  exact ⟨⟨o, ho, hc⟩, fun b e => by cases e; exact ⟨o, ho, h2⟩⟩
def rTixD (K : PySem.W.Frag) : V → List V → Hp → VK → Prop := fun x xs H Q => ∃ (a : Addr) (y : V) (d : PyData) (ds : List PyData) (j : Nat) (z : PyData), x = V.ref a ∧ xs = [y] ∧ Dp K H (V.ref a) (.tuple ds) ∧ Dp K H y d ∧
  SeqAt.shaped (.tuple ds) = true ∧ SeqAt.shaped d = true ∧ ds[j]? = some z ∧ PyData.eqv z d = true ∧ (∀ (m : Nat) (z' : PyData), m < j → ds[m]? = some z' → PyData.eqv z' d = false) ∧ Q (.int (j : Nat)) H
theorem mt_tixD (hu : X.A.units + 65 < cLine) : MtR X "tuple.index" (rTixD X.K) := by
  intro pins s σ H x xs v us Q I rx rxs h
  obtain ⟨a, y, d, ds, j, z, rfl, rfl, hl, hy, sl, sd, hz, hzj, hno, q⟩ := h
  cases rx
  cases rxs with
  | cons ry rt =>
    rename_i uy ut
    cases rt
    obtain ⟨bs, r1⟩ := Dp.reads I d y uy hy ry
    have hxs : PyData.canLayAll0 ds = true := SeqAt.canLay_of_shaped sl
    have hroom : X.A.units + 1 + min (PyData.depthAll ds) d.depth < cLine := room_in_shaped sd hu
    cases hl with
    | tup hs ha =>
      obtain ⟨its, rv, ⟨⟨cls, dd, data, sls⟩, ho, hc, n, hdt⟩, hlen⟩ := I.tuple hs
      simp only at hc hdt
      subst hc hdt
      obtain ⟨as, h4⟩ := Dp.readsAll I ds _ its ha rv
      have hn : its.length = ds.length := SeqAt.ReadsAll.length ds its as h4
      have hmap : its.map (SeqAt.readOf s.heap) = ds := SeqAt.readsAll_map ds its as hxs h4
      obtain ⟨hjd, _⟩ := List.getElem?_eq_some_iff.mp hz
      have hjl : j < its.length := by omega
      have hj : j < its.toArray.size := by simpa using hjl
      have at_ : ∀ (m : Nat) (hm : m < its.toArray.size) (z' : PyData), ds[m]? = some z' → SeqAt.readOf s.heap its.toArray[m] = z' := by
        intro m hm z' hz'
        have hml : m < its.length := by simpa using hm
        rw [← hmap, List.getElem?_map, List.getElem?_eq_getElem hml] at hz'
        have e1 : SeqAt.readOf s.heap its[m] = z' := Option.some.inj (show some (SeqAt.readOf s.heap its[m]) = some z' from hz')
        simpa using e1
      refine call_meets PySem.F.slot_tuple_index ⟨_, ho, rfl⟩ PySem.F.entry_tuple_index (PySem.F.args_tuple_index_2 _ _)
        (TI.tuple_indexAt a its.toArray n dd sls uy (fun u => PyData.eqv (SeqAt.readOf s.heap u) d) j hj ?_ ?_) ⟨ho, SeqAt.items_eqAt (vs := its.toArray) (show ReadsAll s.heap its.toArray.toList ds as from h4) r1 hxs (SeqAt.canLay_of_shaped sd) hroom, ?_⟩
      · show PyData.eqv (SeqAt.readOf s.heap its.toArray[j]) d = true
        rw [at_ j hj z hz]
        exact hzj
      · intro m hm hmj
        have hmd : m < ds.length := by omega
        have hz' : ds[m]? = some ds[m] := List.getElem?_eq_getElem hmd
        show PyData.eqv (SeqAt.readOf s.heap its.toArray[m]) d = false
        rw [at_ m hm _ hz']
        exact hno m _ hmj hz'
      · exact ⟨.int (j : Nat), H, I.tok _, ⟨_, rfl⟩, q⟩
theorem de_tix {o e : Expr} {Fo F : DT} {apos cpos : Pos} (hu : X.A.units + 65 < cLine) (ho : DN X W o Fo) (ha : DE X W e F)
    (hbase : attributeBase o "index" X.env (eval o X.env) = eval o X.env := by rfl)
    (hfew : ((backTo cpos (starEach [e] X.env)).all (fun x => !x.1) && (backToKw cpos (keywordEach [] X.env)).all (fun x => x.1.isSome)
      && decide ([e].length + ([] : List Keyword).length + (if ([] : List Keyword).isEmpty then 0 else 1) < 30)) = true := by rfl)
    (hline : (apos.endLine == cpos.line) = true := by rfl) (hs : starEach [e] X.env = (false, eval e X.env) :: starEach [] X.env := by rfl) (hplain : (backTo cpos (starEach [] X.env)).any (·.1) = false := by rfl) :
    DE X W (.Call (.Attribute o "index" apos) [e] [] cpos) (fun g δ P => Fo g δ fun g1 d => (∃ ds, d = .tuple ds) ∧ F g1 δ fun g2 y => ∃ ds j z, d = .tuple ds ∧ SeqAt.shaped (.tuple ds) = true ∧ SeqAt.shaped y = true ∧ ds[j]? = some z ∧ PyData.eqv z y = true ∧ (∀ (m : Nat) (z' : PyData), m < j → ds[m]? = some z' → PyData.eqv z' y = false) ∧ P g2 (.int (j : Nat))) :=
  pe_mono (pe_mG ty_nd PySem.F.plainAttrs_tuple PySem.F.slot_tuple_index PySem.F.type_tuple_index (mt_tixD hu) ho (pa_cons ha pa_nil hs) hbase hfew hline hs hplain) fun σ H Q ⟨E, O, g, δ, P, R, f, k⟩ =>
    ⟨E, O, g, δ, _, R, f, fun g1 d v H1 ⟨⟨ds0, e0⟩, f1⟩ R1 s1 x1 y1 => by
      subst e0
      refine ⟨y1.tup.keep hid_same, E, O, g1, δ, _, R1, f1, fun g2 y u H2 ⟨ds, j, z, ed, q1, q2, q3, q4, q5, p⟩ R2 s2 x2 => ?_⟩
      cases ed
      have x1' := x1.keep s2.hid
      cases x1' with
      | tup hs ha => exact ⟨_, u, y, ds0, j, z, rfl, rfl, (Dp.tup hs ha).keep hid_same, x2.keep hid_same, q1, q2, q3, q4, q5, k g2 _ _ H2 p R2 (s1.trans s2) (.int _)⟩⟩
end
end Lk

set_option Elab.async false
set_option linter.all false
set_option maxRecDepth 100000
set_option maxHeartbeats 4000000
/-! fresh tuples; d.setdefault(t, []).append(x) -/
namespace Lk
open PySem PySem.Spec PyProof.Rows L2 L2H HotX LkHot
section
variable (K : PySem.W.Frag) (W : Option Addr)
def tFT (F : DL) : TE := fun σ H Q => ∃ E O g δ P, Rel K W E O g H σ δ ∧ F g δ P ∧
  ∀ g' ds vs p H', P g' ds → Rel K W E O g' H' σ δ → Ext W O H H' → H' p = none → DpAll K (hid O H') vs ds → Q (.ref p) (upd H' p (.tup vs))
end
section
variable {X : Cx} {W : Option Addr}
abbrev DFT (X : Cx) (W : Option Addr) (e : Expr) (F : DL) : Prop := PE X e (tFT X.K W F)
theorem dft_slT {a : Expr} {lo hi : Option Expr} {Fa : DT} {Fl Fh : DPt} {p2 pos : Pos} (ha : DE X W a Fa) (hl : PO X lo (tDp X.K W Fl)) (hh : PO X hi (tDp X.K W Fh)) :
    DFT X W (.Subscript a (.Slice lo hi none p2) pos) (fun g δ P => Fa g δ fun g1 d => Fl g1 δ fun g2 l => Fh g2 δ fun g3 u => ∃ xs, d = .tuple xs ∧ ¬ (HT.sIx xs.length 0 l = 0 ∧ HT.sIx xs.length xs.length u = xs.length) ∧ P g3 (cutD xs l u)) :=
  pe_mono (pe_slice sl_tupA ha hl hh) fun σ H Q ⟨E, O, g, δ, P, R, f, k⟩ => ⟨E, O, g, δ, _, R, f, fun g1 d v H1 f1 R1 s1 x1 => ⟨E, O, g1, δ, _, R1, f1, fun g2 l H2 f2 R2 s2 => ⟨E, O, g2, δ, _, R2, f2, fun g3 u H3 ⟨xs, e, nw, p⟩ R3 s3 => by
    subst e
    have x3 := x1.keep (s2.trans s3).hid
    have ss := (s1.trans s2).trans s3
    cases x3 with
    | tup hs ha =>
      have l1 := dpAll_len ha
      refine ⟨_, _, rfl, seqT_keep hid_same hs, fun w => ?_, fun w p' n => ?_⟩
      · rw [l1] at w
        exact absurd w nw
      · exact k g3 _ _ _ _ p R3 ss n (cut_dp ha)⟩⟩⟩
def spK (K : PySem.W.Frag) (n : Nat) (F : List PyData → (List PyData → Prop) → Prop) : Sp := fun vs H Q _ => vs.length = n ∧ ∃ O ds P, (∀ a, O a = true → H a ≠ none) ∧ DpAll K (hid O H) vs ds ∧ F ds P ∧
  ∀ es ws p H', P es → Same H H' → H' p = none → DpAll K (hid O H') ws es → Q (.ref p) (upd H' p (.tup ws))
section
variable {P : Program} {w : World} {K : PySem.W.Frag} {mg : Str → Option Value} {base : Heap} {x qual : Str} {params : Arguments} {scope : Scope} {f : Addr} {fd : FuncData} {N ps : List Str} {k n : Nat} {F : List PyData → (List PyData → Prop) → Prop} {G : DL} {e : Expr} {pos : Pos}
theorem ca_ofK (Fd : FunD K x qual params [.Return (some e) pos] scope [] [] f fd) (S : FnScope N ps scope) (hps : ps.length = n) (hm : mg x = some (.ref f))
    (hbd : ∀ (kV doc pm : Value) (an : Option Addr) (cdv ct : Value) (us : List Value), us.length = ps.length → bindArgs (PySem.W.fnOf x qual params [.Return (some e) pos] scope .none kV doc pm an cdv ct) ⟨us, []⟩ = pure (ps.zip us))
    (hb : ∀ cdv A outer s H E, Room k (A.deeper (envOfC qual scope s.heap.objs.size f cdv)) → DFT (cx2 P w K mg base N qual scope f cdv A outer s H E true []) none e G)
    (pure_ : ∀ ds P, ds.length = n → F ds P → G 0 (initD N ds) fun _ es => P es) : Ca P w K mg base (k + 1) x (spK K n F) := by
  have hn : n ≤ N.length := by have := congrArg List.length S.pre; rw [List.length_take] at this; omega
  refine ⟨f, fd, ps, Fd.ok S (fun vs H Q E h => h.1.trans hps.symm) (fun cdv A outer s H vs Q E hr h => ⟨_, pss_one (ps_ret (hb cdv A outer s H E hr)), ?_⟩), hm, Fd.kp, Fd.bindsN hbd⟩
  obtain ⟨l, O, ds, P', t, x, f', k'⟩ := h
  exact ⟨⟨O, H⟩, O, 0, initD N ds, _, rel_start t x (by omega), pure_ ds P' (by rw [← dpAll_len x]; exact l) f', fun g' es ws p H' pp R' s' n' x' => k' es ws p H' pp (fun a o q => R'.same a o (fun z => nomatch z) q) n' x'⟩
end
theorem dft_call {x : Str} {p pos : Pos} {e : Expr} {es : List Expr} {Fs : DL} {n k j : Nat} {F : List PyData → (List PyData → Prop) → Prop} (c : Ca X.prog X.w X.K X.mg X.base k x (spK X.K n F)) (hr : Room j X.A) (hk : k ≤ j) (ha : DA X W (e :: es) Fs) (hg : Gl X x := by rfl)
    (hdb : (x == ("__debug__" : Str)) = false := by decide) (he : starEach (e :: es) X.env = (false, eval e X.env) :: starEach es X.env := by rfl) (hpl : (backTo pos (starEach es X.env)).any (·.1) = false := by rfl) :
    DFT X W (.Call (.Name x p) (e :: es) [] pos) (fun g δ P => Fs g δ fun g1 ds => ds.length = n ∧ F ds (P g1)) := by
  obtain ⟨f, fd, ps, h1, h2, h3, h4⟩ := c.ex
  refine pe_mono (pe_call h1 (hr.mono hk) hg h2 h3 h4 .nil pass0 ha hdb he hpl) fun σ H Q ⟨En, O, g, δ, P, R, f, k⟩ => ⟨En, O, g, δ, _, R, f, fun g1 ds vs H1 ⟨l, q⟩ R1 s1 x1 => ?_⟩
  show spK X.K n F (vs ++ []) H1 Q _
  rw [List.append_nil]
  exact ⟨by rw [dpAll_len x1]; exact l, O, ds, P g1, R1.there, x1, q, fun es ws p H' pp s n' x => k g1 es ws p H' pp (R1.grow s) (s1.trans (.of s)) n' x⟩
/-! ### d.setdefault(t, z), keys that are tuples -/
theorem d_setdT {pins : List (Addr × Obj)} {σ : L2.St} {H : Hp} {s : Shared} {a b : Addr} {r : Value} {d : V} {k : List Key} {A : Around} {E : Value → Shared → Prop} {kvs : List (List Key × V)} {Q : Value → Shared → Prop} (hu : A.units + 2 < cLine) (I : Inv X pins σ H s) (e : H a = some (.dT kvs)) (eb : H b = some (.tup (k.map kV))) (rd : RelV d r) (hl : kvs.length < sizeLine)
    (h1 : ∀ v, valV kvs k = some v → ∀ (w' : Value) (s' : Shared), Inv X pins σ H s' → RelV v w' → Q w' s') (h2 : valV kvs k = none → ∀ (w' : Value) (s' : Shared), Inv X pins σ (upd H a (.dT (putK kvs k d))) s' → RelV d w' → Q w' s') :
    wpAny (model X.prog X.w) A (call (.builtin "dict.setdefault") [.ref a, .ref b, r]) Q E s := by
  obtain ⟨z, hd, xs, rel, dd⟩ := L2.dt_of I.hok e
  have hz : xs.length ≤ sizeLine := by rw [← Paired.length rel]; exact z
  have hl2 : (putK kvs k d).length ≤ sizeLine := by have := length_putK kvs k d; omega
  refine call_setdefault_heap (hsz := hz) (knd := tupleKind (mixKind X.prog X.w)) (k := k) (tupleKind_room_in1 (by omega)) (key_of I.hok eb) hd dd (fun p hp => ?_) fun hn h' dd' hs => ?_
  · have q := rel.val k
    rw [hp] at q
    cases q0 : valV kvs k with
    | none => rw [q0] at q; exact (show False from q).elim
    | some v0 => rw [q0] at q; exact h1 v0 q0 _ _ (I.tok _) q
  · have q := rel.val k
    rw [hn] at q
    cases q0 : valV kvs k with
    | some v0 => rw [q0] at q; exact (show False from q).elim
    | none =>
      obtain ⟨o, es, ep, hq, g2, g3, g4, _, g5⟩ := dd'
      refine h2 q0 _ _ (d_write I (by rw [e]; exact True.intro) hs ⟨o, hq⟩ ⟨hl2, hd, _, (rel.put k eb rd).keeps fun c ys ec => ?_, o, es, ep, hq, g2, g3, g4, g5⟩) rd
      rw [upd_ne (ne_of ec e (fun z => nomatch z))]
      exact ec
def tDSetdT (td ty tx : TE) : TE := fun σ H Q => td σ H fun x H1 => ∃ a, x = .ref a ∧ IsD H1 a ∧ ty σ H1 fun y H2 => tx σ H2 fun z H3 => ∃ (kvs : List (List Key × V)) (k : List Key) (b : Addr), H3 a = some (.dT kvs) ∧ y = .ref b ∧ H3 b = some (.tup (k.map kV)) ∧ kvs.length < sizeLine ∧
  (∀ v, valV kvs k = some v → Q v H3) ∧ (valV kvs k = none → Q z (upd H3 a (.dT (putK kvs k z))))
theorem pe_dsetdT {o e f : Expr} {td ty tx : TE} {apos cpos : Pos} (hu : X.A.units + 2 < cLine) (ho : PE X o td) (he : PE X e ty) (hf : PE X f tx) (m : M2 X o "setdefault" apos e f cpos) : PE X (.Call (.Attribute o "setdefault" apos) [e, f] [] cpos) (tDSetdT td ty tx) := by
  refine ⟨fun pins s σ H Q I h => ?_⟩
  refine wpAny_Call_method m.base m.few m.line PySem.F.plainAttrs_dict PySem.F.slot_dict_setdefault PySem.F.type_dict_setdefault (thn (ho.run pins s σ H _ I h) fun u s1 ⟨x, H1, I1, rx, a, ex, d, q1⟩ => ?_)
  subst ex
  obtain rfl : u = Value.ref a := rx
  obtain ⟨t1, t2, _⟩ := isD_at I1 d
  refine ⟨t1, t2, ?_⟩
  rw [m.trees]
  refine Calls.callWith_builtin rfl (Calls.evalArgs_plain (Calls.spliced_cons (thn (he.run pins s1 σ H1 _ I1 q1) fun iv s2 ⟨y, H2, I2, ry, q2⟩ =>
    Calls.spliced_cons (thn (hf.run pins s2 σ H2 _ I2 q2) fun fv s3 ⟨z, H3, I3, rz, kvs, k, b, ea, ey, eb, hl, q3, q4⟩ => Calls.spliced_nil ?_))))
  subst ey
  cases ry
  exact d_setdT hu I3 ea eb rz hl (fun v hv w' s4 I4 rw' => ⟨v, _, I4, rw', q3 v hv⟩) fun hn w' s4 I4 rw' => ⟨z, _, I4, rw', q4 hn⟩

/-! ### d.setdefault(t, []).append(x) -/
abbrev Ent := (Int × Int) × Addr × List PyData
def kK (k : Int × Int) : List Key := [.inl k.1, .inl k.2]
theorem kK_inj {k k' : Int × Int} (h : kK k = kK k') : k = k' := by
  obtain ⟨a, b⟩ := k
  obtain ⟨c, d⟩ := k'
  simp [kK] at h
  rw [h.1, h.2]
structure ByAt (K : PySem.W.Frag) (E : En) (O : Own) (H : Hp) (σ : L2.St) (δ : List Sv) (a : Addr) (L : List Ent) : Prop where
  dict : H a = some (.dT (L.map fun q => (kK q.1, V.ref q.2.1)))
  own : O a = true
  e0 : E.H a = none
  e1 : E.O a = false
  nd : (L.map fun q => q.2.1).Nodup
  ks : (L.map fun q => q.1).Nodup
  ne : ∀ q ∈ L, q.2.1 ≠ a
  ls : ∀ q ∈ L, O q.2.1 = true ∧ E.H q.2.1 = none ∧ E.O q.2.1 = false ∧ ∃ ws, H q.2.1 = some (.lst ws) ∧ DpAll K (hid O H) ws q.2.2
  ns : ∀ b, (b = a ∨ b ∈ L.map fun q => q.2.1) → ∀ (i : Nat) x, δ[i]? = some x → x.isOwn = true → σ[i]? ≠ some (some (V.ref b))
section
variable {K : PySem.W.Frag} {E : En} {O : Own} {g : Nat} {H H' : Hp} {σ : L2.St} {δ : List Sv} {a : Addr} {L : List Ent}
theorem ByAt.grow (B : ByAt K E O H σ δ a L) (e : Same H H') : ByAt K E O H' σ δ a L where
  dict := e _ _ B.dict
  own := B.own
  e0 := B.e0
  e1 := B.e1
  nd := B.nd
  ks := B.ks
  ne := B.ne
  ls := fun q hq => by
    obtain ⟨h1, h2, h3, ws, h4, h5⟩ := B.ls q hq
    exact ⟨h1, h2, h3, ws, e _ _ h4, h5.keep (same_hid e)⟩
  ns := B.ns
theorem ByAt.get (B : ByAt K E O H σ δ a L) {k : Int × Int} {v : V} (h : valV (L.map fun q => (kK q.1, V.ref q.2.1)) (kK k) = some v) : ∃ q ∈ L, q.1 = k ∧ v = .ref q.2.1 := by
  unfold valV at h
  obtain ⟨p, h1, h2⟩ := Option.map_eq_some_iff.mp h
  have hm := List.mem_of_find?_eq_some h1
  have hp := List.find?_some h1
  obtain ⟨q, hq, rfl⟩ := List.mem_map.mp hm
  exact ⟨q, hq, kK_inj (by simpa using hp), h2.symm⟩
theorem ByAt.getn {k : Int × Int} (h : valV (L.map fun q => (kK q.1, V.ref q.2.1)) (kK k) = none) : k ∉ L.map fun q => q.1 := by
  intro hk
  obtain ⟨q, hq, rfl⟩ := List.mem_map.mp hk
  unfold valV at h
  rw [Option.map_eq_none_iff, List.find?_eq_none] at h
  have := h (kK q.1, V.ref q.2.1) (List.mem_map.mpr ⟨q, hq, rfl⟩)
  simp at this
/-- an item behind a list -/
def appE (k : Int × Int) (d : PyData) (q : Ent) : Ent := if q.1 = k then (q.1, q.2.1, q.2.2 ++ [d]) else q
theorem appE_1 (k : Int × Int) (d : PyData) (q : Ent) : (appE k d q).1 = q.1 := by unfold appE; split <;> rfl
theorem appE_2 (k : Int × Int) (d : PyData) (q : Ent) : (appE k d q).2.1 = q.2.1 := by unfold appE; split <;> rfl
theorem nodup_inj {α β : Type} {f : α → β} : ∀ {l : List α}, (l.map f).Nodup → ∀ x ∈ l, ∀ y ∈ l, f x = f y → x = y
  | [], _, _, h, _, _, _ => by cases h
  | z :: l, h, x, hx, y, hy, e => by
    rw [List.map_cons, List.nodup_cons] at h
    rcases List.mem_cons.mp hx with ex | hx
    · rcases List.mem_cons.mp hy with ey | hy
      · rw [ex, ey]
      · exact absurd (List.mem_map.mpr ⟨y, hy, by rw [← e, ex]⟩) h.1
    · rcases List.mem_cons.mp hy with ey | hy
      · exact absurd (List.mem_map.mpr ⟨x, hx, by rw [e, ey]⟩) h.1
      · exact nodup_inj h.2 x hx y hy e
theorem ByAt.app (B : ByAt K E O H σ δ a L) {q0 : Ent} (h0 : q0 ∈ L) {ws : List V} {v : V} {d : PyData} (hw : H q0.2.1 = some (.lst ws)) (hd : DpAll K (hid O H) ws q0.2.2) (hv : Dp K (hid O H) v d) :
    ByAt K E O (upd H q0.2.1 (.lst (ws ++ [v]))) σ δ a (L.map (appE q0.1 d)) := by
  obtain ⟨o0, _⟩ := B.ls q0 h0
  have m1 : ((L.map (appE q0.1 d)).map fun q => q.1) = L.map fun q => q.1 := by rw [List.map_map]; exact List.map_congr_left fun q _ => appE_1 _ _ q
  have m2 : ((L.map (appE q0.1 d)).map fun q => q.2.1) = L.map fun q => q.2.1 := by rw [List.map_map]; exact List.map_congr_left fun q _ => appE_2 _ _ q
  have m3 : ((L.map (appE q0.1 d)).map fun q => (kK q.1, V.ref q.2.1)) = L.map fun q => (kK q.1, V.ref q.2.1) := by
    rw [List.map_map]
    exact List.map_congr_left fun q _ => by show (kK (appE q0.1 d q).1, V.ref (appE q0.1 d q).2.1) = _; rw [appE_1, appE_2]
  refine { dict := ?_, own := B.own, e0 := B.e0, e1 := B.e1, nd := by rw [m2]; exact B.nd, ks := by rw [m1]; exact B.ks, ne := fun q hq => ?_, ls := fun q hq => ?_, ns := fun b hb => B.ns b (by rw [m2] at hb; exact hb) }
  · rw [m3, upd_ne (fun z => B.ne q0 h0 z.symm)]
    exact B.dict
  · obtain ⟨q', hq', rfl⟩ := List.mem_map.mp hq
    rw [appE_2]
    exact B.ne q' hq'
  · obtain ⟨q', hq', rfl⟩ := List.mem_map.mp hq
    rw [appE_2, hid_upd o0]
    obtain ⟨h1, h2, h3, ws', h4, h5⟩ := B.ls q' hq'
    refine ⟨h1, h2, h3, ?_⟩
    by_cases e : q'.1 = q0.1
    · have : q' = q0 := nodup_inj B.ks q' hq' q0 h0 e
      subst this
      refine ⟨ws ++ [v], upd_same, ?_⟩
      unfold appE
      rw [if_pos rfl]
      exact dpAll_app hd (dpAll_one hv)
    · have ne : q'.2.1 ≠ q0.2.1 := fun z => e (by rw [nodup_inj B.nd q' hq' q0 h0 z])
      refine ⟨ws', by rw [upd_ne ne]; exact h4, ?_⟩
      unfold appE
      rw [if_neg e]
      exact h5
theorem ByAt.ins {W : Option Addr} (B : ByAt K E O H σ δ a L) (R : Rel K W E O g H σ δ) {k : Int × Int} {q : Addr} (n : H q = none) (hk : k ∉ L.map fun q => q.1) :
    ByAt K E (addO O q) (upd (upd H q (.lst [])) a (.dT ((L.map fun q => (kK q.1, V.ref q.2.1)) ++ [(kK k, V.ref q)]))) σ δ a (L ++ [(k, q, [])]) := by
  have qa : q ≠ a := by
    rintro rfl
    rw [B.dict] at n; cases n
  have hq : ∀ r ∈ L, r.2.1 ≠ q := fun r hr z => by
    obtain ⟨_, _, _, ws, h4, _⟩ := B.ls r hr
    rw [z, n] at h4; cases h4
  have oa : addO O q a = true := addO_old B.own
  refine { dict := by rw [upd_same, List.map_append]; rfl, own := oa, e0 := B.e0, e1 := B.e1, nd := ?_, ks := ?_, ne := fun r hr => ?_, ls := fun r hr => ?_, ns := fun b hb => ?_ }
  · rw [List.map_append, List.nodup_append]
    refine ⟨B.nd, by simp, fun x hx y hy => ?_⟩
    obtain ⟨r, hr, rfl⟩ := List.mem_map.mp hx
    rw [List.map_cons, List.map_nil, List.mem_singleton] at hy
    rw [hy]
    exact hq r hr
  · rw [List.map_append, List.nodup_append]
    refine ⟨B.ks, by simp, fun x hx y hy => ?_⟩
    rw [List.map_cons, List.map_nil, List.mem_singleton] at hy
    rintro rfl
    rw [hy] at hx
    exact hk hx
  · rcases List.mem_append.mp hr with hr | hr
    · exact B.ne r hr
    · rw [List.mem_singleton.mp hr]; exact qa
  · rw [hid_upd oa]
    rcases List.mem_append.mp hr with hr | hr
    · obtain ⟨h1, h2, h3, ws, h4, h5⟩ := B.ls r hr
      exact ⟨addO_old h1, h2, h3, ws, by rw [upd_ne (B.ne r hr), upd_ne (hq r hr)]; exact h4, h5.keep (hid_add n)⟩
    · rw [List.mem_singleton.mp hr]
      exact ⟨addO_self, (R.ent n).1, (R.ent n).2, [], by rw [upd_ne qa, upd_same], .nil⟩
  · by_cases e : b = q
    · rw [e]; exact R.noslot n
    · refine B.ns b ?_
      rcases hb with hb | hb
      · exact .inl hb
      · rw [List.map_append] at hb
        rcases List.mem_append.mp hb with hb | hb
        · exact .inr hb
        · exact absurd (by simpa using hb) e
def entD (L : List Ent) : List ((Int × Int) × List PyData) := L.map fun q => (q.1, q.2.2)
def addTo (l : List ((Int × Int) × List PyData)) (k : Int × Int) (d : PyData) : List ((Int × Int) × List PyData) :=
  if k ∈ l.map (·.1) then l.map fun q => if q.1 = k then (q.1, q.2 ++ [d]) else q else l ++ [(k, [d])]
theorem entD_app (k : Int × Int) (d : PyData) (h : k ∈ L.map fun q => q.1) : entD (L.map (appE k d)) = addTo (entD L) k d := by
  unfold addTo entD
  rw [if_pos (by rw [List.map_map]; exact h), List.map_map, List.map_map]
  refine List.map_congr_left fun q _ => ?_
  simp only [Function.comp, appE]
  split <;> rfl
theorem entD_ins (k : Int × Int) (b : Addr) (d : PyData) (h : k ∉ L.map fun q => q.1) : entD ((L ++ [(k, b, [])]).map (appE k d)) = addTo (entD L) k d := by
  unfold addTo entD
  rw [if_neg (by rw [List.map_map]; exact h), List.map_append, List.map_append, List.map_map]
  have e : L.map ((fun q : Ent => (q.1, q.2.2)) ∘ appE k d) = L.map fun q => (q.1, q.2.2) := List.map_congr_left fun q hq => by
    have : q.1 ≠ k := fun z => h (List.mem_map.mpr ⟨q, hq, z⟩)
    simp only [Function.comp, appE, if_neg this]
  rw [e]
  simp [appE]
def tBy (K : PySem.W.Frag) (F : DL) (Fm : DT) (i : Nat) : TS := fun D σ H => ∃ (E : En) (O : Own) (g : Nat) (δ : List Sv) (a : Addr) (L : List Ent) (P : Nat → Int × Int → PyData → Prop), Rel K none E O g H σ δ ∧ ByAt K E O H σ δ a L ∧ σ[i]? = some (some (V.ref a)) ∧ L.length < sizeLine ∧ (∀ q ∈ L, q.2.2.length < sizeLine) ∧
  (F g δ fun g1 es => ∃ x y : Int, es = [.int x, .int y] ∧ Fm g1 δ fun g2 d => P g2 (x, y) d) ∧
  ∀ g' k d O' H' L', P g' k d → Rel K none E O' g' H' σ δ → ByAt K E O' H' σ δ a L' → entD L' = addTo (entD L) k d → (∀ a, O a = true → O' a = true) → Same (hid O H) (hid O' H') → (∀ q ∈ L', (∃ r ∈ L, r.2.1 = q.2.1) ∨ O q.2.1 = false) → D.nx σ H'
end
theorem ps_by {ek em : Expr} {Fk : DL} {Fm : DT} {x : Str} {p pl sp cp ap cpos pos : Pos} (i : Nat) (hu : X.A.units + 2 < cLine) (hk : DFT X none ek Fk) (hm : DE X none em Fm)
    (hN : X.N[i]? = some x := by rfl) (hv : Vis X.env.scope x := by first | exact Or.inl rfl | exact Or.inr (Or.inl rfl) | exact Or.inr (Or.inr rfl)) (hd : (x == ("__debug__" : Str)) = false := by decide) (hcd : (x == ("__classdict__" : Str)) = false := by decide)
    (m2 : M2 X (.Name x p) "setdefault" sp ek (.List [] pl) cp := by exact ⟨rfl, rfl, rfl, rfl⟩)
    (hbase : attributeBase (.Call (.Attribute (.Name x p) "setdefault" sp) [ek, .List [] pl] [] cp) "append" X.env (eval (.Call (.Attribute (.Name x p) "setdefault" sp) [ek, .List [] pl] [] cp) X.env) = eval (.Call (.Attribute (.Name x p) "setdefault" sp) [ek, .List [] pl] [] cp) X.env := by rfl)
    (hfew : ((backTo cpos (starEach [em] X.env)).all (fun x => !x.1) && (backToKw cpos (keywordEach [] X.env)).all (fun x => x.1.isSome) && decide (([em] : List Expr).length + ([] : List Keyword).length + (if ([] : List Keyword).isEmpty then 0 else 1) < 30)) = true := by rfl)
    (hline : (ap.endLine == cpos.line) = true := by rfl) (hs : starEach [em] X.env = (false, eval em X.env) :: starEach [] X.env := by rfl) (hplain : (backTo cpos (starEach [] X.env)).any (·.1) = false := by rfl)
    (hsw : swapsWith (.Call (.Attribute (.Call (.Attribute (.Name x p) "setdefault" sp) [ek, .List [] pl] [] cp) "append" ap) [em] [] cpos) none pos.line X.env = pure false := by rfl) :
    PS X (.Expr (.Call (.Attribute (.Call (.Attribute (.Name x p) "setdefault" sp) [ek, .List [] pl] [] cp) "append" ap) [em] [] cpos) pos) (tBy X.K Fk Fm i) := by
  refine ps_mono (ps_expr (pe_bm PySem.F.plainAttrs_list PySem.F.slot_list_append PySem.F.type_list_append mt_append (pe_dsetdT hu (pe_var hN hv hd hcd) hk (pe_lst pa_nil) m2) (pa_cons hm pa_nil hs) hbase hfew hline hs hplain) hsw) fun D σ H ⟨E, O, g, δ, a, L, P, R, B, hi, hL, hl, f, kn⟩ => ?_
  refine ⟨.ref a, hi, a, rfl, .inr ⟨_, .inl B.dict⟩, E, O, g, δ, _, R, f, fun g1 es vs p H1 ⟨x, y, ee, fm⟩ R1 s1 n x1 => ?_⟩
  subst ee
  have ev : vs = [V.int x, V.int y] := dpAll_ints [x, y] x1
  subst ev
  have sH : Same H H1 := fun b o h => s1.all b o (fun z => nomatch z) h
  have R2 := R1.grow (same_new (o := .tup [V.int x, V.int y]) n)
  have B2 := (B.grow sH).grow (same_new (o := .tup [V.int x, V.int y]) n)
  have s2 : Same H (upd H1 p (.tup [V.int x, V.int y])) := sH.trans (same_new n)
  refine ⟨Nat.zero_le _, fun q nq => ?_⟩
  have s3 := same_new (o := .lst []) nq
  have pq : p ≠ q := by
    rintro rfl
    rw [upd_same] at nq; cases nq
  refine ⟨_, kK (x, y), p, s3 _ _ B2.dict, rfl, by rw [upd_ne pq, upd_same]; rfl, by rw [List.length_map]; exact hL, fun v hv => ?_, fun hv => ?_⟩
  · obtain ⟨q0, h0, hk0, rfl⟩ := B2.get hv
    have B3 := B2.grow s3
    have R3 := R2.grow s3
    obtain ⟨o0, e0, e1, ws, hw, hdw⟩ := B3.ls q0 h0
    refine ⟨.inl ⟨rfl, ws, SqL.of hw⟩, E, O, g1, δ, _, R3, fm, fun g2 d u H4 pd R4 s4 x4 => ?_⟩
    have s4' : Same (upd (upd H1 p (.tup [V.int x, V.int y])) q (.lst [])) H4 := fun b o h => s4.all b o (fun z => nomatch z) h
    have B4 := B3.grow s4'
    have hw4 := s4' _ _ hw
    have hdw4 := hdw.keep s4.hid
    refine ⟨q0.2.1, ws, u, rfl, rfl, hw4, by rw [dpAll_len hdw]; exact hl q0 h0, ?_⟩
    refine kn g2 (x, y) d O _ _ pd (R4.poke o0 e0 e1 (B4.ns _ (.inr (List.mem_map.mpr ⟨q0, h0, rfl⟩)))) (B4.app h0 hw4 hdw4 x4) (by rw [hk0]; exact entD_app _ _ (List.mem_map.mpr ⟨q0, h0, hk0⟩)) (fun _ h => h) ?_ fun q hq => ?_
    · rw [hid_upd o0]
      exact ((same_hid s2).trans (same_hid s3)).trans s4.hid
    · obtain ⟨r, hr, rfl⟩ := List.mem_map.mp hq
      exact .inl ⟨r, hr, (appE_2 _ _ r).symm⟩
  · have hkn := ByAt.getn hv
    have BI := B2.ins R2 (k := (x, y)) nq hkn
    have RA := R2.add (o := .lst []) nq
    have hput : putK (L.map fun q => (kK q.1, V.ref q.2.1)) (kK (x, y)) (V.ref q) = (L.map fun q => (kK q.1, V.ref q.2.1)) ++ [(kK (x, y), V.ref q)] := putK_new _ hv
    rw [hput]
    have qa : q ≠ a := by
      rintro rfl
      rw [B2.dict] at nq; cases nq
    have oa : addO O q a = true := addO_old B.own
    have RI := RA.poke (o := .dT ((L.map fun q => (kK q.1, V.ref q.2.1)) ++ [(kK (x, y), V.ref q)])) oa B.e0 B.e1 (B2.ns a (.inl rfl))
    have hq : (upd (upd (upd H1 p (.tup [V.int x, V.int y])) q (.lst [])) a (.dT ((L.map fun q => (kK q.1, V.ref q.2.1)) ++ [(kK (x, y), V.ref q)]))) q = some (.lst []) := by rw [upd_ne qa, upd_same]
    refine ⟨.inl ⟨rfl, [], SqL.of hq⟩, E, addO O q, g1, δ, _, RI, fm, fun g2 d u H4 pd R4 s4 x4 => ?_⟩
    have s4' := fun b o h => s4.all b o (fun z => nomatch z) h
    have B4 := BI.grow s4'
    have hw4 := s4' _ _ hq
    have h0 : ((x, y), q, []) ∈ L ++ [(((x, y), q, []) : Ent)] := List.mem_append_right _ (List.mem_singleton_self _)
    obtain ⟨o0, e0, e1, _⟩ := B4.ls _ h0
    refine ⟨q, [], u, rfl, rfl, hw4, by rw [sizeLine_eq]; decide, ?_⟩
    refine kn g2 (x, y) d (addO O q) _ _ pd (R4.poke o0 e0 e1 (B4.ns _ (.inr (List.mem_map.mpr ⟨_, h0, rfl⟩)))) (B4.app (q0 := ((x, y), q, [])) h0 hw4 .nil x4) (entD_ins _ _ _ hkn) (fun _ h => addO_old h) ?_ fun r hr => ?_
    · rw [hid_upd o0]
      refine Same.trans ?_ s4.hid
      rw [hid_upd oa]
      exact (same_hid s2).trans (hid_add nq)
    · obtain ⟨r', hr', rfl⟩ := List.mem_map.mp hr
      rw [appE_2]
      rcases List.mem_append.mp hr' with z | z
      · exact .inl ⟨r', z, rfl⟩
      · rw [List.mem_singleton.mp z]
        exact .inr (R2.free nq)
end
end Lk

set_option Elab.async false
set_option linter.all false
set_option maxRecDepth 100000
set_option maxHeartbeats 4000000
/-! the loop that fills a dict of lists -/
namespace Lk
open PySem PySem.Spec PyProof.Rows L2 L2H HotX LkHot
def relO (O : Own) (L : List Ent) : Own := fun b => O b && !(L.any fun q => decide (q.2.1 = b))
theorem relO_yes {O : Own} {L : List Ent} {b : Addr} (h : O b = true) (hb : b ∉ L.map fun q => q.2.1) : relO O L b = true := by
  unfold relO
  rw [h, Bool.true_and, Bool.not_eq_true', List.any_eq_false]
  intro q hq z
  exact hb (List.mem_map.mpr ⟨q, hq, by simpa using z⟩)
theorem relO_sub {O : Own} {L : List Ent} {b : Addr} (h : relO O L b = true) : O b = true := by
  unfold relO at h
  exact (Bool.and_eq_true _ _ ▸ h).1
theorem relO_no {O : Own} {L : List Ent} {b : Addr} (hb : b ∈ L.map fun q => q.2.1) : relO O L b = false := by
  unfold relO
  obtain ⟨q, hq, rfl⟩ := List.mem_map.mp hb
  have : (L.any fun r => decide (r.2.1 = q.2.1)) = true := List.any_eq_true.mpr ⟨q, hq, by simp⟩
  rw [this]; simp
def dtD (l : List ((Int × Int) × List PyData)) : List ((Int × Int) × PyData) := l.map fun q => (q.1, .list q.2)
section
variable {K : PySem.W.Frag} {E : En} {O : Own} {g : Nat} {H H' : Hp} {σ : L2.St} {δ : List Sv} {a : Addr} {L : List Ent} {i : Nat}
theorem own_ref {y : Option V} {x : Sv} (h : Sl K O H y x) (ho : x.isOwn = true) : ∃ b, y = some (.ref b) := by
  cases x with
  | own ds => obtain ⟨b, vs, e, _⟩ := h; exact ⟨b, e⟩
  | dic ds => obtain ⟨b, vs, e, _⟩ := h; exact ⟨b, e⟩
  | dtp ds => obtain ⟨b, vs, e, _⟩ := h; exact ⟨b, e⟩
  | _ => cases ho
theorem Sl.less {O' : Own} {y : Option V} {x : Sv} (h : Sl K O H y x) (s : ∀ b, O' b = true → O b = true) (k : ∀ b, x.isOwn = true → y = some (.ref b) → O' b = true) : Sl K O' H y x := by
  have e : Same (hid O H) (hid O' H) := hid_less s
  cases x with
  | emp => trivial
  | exc a dd f d =>
    obtain ⟨h0, v, h1, h2⟩ := h
    exact ⟨h0, v, e _ _ h1, h2.keep e⟩
  | raw v => exact h
  | dat d =>
    obtain ⟨v, h1, h2⟩ := h
    exact ⟨v, h1, h2.keep e⟩
  | wy d =>
    obtain ⟨v, h1, h2, h3⟩ := h
    exact ⟨v, h1, h2.keep e, h3.keep e⟩
  | own ds =>
    obtain ⟨a, vs, h1, h2, h3, h4⟩ := h
    exact ⟨a, vs, h1, k a rfl h1, h3, h4.keep e⟩
  | dic ds =>
    obtain ⟨a, vs, h1, h2, h3, h4⟩ := h
    exact ⟨a, vs, h1, k a rfl h1, h3, Paired.mapP h4 fun p q z => ⟨z.1, z.2.keep e⟩⟩
  | dtp ds =>
    obtain ⟨a, vs, h1, h2, h3, h4⟩ := h
    exact ⟨a, vs, h1, k a rfl h1, h3, Paired.mapP h4 fun p q z => ⟨z.1, z.2.keep e⟩⟩
theorem Rel.release (R : Rel K none E O g H σ δ) (B : ByAt K E O H σ δ a L) (hi : σ[i]? = some (some (V.ref a))) : Rel K none E (relO O L) g H σ (δ.set i (.dtp (dtD (entD L)))) := by
  have hh : Same (hid O H) (hid (relO O L) H) := hid_less fun _ h => relO_sub h
  have key : ∀ (L' : List Ent), (∀ q ∈ L', q ∈ L) → Paired (fun (p : List Key × V) (q : (Int × Int) × PyData) => p.1 = [.inl q.1.1, .inl q.1.2] ∧ Dp K (hid (relO O L) H) p.2 q.2) (L'.map fun q => (kK q.1, V.ref q.2.1)) (dtD (entD L')) := by
    intro L'
    induction L' with
    | nil => intro _; exact .nil
    | cons q r ih =>
      intro hs
      obtain ⟨h1, h2, h3, ws, h4, h5⟩ := B.ls q (hs q List.mem_cons_self)
      refine .cons ⟨rfl, .lst (SqL.of ?_) (h5.keep hh)⟩ (ih fun z hz => hs z (List.mem_cons_of_mem _ hz))
      rw [hid_no (relO_no (List.mem_map.mpr ⟨q, hs q List.mem_cons_self, rfl⟩))]
      exact h4
  have oa : relO O L a = true := relO_yes B.own fun z => by
    obtain ⟨q, hq, e⟩ := List.mem_map.mp z
    exact B.ne q hq e
  refine { len := by rw [List.length_set]; exact R.len, same := R.same, sub := fun b h => relO_yes (R.sub b h) fun z => ?_, new := fun b h => R.new b (relO_sub h), there := fun b h => R.there b (relO_sub h), urn := (fun _ z => nomatch z), sl := fun j x q => ?_, own0 := fun j x b q o z => ?_, apart := fun j k x y b n q q' o o' z => ?_ }
  · obtain ⟨q, hq, e⟩ := List.mem_map.mp z
    obtain ⟨_, _, h3, _⟩ := B.ls q hq
    rw [e, h] at h3; cases h3
  · rw [List.getElem?_set] at q
    by_cases e : i = j
    · subst e
      by_cases hl : i < δ.length
      · rw [if_pos rfl, if_pos hl] at q
        cases q
        exact ⟨_, hi, a, _, rfl, oa, B.dict, key L fun _ h => h⟩
      · rw [if_pos rfl, if_neg hl] at q; cases q
    · rw [if_neg e] at q
      obtain ⟨y, h1, h2⟩ := R.sl j x q
      refine ⟨y, h1, h2.less (fun _ h => relO_sub h) fun b ho ey => ?_⟩
      subst ey
      have ob : O b = true := by
        cases x with
        | own ds => obtain ⟨_, _, e, o, _⟩ := h2; cases e; exact o
        | dic ds => obtain ⟨_, _, e, o, _⟩ := h2; cases e; exact o
        | dtp ds => obtain ⟨_, _, e, o, _⟩ := h2; cases e; exact o
        | _ => cases ho
      exact relO_yes ob fun z => B.ns b (.inr z) j x q ho h1
  · rw [List.getElem?_set] at q
    by_cases e : i = j
    · subst e
      rw [hi] at z
      cases z
      exact ⟨B.e0, B.e1⟩
    · rw [if_neg e] at q
      exact R.own0 j x b q o z
  · rw [List.getElem?_set] at q q'
    by_cases e : i = j
    · subst e
      rw [hi] at z
      cases z
      rw [if_neg n] at q'
      exact B.ns a (.inl rfl) k y q' o'
    · rw [if_neg e] at q
      by_cases e' : i = k
      · subst e'
        rw [hi]
        intro w
        cases w
        exact B.ns a (.inl rfl) j x q o z
      · rw [if_neg e'] at q'
        exact R.apart j k x y b n q q' o o' z
/-- the slot of a new dict is let go -/
theorem Rel.letgo (R : Rel K none E O g H σ δ) (h : δ[i]? = some (.dtp [])) : ∃ a, Rel K none E O g H σ (δ.set i .emp) ∧ ByAt K E O H σ (δ.set i .emp) a [] ∧ σ[i]? = some (some (V.ref a)) := by
  obtain ⟨y, h1, a, vs, h2, h3, h4, h5⟩ := R.sl i _ h
  subst h2
  cases h5
  have hl : i < δ.length := (List.getElem?_eq_some_iff.mp h).1
  have o := R.own0 i _ a h rfl h1
  have get : ∀ (j : Nat) x, (δ.set i .emp)[j]? = some x → x = .emp ∨ (δ[j]? = some x ∧ i ≠ j) := fun j x q => by
    rw [List.getElem?_set] at q
    by_cases e : i = j
    · subst e
      rw [if_pos rfl, if_pos hl] at q
      cases q
      exact .inl rfl
    · rw [if_neg e] at q
      exact .inr ⟨q, e⟩
  refine ⟨a, R.forget rfl (by rw [List.length_set]) fun j x q => (get j x q).imp id fun z => ⟨z.1, rfl⟩, ⟨h4, h3, o.1, o.2, .nil, .nil, (fun _ z => nomatch z), (fun _ z => nomatch z), fun b hb j x q ho => ?_⟩, h1⟩
  rcases hb with rfl | hb
  · rcases get j x q with e | ⟨q', e⟩
    · rw [e] at ho; cases ho
    · exact fun z => R.apart i j _ x b e h q' rfl ho h1 z
  · cases hb
theorem ByAt.put {j : Nat} {v : V} {d : PyData} (B : ByAt K E O H σ δ a L) : ByAt K E O H (σ.set j (some v)) (δ.set j (.dat d)) a L := by
  refine { B with ns := fun b hb k x q ho => ?_ }
  rw [List.getElem?_set] at q ⊢
  by_cases e : j = k
  · subst e
    by_cases hl : j < δ.length
    · rw [if_pos rfl, if_pos hl] at q
      cases q; cases ho
    · rw [if_pos rfl, if_neg hl] at q; cases q
  · rw [if_neg e] at q
    rw [if_neg e]
    exact B.ns b hb k x q ho
end
def byD (Fk : DL) (Fm : DT) (i j : Nat) : List PyData → List ((Int × Int) × List PyData) → DEn → Nat → List Sv → Prop
  | [], acc, P, g, δ => P.nx g (δ.set i (.dtp (dtD acc)))
  | d :: ds, acc, P, g, δ => acc.length < sizeLine ∧ (∀ q ∈ acc, q.2.length < sizeLine) ∧ Fk g (δ.set j (.dat d)) fun g1 es => ∃ x y : Int, es = [.int x, .int y] ∧ Fm g1 (δ.set j (.dat d)) fun g2 e => byD Fk Fm i j ds (addTo acc (x, y) e) P g2 (δ.set j (.dat d))
theorem ds_byFor {X : Cx} {tx : Str} {tp pos : Pos} {iter : Expr} {body : Stmt} {Fi : DL} {Fk : DL} {Fm : DT} (i j : Nat) (ij : j ≠ i) (hc : X.calm = true) (hp : PassesOwn (model X.prog X.w) X.A X.env X.xe) (hN : X.N.Nodup) (hi : DI X none (.Name tx tp) iter Fi) (hb : PS X body (tBy X.K Fk Fm i))
    (hj : X.N[j]? = some tx := by rfl) (hx : Loc X.env.scope tx := by first | exact Or.inl rfl | exact Or.inr rfl)
    (hf : X.fn tx = true ∨ X.env.scope.names.lookup tx = some .local := by first | exact .inl rfl | exact .inr rfl | assumption)
    (hs : ∀ x, foldedSetIterable iter X.env x = pure x := by intro _; rfl) : DS X none (.For (.Name tx tp) iter [body] [] pos) (fun P g δ => δ[i]? = some (.dtp []) ∧ Fi g δ fun g1 ds => byD Fk Fm i j ds [] P g1 (δ.set i .emp)) :=
  ps_mono (ps_for hp hc (hi.1 hc) (dg_name j hN hj hx hf) (pss_one hb) hs) fun D σ H ⟨E, O, g, δ, P, R, ⟨ei, f⟩, kn, kr⟩ => ⟨E, O, g, δ, _, R, f, fun g1 ds J H1 p R1 s1 it => by
    obtain ⟨a, R0, B0, h0⟩ := R1.letgo ei
    refine ⟨fun k n σ' H' => n = ds.length - k ∧ k ≤ ds.length ∧ ∃ O' g' δ' L, Rel X.K none E O' g' H' σ' δ' ∧ ByAt X.K E O' H' σ' δ' a L ∧ σ'[i]? = some (some (V.ref a)) ∧ byD Fk Fm i j (ds.drop k) (entD L) P g' δ' ∧ (∀ a, O a = true → O' a = true) ∧ Same (hid O H1) (hid O' H') ∧ ∀ q ∈ L, O q.2.1 = false,
      ⟨ds.length, (Nat.sub_zero _).symm, Nat.zero_le _, O, g1, _, [], R0, B0, h0, (by rw [List.drop_zero]; exact p), fun _ h => h, Same.refl _, (fun _ z => nomatch z)⟩, fun k n σ' H' ⟨hn, hk, O', g', δ', L, R', B', ha, p', u', s', fr⟩ => ?_⟩
    by_cases hlt : k < ds.length
    · refine .inr ⟨it.go O' H' k s' hlt, fun σ2 H2 => ds.length - (k + 1) = ds.length - (k + 1) ∧ k + 1 ≤ ds.length ∧ ∃ O' g' δ' L, Rel X.K none E O' g' H2 σ2 δ' ∧ ByAt X.K E O' H2 σ2 δ' a L ∧ σ2[i]? = some (some (V.ref a)) ∧ byD Fk Fm i j (ds.drop (k + 1)) (entD L) P g' δ' ∧ (∀ a, O a = true → O' a = true) ∧ Same (hid O H1) (hid O' H2) ∧ ∀ q ∈ L, O q.2.1 = false,
        fun σ2 H2 w => ⟨_, by omega, w⟩, fun x H2 y => ?_⟩
      have hd : ds.drop k = ds[k] :: ds.drop (k + 1) := List.drop_eq_getElem_cons hlt
      rw [hd] at p'
      obtain ⟨l1, l2, q⟩ := p'
      obtain ⟨s2, x2⟩ := it.yld O' H' k x H2 ds[k] R'.there s' (List.getElem?_eq_getElem hlt) y
      refine ⟨hid O' H2, ds[k], [(j, ds[k])], hid_same, x2, rfl, fun ws pw => ?_⟩
      have R2 := rel_putDs (R'.grow s2) pw
      cases pw with
      | @cons w _ ws' _ pw1 pw2 =>
        cases pw2
        obtain ⟨wj, wv⟩ := w
        have ej : wj = j := pw1.1
        subst ej
        have B2 : ByAt X.K E O' H2 (σ'.set wj (some wv)) (δ'.set wj (.dat ds[k])) a L := (B'.grow s2).put
        refine ⟨E, O', g', δ'.set wj (.dat ds[k]), a, L, _, R2, B2, ?_, by simpa [entD] using l1, fun q hq => l2 (q.1, q.2.2) (List.mem_map.mpr ⟨q, hq, rfl⟩), q, fun g3 kx d O3 H3 L3 p3 R3 B3 e3 u3 s3 f3 => ⟨rfl, hlt, O3, g3, _, L3, R3, B3, ?_, by rw [e3]; exact p3, fun a h => u3 a (u' a h), (s'.trans (same_hid s2)).trans s3, fun q hq => ?_⟩⟩
        · show (σ'.set wj (some wv))[i]? = _
          rw [List.getElem?_set_ne ij]; exact ha
        · show (σ'.set wj (some wv))[i]? = _
          rw [List.getElem?_set_ne ij]; exact ha
        · rcases f3 q hq with ⟨r, hr, e⟩ | h
          · rw [← e]; exact fr r hr
          · cases z : O q.2.1 with
            | false => rfl
            | true => rw [u' _ z] at h; cases h
    · have e : k = ds.length := by omega
      subst e
      rw [List.drop_length] at p'
      refine .inl ⟨it.stop O' H' _ s' (Nat.le_refl _), kn (relO O' L) g' _ σ' H' p' (R'.release B' ha) (fun b h => relO_yes (u' b h) fun z => ?_) ((s1.hid.trans s').trans (hid_less fun _ h => relO_sub h))⟩
      obtain ⟨q, hq, e⟩ := List.mem_map.mp z
      have := fr q hq
      rw [e, h] at this; cases this⟩
end Lk

set_option Elab.async false
set_option linter.all false
set_option maxRecDepth 100000
set_option maxHeartbeats 4000000
namespace Lk
open PySem PySem.Spec PyProof.Rows L2 L2H HotX LkHot LkHead
section
variable {X : Cx} {W : Option Addr}
theorem dx_consT {es : List Expr} {Fs : DX} {pos : Pos} (h2 : PA X es (tX X.K W Fs)) (hs : starEach (Expr.Dict [] [] pos :: es) X.env = (false, eval (.Dict [] [] pos) X.env) :: starEach es X.env := by rfl) :
    PA X (.Dict [] [] pos :: es) (tX X.K W fun g δ P => Fs g δ fun g2 xs => P g2 (.dtp [] :: xs)) :=
  dx_consO (ts := tX X.K W Fs) (x0 := fun g _ P => P g (.dtp [])) pe_dnewT h2 (fun E O g δ P σ H Q R f k => fun p n => k g _ p _ H f rfl R .refl n ⟨p, [], rfl, addO_self, upd_same, .nil⟩) hs
def getP (kvs : List ((Int × Int) × PyData)) (k : Int × Int) : Option PyData := (kvs.find? fun q => decide (q.1 = k)).map (·.2)
theorem dtp_look {K : PySem.W.Frag} {G : Hp} {k : Int × Int} : ∀ {vs : List (List Key × V)} {kvs : List ((Int × Int) × PyData)}, Paired (fun (p : List Key × V) (q : (Int × Int) × PyData) => p.1 = [.inl q.1.1, .inl q.1.2] ∧ Dp K G p.2 q.2) vs kvs →
    (valV vs (kK k) = none ∧ getP kvs k = none) ∨ ∃ v d, valV vs (kK k) = some v ∧ getP kvs k = some d ∧ Dp K G v d
  | [], [], _ => .inl ⟨rfl, rfl⟩
  | p :: vs, q :: kvs, .cons ⟨h1, h2⟩ t => by
    have hp : p.1 = kK q.1 := h1
    by_cases e : q.1 = k
    · refine .inr ⟨p.2, q.2, valV_pos (by rw [hp, e]), ?_, h2⟩
      unfold getP
      rw [List.find?_cons, decide_eq_true e]
      rfl
    · have hn : ¬ p.1 = kK k := fun z => e (kK_inj (hp.symm.trans z))
      have hg : getP (q :: kvs) k = getP kvs k := by
        unfold getP
        rw [List.find?_cons, decide_eq_false e]
      rw [valV_neg hn, hg]
      exact dtp_look t
theorem sl_dtp {K : PySem.W.Frag} {E : En} {O : Own} {g : Nat} {H : Hp} {σ : L2.St} {δ : List Sv} {i : Nat} {ds : List ((Int × Int) × PyData)} (R : Rel K W E O g H σ δ) (h : δ[i]? = some (.dtp ds)) : ∃ a vs, σ[i]? = some (some (.ref a)) ∧ O a = true ∧ H a = some (.dT vs) ∧ Paired (fun (p : List Key × V) (q : (Int × Int) × PyData) => p.1 = [.inl q.1.1, .inl q.1.2] ∧ Dp K (hid O H) p.2 q.2) vs ds := by
  obtain ⟨y, h1, a, vs, h2, h3⟩ := R.sl i _ h
  subst h2
  exact ⟨a, vs, h1, h3⟩
/-- d.get((a, b), []) -/
theorem de_dgetT {x : Str} {p ap cpos tp pl : Pos} {e1 e2 : Expr} {c} {Fs : DL} (i : Nat) (hu : X.A.units + 1 < cLine) (ha : DA X none [e1, e2] Fs)
    (hN : X.N[i]? = some x := by rfl) (hv : Vis X.env.scope x := by first | exact Or.inl rfl | exact Or.inr (Or.inl rfl) | exact Or.inr (Or.inr rfl)) (hd : (x == ("__debug__" : Str)) = false := by decide) (hcd : (x == ("__classdict__" : Str)) = false := by decide)
    (m2 : M2 X (.Name x p) "get" ap (.Tuple [e1, e2] c tp) (.List [] pl) cpos := by exact ⟨rfl, rfl, rfl, rfl⟩) :
    DE X none (.Call (.Attribute (.Name x p) "get" ap) [.Tuple [e1, e2] c tp, .List [] pl] [] cpos) (fun g δ P => ∃ kvs, δ[i]? = some (.dtp kvs) ∧ Fs g δ fun g1 ds => ∃ a b : Int, ds = [.int a, .int b] ∧ P g1 ((getP kvs (a, b)).getD (.list []))) :=
  pe_mono (pe_dget2 hu (pe_var hN hv hd hcd) (pe_tup ha) (pe_lst pa_nil) m2) fun σ H Q ⟨E, O, g, δ, P, R, ⟨kvs, e, f⟩, k⟩ => by
    obtain ⟨a, vs, h1, h2, h3, h4⟩ := sl_dtp R e
    refine ⟨.ref a, h1, a, rfl, .inr ⟨vs, .inl h3⟩, E, O, g, δ, _, R, f, fun g1 ds us H1 ⟨x, y, ed, pp⟩ R1 s1 x1 => ?_⟩
    subst ed
    have eu : us = [V.int x, V.int y] := dpAll_ints [x, y] x1
    subst eu
    refine ⟨by rw [sizeLine_eq]; show 2 ≤ 16777216; decide, fun t nt => ⟨Nat.zero_le _, fun q nq => ?_⟩⟩
    have h3' := ext_own R e rfl h1 s1 h3
    have s2 := same_new (o := .tup [V.int x, V.int y]) nt
    have s3 := same_new (o := .lst []) nq
    have tq : t ≠ q := by
      rintro rfl
      rw [upd_same] at nq; cases nq
    have R3 := (R1.grow s2).grow s3
    have ee : Ext none O H (upd (upd H1 t (.tup [V.int x, V.int y])) q (.lst [])) := (s1.trans (.of s2)).trans (.of s3)
    refine ⟨_, DGet.t (k := kK (x, y)) (s3 _ _ (s2 _ _ h3')) (by rw [upd_ne tq, upd_same]; rfl), ?_⟩
    rcases dtp_look (k := (x, y)) h4 with ⟨q1, q2⟩ | ⟨v, d, q1, q2, q3⟩
    · rw [q1]
      rw [q2] at pp
      have op : O q = false := (R1.grow s2).free nq
      exact k g1 _ _ _ pp R3 ee (.lst (SqL.of (by rw [hid_no op, upd_same])) .nil)
    · rw [q1]
      rw [q2] at pp
      exact k g1 _ _ _ pp R3 ee (q3.keep ee.hid)
end
variable {P : Program} {w : World} {K : PySem.W.Frag} {mg : Str → Option Value} {base : Heap}
def F_ends_k : List PyData → (List PyData → Prop) → Prop := fun ds P => ∃ (d : Deal) (m : Bool × Nat) (e : Nat × Nat), ds = [d.D, mkD m] ∧ d.ends m = some e ∧ P [.int (e.1 : Int), .int (e.2 : Int)]
theorem ca_ends_k {f : Addr} {fd : FuncData} (B : Bi K mg) (Fd : FunD K "_law_ends" "_law_ends" (defArgs s_law_ends) (defBody s_law_ends) (defScope s_law_ends) [] [] f fd) (hm : mg "_law_ends" = some (.ref f)) :
    Ca P w K mg base 1 "_law_ends" (spK K 2 F_ends_k) := by
  refine ca_ofK (k := 0) Fd sc_law_ends rfl hm (fun _ _ _ _ _ _ us hl => match us, hl with | [_, _], _ => rfl) (fun cdv A outer s H E hr =>
  have m := md_calm (cx2 P w K mg base ["_law_deal", "_law_mark_so"] "_law_ends" (defScope s_law_ends) f cdv A outer s H E true []) rfl rfl
  have r : Rm (cx2 P w K mg base ["_law_deal", "_law_mark_so"] "_law_ends" (defScope s_law_ends) f cdv A outer s H E true []) 0 := rm_calm hr
  (dft_slT (de_ix (de_ix (de_var 0) (de_if (dt_cmp (op_eqD r.hu64) good_eq (de_ix (de_var 1) de_int) de_str) de_int de_int)) (de_ix (de_var 1) de_int)) dp_none (dp_some de_int))) ?_
  rintro ds P' - ⟨d, m, e, rfl, he, h⟩
  simp [initD]
  simp [wEq, Deal.D]
  cases hm1 : m.1 with
  | true =>
    refine .inr ⟨rfl, ?_⟩
    simp [Deal.ends, hm1] at he
    obtain ⟨a, b, ⟨c, hh⟩, rfl⟩ := he
    exact ⟨hD (a, b, c), atI_nat (by rw [List.getElem?_map, hh]; rfl), _, rfl, (show HT.sIx 3 0 none = 0 → ¬ HT.sIx 3 3 (some 2) = 3 by decide), h⟩
  | false =>
    refine .inl ⟨rfl, ?_⟩
    simp [Deal.ends, hm1] at he
    obtain ⟨a, b, ⟨c, hh⟩, rfl⟩ := he
    exact ⟨eD (a, b, c), atI_nat (by rw [List.getElem?_map, hh]; rfl), _, rfl, (show HT.sIx 3 0 none = 0 → ¬ HT.sIx 3 3 (some 2) = 3 by decide), h⟩
end Lk

set_option Elab.async false
set_option linter.all false
set_option maxRecDepth 100000
set_option maxHeartbeats 4000000
namespace Lk
open PySem PySem.Spec PyProof.Rows L2 L2H HotX LkHot LkHead
variable {P : Program} {w : World} {K : PySem.W.Frag} {mg : Str → Option Value} {base : Heap}
set_option pp.deepTerms true
set_option pp.maxSteps 50000
/-! ### all rings -/
def lookL (l : List ((Int × Int) × List PyData)) (k : Int × Int) : List PyData := ((l.find? fun q => decide (q.1 = k)).map (·.2)).getD []
theorem getP_dtD (l : List ((Int × Int) × List PyData)) (k : Int × Int) : (getP (dtD l) k).getD (.list []) = .list (lookL l k) := by
  unfold getP dtD lookL
  induction l with
  | nil => rfl
  | cons q l ih =>
    rw [List.map_cons, List.find?_cons, List.find?_cons]
    by_cases e : q.1 = k
    · simp [e]
    · simp only [e, decide_false]
      exact ih
theorem lookL_add (l : List ((Int × Int) × List PyData)) (k k' : Int × Int) (d : PyData) : lookL (addTo l k d) k' = if k' = k then lookL l k' ++ [d] else lookL l k' := by
  have app : ∀ (l m : List ((Int × Int) × List PyData)), k' ∉ l.map (·.1) → lookL (l ++ m) k' = lookL m k' := by
    intro l m
    induction l with
    | nil => intro _; rfl
    | cons q l ih =>
      intro h
      rw [List.map_cons, List.mem_cons, not_or] at h
      rw [← ih h.2]
      unfold lookL
      rw [List.cons_append, List.find?_cons, decide_eq_false (fun z : q.1 = k' => h.1 z.symm)]
  have app2 : ∀ (l m : List ((Int × Int) × List PyData)), k' ∈ l.map (·.1) → lookL (l ++ m) k' = lookL l k' := by
    intro l m
    induction l with
    | nil => intro h; cases h
    | cons q l ih =>
      intro h
      unfold lookL
      rw [List.cons_append, List.find?_cons, List.find?_cons]
      by_cases e : q.1 = k'
      · rw [decide_eq_true e]
      · rw [decide_eq_false e]
        rcases List.mem_cons.mp h with z | z
        · exact absurd z.symm e
        · exact ih z
  have none_ : ∀ (l : List ((Int × Int) × List PyData)), k' ∉ l.map (·.1) → lookL l k' = [] := fun l h => by
    have := app l [] h
    rw [List.append_nil] at this
    exact this
  unfold addTo
  by_cases h : k ∈ l.map (·.1)
  · rw [if_pos h]
    clear app app2 none_
    induction l with
    | nil => cases h
    | cons q l ih =>
      unfold lookL
      rw [List.map_cons, List.find?_cons, List.find?_cons]
      by_cases e : q.1 = k
      · by_cases e' : q.1 = k'
        · have : k' = k := e'.symm.trans e
          simp [e, this]
        · have ne : ¬ k' = k := fun z => e' (e.trans z.symm)
          have ne2 : ¬ k = k' := fun z => ne z.symm
          rw [if_neg ne]
          simp only [e, if_true, ne2, decide_false]
          by_cases hl : k ∈ l.map (·.1)
          · have := ih hl
            rw [if_neg ne] at this
            exact this
          · have em : (l.map fun q => if q.1 = k then (q.1, q.2 ++ [d]) else q) = l := by
              conv => rhs; rw [← List.map_id l]
              refine List.map_congr_left fun r hr => ?_
              rw [if_neg fun z => hl (List.mem_map.mpr ⟨r, hr, z⟩)]; rfl
            rw [em]
      · rw [if_neg e]
        by_cases e' : q.1 = k'
        · have ne : ¬ k' = k := fun z => e (e'.trans z)
          rw [if_neg ne]
          simp [e']
        · simp only [e', decide_false]
          rcases List.mem_cons.mp h with z | z
          · exact absurd z.symm e
          · exact ih z
  · rw [if_neg h]
    by_cases e : k' = k
    · subst e
      rw [if_pos rfl, app l _ h, none_ l h]
      simp [lookL]
    · rw [if_neg e]
      by_cases h' : k' ∈ l.map (·.1)
      · exact app2 l _ h'
      · rw [app l _ h', none_ l h']
        have e2 : ¬ k = k' := fun z => e z.symm
        simp [lookL, e2]
/-- the marks that lead from a to b -/
def Deal.from' (d : Deal) (a b : Nat) : List (Bool × Nat) := d.marks.filter fun m => decide (d.ends m = some (a, b))
def stepW (d : Deal) (a b : Nat) (ws : List (List (Bool × Nat))) : List (List (Bool × Nat)) := ws.flatMap fun w => (d.from' a b).map fun m => w ++ [m]
def waysOf (d : Deal) (r : List Nat) : List (List (Bool × Nat)) := (List.range r.length).foldl (fun ws k => stepW d (r.getD k 0) (r.getD ((k + 1) % r.length) 0) ws) [[]]
def wayD (w : List (Bool × Nat)) : PyData := .tuple (w.map mkD)
def minM : List (Bool × Nat) → PyData
  | [] => .none
  | m :: r => PySem.W.minD (mkD m) (r.map mkD)
def ixMin (w : List (Bool × Nat)) : Nat := (w.map mkD).findIdx fun z => PyData.eqv z (minM w)
def rotM (w : List (Bool × Nat)) : List (Bool × Nat) := w.drop (ixMin w) ++ w.take (ixMin w)
def ringsM (d : Deal) : List (List (Bool × Nat)) := (ordersN d.n).flatMap fun r => (waysOf d r).map rotM
def allRings (d : Deal) : List (List (Bool × Nat)) := (ringsM d).mergeSort (PySem.W.dataLe false wayD)
def F_law_all_rings : DSp := fun ds P => ∃ d : Deal, ds = [d.D] ∧ d.Ok ∧ 2 ≤ d.n ∧ d.n ≤ 5 ∧ d.marks.length ≤ 12 ∧ P (.list ((allRings d).map wayD))
theorem forN_rel {α : Type} {i : Nat} {Gb : DSt} {emb : α → PyData} {P : DEn} (I : List α → Nat → List Sv → Prop)
    (hs : ∀ x xs g δ, I (x :: xs) g δ → (∃ es, emb x = .tuple es) ∧ ∀ k : DEn, k.rt = P.rt → (∀ g δ, I xs g δ → k.nx g δ) → Gb k g (δ.set i (.wy (emb x)))) (he : ∀ g δ, I [] g δ → P.nx g δ) :
    ∀ (xs : List α) (g : Nat) (δ : List Sv), I xs g δ → forN i Gb (xs.map emb) P g δ
  | [], g, δ, h => he g δ h
  | x :: xs, g, δ, h => by
    obtain ⟨h1, h2⟩ := hs x xs g δ h
    exact ⟨h1, h2 _ rfl fun g δ q => forN_rel I hs he xs g δ q⟩
structure AccOk (d : Deal) (done : List (Bool × Nat)) (acc : List ((Int × Int) × List PyData)) : Prop where
  lk : ∀ a b : Nat, lookL acc ((a : Int), (b : Int)) = (done.filter fun m => decide (d.ends m = some (a, b))).map mkD
  len : acc.length ≤ done.length
  lens : ∀ q ∈ acc, q.2.length ≤ done.length
theorem AccOk.add {d : Deal} {done : List (Bool × Nat)} {acc : List ((Int × Int) × List PyData)} (h : AccOk d done acc) {m : Bool × Nat} {e : Nat × Nat} (he : d.ends m = some e) : AccOk d (done ++ [m]) (addTo acc ((e.1 : Int), (e.2 : Int)) (mkD m)) where
  lk := fun a b => by
    rw [lookL_add, List.filter_append, List.map_append, h.lk a b]
    by_cases q : ((a : Int), (b : Int)) = ((e.1 : Int), (e.2 : Int))
    · rw [if_pos q]
      have q' : d.ends m = some (a, b) := by
        rw [he]
        simp at q
        have q1 : a = e.1 := by omega
        have q2 : b = e.2 := by omega
        rw [q1, q2]
      simp [q']
    · rw [if_neg q]
      have q' : ¬ d.ends m = some (a, b) := by
        rw [he]
        intro z
        cases z
        exact q rfl
      simp [q']
  len := by
    have := h.len
    unfold addTo
    split
    · simp; omega
    · simp; omega
  lens := fun q hq => by
    unfold addTo at hq
    split at hq
    · obtain ⟨r, hr, rfl⟩ := List.mem_map.mp hq
      have := h.lens r hr
      split
      · simp; omega
      · simp; omega
    · rcases List.mem_append.mp hq with z | z
      · have := h.lens q z
        simp; omega
      · rw [List.mem_singleton.mp z]
        simp
theorem by_run {d : Deal} {P : DEn} {rest : List Sv} : ∀ (ms done : List (Bool × Nat)) (acc : List ((Int × Int) × List PyData)) (x : Sv) (g : Nat), AccOk d done acc → (∀ m ∈ ms, ∃ e, d.ends m = some e) → done.length + ms.length ≤ 1000 →
    (∀ acc' x' g', AccOk d (done ++ ms) acc' → P.nx g' ((.dat d.D :: x' :: rest).set 4 (.dtp (dtD acc')))) →
    byD (fun g δ P => ∃ d, δ[0]? = some (Sv.dat d) ∧ ∃ d_2, δ[1]? = some (Sv.dat d_2) ∧ F_ends_k [d, d_2] (P g)) (fun g δ P => ∃ d, δ[1]? = some (Sv.dat d) ∧ P g d) 4 1 (ms.map mkD) acc P g (.dat d.D :: x :: rest)
  | [], done, acc, x, g, h, _, _, k => by
    rw [List.append_nil] at k
    exact k acc x g h
  | m :: ms, done, acc, x, g, h, hm, hl, k => by
    obtain ⟨e, he⟩ := hm m List.mem_cons_self
    have hsz : sizeLine = 16777216 := sizeLine_eq
    rw [List.length_cons] at hl
    refine ⟨by have := h.len; omega, fun q hq => by have := h.lens q hq; omega, _, rfl, _, rfl, d, m, e, rfl, he, _, _, rfl, _, rfl, ?_⟩
    refine by_run ms (done ++ [m]) _ _ g (h.add he) (fun m' h' => hm m' (List.mem_cons_of_mem _ h')) (by rw [List.length_append]; simp; omega) fun acc' x' g' q => ?_
    rw [List.append_assoc] at q
    exact k acc' x' g' q
theorem ends_some {d : Deal} (h : d.Ok) : ∀ m ∈ d.marks, ∃ e, d.ends m = some e := fun m hm => by
  unfold Deal.marks at hm
  rcases List.mem_append.mp hm with z | z
  · obtain ⟨k, hk, rfl⟩ := List.mem_map.mp z
    have hk := List.mem_range.mp hk
    exact ⟨_, by unfold Deal.ends; rw [if_pos rfl, List.getElem?_eq_getElem hk]; rfl⟩
  · obtain ⟨k, hk, rfl⟩ := List.mem_map.mp z
    have hk := List.mem_range.mp hk
    exact ⟨_, by unfold Deal.ends; rw [if_neg (show ¬ false = true by decide), List.getElem?_eq_getElem hk]; rfl⟩
def waysTo (d : Deal) (r : List Nat) (j : Nat) : List (List (Bool × Nat)) := (List.range j).foldl (fun ws k => stepW d (r.getD k 0) (r.getD ((k + 1) % r.length) 0) ws) [[]]
theorem waysTo_succ (d : Deal) (r : List Nat) (j : Nat) : waysTo d r (j + 1) = stepW d (r.getD j 0) (r.getD ((j + 1) % r.length) 0) (waysTo d r j) := by
  unfold waysTo
  rw [List.range_succ, List.foldl_append]
  rfl
theorem stepW_len {d : Deal} {a b n : Nat} {ws : List (List (Bool × Nat))} (h : d.marks.length ≤ 12) (hw : ws.length ≤ n) : (stepW d a b ws).length ≤ n * 12 := by
  unfold stepW
  have hf : (d.from' a b).length ≤ 12 := Nat.le_trans (List.length_filter_le _ _) h
  induction ws generalizing n with
  | nil => simp
  | cons w ws ih =>
    rw [List.flatMap_cons, List.length_append, List.length_map]
    cases n with
    | zero => simp at hw
    | succ n =>
      have := ih (n := n) (by simpa using hw)
      rw [Nat.succ_mul]
      omega
theorem waysTo_len {d : Deal} (h : d.marks.length ≤ 12) (r : List Nat) : ∀ j, (waysTo d r j).length ≤ 12 ^ j
  | 0 => by simp [waysTo]
  | j + 1 => by rw [waysTo_succ, Nat.pow_succ]; exact stepW_len h (waysTo_len h r j)
theorem waysTo_each (d : Deal) (r : List Nat) : ∀ j, ∀ w ∈ waysTo d r j, w.length = j
  | 0, w, h => by simp [waysTo] at h; subst h; rfl
  | j + 1, w, h => by
    rw [waysTo_succ] at h
    unfold stepW at h
    obtain ⟨v, hv, hw⟩ := List.mem_flatMap.mp h
    obtain ⟨m, _, rfl⟩ := List.mem_map.mp hw
    rw [List.length_append, waysTo_each d r j v hv]
    rfl
theorem mk_alike (a b : Bool × Nat) : PySem.W.alike (mkD a) (mkD b) = true := by simp [mkD, PySem.W.alike, PySem.W.alikeAll]
theorem mk_eqv (a : Bool × Nat) : PyData.eqv (mkD a) (mkD a) = true := by
  unfold mkD
  cases a.1 <;> simp [PyData.eqv, PyData.eqvAll]
theorem ix_ok {w : List (Bool × Nat)} (h : w ≠ []) : ixMin w < w.length ∧ ∃ z, (w.map mkD)[ixMin w]? = some z ∧ PyData.eqv z (minM w) = true ∧ ∀ (m : Nat) (z' : PyData), m < ixMin w → (w.map mkD)[m]? = some z' → PyData.eqv z' (minM w) = false := by
  have hmem : minM w ∈ w.map mkD := by
    cases w with
    | nil => exact absurd rfl h
    | cons m r => exact minD_mem _ _
  have hlt : (w.map mkD).findIdx (fun z => PyData.eqv z (minM w)) < (w.map mkD).length := List.findIdx_lt_length_of_exists ⟨minM w, hmem, by
    obtain ⟨m, _, e⟩ := List.mem_map.mp hmem
    rw [← e]; exact mk_eqv m⟩
  refine ⟨by simpa [ixMin] using hlt, (w.map mkD)[ixMin w]'hlt, List.getElem?_eq_getElem hlt, List.findIdx_getElem (w := hlt), fun m z' hm hz => ?_⟩
  obtain ⟨hml, hz⟩ := List.getElem?_eq_some_iff.mp hz
  have := List.not_of_lt_findIdx (p := fun z => PyData.eqv z (minM w)) (xs := w.map mkD) hm
  rw [← hz]
  simpa using this
theorem way_alike (w w' : List (Bool × Nat)) : PySem.W.alike (wayD w) (wayD w') = true := by
  have : ∀ w w' : List (Bool × Nat), PySem.W.alikeAll (w.map mkD) (w'.map mkD) = true := by
    intro w
    induction w with
    | nil => intro w'; simp [PySem.W.alikeAll]
    | cons m r ih =>
      intro w'
      cases w' with
      | nil => simp [PySem.W.alikeAll]
      | cons m' r' => simp only [List.map_cons, PySem.W.alikeAll, mk_alike, ih, Bool.and_self]
  unfold wayD
  simp only [PySem.W.alike]
  exact this w w'
theorem rot_len (w : List (Bool × Nat)) : (rotM w).length = w.length := by
  unfold rotM
  simp
  omega
theorem orders_ok : ∀ n, n ≤ 5 → 2 ≤ n → (∀ r ∈ ordersN n, 2 ≤ r.length ∧ r.length ≤ 5) ∧ ((ordersN n).map fun r => 12 ^ r.length).sum ≤ 10000000 := by decide +kernel
theorem sc_law_all_rings : FnScope ["_law_deal", "_law_mark_so", "_law_row", "_law_found", "_law_by", "_law_ways", "_law_k", "_law_way", "_law_longer", "_law_own"] ["_law_deal"] (defScope s_law_all_rings) := ⟨rfl, rfl, rfl, by decide +kernel, rfl, by decide +kernel, by decide +kernel⟩
theorem ca_law_all_rings {f : Addr} {fd : FuncData} (B : Bi K mg) (Fd : FunD K "_law_all_rings" "_law_all_rings" (defArgs s_law_all_rings) (defBody s_law_all_rings) (defScope s_law_all_rings) [] [] f fd) (hm : mg "_law_all_rings" = some (.ref f))
    (c_law_marks : Ca P w K mg base 1 "_law_marks" (spD K 1 F_law_marks)) (c_ends_k : Ca P w K mg base 1 "_law_ends" (spK K 2 F_ends_k)) (c_law_orders : Ca P w K mg base 1 "_law_orders" (spD K 1 F_law_orders)) :
    Ca P w K mg base 2 "_law_all_rings" (spD K 1 F_law_all_rings) := by
  refine ca_of (k := 1) Fd sc_law_all_rings rfl hm (fun _ _ _ _ _ _ us hl => match us, hl with | [_], _ => rfl) (fun cdv A outer s H E hr =>
  have m := md_calm (cx2 P w K mg base ["_law_deal", "_law_mark_so", "_law_row", "_law_found", "_law_by", "_law_ways", "_law_k", "_law_way", "_law_longer", "_law_own"] "_law_all_rings" (defScope s_law_all_rings) f cdv A outer s H E true []) rfl rfl
  have r : Rm (cx2 P w K mg base ["_law_deal", "_law_mark_so", "_law_row", "_law_found", "_law_by", "_law_ways", "_law_k", "_law_way", "_law_longer", "_law_own"] "_law_all_rings" (defScope s_law_all_rings) f cdv A outer s H E true []) 1 := rm_calm hr
  (ds_cons (ds_par 3 4 rfl sc_law_all_rings.nd (dx_consF (df_lst da_nil) (dx_consT dx_nil)))
  (ds_cons (ds_byFor 4 1 (by decide) rfl PassesOwn.leaving sc_law_all_rings.nd (di_list (de_call (n := 1) c_law_marks hr (by decide) (da_cons (de_var 0) da_nil))) (ps_by 4 (by have := r.hu64; omega) (dft_call (n := 2) c_ends_k hr (by decide) (da_cons (de_var 0) (da_cons (de_var 1) da_nil))) (de_var 1)))
  (ds_cons (ds_for m PassesOwn.leaving (di_list (de_call (n := 1) c_law_orders hr (by decide) (da_cons (de_of (df_listRg1 rfl B.n_list B.n_range (de_ix (de_var 0) de_int))) da_nil))) (dg_name 2 sc_law_all_rings.nd) (ds_cons (ds_setN 5 sc_law_all_rings.nd (dn_lst1 (dn_tup da_nil))) (ds_cons (ds_for m PassesOwn.leaving (di_range1 B.n_range (de_callB call_len good_len B.n_len (da_cons (de_var 2) da_nil))) (dg_name 6 sc_law_all_rings.nd) (ds_cons (ds_setN 8 sc_law_all_rings.nd dn_lst0) (ds_cons (ds_forN 7 5 rfl PassesOwn.leaving sc_law_all_rings.nd (ds_one (ds_setN 8 sc_law_all_rings.nd (dn_catL (dn_var 8) (dfn_lc (own := [("_law_own", 9)]) rfl rfl sc_law_all_rings.nd (di_list (de_dgetT 4 r.hu1 (da_cons (de_ix (de_var 2) (de_var 6)) (da_cons (de_ix (de_var 2) (de_op op_mod good_mod (de_op op_add good_add (de_var 6) de_int) (de_callB call_len good_len B.n_len (da_cons (de_var 2) da_nil)))) da_nil)))) (blkOk_by (N := ["_law_deal", "_law_mark_so", "_law_row", "_law_found", "_law_by", "_law_ways", "_law_k", "_law_way", "_law_longer", "_law_own"]) (sc := (defScope s_law_all_rings)) (by decide +kernel)) (fun _ _ _ _ _ => (dg_name 9 sc_law_all_rings.nd)) (fun _ _ _ _ _ => dtt_nil) (fun _ _ _ _ _ => (dn_cat (dn_var 7) (dn_tup (da_cons (de_var 9) da_nil))))))))) (ds_one (ds_setN 5 sc_law_all_rings.nd (dn_var 8)))))) (ds_one (ds_forN 7 5 rfl PassesOwn.leaving sc_law_all_rings.nd (ds_cons (ds_set 6 sc_law_all_rings.nd (de_tix r.hu65 (dn_var 7) (de_minD rfl r.hu64 B.n_min (de_ofN (dn_var 7))))) (ds_one (ds_append 3 (de_op op_catA good_catT (de_slT (de_ofN (dn_var 7)) (dp_some (de_var 6)) dp_none) (de_slT (de_ofN (dn_var 7)) dp_none (dp_some (de_var 6))))))))))))
  (ds_one (ds_ret (de_of (df_sortDO 3 r.hu64 B.n_sorted)))))))) ?_
  rintro ds P' - ⟨d, rfl, hok, h2, h5, hM, h⟩
  simp [initD]
  have hsz : sizeLine = 16777216 := sizeLine_eq
  refine ⟨_, _, ⟨rfl, rfl⟩, rfl, d, rfl, hok, _, rfl, ?_⟩
  refine by_run d.marks [] [] _ 0 ⟨fun a b => rfl, Nat.le_refl _, fun q hq => nomatch hq⟩ (ends_some hok) (by simp; omega) fun acc x1 g1 hacc => ?_
  rw [List.nil_append] at hacc
  refine ⟨_, rfl, ?_⟩
  show wIx (.tuple [.int (d.n : Int), _, _]) _ _
  rw [wIx_t]
  refine ⟨.int (d.n : Int), at0 _ _, _, rfl, by omega, by omega, d.n, ?_, h2, h5, _, rfl, ?_⟩
  · unfold rgI natD
    rw [List.map_map]
    simp [Function.comp_def]
  obtain ⟨ro1, ro2⟩ := orders_ok d.n h5 h2
  refine forD_rel (emb := lotD) (fun rows g δ => ∃ (done : List (List Nat)) (a b c e x y : Sv), δ = [.dat d.D, a, b, .own ((done.flatMap fun r => (waysOf d r).map rotM).map wayD), .dtp (dtD acc), c, e, x, y, .emp] ∧ done ++ rows = ordersN d.n)
    (fun r rows g δ hI => ?_) (fun g δ hI => ?_) (ordersN d.n) _ _ ⟨[], _, _, _, _, _, _, rfl, rfl⟩
  · obtain ⟨done, a, b, c, e, x, y, rfl, hdn⟩ := hI
    refine ⟨_, rfl, fun k hkr hk => ?_⟩
    have hr := ro1 r (by rw [← hdn]; simp)
    simp [putD]
    refine ⟨⟨_, rfl⟩, ?_⟩
    show wLen [.tuple (natD r)] _
    rw [wLen_t]
    have ln : (natD r).length = r.length := by simp [natD]
    rw [ln]
    refine ⟨_, rfl, by omega, by omega, ?_⟩
    rw [rgD_map]
    refine forD_rel (emb := fun (i : Nat) => PyData.int (i : Int)) (fun ks g δ => ∃ (j : Nat) (e x y : Sv), δ = [.dat d.D, a, .dat (lotD r), .own ((done.flatMap fun r => (waysOf d r).map rotM).map wayD), .dtp (dtD acc), .wy (.list ((waysTo d r j).map wayD)), e, x, y, .emp] ∧ j + ks.length = r.length ∧ ks = List.range' j ks.length)
      (fun j ks g δ hI => ?_) (fun g δ hI => ?_) (List.range r.length) _ _ ⟨0, _, _, _, rfl, by simp, by simp [List.range_eq_range']⟩
    · obtain ⟨j', e', x', y', rfl, hj, hks⟩ := hI
      refine ⟨_, rfl, fun k2 hk2r hk2 => ?_⟩
      simp [List.range'_succ] at hks hj
      obtain ⟨hjj, hks⟩ := hks
      subst hjj
      simp [putD]
      refine forN_rel (emb := wayD) (fun ws g δ => ∃ (dn : List (List (Bool × Nat))) (x : Sv), δ = [.dat d.D, a, .dat (lotD r), .own ((done.flatMap fun r => (waysOf d r).map rotM).map wayD), .dtp (dtD acc), .wy (.list ((waysTo d r j).map wayD)), .dat (.int (j : Int)), x, .wy (.list ((stepW d (r.getD j 0) (r.getD ((j + 1) % r.length) 0) dn).map wayD)), .emp] ∧ dn ++ ws = waysTo d r j)
        (fun w ws g δ hI => ?_) (fun g δ hI => ?_) (waysTo d r j) _ _ ⟨[], _, rfl, rfl⟩
      · obtain ⟨dn, x2, rfl, hdw⟩ := hI
        refine ⟨⟨_, rfl⟩, fun k3 hk3r hk3 => ?_⟩
        simp
        have hjl : j < r.length := by omega
        have hm : (j + 1) % r.length < r.length := Nat.mod_lt _ (by omega)
        show wIx (.tuple (natD r)) _ _
        rw [wIx_t]
        have e1 : (natD r)[j]? = some (.int ((r.getD j 0 : Nat) : Int)) := by simp [natD, List.getElem?_eq_getElem hjl]
        have e2 : (natD r)[(j + 1) % r.length]? = some (.int ((r.getD ((j + 1) % r.length) 0 : Nat) : Int)) := by simp [natD, List.getElem?_eq_getElem hm]
        refine ⟨_, atI_nat e1, _, _, rfl, rfl, ?_⟩
        show wLen [.tuple (natD r)] _
        rw [wLen_t, ln]
        refine ⟨_, _, rfl, rfl, by omega, ?_⟩
        have e3 : ((j : Int) + 1) % (r.length : Int) = (((j + 1) % r.length : Nat) : Int) := by simp
        dsimp only
        rw [e3]
        show wIx (.tuple (natD r)) _ _
        rw [wIx_t]
        refine ⟨_, atI_nat e2, _, _, ⟨rfl, rfl⟩, _, by rw [getP_dtD, hacc.lk], ?_⟩
        refine compD_all (emb := mkD) (f := fun m => wayD (w ++ [m])) (d.from' (r.getD j 0) (r.getD ((j + 1) % r.length) 0)) (fun m hm2 => ⟨_, rfl, by simp, fun kk g q => ?_⟩) ?_
        · refine ⟨_, rfl, _, rfl, by omega, ?_⟩
          show wCatT (.tuple (w.map mkD)) _ _
          rw [wCatT_t]
          have wl := waysTo_each d r j w (by rw [← hdw]; simp)
          refine ⟨by simp; omega, ⟨_, rfl⟩, ?_⟩
          have e4 : PyData.tuple (w.map mkD ++ [mkD m]) = wayD (w ++ [m]) := by simp [wayD]
          rw [e4]; exact q
        · have hst : stepW d (r.getD j 0) (r.getD ((j + 1) % r.length) 0) (dn ++ [w]) = stepW d (r.getD j 0) (r.getD ((j + 1) % r.length) 0) dn ++ (d.from' (r.getD j 0) (r.getD ((j + 1) % r.length) 0)).map fun m => w ++ [m] := by
            unfold stepW
            rw [List.flatMap_append]
            simp
          have hb : (stepW d (r.getD j 0) (r.getD ((j + 1) % r.length) 0) (dn ++ [w])).length ≤ 12 ^ 4 * 12 := by
            refine stepW_len hM ?_
            have := waysTo_len hM r j
            have h4 : 12 ^ j ≤ 12 ^ 4 := Nat.pow_le_pow_right (by decide) (by omega)
            rw [← hdw] at this
            simp at this ⊢
            omega
          rw [hst] at hb
          refine ⟨by simp at hb ⊢; omega, ?_⟩
          refine hk3 _ _ ⟨dn ++ [w], .wy (wayD w), ?_, by rw [← hdw]; simp⟩
          rw [hst]
          simp [Function.comp_def]
      · obtain ⟨dn, x2, rfl, hdw⟩ := hI
        rw [List.append_nil] at hdw
        subst hdw
        refine ⟨_, rfl, hk2 _ _ ⟨j + 1, .dat (.int (j : Int)), x2, .wy (.list ((stepW d (r.getD j 0) (r.getD ((j + 1) % r.length) 0) (waysTo d r j)).map wayD)), ?_, by omega, hks⟩⟩
        rw [waysTo_succ]
        rfl
    · obtain ⟨j, e', x', y', rfl, hj, hks⟩ := hI
      simp at hj
      subst hj
      refine ⟨_, rfl, ?_⟩
      refine forN_rel (emb := wayD) (fun ws g δ => ∃ (dn : List (List (Bool × Nat))) (e x y : Sv), δ = [.dat d.D, a, .dat (lotD r), .own (((done.flatMap fun r => (waysOf d r).map rotM) ++ dn.map rotM).map wayD), .dtp (dtD acc), .wy (.list ((waysTo d r r.length).map wayD)), e, x, y, .emp] ∧ dn ++ ws = waysOf d r)
        (fun w ws g δ hI => ?_) (fun g δ hI => ?_) (waysOf d r) _ _ ⟨[], e', x', y', by simp, rfl⟩
      · obtain ⟨dn, e2, x2, y2, rfl, hdw⟩ := hI
        refine ⟨⟨_, rfl⟩, fun k3 hk3r hk3 => ?_⟩
        have wl := waysTo_each d r r.length w (by show w ∈ waysOf d r; rw [← hdw]; simp)
        simp
        have hne : w ≠ [] := by
          rintro rfl
          simp at wl
          omega
        obtain ⟨hix, z, hz, hze, hzn⟩ := ix_ok hne
        have sw : Sh 2 (wayD w) := sh_t fun x hx => by
          obtain ⟨m, _, rfl⟩ := List.mem_map.mp hx
          exact sh_mk m
        have hbd : ((done.map fun a => (waysOf d a).length).sum + dn.length) < sizeLine := by
          have h1 : ∀ l : List (List Nat), (l.map fun a => (waysOf d a).length).sum ≤ (l.map fun a => 12 ^ a.length).sum := by
            intro l
            induction l with
            | nil => simp
            | cons a l ih =>
              have := waysTo_len hM a a.length
              have e : waysOf d a = waysTo d a a.length := rfl
              simp only [List.map_cons, List.sum_cons]
              rw [e]
              omega
          have h3 := waysTo_len hM r r.length
          have h4 : dn.length ≤ (waysTo d r r.length).length := by
            have : waysOf d r = waysTo d r r.length := rfl
            rw [← this, ← hdw]; simp
          have h5' := ro2
          rw [← hdn] at h5'
          simp only [List.map_append, List.map_cons, List.sum_append, List.sum_cons] at h5'
          have := h1 done
          omega
        cases w with
        | nil => exact absurd rfl hne
        | cons m0 mr =>
          have hlen : ((m0 :: mr).map mkD).length = (m0 :: mr).length := List.length_map _
          refine ⟨⟨_, rfl⟩, mkD m0, mr.map mkD, rfl, ⟨fun x hx y hy => ?_, fun x hx => ?_⟩, ?_, ?_, _, rfl, sw.sh, ?_, ixMin (m0 :: mr), z, hz, hze, hzn, _, rfl, _, rfl, ?_, hbd, ?_⟩
          · obtain ⟨p, _, rfl⟩ := List.mem_map.mp (show x ∈ (m0 :: mr).map mkD from hx)
            obtain ⟨q, _, rfl⟩ := List.mem_map.mp (show y ∈ (m0 :: mr).map mkD from hy)
            exact mk_alike p q
          · obtain ⟨p, _, rfl⟩ := List.mem_map.mp (show x ∈ (m0 :: mr).map mkD from hx)
            exact fun z => nomatch z
          · exact dep_all (xs := (m0 :: mr).map mkD) fun x hx => by
              obtain ⟨p, _, rfl⟩ := List.mem_map.mp hx
              exact Nat.le_trans (sh_mk (n := 0) p).2 (by decide)
          · exact can_all (xs := (m0 :: mr).map mkD) fun x hx => by
              obtain ⟨p, _, rfl⟩ := List.mem_map.mp hx
              exact (sh_mk (n := 0) p).1
          · have := minD_mem (mkD m0) (mr.map mkD)
            obtain ⟨p, _, e⟩ := List.mem_map.mp (show PySem.W.minD (mkD m0) (mr.map mkD) ∈ (m0 :: mr).map mkD from this)
            rw [← e]
            exact (sh_mk (n := 0) p).sh
          · unfold cutD
            simp
            simp at wl
            omega
          · have c1 : cutD ((m0 :: mr).map mkD) (some (ixMin (m0 :: mr) : Int)) none = ((m0 :: mr).drop (ixMin (m0 :: mr))).map mkD := by
              unfold cutD
              rw [HT.sIx_nat, HT.sIx_none, hlen, Nat.min_eq_left (Nat.le_of_lt hix), ← List.map_drop, List.take_of_length_le (by simp)]
            have c2 : cutD ((m0 :: mr).map mkD) none (some (ixMin (m0 :: mr) : Int)) = ((m0 :: mr).take (ixMin (m0 :: mr))).map mkD := by
              unfold cutD
              rw [HT.sIx_nat, HT.sIx_none, hlen, Nat.min_eq_left (Nat.le_of_lt hix), List.drop_zero, Nat.sub_zero, ← List.map_take]
            rw [c1, c2]
            refine hk3 _ _ ⟨dn ++ [m0 :: mr], .dat (.int (ixMin (m0 :: mr) : Int)), .wy (wayD (m0 :: mr)), y2, ?_, by rw [← hdw]; simp⟩
            simp [rotM, wayD]
      · obtain ⟨dn, e2, x2, y2, rfl, hdw⟩ := hI
        rw [List.append_nil] at hdw
        subst hdw
        exact hk _ _ ⟨done ++ [r], a, .dat (lotD r), .wy (.list ((waysTo d r r.length).map wayD)), e2, x2, y2, by simp, by rw [← hdn]; simp⟩
  · obtain ⟨done, a, b, c, e, x, y, rfl, hdn⟩ := hI
    rw [List.append_nil] at hdn
    subst hdn
    refine ⟨_, rfl, fun x hx y hy => ?_, .inl fun x hx => ?_, fun x hx => ?_, ?_⟩
    · obtain ⟨u, _, rfl⟩ := List.mem_map.mp hx
      obtain ⟨v, _, rfl⟩ := List.mem_map.mp hy
      exact way_alike u v
    · obtain ⟨u, hu, rfl⟩ := List.mem_map.mp hx
      obtain ⟨r, hr, hu⟩ := List.mem_flatMap.mp hu
      obtain ⟨v, hv, rfl⟩ := List.mem_map.mp hu
      have h1 := waysTo_each d r r.length v hv
      have h2 := rot_len v
      have h3 := (ro1 r hr).1
      cases e : rotM v with
      | nil => rw [e] at h2; simp at h2; omega
      | cons m0 mr => exact ⟨mkD m0, mr.map mkD, rfl⟩
    · obtain ⟨u, _, rfl⟩ := List.mem_map.mp hx
      refine Nat.le_trans (sh_t (n := 1) (xs := u.map mkD) fun x hx => ?_).2 (by decide)
      obtain ⟨m, _, rfl⟩ := List.mem_map.mp hx
      exact sh_mk m
    · rw [sort_map]; exact h
end Lk

set_option Elab.async false
set_option linter.all false
set_option maxRecDepth 100000
set_option maxHeartbeats 4000000
namespace Lk
open PySem PySem.Spec
def hardRing (w : List (Bool × Nat)) : Bool := w.all fun m => m.1
theorem hard_app (w : List (Bool × Nat)) (m : Bool × Nat) : hardRing (w ++ [m]) = (hardRing w && m.1) := by simp [hardRing]
theorem hard_rot (w : List (Bool × Nat)) : hardRing (rotM w) = hardRing w := by
  unfold rotM hardRing
  rw [List.all_append, Bool.and_comm, ← List.all_append, List.take_append_drop]
theorem from_hard (d : Deal) (a b : Nat) : ((d.from' a b).filter fun m => m.1).length ≤ d.hard.length := by
  unfold Deal.from'
  rw [List.filter_filter]
  have : (d.marks.filter fun m => m.1).length = d.hard.length := by
    unfold Deal.marks
    rw [List.filter_append, List.length_append, List.filter_eq_self.mpr (by simp), List.filter_eq_nil_iff.mpr (by simp)]
    simp
  rw [← this]
  have e : (d.marks.filter fun m => m.1 && decide (d.ends m = some (a, b))) = (d.marks.filter fun m => m.1).filter fun m => decide (d.ends m = some (a, b)) := by
    rw [List.filter_filter]
    congr 1
    funext m
    exact Bool.and_comm _ _
  rw [e]
  exact List.length_filter_le _ _
theorem step_hard (d : Deal) (a b : Nat) (h : Nat) : ∀ ws : List (List (Bool × Nat)), ((stepW d a b ws).filter hardRing).length ≤ (ws.filter hardRing).length * d.hard.length
  | [] => by simp [stepW]
  | w :: ws => by
    have ih := step_hard d a b h ws
    unfold stepW at ih ⊢
    rw [List.flatMap_cons, List.filter_append, List.length_append, List.filter_map, List.length_map]
    have e : ((d.from' a b).filter (hardRing ∘ fun m => w ++ [m])).length ≤ if hardRing w = true then d.hard.length else 0 := by
      by_cases q : hardRing w = true
      · rw [if_pos q]
        have : (hardRing ∘ fun m => w ++ [m]) = fun m : Bool × Nat => m.1 := by funext m; simp [hard_app, q]
        rw [this]; exact from_hard d a b
      · rw [if_neg q]
        have : (hardRing ∘ fun m => w ++ [m]) = fun m : Bool × Nat => false := by funext m; simp [hard_app, q]
        rw [this]; simp
    rw [List.filter_cons]
    by_cases q : hardRing w = true
    · rw [if_pos q] at e ⊢
      rw [List.length_cons, Nat.succ_mul]
      omega
    · rw [if_neg q] at e ⊢
      omega
theorem ways_hard (d : Deal) (r : List Nat) : ∀ j, ((waysTo d r j).filter hardRing).length ≤ d.hard.length ^ j
  | 0 => Nat.le_trans (List.length_filter_le _ _) (by simp [waysTo])
  | j + 1 => by
    rw [waysTo_succ, Nat.pow_succ]
    exact Nat.le_trans (step_hard d _ _ 0 _) (Nat.mul_le_mul_right _ (ways_hard d r j))
theorem orders_hard : ∀ n, n ≤ 5 → ((ordersN n).map fun r => 6 ^ r.length).sum ≤ 300000 := by decide +kernel
theorem rings_hard {d : Deal} (hn : d.n ≤ 5) (hh : d.hard.length ≤ 6) : ((allRings d).filter hardRing).length ≤ 300000 := by
  have p : ((allRings d).filter hardRing).length = ((ringsM d).filter hardRing).length := ((List.mergeSort_perm _ _).filter _).length_eq
  rw [p]
  refine Nat.le_trans ?_ (orders_hard d.n hn)
  unfold ringsM
  induction ordersN d.n with
  | nil => simp
  | cons r rs ih =>
    rw [List.flatMap_cons, List.filter_append, List.length_append, List.map_cons, List.sum_cons, List.filter_map, List.length_map]
    have e : hardRing ∘ rotM = hardRing := by funext w; exact hard_rot w
    rw [e]
    have h1 := ways_hard d r r.length
    have h2 : d.hard.length ^ r.length ≤ 6 ^ r.length := Nat.pow_le_pow_left hh _
    have h3 : waysOf d r = waysTo d r r.length := rfl
    rw [h3]
    omega
end Lk
namespace Lk
theorem ways_marks (d : Deal) (r : List Nat) : ∀ j, ∀ w ∈ waysTo d r j, ∀ m ∈ w, m ∈ d.marks
  | 0, w, h, m, hm => by simp [waysTo] at h; subst h; cases hm
  | j + 1, w, h, m, hm => by
    rw [waysTo_succ] at h
    unfold stepW at h
    obtain ⟨v, hv, hw⟩ := List.mem_flatMap.mp h
    obtain ⟨m', hm', rfl⟩ := List.mem_map.mp hw
    rcases List.mem_append.mp hm with z | z
    · exact ways_marks d r j v hv m z
    · rw [List.mem_singleton.mp z]
      exact (List.mem_filter.mp hm').1
theorem rot_mem (w : List (Bool × Nat)) (m : Bool × Nat) : m ∈ rotM w ↔ m ∈ w := by
  unfold rotM
  rw [List.mem_append, or_comm, ← List.mem_append, List.take_append_drop]
theorem rings_mem (d : Deal) (w : List (Bool × Nat)) : w ∈ allRings d ↔ ∃ r ∈ ordersN d.n, ∃ v ∈ waysOf d r, w = rotM v := by
  unfold allRings
  rw [List.mem_mergeSort]
  unfold ringsM
  rw [List.mem_flatMap]
  constructor
  · rintro ⟨r, hr, h⟩
    obtain ⟨v, hv, e⟩ := List.mem_map.mp h
    exact ⟨r, hr, v, hv, e.symm⟩
  · rintro ⟨r, hr, v, hv, e⟩
    exact ⟨r, hr, List.mem_map.mpr ⟨v, hv, e.symm⟩⟩
theorem rings_marks {d : Deal} {w : List (Bool × Nat)} (h : w ∈ allRings d) : ∀ m ∈ w, m ∈ d.marks := fun m hm => by
  obtain ⟨r, _, v, hv, rfl⟩ := (rings_mem d w).mp h
  exact ways_marks d r r.length v hv m ((rot_mem v m).mp hm)
end Lk

set_option Elab.async false
set_option linter.all false
set_option maxRecDepth 100000
set_option maxHeartbeats 4000000
namespace Lk
open PySem PySem.Spec PyProof.Rows L2 L2H HotX LkHot LkHead
variable {P : Program} {w : World} {K : PySem.W.Frag} {mg : Str → Option Value} {base : Heap}
/-! ### lone lots -/
def Deal.pairOf (d : Deal) (m : Bool × Nat) : Nat × Nat := (d.ends m).getD (0, 0)
def loneTies (d : Deal) : List (Nat × Nat) := (d.ease.map fun h => (h.1, h.2.1)) ++ ((allRings d).filter fun w => hardRing w && decide ((w.map d.gap).sum = 0)).flatMap fun w => w.map d.pairOf
def F_law_lone_lots : DSp := fun ds P => ∃ d : Deal, ds = [d.D] ∧ d.Ok ∧ 2 ≤ d.n ∧ d.n ≤ 5 ∧ d.marks.length ≤ 12 ∧ d.hard.length ≤ 6 ∧ P (hungD (Nm.namesOf d.n (loneTies d)))
theorem rings_five {d : Deal} (h2 : 2 ≤ d.n) (h5 : d.n ≤ 5) {w : List (Bool × Nat)} (h : w ∈ allRings d) : w.length ≤ 5 := by
  obtain ⟨r, hr, v, hv, rfl⟩ := (rings_mem d w).mp h
  have h1 := waysTo_each d r r.length v hv
  have h2' := rot_len v
  have h3 := ((orders_ok d.n h5 h2).1 r hr).2
  omega
theorem sum_five : ∀ (l : List (List (Bool × Nat))), (∀ w ∈ l, w.length ≤ 5) → (l.map fun a => a.length).sum ≤ 5 * l.length
  | [], _ => by simp
  | w :: l, h => by
    have h1 := sum_five l fun x hx => h x (List.mem_cons_of_mem _ hx)
    have h2 := h w List.mem_cons_self
    simp only [List.map_cons, List.sum_cons, List.length_cons]
    omega
theorem Deal.ends_lt {d : Deal} (hok : d.Ok) {m : Bool × Nat} {e : Nat × Nat} (h : d.ends m = some e) : e.1 < d.n ∧ e.2 < d.n := by
  unfold Deal.ends at h
  split at h
  · obtain ⟨q, hq, rfl⟩ := Option.map_eq_some_iff.mp h
    exact hok.hard q (List.mem_of_getElem? hq)
  · obtain ⟨q, hq, rfl⟩ := Option.map_eq_some_iff.mp h
    exact hok.ease q (List.mem_of_getElem? hq)
theorem lone_lt {d : Deal} (hok : d.Ok) : ∀ p ∈ loneTies d, p.1 < d.n ∧ p.2 < d.n := fun p hp => by
  rcases List.mem_append.mp hp with q | q
  · obtain ⟨e, he, rfl⟩ := List.mem_map.mp q
    exact hok.ease e he
  · obtain ⟨w, hw, q⟩ := List.mem_flatMap.mp q
    obtain ⟨m, hm, rfl⟩ := List.mem_map.mp q
    obtain ⟨e, he⟩ := ends_some hok m (rings_marks (List.mem_filter.mp hw).1 m hm)
    unfold Deal.pairOf
    rw [he]
    exact Deal.ends_lt hok he
theorem sc_law_lone_lots : FnScope ["_law_deal", "_law_names", "_law_ties", "_law_ring_so", "_law_i", "_law_j", "_law_own", "_law_low", "_law_high", "_law_name", "_law_k"] ["_law_deal"] (defScope s_law_lone_lots) := ⟨rfl, rfl, rfl, by decide +kernel, rfl, by decide +kernel, by decide +kernel⟩
theorem ca_law_lone_lots {f : Addr} {fd : FuncData} (B : Bi K mg) (Fd : FunD K "_law_lone_lots" "_law_lone_lots" (defArgs s_law_lone_lots) (defBody s_law_lone_lots) (defScope s_law_lone_lots) [] [] f fd) (hm : mg "_law_lone_lots" = some (.ref f)) (c_law_ends : Ca P w K mg base 1 "_law_ends" (spD K 2 F_law_ends)) (c_law_all_rings : Ca P w K mg base 2 "_law_all_rings" (spD K 1 F_law_all_rings)) (c_law_far : Ca P w K mg base 4 "_law_far" (spD K 2 F_law_far)) (c_law_is_hard : Ca P w K mg base 1 "_law_is_hard" (spD K 1 F_law_is_hard)) :
    Ca P w K mg base 5 "_law_lone_lots" (spD K 1 F_law_lone_lots) := by
  refine ca_of (k := 4) Fd sc_law_lone_lots rfl hm (fun _ _ _ _ _ _ us hl => match us, hl with | [_], _ => rfl) (fun cdv A outer s H E hr =>
  have m := md_calm (cx2 P w K mg base ["_law_deal", "_law_names", "_law_ties", "_law_ring_so", "_law_i", "_law_j", "_law_own", "_law_low", "_law_high", "_law_name", "_law_k"] "_law_lone_lots" (defScope s_law_lone_lots) f cdv A outer s H E true []) rfl rfl
  have r : Rm (cx2 P w K mg base ["_law_deal", "_law_names", "_law_ties", "_law_ring_so", "_law_i", "_law_j", "_law_own", "_law_low", "_law_high", "_law_name", "_law_k"] "_law_lone_lots" (defScope s_law_lone_lots) f cdv A outer s H E true []) 4 := rm_calm hr
  (ds_cons (ds_set 1 sc_law_lone_lots.nd (de_of (df_listRg1 rfl B.n_list B.n_range (de_ix (de_var 0) de_int))))
  (ds_cons (ds_setLc 2 (own := [("_law_own", 6)]) m sc_law_lone_lots.nd (di_tup (de_ix (de_var 0) de_int)) (blkOk_by (N := ["_law_deal", "_law_names", "_law_ties", "_law_ring_so", "_law_i", "_law_j", "_law_own", "_law_low", "_law_high", "_law_name", "_law_k"]) (sc := (defScope s_law_lone_lots)) (by decide +kernel)) (fun _ _ _ _ _ => (dg_name 6 sc_law_lone_lots.nd)) (fun _ _ _ _ _ => dtt_nil) (fun _ _ _ _ _ => (de_slT (de_var 6) dp_none (dp_some de_int))) (sw_true rfl rfl rfl (by decide +kernel)))
  (ds_cons (ds_for m PassesOwn.leaving (di_list (de_call (n := 1) c_law_all_rings hr (by decide) (da_cons (de_var 0) da_nil))) (dg_name 3 sc_law_lone_lots.nd) (ds_one (ds_if (dt_of (dw_and (dt_val (de_call (n := 1) c_law_is_hard hr (by decide) (da_cons (de_var 3) da_nil))) (dw_and1 (dt_cmp (op_eqD r.hu64) good_eq (de_call (n := 2) c_law_far hr (by decide) (da_cons (de_var 0) (da_cons (de_var 3) da_nil))) (de_tup (da_cons de_int (da_cons de_int da_nil))))))) (ds_one (ds_set 2 sc_law_lone_lots.nd (de_op op_catL good_catL (de_var 2) (de_of (df_lc (own := [("_law_own", 6)]) m sc_law_lone_lots.nd (di_tup (de_var 3)) (blkOk_by (N := ["_law_deal", "_law_names", "_law_ties", "_law_ring_so", "_law_i", "_law_j", "_law_own", "_law_low", "_law_high", "_law_name", "_law_k"]) (sc := (defScope s_law_lone_lots)) (by decide +kernel)) (fun _ _ _ _ _ => (dg_name 6 sc_law_lone_lots.nd)) (fun _ _ _ _ _ => dtt_nil) (fun _ _ _ _ _ => (de_call (n := 2) c_law_ends hr (by decide) (da_cons (de_var 0) (da_cons (de_var 6) da_nil))))))))) ds_nil)))
  (ds_cons (ds_for m PassesOwn.leaving (di_list (de_var 2)) (dg_tup (n := 2) m (dgs_cons (dg_name 4 sc_law_lone_lots.nd) (dgs_cons (dg_name 5 sc_law_lone_lots.nd) dgs_nil)) (mlen_cons (mlen_cons mlen_nil))) (ds_cons (ds_asgW (de_tup (da_cons (de_callB (call_min2 rfl) good_min B.n_min (da_cons (de_ix (de_var 1) (de_var 4)) (da_cons (de_ix (de_var 1) (de_var 5)) da_nil))) (da_cons (de_callB (call_max2 rfl) good_max B.n_max (da_cons (de_ix (de_var 1) (de_var 4)) (da_cons (de_ix (de_var 1) (de_var 5)) da_nil))) da_nil))) (dgw_tup (n := 2) rfl (dgws_cons (dgw_name 7 sc_law_lone_lots.nd) (dgws_cons (dgw_name 8 sc_law_lone_lots.nd) dgws_nil))))
  (ds_one (ds_set 1 sc_law_lone_lots.nd (de_of (df_lc (own := [("_law_name", 9)]) m sc_law_lone_lots.nd (di_list (de_var 1)) (blkOk_by (N := ["_law_deal", "_law_names", "_law_ties", "_law_ring_so", "_law_i", "_law_j", "_law_own", "_law_low", "_law_high", "_law_name", "_law_k"]) (sc := (defScope s_law_lone_lots)) (by decide +kernel)) (fun _ _ _ _ _ => (dg_name 9 sc_law_lone_lots.nd)) (fun _ _ _ _ _ => dtt_nil) (fun _ _ _ _ _ => (de_if (dt_cmp (op_eqD r.hu64) good_eq (de_var 9) (de_var 8)) (de_var 7) (de_var 9)))))))))
  (ds_one (ds_ret (de_callTy call_tuple_of good_tup B.n_tuple (da_cons (de_of (df_lc (own := [("_law_low", 7)]) m sc_law_lone_lots.nd (di_list (de_of (df_sortedSet rfl m B.n_sorted B.n_set (de_var 1)))) (blkOk_by (N := ["_law_deal", "_law_names", "_law_ties", "_law_ring_so", "_law_i", "_law_j", "_law_own", "_law_low", "_law_high", "_law_name", "_law_k"]) (sc := (defScope s_law_lone_lots)) (by decide +kernel)) (fun _ _ _ _ _ => (dg_name 7 sc_law_lone_lots.nd)) (fun _ _ _ _ _ => dtt_nil) (fun _ _ _ _ _ => (de_callTy call_tuple_of good_tup B.n_tuple (da_cons (de_of (df_lc (own := [("_law_k", 10)]) (md_blk m _ _ _ _ _) sc_law_lone_lots.nd (di_range1 B.n_range (de_ix (de_var 0) de_int)) (blkOk_by (N := ["_law_deal", "_law_names", "_law_ties", "_law_ring_so", "_law_i", "_law_j", "_law_own", "_law_low", "_law_high", "_law_name", "_law_k"]) (sc := (relS _ (defScope s_law_lone_lots))) (by decide +kernel)) (fun _ _ _ _ _ => (dg_name 10 sc_law_lone_lots.nd)) (fun _ _ _ _ _ => (dtt_one (dt_cmp (op_eqD r.hu64) good_eq (de_ix (de_var 1) (de_var 10)) (de_var 7)))) (fun _ _ _ _ _ => (de_var 10)))) da_nil))))) da_nil))))))))) ?_
  rintro ds P' - ⟨d, rfl, hok, h2, h5, hM, hH, h⟩
  simp [initD]
  have hsz : sizeLine = 16777216 := sizeLine_eq
  have er : (rgI 0 (d.n : Int)).map PyData.int = natD (List.range d.n) := by simp [rgI, natD, Function.comp_def]
  show wIx (.tuple [.int (d.n : Int), .tuple (d.hard.map hD), .tuple (d.ease.map eD)]) _ _
  rw [wIx_t]
  refine ⟨_, at0 _ _, _, rfl, by omega, by omega, ?_⟩
  rw [er]
  show wIx (.tuple [.int (d.n : Int), .tuple (d.hard.map hD), .tuple (d.ease.map eD)]) _ _
  rw [wIx_t]
  refine ⟨.tuple (d.ease.map eD), rfl, _, rfl, ?_⟩
  refine compD_all (emb := eD) (f := fun h => prD (h.1, h.2.1)) d.ease (fun h hh => ⟨_, rfl, by simp, fun kk g q => ⟨_, rfl, _, rfl, q⟩⟩) ?_
  rw [List.nil_append]
  refine ⟨d, rfl, hok, h2, h5, hM, _, rfl, ?_⟩
  have hbnd := rings_hard h5 hH
  refine forD_rel (emb := wayD) (fun rs g δ => ∃ (dn : List (List (Bool × Nat))) (a b c e f u v w : Sv), δ = [.dat d.D, .dat (.list (natD (List.range d.n))), .dat (.list (((d.ease.map fun h => (h.1, h.2.1)) ++ (dn.filter fun w => hardRing w && decide ((w.map d.gap).sum = 0)).flatMap fun w => w.map d.pairOf).map prD)), a, b, c, e, f, u, v, w] ∧ dn ++ rs = allRings d)
    (fun r rs g δ hI => ?_) (fun g δ hI => ?_) (allRings d) _ _ ⟨[], _, _, _, _, _, _, _, _, by simp [Function.comp_def]; exact ⟨rfl, rfl, rfl, rfl, rfl, rfl, rfl, rfl⟩, rfl⟩
  · obtain ⟨dn, a, b, c, e, f, u, v, w, rfl, hdn⟩ := hI
    refine ⟨_, rfl, fun k hkr hk => ?_⟩
    simp [putD]
    refine ⟨r, rfl, ?_⟩
    have hra : r ∈ allRings d := by rw [← hdn]; simp
    have hen : ∀ m ∈ r, ∃ e, d.ends m = some e := fun m hm => ends_some hok m (rings_marks hra m hm)
    dsimp only
    by_cases q1 : hardRing r = true
    · refine .inr ⟨by rw [show isHard r = true from q1], d, r, rfl, fun m hm => by obtain ⟨e, he⟩ := hen m hm; simp [he], by omega, ?_⟩
      have sf : ∀ n : Int, SeqAt.shaped (frD (hf n)) = true := fun n => shp_frD _
      have e0 : PyData.tuple [PyData.int 0, PyData.int 1] = frD (hf 0) := by rw [hf_zero]; rfl
      rw [e0]
      refine ⟨sf _, sf _, ?_⟩
      by_cases q2 : (r.map d.gap).sum = 0
      · refine .inr ⟨?_, r.map mkD, rfl, ?_⟩
        · rw [q2, eqv_frD]; simp
        · refine compD_all (emb := mkD) (f := fun m => prD (d.pairOf m)) r (fun m hm => ⟨_, rfl, by simp, fun kk g q => ?_⟩) ?_
          · obtain ⟨e, he⟩ := hen m hm
            refine ⟨_, rfl, _, rfl, d, m, e, rfl, he, ?_⟩
            have ep : d.pairOf m = e := by unfold Deal.pairOf; rw [he]; rfl
            rw [ep] at q
            exact q
          · rw [List.nil_append]
            have hb : ((dn.filter fun w => hardRing w && decide ((w.map d.gap).sum = 0)).map fun a => a.length).sum ≤ 5 * 300000 := by
              refine Nat.le_trans (sum_five _ fun w hw => rings_five h2 h5 (by rw [← hdn]; exact List.mem_append_left _ (List.mem_filter.mp hw).1)) (Nat.mul_le_mul_left _ ?_)
              refine Nat.le_trans ?_ hbnd
              rw [← hdn, List.filter_append, List.length_append]
              refine Nat.le_trans ?_ (Nat.le_add_right _ _)
              have : dn.filter (fun w => hardRing w && decide ((w.map d.gap).sum = 0)) = (dn.filter hardRing).filter fun w => decide ((w.map d.gap).sum = 0) := by
                rw [List.filter_filter]
                congr 1
                funext w
                exact Bool.and_comm _ _
              rw [this]
              exact List.length_filter_le _ _
            have hr5 := rings_five h2 h5 hra
            have hne := hok.ne
            refine ⟨by simp only [List.length_map]; omega, hk _ _ ⟨dn ++ [r], .dat (wayD r), b, c, e, f, u, v, w, ?_, by rw [← hdn]; simp⟩⟩
            simp [List.filter_append, q1, q2]
      · refine .inl ⟨?_, ?_⟩
        · rw [eqv_frD, decide_eq_false]
          intro z
          exact q2 (hf_inj z)
        · refine hk g _ ⟨dn ++ [r], .dat (wayD r), b, c, e, f, u, v, w, ?_, by rw [← hdn]; simp⟩
          simp [List.filter_append, q1, q2]
    · refine .inl ⟨by rw [show isHard r = false from Bool.eq_false_iff.mpr (fun z => q1 z)], hk g _ ⟨dn ++ [r], .dat (wayD r), b, c, e, f, u, v, w, ?_, by rw [← hdn]; simp⟩⟩
      simp [List.filter_append, q1]
  · obtain ⟨dn, a, b, c, e, f, u, v, w, rfl, hdn⟩ := hI
    rw [List.append_nil] at hdn
    subst hdn
    refine ⟨_, rfl, _, rfl, ?_⟩
    have hts : (d.ease.map fun h => (h.1, h.2.1)) ++ ((allRings d).filter fun w => hardRing w && decide ((w.map d.gap).sum = 0)).flatMap (fun w => w.map d.pairOf) = loneTies d := rfl
    rw [hts]
    have hn20 := hok.nn
    clear hbnd er
    refine forD_rel (fun ts g δ => ∃ ns x1 x2 x3 x4 x5 x6 x7 x8 x9, δ = [.dat d.D, .dat (.list (natD ns)), x9, x1, x2, x3, x4, x5, x6, x7, x8] ∧ ns.length = d.n ∧ (∀ p ∈ ts, p.1 < d.n ∧ p.2 < d.n) ∧ ts.foldl Nm.mergeN ns = Nm.namesOf d.n (loneTies d))
      (fun x xs g δ hI => ?_) (fun g δ hI => ?_) (loneTies d) g _ ⟨List.range d.n, _, _, _, _, _, _, _, _, _, rfl, by simp, lone_lt hok, rfl⟩
    · obtain ⟨ns, x1, x2, x3, x4, x5, x6, x7, x8, x9, rfl, hl, hb, hfo⟩ := hI
      refine ⟨_, rfl, fun k hkr hk => ?_⟩
      have hb1 := hb x List.mem_cons_self
      simp [putD]
      refine ⟨_, nat_get (by omega), _, nat_get (by omega), _, _, rfl, _, nat_get (by omega), _, nat_get (by omega), _, _, rfl, by omega, ?_⟩
      rw [min_cast, max_cast]
      refine ⟨_, _, ⟨rfl, rfl⟩, _, _, rfl, rfl, ?_⟩
      refine compD_all (f := fun y => .int (((if y = max (ns.getD x.1 0) (ns.getD x.2 0) then min (ns.getD x.1 0) (ns.getD x.2 0) else y : Nat)) : Int)) ns (fun y hy => ⟨_, rfl, by simp, fun kk g q => ?_⟩) ?_
      · refine ⟨_, rfl, _, rfl, shp_int _, shp_int _, ?_⟩
        dsimp only
        rw [eqv_int, selB]
        by_cases z : y = max (ns.getD x.1 0) (ns.getD x.2 0)
        · rw [if_pos (decide_eq_true (by omega))]
          rw [if_pos z] at q
          exact ⟨_, rfl, q⟩
        · rw [if_neg (by simp only [decide_eq_true_iff]; omega)]
          rw [if_neg z] at q
          exact ⟨_, rfl, q⟩
      · refine hk _ _ ⟨Nm.mergeN ns x, x1, _, _, x4, _, _, x7, x8, x9, by simp [natD, Nm.mergeN, Function.comp_def]; exact ⟨rfl, rfl, rfl, rfl⟩, by rw [Nm.merge_len]; exact hl, fun p hp => hb p (List.mem_cons_of_mem _ hp), by rw [List.foldl_cons] at hfo; exact hfo⟩
    · obtain ⟨ns, x1, x2, x3, x4, x5, x6, x7, x8, x9, rfl, hl, hb, hfo⟩ := hI
      rw [List.foldl_nil] at hfo
      subst hfo
      have o := Nm.names_ok (lone_lt hok)
      refine ⟨_, rfl, (Nm.namesOf d.n (loneTies d)).map (fun (x : Nat) => (x : Int)), by simp [natD], by simp [hl]; omega, fun ms h1 h2 => ?_⟩
      rw [ms_kept o h1 h2]
      have em : ((Nm.kept (Nm.namesOf d.n (loneTies d))).map fun (k : Nat) => (k : Int)).map PyData.int = (Nm.kept (Nm.namesOf d.n (loneTies d))).map fun (k : Nat) => PyData.int (k : Int) := by simp
      rw [em]
      refine compD_all (f := fun low => lotD (Nm.lotOf (Nm.namesOf d.n (loneTies d)) low)) _ (fun low hlow => ⟨_, rfl, by simp, fun kk g q => ?_⟩) ?_
      · refine ⟨_, rfl, ?_⟩
        show wIx (.tuple [.int (d.n : Int), _, _]) _ _
        rw [wIx_t]
        refine ⟨_, at0 _ _, _, rfl, by omega, by omega, ?_⟩
        rw [rgD_map]
        refine compD_map (t := fun k => decide ((Nm.namesOf d.n (loneTies d)).getD k 0 = low)) (f := fun (k : Nat) => .int (k : Int)) _ (fun k hk => ⟨_, rfl, by simp, fun kk g q => ?_, fun _ kk g q => ?_⟩) ?_
        · refine ⟨_, rfl, _, rfl, ?_⟩
          have hkl := List.mem_range.mp hk
          show wIx (.list (natD _)) _ _
          rw [wIx_l]
          refine ⟨_, nat_get (by omega), _, rfl, shp_int _, shp_int _, ?_⟩
          dsimp only
          rw [eqv_int, selB]
          by_cases z : (Nm.namesOf d.n (loneTies d)).getD k 0 = low
          · rw [if_pos (decide_eq_true (by omega))]
            rw [decide_eq_true z] at q
            exact q
          · rw [if_neg (by simp only [decide_eq_true_iff]; omega)]
            rw [decide_eq_false z] at q
            exact q
        · exact ⟨_, rfl, q⟩
        · have el : ((List.range d.n).filter fun k => decide ((Nm.namesOf d.n (loneTies d)).getD k 0 = low)).map (fun (k : Nat) => PyData.int (k : Int)) = natD (Nm.lotOf (Nm.namesOf d.n (loneTies d)) low) := by
            unfold Nm.lotOf natD
            rw [hl]
          rw [List.nil_append, el]
          exact q
      · rw [List.nil_append]
        have eh : PyData.tuple ((Nm.kept (Nm.namesOf d.n (loneTies d))).map fun low => lotD (Nm.lotOf (Nm.namesOf d.n (loneTies d)) low)) = hungD (Nm.namesOf d.n (loneTies d)) := by
          simp [hungD, Nm.lotsOf, Function.comp_def]
        rw [eh]
        exact h
end Lk

set_option Elab.async false
set_option linter.all false
set_option maxRecDepth 100000
set_option maxHeartbeats 4000000
namespace Lk
open PySem PySem.Spec
open Pt (Pa Ring wt)
/-! ### what a deal's rings and cuts tell -/
def Deal.okA (d : Deal) (m : Bool × Nat) : Prop := m ∈ d.marks
def Deal.okH (d : Deal) (m : Bool × Nat) : Prop := m ∈ d.marks ∧ m.1 = true
def Deal.Un (d : Deal) : Prop := (∀ h ∈ d.hard, h.1 ≠ h.2.1) ∧ ∀ h ∈ d.ease, h.1 ≠ h.2.1
theorem mem_marks {d : Deal} {m : Bool × Nat} : m ∈ d.marks ↔ (m.1 = true ∧ m.2 < d.hard.length) ∨ (m.1 = false ∧ m.2 < d.ease.length) := by
  obtain ⟨b, k⟩ := m
  unfold Deal.marks
  rw [List.mem_append, List.mem_map, List.mem_map]
  constructor
  · rintro (⟨x, hx, e⟩ | ⟨x, hx, e⟩)
    · cases e; exact .inl ⟨rfl, List.mem_range.mp hx⟩
    · cases e; exact .inr ⟨rfl, List.mem_range.mp hx⟩
  · rintro (⟨e, h⟩ | ⟨e, h⟩)
    · exact .inl ⟨k, List.mem_range.mpr h, by rw [show b = true from e]⟩
    · exact .inr ⟨k, List.mem_range.mpr h, by rw [show b = false from e]⟩
theorem ends_un {d : Deal} (hu : d.Un) (m : Bool × Nat) (a : Nat) : d.ends m ≠ some (a, a) := fun h => by
  unfold Deal.ends at h
  split at h
  · obtain ⟨q, hq, e⟩ := Option.map_eq_some_iff.mp h
    have := hu.1 q (List.mem_of_getElem? hq)
    have e1 : q.1 = a := congrArg Prod.fst e
    have e2 : q.2.1 = a := congrArg Prod.snd e
    exact this (e1.trans e2.symm)
  · obtain ⟨q, hq, e⟩ := Option.map_eq_some_iff.mp h
    have := hu.2 q (List.mem_of_getElem? hq)
    have e1 : q.1 = a := congrArg Prod.fst e
    have e2 : q.2.1 = a := congrArg Prod.snd e
    exact this (e1.trans e2.symm)
theorem from_mem (d : Deal) (a b : Nat) (m : Bool × Nat) : m ∈ d.from' a b ↔ d.okA m ∧ d.ends m = some (a, b) := by
  unfold Deal.from' Deal.okA
  rw [List.mem_filter, decide_eq_true_iff]
theorem ways_eq (d : Deal) (r : List Nat) (j : Nat) : waysTo d r j = Rw.waysTo d.from' r j := rfl
theorem orders_eq (n : Nat) : ordersN n = Rw.ordersN n := rfl
theorem cutsL_eq (n : Nat) : cutsL n = Rw.cutsL n := rfl
theorem gaps_eq (d : Deal) (i : Nat) : d.gaps i = Gp.gaps d.n d.hard i := rfl
theorem rot_perm (w : List (Bool × Nat)) : (rotM w).Perm w := by
  unfold rotM
  refine List.perm_append_comm.trans ?_
  rw [List.take_append_drop]
theorem ends_ltA {d : Deal} (hok : d.Ok) : ∀ m a b, d.okA m → d.ends m = some (a, b) → a < d.n ∧ b < d.n := fun m a b _ h => Deal.ends_lt hok h
theorem ends_ltH {d : Deal} (hok : d.Ok) : ∀ m a b, d.okH m → d.ends m = some (a, b) → a < d.n ∧ b < d.n := fun m a b _ h => Deal.ends_lt hok h
theorem ring_of {d : Deal} {w : List (Bool × Nat)} (h : w ∈ allRings d) : ∃ v, Ring d.ends d.okA v ∧ v.Perm w := by
  obtain ⟨r, hr, v, hv, rfl⟩ := (rings_mem d w).mp h
  exact ⟨v, Rw.ways_ring (fun a b m => from_mem d a b m) (n := d.n) hr hv, (rot_perm v).symm⟩
theorem ring_in {d : Deal} (hok : d.Ok) (hu : d.Un) {v : List (Bool × Nat)} (h : Ring d.ends d.okA v) : ∃ w ∈ allRings d, w.Perm v := by
  obtain ⟨r, hr, u, hw, pm⟩ := Rw.ring_ways (fun a b m => from_mem d a b m) (ends_ltA hok) (fun m a _ => ends_un hu m a) h
  exact ⟨rotM u, (rings_mem d _).mpr ⟨r, hr, u, hw, rfl⟩, (rot_perm u).trans pm⟩
theorem ringH_A {d : Deal} {v : List (Bool × Nat)} (h : Ring d.ends d.okH v) : Ring d.ends d.okA v := by
  obtain ⟨h0, a, vs, p, nd⟩ := h
  exact ⟨h0, a, vs, p.mono fun m q => q.1, nd⟩
theorem ringA_H {d : Deal} {v : List (Bool × Nat)} (h : Ring d.ends d.okA v) (hh : ∀ m ∈ v, m.1 = true) : Ring d.ends d.okH v := by
  obtain ⟨h0, a, vs, p, nd⟩ := h
  exact ⟨h0, a, vs, p.res fun m q => ⟨p.oks m q, hh m q⟩, nd⟩
theorem ringH_hard {d : Deal} {v : List (Bool × Nat)} (h : Ring d.ends d.okH v) : ∀ m ∈ v, m.1 = true := by
  obtain ⟨h0, a, vs, p, nd⟩ := h
  exact fun m q => (p.oks m q).2
theorem hardRing_iff {w : List (Bool × Nat)} : hardRing w = true ↔ ∀ m ∈ w, m.1 = true := by
  unfold hardRing
  rw [List.all_eq_true]
/-- a hard mark's rule -/
theorem okH_rule {d : Deal} {m : Bool × Nat} (h : d.okH m) : ∃ r, d.hard[m.2]? = some r ∧ d.ends m = some (r.1, r.2.1) ∧ d.gap m = r.2.2 := by
  obtain ⟨h1, h2⟩ := h
  rcases mem_marks.mp h1 with ⟨_, z⟩ | ⟨z, _⟩
  · refine ⟨_, List.getElem?_eq_getElem z, ?_, ?_⟩
    · unfold Deal.ends; rw [if_pos h2, List.getElem?_eq_getElem z]; rfl
    · unfold Deal.gap; rw [if_pos h2, List.getElem?_eq_getElem z]; rfl
  · rw [h2] at z; cases z
theorem rule_okH {d : Deal} {r : Nat × Nat × Int} (h : r ∈ d.hard) : ∃ m, d.okH m ∧ d.ends m = some (r.1, r.2.1) ∧ d.gap m = r.2.2 := by
  obtain ⟨k, hk⟩ := List.getElem?_of_mem h
  have hl := (List.getElem?_eq_some_iff.mp hk).1
  have ho : d.okH (true, k) := ⟨mem_marks.mpr (.inl ⟨rfl, hl⟩), rfl⟩
  obtain ⟨r', h1, h2, h3⟩ := okH_rule ho
  rw [hk] at h1
  cases h1
  exact ⟨_, ho, h2, h3⟩
theorem okH_in {d : Deal} : ∀ m a b, d.okH m → d.ends m = some (a, b) → (a, b, d.gap m) ∈ d.hard := fun m a b h e => by
  obtain ⟨r, h1, h2, h3⟩ := okH_rule h
  rw [e] at h2
  cases h2
  rw [h3]
  exact List.mem_of_getElem? h1
theorem feas_tel {d : Deal} (hf : d.Feas) : ∃ f : Nat → Int, ∀ m a b, d.okH m → d.ends m = some (a, b) → f a + d.gap m ≤ f b := by
  obtain ⟨f, hf⟩ := hf
  exact ⟨f, fun m a b h e => hf _ (okH_in m a b h e)⟩
theorem bound_of : ∀ l : List (Nat × Nat × Int), ∃ B : Int, 0 ≤ B ∧ ∀ h ∈ l, h.2.2 ≤ B
  | [] => ⟨0, Int.le_refl _, fun h q => nomatch q⟩
  | h :: l => by
    obtain ⟨B, h1, h2⟩ := bound_of l
    refine ⟨B + h.2.2.natAbs, by omega, fun x hx => ?_⟩
    rcases List.mem_cons.mp hx with rfl | hx
    · omega
    · have := h2 x hx; omega
/-- no hard ring is above 0 exactly if there are places -/
theorem feas_iff {d : Deal} (hok : d.Ok) (hu : d.Un) : d.Feas ↔ ∀ w ∈ allRings d, hardRing w = true → (w.map d.gap).sum ≤ 0 := by
  constructor
  · intro hf w hw hh
    obtain ⟨f, hf⟩ := feas_tel hf
    obtain ⟨v, rv, pv⟩ := ring_of hw
    have := Ring.le (gap := d.gap) hf (ringA_H rv fun m hm => hardRing_iff.mp hh m (pv.subset hm))
    rw [Pt.wt_perm d.gap pv] at this
    exact this
  · intro h
    obtain ⟨B, hB, hb⟩ := bound_of d.hard
    obtain ⟨f, hf⟩ := Pt.feas (gap := d.gap) (en := d.ends) (ok := d.okH) (B := B) (n := d.n) hB (fun m hm => by
      obtain ⟨r, h1, _, h3⟩ := okH_rule hm
      rw [h3]; exact hb r (List.mem_of_getElem? h1)) (ends_ltH hok) fun ms r => by
        obtain ⟨w, hw, pw⟩ := ring_in hok hu (ringH_A r)
        have := h w hw (hardRing_iff.mpr fun m hm => ringH_hard r m (pw.subset hm))
        have e := Pt.wt_perm d.gap pw
        unfold wt at e ⊢
        omega
    refine ⟨f, fun r hr => ?_⟩
    obtain ⟨m, h1, h2, h3⟩ := rule_okH hr
    have := hf m _ _ h1 h2
    omega
theorem tight_eq {d : Deal} (h : Nat × Nat × Int) : d.tight h = true ↔ (d.gaps h.2.1).getD h.1 none = some (- h.2.2) := by
  unfold Deal.tight
  cases e : (d.gaps h.2.1).getD h.1 none with
  | none => simp
  | some b =>
    simp only [decide_eq_true_iff, Option.some.injEq]
    omega
theorem ties_iff {d : Deal} (hok : d.Ok) (hu : d.Un) (hf : d.Feas) (p : Nat × Nat) : p ∈ d.ties ↔ p ∈ loneTies d := by
  obtain ⟨f, hf⟩ := feas_tel hf
  have key : ∀ m i j, d.okH m → d.ends m = some (i, j) → ((d.gaps j).getD i none = some (- d.gap m) ↔ ∃ ms, Ring d.ends d.okH (m :: ms) ∧ wt d.gap (m :: ms) = 0) := fun m i j ho he =>
    Gp.tight_iff (fun h hh => (hok.hard h hh).2) (fun h hh => rule_okH hh) okH_in (ends_ltH hok) hf ho he
  unfold Deal.ties loneTies
  rw [List.mem_append, List.mem_append]
  refine or_congr Iff.rfl ?_
  rw [List.mem_map, List.mem_flatMap]
  constructor
  · rintro ⟨h, hh, rfl⟩
    rw [List.mem_filter] at hh
    obtain ⟨m, h1, h2, h3⟩ := rule_okH hh.1
    have ht := (tight_eq h).mp hh.2
    rw [← h3] at ht
    obtain ⟨ms, r, w0⟩ := (key m _ _ h1 h2).mp ht
    obtain ⟨w, hw, pw⟩ := ring_in hok hu (ringH_A r)
    refine ⟨w, ?_, List.mem_map.mpr ⟨m, pw.symm.subset List.mem_cons_self, ?_⟩⟩
    · rw [List.mem_filter, Bool.and_eq_true, decide_eq_true_iff]
      refine ⟨hw, hardRing_iff.mpr fun m hm => ringH_hard r m (pw.subset hm), ?_⟩
      have e := Pt.wt_perm d.gap pw
      rw [w0] at e
      exact e
    · unfold Deal.pairOf; rw [h2]; rfl
  · rintro ⟨w, hw, hp⟩
    rw [List.mem_filter, Bool.and_eq_true, decide_eq_true_iff] at hw
    obtain ⟨hw, hh, h0⟩ := hw
    obtain ⟨m, hm, rfl⟩ := List.mem_map.mp hp
    obtain ⟨v, rv, pv⟩ := ring_of hw
    have rh := ringA_H rv fun m hm => hardRing_iff.mp hh m (pv.subset hm)
    obtain ⟨i, j, ms', vs', h1, h2, h3, h4, h5⟩ := rh.rest (pv.symm.subset hm)
    have rc := Ring.close h2 h1 h3 h4
    have e1 := Pt.wt_perm d.gap h5
    have e2 := Pt.wt_perm d.gap pv
    have e3 : wt d.gap (m :: ms') = 0 := by
      rw [← e1, e2]
      exact h0
    have ht := (key m i j h2 h1).mpr ⟨ms', rc, e3⟩
    obtain ⟨r, k1, k2, k3⟩ := okH_rule h2
    rw [h1] at k2
    cases k2
    refine ⟨r, ?_, ?_⟩
    · rw [List.mem_filter]
      exact ⟨List.mem_of_getElem? k1, (tight_eq r).mpr (by rw [← k3]; exact ht)⟩
    · unfold Deal.pairOf; rw [h1]; rfl
theorem names_eq {d : Deal} (hok : d.Ok) (hu : d.Un) (hf : d.Feas) : Nm.namesOf d.n d.ties = Nm.namesOf d.n (loneTies d) := Nm.names_same hok.ties (ties_iff hok hu hf)
/-! ### who is come to -/
theorem all_ok {d : Deal} {e : Nat × Nat × PyData} (h : e ∈ d.all) : ∃ m, d.okA m ∧ d.ends m = some (e.1, e.2.1) := by
  unfold Deal.all at h
  rcases List.mem_append.mp h with z | z
  · obtain ⟨r, hr, rfl⟩ := List.mem_map.mp z
    obtain ⟨m, h1, h2, _⟩ := rule_okH hr
    exact ⟨m, h1.1, h2⟩
  · obtain ⟨k, hk⟩ := List.getElem?_of_mem z
    refine ⟨(false, k), mem_marks.mpr (.inr ⟨rfl, (List.getElem?_eq_some_iff.mp hk).1⟩), ?_⟩
    unfold Deal.ends
    rw [if_neg (show ¬ false = true by decide), hk]; rfl
theorem ok_all {d : Deal} {m : Bool × Nat} {a b : Nat} (he : d.ends m = some (a, b)) : ∃ e ∈ d.all, e.1 = a ∧ e.2.1 = b := by
  unfold Deal.ends at he
  unfold Deal.all
  split at he
  · obtain ⟨q, hq, e⟩ := Option.map_eq_some_iff.mp he
    cases e
    exact ⟨_, List.mem_append_left _ (List.mem_map.mpr ⟨q, List.mem_of_getElem? hq, rfl⟩), rfl, rfl⟩
  · obtain ⟨q, hq, e⟩ := Option.map_eq_some_iff.mp he
    cases e
    exact ⟨q, List.mem_append_right _ (List.mem_of_getElem? hq), rfl, rfl⟩
theorem reach_pa {d : Deal} {i j : Nat} (h : d.Reach i j) : ∃ ms vs, Pa d.ends d.okA i ms vs j := by
  induction h with
  | refl => exact ⟨[], [], .nil⟩
  | step _ he e ih =>
    obtain ⟨ms, vs, p⟩ := ih
    obtain ⟨m, h1, h2⟩ := all_ok he
    rw [e] at h2
    exact ⟨_, _, p.app (.cons h1 h2 .nil)⟩
theorem pa_reach {d : Deal} {i j : Nat} {ms : List (Bool × Nat)} {vs : List Nat} (p : Pa d.ends d.okA i ms vs j) : ∀ k, d.Reach k i → d.Reach k j := by
  induction p with
  | nil => exact fun k h => h
  | cons h1 h2 _ ih =>
    intro k h
    obtain ⟨e, he, e1, e2⟩ := ok_all h2
    refine ih k ?_
    rw [← e2]
    exact .step h he e1
/-- a mark lies on a ring exactly if its end leads to its start -/
theorem on_ring {d : Deal} (hok : d.Ok) (hu : d.Un) {m : Bool × Nat} {i j : Nat} (ho : d.okA m) (he : d.ends m = some (i, j)) : (∃ w ∈ allRings d, m ∈ w) ↔ d.Reach j i := by
  constructor
  · rintro ⟨w, hw, hm⟩
    obtain ⟨v, rv, pv⟩ := ring_of hw
    obtain ⟨i', j', ms', vs', h1, _, h3, _, _⟩ := rv.rest (pv.symm.subset hm)
    rw [he] at h1
    cases h1
    exact pa_reach h3 _ .refl
  · intro h
    obtain ⟨ms, vs, p⟩ := reach_pa h
    obtain ⟨ms', vs', p', nd, _⟩ := p.simple (gap := fun _ => 0) (fun ms _ => by
      have : ∀ l : List (Bool × Nat), wt (fun _ => 0) l = 0 := by
        intro l
        induction l with
        | nil => rfl
        | cons x l ih => rw [Pt.wt_cons, ih]; rfl
      rw [this]; exact Int.le_refl _)
    obtain ⟨w, hw, pw⟩ := ring_in hok hu (Ring.close ho he p' nd)
    exact ⟨w, hw, pw.symm.subset List.mem_cons_self⟩
def Deal.off (d : Deal) (e : Nat × Nat × PyData) : Prop := ¬ d.Reach e.2.1 e.1
def looseL (d : Deal) : List (List Nat) := (cuts d.n).filter fun c => d.closed c && d.entered c
theorem mem_cuts {n : Nat} {c : List Nat} : c ∈ cuts n ↔ (c.Pairwise (· < ·) ∧ ∀ x ∈ c, x < n) ∧ 0 < c.length ∧ c.length < n := by
  unfold cuts
  rw [List.mem_mergeSort]
  unfold properL
  rw [List.mem_filter, cutsL_eq, Rw.mem_cutsL]
  simp
theorem closed_iff {d : Deal} {c : List Nat} : d.closed c = true ↔ ∀ e ∈ d.all, e.1 ∈ c → e.2.1 ∈ c := by
  unfold Deal.closed
  rw [List.all_eq_true]
  refine forall_congr' fun e => forall_congr' fun _ => ?_
  by_cases h1 : e.1 ∈ c <;> by_cases h2 : e.2.1 ∈ c <;> simp [h1, h2]
theorem entered_iff {d : Deal} {c : List Nat} : d.entered c = true ↔ ∃ e ∈ d.ease, e.1 ∉ c ∧ e.2.1 ∈ c := by
  unfold Deal.entered
  rw [List.any_eq_true]
  simp
theorem closed_reach {d : Deal} {c : List Nat} (hc : d.closed c = true) {i j : Nat} (h : d.Reach i j) (hi : i ∈ c) : j ∈ c := by
  induction h with
  | refl => exact hi
  | step _ he e ih => exact closed_iff.mp hc _ he (by rw [e]; exact ih)
theorem ease_all {d : Deal} {e : Nat × Nat × PyData} (h : e ∈ d.ease) : e ∈ d.all := List.mem_append_right _ h
theorem lot_loose {d : Deal} (hok : d.Ok) {e : Nat × Nat × PyData} (he : e ∈ d.ease) (ho : d.off e) : d.lot e.2.1 ∈ looseL d := by
  have hlt := hok.ease e he
  have hm : ∀ {x}, x ∈ d.lot e.2.1 ↔ d.Reach e.2.1 x := fun {x} => Deal.mem_lot hok hlt.2
  unfold looseL
  rw [List.mem_filter, mem_cuts, Bool.and_eq_true]
  refine ⟨⟨⟨?_, fun x hx => (hm.mp hx).lt hok hlt.2⟩, ?_, ?_⟩, closed_iff.mpr fun e' he' h => hm.mpr (.step (hm.mp h) he' rfl), entered_iff.mpr ⟨e, he, fun h => ho (hm.mp h), hm.mpr .refl⟩⟩
  · unfold Deal.lot
    exact List.Pairwise.filter _ List.pairwise_lt_range
  · exact List.length_pos_of_mem (hm.mpr .refl)
  · unfold Deal.lot
    have : (List.range d.n).length = d.n := List.length_range
    refine Nat.lt_of_lt_of_eq (List.length_filter_lt_length_iff_exists.mpr ⟨e.1, List.mem_range.mpr hlt.1, ?_⟩) this
    simpa using (show ¬ d.Reach e.2.1 e.1 from ho)
theorem loose_off {d : Deal} {c : List Nat} (h : c ∈ looseL d) : ∃ e ∈ d.ease, d.off e := by
  unfold looseL at h
  rw [List.mem_filter, Bool.and_eq_true] at h
  obtain ⟨_, hc, he⟩ := h
  obtain ⟨e, h1, h2, h3⟩ := entered_iff.mp he
  exact ⟨e, h1, fun r => h2 (closed_reach hc r h3)⟩
theorem looseL_nil {d : Deal} (hok : d.Ok) : looseL d = [] ↔ ∀ e ∈ d.ease, ¬ d.off e := by
  constructor
  · intro h e he ho
    have := lot_loose hok he ho
    rw [h] at this; cases this
  · intro h
    refine List.eq_nil_iff_forall_not_mem.mpr fun c hc => ?_
    obtain ⟨e, he, ho⟩ := loose_off hc
    exact h e he ho
def aloneL (d : Deal) : List Nat := (List.range d.ease.length).filter fun k => ((allRings d).filter fun w => decide ((false, k) ∈ w)).isEmpty
theorem aloneL_nil {d : Deal} (hok : d.Ok) (hu : d.Un) : aloneL d = [] ↔ ∀ e ∈ d.ease, ¬ d.off e := by
  have key : ∀ (k : Nat) e, d.ease[k]? = some e → (((allRings d).filter fun w => decide ((false, k) ∈ w)).isEmpty = true ↔ d.off e) := fun k e hk => by
    have ho : d.okA (false, k) := mem_marks.mpr (.inr ⟨rfl, (List.getElem?_eq_some_iff.mp hk).1⟩)
    have he : d.ends (false, k) = some (e.1, e.2.1) := by
      unfold Deal.ends
      rw [if_neg (show ¬ false = true by decide), hk]; rfl
    have := on_ring hok hu ho he
    unfold Deal.off
    rw [← this, List.isEmpty_iff, List.filter_eq_nil_iff]
    simp
  unfold aloneL
  rw [List.filter_eq_nil_iff]
  constructor
  · intro h e he ho
    obtain ⟨k, hk⟩ := List.getElem?_of_mem he
    exact h k (List.mem_range.mpr (List.getElem?_eq_some_iff.mp hk).1) ((key k e hk).mpr ho)
  · intro h k hk hz
    have hl := List.mem_range.mp hk
    exact h _ (List.getElem_mem hl) ((key k _ (List.getElem?_eq_getElem hl)).mp hz)
theorem loose_none {d : Deal} (hok : d.Ok) : d.loose = none ↔ ∀ e ∈ d.ease, ¬ d.off e := by
  have key : ∀ es : List (Nat × Nat × PyData), (∀ e ∈ es, e ∈ d.ease) → (d.looseIn es = none ↔ ∀ e ∈ es, ¬ d.off e) := by
    intro es
    induction es with
    | nil => intro _; simp [Deal.looseIn]
    | cons e es ih =>
      intro h
      have hlt := hok.ease e (h e List.mem_cons_self)
      unfold Deal.looseIn
      by_cases q : e.1 ∈ d.lot e.2.1
      · rw [if_pos q, ih fun x hx => h x (List.mem_cons_of_mem _ hx)]
        have : ¬ d.off e := fun z => z ((Deal.mem_lot hok hlt.2).mp q)
        simp [this]
      · rw [if_neg q]
        have : d.off e := fun z => q ((Deal.mem_lot hok hlt.2).mpr z)
        simp [this]
  exact key d.ease fun e h => h
theorem loose_some {d : Deal} (hok : d.Ok) {l : List Nat} (h : d.loose = some l) : l ∈ looseL d := by
  have key : ∀ es : List (Nat × Nat × PyData), (∀ e ∈ es, e ∈ d.ease) → d.looseIn es = some l → ∃ e ∈ es, d.off e ∧ l = d.lot e.2.1 := by
    intro es
    induction es with
    | nil => intro _ h; simp [Deal.looseIn] at h
    | cons e es ih =>
      intro h hl
      have hlt := hok.ease e (h e List.mem_cons_self)
      unfold Deal.looseIn at hl
      by_cases q : e.1 ∈ d.lot e.2.1
      · rw [if_pos q] at hl
        obtain ⟨e', h1, h2⟩ := ih (fun x hx => h x (List.mem_cons_of_mem _ hx)) hl
        exact ⟨e', List.mem_cons_of_mem _ h1, h2⟩
      · rw [if_neg q] at hl
        cases hl
        exact ⟨e, List.mem_cons_self, fun z => q ((Deal.mem_lot hok hlt.2).mpr z), rfl⟩
  obtain ⟨e, h1, h2, rfl⟩ := key d.ease (fun e h => h) h
  exact lot_loose hok h1 h2
theorem asc_of {c : List Nat} (h : c.Pairwise (· < ·)) : asc c = true := by
  unfold asc
  rw [List.all_eq_true]
  intro k hk
  have hk := List.mem_range.mp hk
  rw [decide_eq_true_iff]
  have h1 : k < c.length := by omega
  have h2 : k + 1 < c.length := by omega
  rw [List.getD_eq_getElem?_getD, List.getD_eq_getElem?_getD, List.getElem?_eq_getElem h1, List.getElem?_eq_getElem h2]
  exact List.pairwise_iff_getElem.mp h k (k + 1) h1 h2 (by omega)
theorem isLoose_cut {d : Deal} {c : List Nat} (h : c ∈ cuts d.n) : d.isLoose c = (d.closed c && d.entered c) := by
  obtain ⟨⟨h1, h2⟩, _, _⟩ := mem_cuts.mp h
  unfold Deal.isLoose
  have e : (c.all fun x => decide (x < d.n)) = true := by
    rw [List.all_eq_true]
    exact fun x hx => decide_eq_true (h2 x hx)
  rw [e, asc_of h1]
  simp
theorem isLoose_mem {d : Deal} {c : List Nat} (h : c ∈ cuts d.n) : d.isLoose c = decide (c ∈ looseL d) := by
  rw [isLoose_cut h, Bool.eq_iff_iff, decide_eq_true_iff]
  unfold looseL
  rw [List.mem_filter]
  exact ⟨fun q => ⟨h, q⟩, fun q => q.2⟩
theorem looseL_cuts {d : Deal} {c : List Nat} (h : c ∈ looseL d) : c ∈ cuts d.n := (List.mem_filter.mp h).1
theorem zero_cut {n : Nat} (h : 2 ≤ n) : [0] ∈ cuts n := mem_cuts.mpr ⟨⟨by simp, fun x hx => by simp at hx; omega⟩, by simp, by simp; omega⟩
/-! ### lots -/
theorem lots_rules {d : Deal} (h : d.lots.length = 1) : d.n ≤ d.hard.length + d.ease.length + 1 := by
  have h1 := Nm.kept_names d.n d.ties
  unfold Deal.lots at h
  rw [h] at h1
  have h2 : d.ties.length ≤ d.hard.length + d.ease.length := by
    unfold Deal.ties
    rw [List.length_append, List.length_map, List.length_map]
    have := List.length_filter_le d.tight d.hard
    omega
  omega
theorem near_all {d : Deal} (hok : d.Ok) : d.n ≤ d.near.length ↔ d.lots.length = 1 := by
  have o := Nm.names_ok hok.ties
  have hp := hok.pos
  unfold Deal.near Deal.lots Nm.lotsOf
  rw [List.length_map]
  generalize Nm.namesOf d.n d.ties = ns at o
  have hl := o.len
  have mk : ∀ x, x ∈ Nm.kept ns ↔ x ∈ ns := fun x => by
    unfold Nm.kept
    rw [List.mem_filter, List.mem_range, decide_eq_true_iff, hl]
    exact ⟨fun z => z.2, fun z => ⟨names_lt o x z, z⟩⟩
  have ndk : (Nm.kept ns).Nodup := List.Pairwise.filter _ List.nodup_range
  have h0 : ns.getD 0 0 ∈ ns := by
    rw [List.getD_eq_getElem?_getD, List.getElem?_eq_getElem (by omega)]
    exact List.getElem_mem _
  cases hk : Nm.kept ns with
  | nil =>
    have := (mk _).mpr h0
    rw [hk] at this; cases this
  | cons low rest =>
    have el : ((low :: rest).map (Nm.lotOf ns)).headD [] = Nm.lotOf ns low := rfl
    rw [el]
    have e1 : d.n ≤ (Nm.lotOf ns low).length ↔ ∀ k, k < d.n → ns.getD k 0 = low := by
      unfold Nm.lotOf
      have h3 := List.length_filter_le (fun k => decide (ns.getD k 0 = low)) (List.range ns.length)
      rw [List.length_range] at h3
      constructor
      · intro h k hk
        have h4 : ((List.range ns.length).filter fun k => decide (ns.getD k 0 = low)).length = (List.range ns.length).length := by rw [List.length_range]; omega
        have h5 := List.length_filter_eq_length_iff.mp h4 k (List.mem_range.mpr (by omega))
        exact of_decide_eq_true h5
      · intro h
        rw [List.filter_eq_self.mpr (fun k hk => decide_eq_true (h k (by have := List.mem_range.mp hk; omega))), List.length_range]
        omega
    rw [e1]
    constructor
    · intro h
      cases rest with
      | nil => rfl
      | cons b rest =>
        have hb : b ∈ ns := (mk b).mp (by rw [hk]; simp)
        obtain ⟨k, hk2⟩ := List.getElem?_of_mem hb
        have hlt := (List.getElem?_eq_some_iff.mp hk2).1
        have := h k (by omega)
        rw [List.getD_eq_getElem?_getD, hk2] at this
        have e : b = low := this
        rw [hk, e] at ndk
        simp at ndk
    · intro h k hk2
      cases rest with
      | cons _ _ => simp at h
      | nil =>
        have hm : ns.getD k 0 ∈ ns := by
          rw [List.getD_eq_getElem?_getD, List.getElem?_eq_getElem (by omega)]
          exact List.getElem_mem _
        have := (mk _).mpr hm
        rw [hk] at this
        simpa using this
end Lk

set_option Elab.async false
set_option linter.all false
set_option maxRecDepth 100000
set_option maxHeartbeats 4000000
namespace Lk
open PySem PySem.Spec PyProof.Rows L2 L2H HotX LkHot LkHead
variable {P : Program} {w : World} {K : PySem.W.Frag} {mg : Str → Option Value} {base : Heap}
theorem sc_law_right : FnScope ["_law_urn", "_law_many", "_law_spots_here", "_law_hard", "_law_counted", "_law_deal", "_law_wrong_so", "_law_lots", "_law_alone", "_law_told", "_law_got", "_law_hung_so", "_law_good", "_law_due", "_law_row", "_law_soft", "_law_every", "_law_own", "_law_k"] ["_law_urn"] (defScope s_law_right) := ⟨rfl, rfl, rfl, by decide +kernel, rfl, by decide +kernel, by decide +kernel⟩
theorem dss_mono {X : Cx} {W : Option Addr} {st : List Stmt} {G G' : DSt} (h : DSs X W st G) (m : ∀ P g δ, G' P g δ → G P g δ) : DSs X W st G' := pss_mono h fun D σ H ⟨E, O, g, δ, P, R, q, kn, kr⟩ => ⟨E, O, g, δ, P, R, m _ _ _ q, kn, kr⟩
/-! ### the law over a drawn deal -/
structure Drawn (d : Deal) : Prop where
  ok : d.Ok
  un : d.Un
  n2 : 2 ≤ d.n
  n5 : d.n ≤ 5
  nm : d.marks.length ≤ 12
  nh : d.hard.length ≤ 6
@[simp] theorem eqv_bool (a b : Bool) : PyData.eqv (.bool a) (.bool b) = (a == b) := by simp [PyData.eqv]
theorem eqv_lot (a b : List Nat) : PyData.eqv (lotD a) (lotD b) = decide (a = b) := by
  have key : ∀ a b : List Nat, PyData.eqvAll (natD a) (natD b) = decide (a = b) := by
    intro a
    induction a with
    | nil => intro b; cases b <;> simp [natD, PyData.eqvAll]
    | cons x a ih =>
      intro b
      cases b with
      | nil => simp [natD, PyData.eqvAll]
      | cons y b =>
        have := ih b
        simp only [natD] at this
        simp only [natD, List.map_cons, PyData.eqvAll, eqv_int, this]
        rw [Bool.eq_iff_iff]
        simp
        omega
  unfold lotD
  simp only [PyData.eqv, key]
theorem any_lot (ls : List (List Nat)) (c : List Nat) : ((ls.map lotD).any fun z => PyData.eqv z (lotD c)) = decide (c ∈ ls) := by
  rw [Bool.eq_iff_iff, List.any_eq_true, decide_eq_true_iff]
  constructor
  · rintro ⟨z, hz, e⟩
    obtain ⟨b, hb, rfl⟩ := List.mem_map.mp hz
    rw [eqv_lot, decide_eq_true_iff] at e
    rw [← e]; exact hb
  · intro h
    exact ⟨_, List.mem_map.mpr ⟨c, h, rfl⟩, by rw [eqv_lot]; simp⟩
theorem sh_lots (ls : List (List Nat)) : Sh 4 (.list (ls.map lotD)) := sh_l (n := 3) fun x hx => by obtain ⟨c, _, rfl⟩ := List.mem_map.mp hx; exact sh_lot c
theorem sh_nats (l : List Nat) : Sh 4 (.list (natD l)) := sh_l (n := 3) fun x hx => by obtain ⟨c, _, rfl⟩ := List.mem_map.mp hx; exact sh_i _
theorem sh_hung (ns : List Nat) : Sh 4 (hungD ns) := sh_t (n := 3) fun x hx => by obtain ⟨c, _, rfl⟩ := List.mem_map.mp hx; exact sh_lot c
theorem eqv_lots (ls : List (List Nat)) : PyData.eqv (.list (ls.map lotD)) (.list []) = ls.isEmpty := by rw [eqv_lnil]; simp
theorem loose_empty {d : Deal} (h : Drawn d) : d.loose.isNone = (looseL d).isEmpty := by
  rw [Bool.eq_iff_iff, Option.isNone_iff_eq_none, List.isEmpty_iff, loose_none h.ok, looseL_nil h.ok]
theorem alone_empty {d : Deal} (h : Drawn d) : PyData.eqv (.list (natD (aloneL d))) (.list []) = (looseL d).isEmpty := by
  rw [eqv_lnil, Bool.eq_iff_iff, List.isEmpty_iff, List.isEmpty_iff, looseL_nil h.ok, ← aloneL_nil h.ok h.un]
  simp [natD]
def gotD (d : Deal) : PyData := .list [.list ((cuts d.n).map fun c => .bool (decide (c ∈ looseL d))), .bool (!(looseL d).isEmpty), .bool false]
theorem sh_got (d : Deal) : Sh 12 (gotD d) := by
  refine sh_l (n := 11) fun x hx => ?_
  simp only [List.mem_cons, List.not_mem_nil, or_false] at hx
  rcases hx with rfl | rfl | rfl
  · exact sh_l (n := 10) fun x hx => by obtain ⟨c, _, rfl⟩ := List.mem_map.mp hx; exact sh_b _
  · exact sh_b _
  · exact sh_b _
def Due (d : Deal) (x : PyData) : Prop := (∀ l, d.loose = some l → x = .list [.str "loose", .bool true]) ∧ (d.loose = none → d.near.length < d.n → x = .list [.str "afloat", lotD d.rest]) ∧ (d.loose = none → d.n ≤ d.near.length → x = d.D)
theorem can_loose : PyData.canLay0 (.str "loose") = true := by decide +kernel
theorem can_afloat : PyData.canLay0 (.str "afloat") = true := by decide +kernel
theorem can_room : PyData.canLay0 (.str "room") = true := by decide +kernel
theorem sh_pair {n : Nat} {a b : PyData} (h1 : Sh n a) (h2 : Sh n b) : Sh (n + 1) (.list [a, b]) := sh_l fun x hx => by
  simp only [List.mem_cons, List.not_mem_nil, or_false] at hx
  rcases hx with rfl | rfl <;> assumption
theorem sh_four {n : Nat} {a b c e : PyData} (h1 : Sh n a) (h2 : Sh n b) (h3 : Sh n c) (h4 : Sh n e) : Sh (n + 1) (.list [a, b, c, e]) := sh_l fun x hx => by
  simp only [List.mem_cons, List.not_mem_nil, or_false] at hx
  rcases hx with rfl | rfl | rfl | rfl <;> assumption
theorem loose_true {d : Deal} (h : Drawn d) {l : List Nat} (e : d.loose = some l) : d.isLoose l = true := by
  have := loose_some h.ok e
  rw [isLoose_mem (looseL_cuts this)]
  exact decide_eq_true this
theorem stands_eq {d : Deal} (h : Drawn d) (hf : d.Feas) : d.standsB = ((looseL d).isEmpty && decide (d.lots.length = 1)) := by
  classical
  have e := loose_empty h
  unfold Deal.standsB
  rw [Bool.eq_iff_iff, Bool.and_eq_true, decide_eq_true_iff, decide_eq_true_iff, ← e, Option.isNone_iff_eq_none]
  exact ⟨fun z => z.2.2, fun z => ⟨lots_rules z.2, hf, z⟩⟩
def RightC (u : Addr) : DSt := fun P g δ => ∃ (d : Deal) (wr : Bool) (x2 x3 x4 x10 x11 x12 x13 x14 x16 x17 x18 : Sv), δ = [.raw (.ref u), .dat (.int (d.n : Int)), x2, x3, x4, .dat d.D, .dat (.bool wr), .dat (.list ((looseL d).map lotD)), .dat (.list (natD (aloneL d))), .dat (optD d.loose), x10, x11, x12, x13, x14, .dat d.L, x16, x17, x18] ∧ Drawn d ∧ (wr = false ↔ d.Feas) ∧ P.rt g (.bool true)
def RightD (u : Addr) : DSt := fun P g δ => ∃ (d : Deal) (wr : Bool) (x2 x3 x4 x11 x12 x13 x14 x16 x17 x18 : Sv), δ = [.raw (.ref u), .dat (.int (d.n : Int)), x2, x3, x4, .dat d.D, .dat (.bool wr), .dat (.list ((looseL d).map lotD)), .dat (.list (natD (aloneL d))), .dat (optD d.loose), .dat (gotD d), x11, x12, x13, x14, .dat d.L, x16, x17, x18] ∧ Drawn d ∧ (wr = false ↔ d.Feas) ∧ P.rt g (.bool true)
def RightF (u : Addr) : DSt := fun P g δ => ∃ (d : Deal) (wr : Bool) (x2 x3 x4 x10 x11 x12 x13 x14 x16 x17 x18 : Sv), δ = [.raw (.ref u), .dat (.int (d.n : Int)), x2, x3, x4, .dat d.D, .dat (.bool wr), .dat (.list ((looseL d).map lotD)), .dat (.list (natD (aloneL d))), .dat (optD d.loose), x10, x11, x12, x13, x14, .dat d.L, x16, x17, x18] ∧ Drawn d ∧ (wr = false ↔ d.Feas) ∧ d.Feas ∧ P.rt g (.bool true)
def RightG (u : Addr) : DSt := fun P g δ => ∃ (d : Deal) (wr : Bool) (x2 x3 x4 x10 x12 x13 x14 x16 x17 x18 : Sv), δ = [.raw (.ref u), .dat (.int (d.n : Int)), x2, x3, x4, .dat d.D, .dat (.bool wr), .dat (.list ((looseL d).map lotD)), .dat (.list (natD (aloneL d))), .dat (optD d.loose), x10, .dat (hungD (Nm.namesOf d.n d.ties)), x12, x13, x14, .dat d.L, x16, x17, x18] ∧ Drawn d ∧ (wr = false ↔ d.Feas) ∧ d.Feas ∧ P.rt g (.bool true)
def RightH (u : Addr) : DSt := fun P g δ => ∃ (d : Deal) (wr : Bool) (due : PyData) (x2 x3 x4 x10 x11 x14 x16 x17 x18 : Sv), δ = [.raw (.ref u), .dat (.int (d.n : Int)), x2, x3, x4, .dat d.D, .dat (.bool wr), .dat (.list ((looseL d).map lotD)), .dat (.list (natD (aloneL d))), .dat (optD d.loose), x10, x11, .dat (.bool d.standsB), .dat due, x14, .dat d.L, x16, x17, x18] ∧ Drawn d ∧ (wr = false ↔ d.Feas) ∧ d.Feas ∧ Due d due ∧ Sh 8 due ∧ P.rt g (.bool true)
theorem rightH {u f : Addr} {cdv : Value} {A : Around} {outer : List Env} {s : Shared} {H : Hp} {E : XK} (hr : Room 18 (A.deeper (envOfC "_law_right" (defScope s_law_right) s.heap.objs.size f cdv))) (B : Bi K mg) (c_stands : Ca P w K mg base 17 "stands" (spD K 1 F_stands)) (c_law_same : Ca P w K mg base 13 "_law_same" (spD K 2 (F_law_same 12))) (c_law_heard : Ca P w K mg base 18 "_law_heard" (spD K 1 F_law_heard)) :
    DSs (cx2 P w K mg base ["_law_urn", "_law_many", "_law_spots_here", "_law_hard", "_law_counted", "_law_deal", "_law_wrong_so", "_law_lots", "_law_alone", "_law_told", "_law_got", "_law_hung_so", "_law_good", "_law_due", "_law_row", "_law_soft", "_law_every", "_law_own", "_law_k"] "_law_right" (defScope s_law_right) f cdv A outer s H E true []) (some u) ((defBody s_law_right).drop 20) (RightH u) := by
  have m := md_calm (cx2 P w K mg base ["_law_urn", "_law_many", "_law_spots_here", "_law_hard", "_law_counted", "_law_deal", "_law_wrong_so", "_law_lots", "_law_alone", "_law_told", "_law_got", "_law_hung_so", "_law_good", "_law_due", "_law_row", "_law_soft", "_law_every", "_law_own", "_law_k"] "_law_right" (defScope s_law_right) f cdv A outer s H E true []) rfl rfl
  have r : Rm (cx2 P w K mg base ["_law_urn", "_law_many", "_law_spots_here", "_law_hard", "_law_counted", "_law_deal", "_law_wrong_so", "_law_lots", "_law_alone", "_law_told", "_law_got", "_law_hung_so", "_law_good", "_law_due", "_law_row", "_law_soft", "_law_every", "_law_own", "_law_k"] "_law_right" (defScope s_law_right) f cdv A outer s H E true []) 18 := rm_calm hr
  refine dss_mono ((ds_one (ds_ret (de_call (n := 2) c_law_same hr (by decide) (da_cons (de_of (df_lst (da_cons (de_call (n := 1) c_stands hr (by decide) (da_cons (de_var 5) da_nil)) (da_cons (de_call (n := 1) c_stands hr (by decide) (da_cons (de_var 15) da_nil)) (da_cons (de_call (n := 1) c_law_heard hr (by decide) (da_cons (de_var 5) da_nil)) (da_cons (de_call (n := 1) c_law_heard hr (by decide) (da_cons (de_var 15) da_nil)) da_nil)))))) (da_cons (de_of (df_lst (da_cons (de_var 12) (da_cons (de_var 12) (da_cons (de_var 13) (da_cons (de_var 13) da_nil)))))) da_nil)))))) ?_
  rintro P g δ ⟨d, wr, due, x2, x3, x4, x10, x11, x14, x16, x17, x18, rfl, hd, hw, hf, hdue, hsd, h⟩
  have hok := hd.ok
  have hsz : sizeLine = 16777216 := sizeLine_eq
  obtain ⟨hd1, hd2, hd3⟩ := hdue
  have hrd : ∀ (s : PyData) (Q : PyData → Prop), d.At s → Q due → F_law_heard [s] Q := fun s Q hs q => ⟨d, s, rfl, hs, hok, fun z => absurd hf z, fun _ l e => by rw [loose_true hd e, ← hd1 l e]; exact q, fun _ e e2 => by rw [← hd2 e e2]; exact q, fun _ e e2 => by rw [← hd3 e e2]; exact q⟩
  refine ⟨_, rfl, rfl, d, d.D, rfl, .inl rfl, hok, _, rfl, rfl, d, d.L, rfl, .inr rfl, hok, _, rfl, rfl, hrd _ _ (.inl rfl) ⟨_, rfl, rfl, hrd _ _ (.inr rfl) ?_⟩⟩
  refine ⟨by simp [hsz], _, rfl, _, rfl, _, rfl, _, rfl, by simp [hsz], rfl, _, rfl, ?_, h⟩
  exact sh_four (n := 11) (sh_b _) (sh_b _) (hsd.mono (by decide)) (hsd.mono (by decide))
theorem rightG {u f : Addr} {cdv : Value} {A : Around} {outer : List Env} {s : Shared} {H : Hp} {E : XK} (hr : Room 18 (A.deeper (envOfC "_law_right" (defScope s_law_right) s.heap.objs.size f cdv))) (B : Bi K mg) (c_stands : Ca P w K mg base 17 "stands" (spD K 1 F_stands)) (c_law_same : Ca P w K mg base 13 "_law_same" (spD K 2 (F_law_same 12))) (c_law_heard : Ca P w K mg base 18 "_law_heard" (spD K 1 F_law_heard)) :
    DSs (cx2 P w K mg base ["_law_urn", "_law_many", "_law_spots_here", "_law_hard", "_law_counted", "_law_deal", "_law_wrong_so", "_law_lots", "_law_alone", "_law_told", "_law_got", "_law_hung_so", "_law_good", "_law_due", "_law_row", "_law_soft", "_law_every", "_law_own", "_law_k"] "_law_right" (defScope s_law_right) f cdv A outer s H E true []) (some u) ((defBody s_law_right).drop 18) (RightG u) := by
  have m := md_calm (cx2 P w K mg base ["_law_urn", "_law_many", "_law_spots_here", "_law_hard", "_law_counted", "_law_deal", "_law_wrong_so", "_law_lots", "_law_alone", "_law_told", "_law_got", "_law_hung_so", "_law_good", "_law_due", "_law_row", "_law_soft", "_law_every", "_law_own", "_law_k"] "_law_right" (defScope s_law_right) f cdv A outer s H E true []) rfl rfl
  have r : Rm (cx2 P w K mg base ["_law_urn", "_law_many", "_law_spots_here", "_law_hard", "_law_counted", "_law_deal", "_law_wrong_so", "_law_lots", "_law_alone", "_law_told", "_law_got", "_law_hung_so", "_law_good", "_law_due", "_law_row", "_law_soft", "_law_every", "_law_own", "_law_k"] "_law_right" (defScope s_law_right) f cdv A outer s H E true []) 18 := rm_calm hr
  refine dss_mono ((ds_cons (ds_set 12 sc_law_right.nd (de_and (de_cmp (op_eqD r.hu64) good_eq (de_var 7) (de_of (df_lst da_nil))) (de_one (de_cmp (op_eqD r.hu64) good_eq (de_callB call_len good_len B.n_len (da_cons (de_var 11) da_nil)) de_int))))
  (ds_cons (ds_set 13 sc_law_right.nd (de_if (dt_val (de_var 12)) (de_var 5) (de_if (dt_cmp (op_neD r.hu64) good_ne (de_var 7) (de_of (df_lst da_nil))) (de_of (df_lst (da_cons de_str (da_cons de_bl da_nil)))) (de_of (df_lst (da_cons de_str (da_cons (de_callTy call_tuple_of good_tup B.n_tuple (da_cons (de_of (df_lc (own := [("_law_k", 18)]) m sc_law_right.nd (di_range1 B.n_range (de_var 1)) (blkOk_by (N := ["_law_urn", "_law_many", "_law_spots_here", "_law_hard", "_law_counted", "_law_deal", "_law_wrong_so", "_law_lots", "_law_alone", "_law_told", "_law_got", "_law_hung_so", "_law_good", "_law_due", "_law_row", "_law_soft", "_law_every", "_law_own", "_law_k"]) (sc := (defScope s_law_right)) (by decide +kernel)) (fun _ _ _ _ _ => (dg_name 18 sc_law_right.nd)) (fun _ _ _ _ _ => (dtt_one (dt_cmp op_notIn_seq (good_inI (neg := true)) (de_var 18) (de_ix (de_var 11) de_int)))) (fun _ _ _ _ _ => (de_var 18)))) da_nil)) da_nil)))))))
  (rightH hr B c_stands c_law_same c_law_heard)))) ?_
  rintro P g δ ⟨d, wr, x2, x3, x4, x10, x12, x13, x14, x16, x17, x18, rfl, hd, hw, hf, h⟩
  have hok := hd.ok
  have hsz : sizeLine = 16777216 := sizeLine_eq
  have hst := stands_eq hd hf
  have hlo := loose_empty hd
  have hna := near_all hok
  refine ⟨_, rfl, Nat.zero_le _, (sh_lots _).sh, shp_lnil, _, rfl, ?_⟩
  try dsimp only
  rw [eqv_lots]
  by_cases hl : (looseL d).isEmpty = true
  · rw [if_pos hl]
    have hn : d.loose = none := by rw [← Option.isNone_iff_eq_none, hlo]; exact hl
    refine ⟨_, rfl, ?_⟩
    unfold hungD
    rw [wLen_t]
    refine ⟨shp_int _, shp_int _, _, rfl, _, rfl, ?_⟩
    have elen : ((Nm.lotsOf (Nm.namesOf d.n d.ties)).map lotD).length = d.lots.length := List.length_map _
    try dsimp only
    rw [elen, eqv_int]
    have ed : decide ((d.lots.length : Int) = 1) = decide (d.lots.length = 1) := by
      by_cases z : d.lots.length = 1
      · rw [decide_eq_true z, decide_eq_true (by omega)]
      · rw [decide_eq_false z, decide_eq_false (by omega)]
    rw [ed]
    rw [hl, Bool.true_and] at hst
    rw [← hst]
    by_cases h1 : d.lots.length = 1
    · rw [if_pos (by rw [hst]; exact decide_eq_true h1)]
      exact ⟨_, rfl, d, wr, d.D, x2, x3, x4, _, _, x14, x16, x17, x18, rfl, hd, hw, hf, ⟨fun l e => (by rw [hn] at e; cases e), fun _ e => by have := hna.mpr h1; omega, fun _ _ => rfl⟩, hok.shD.mono (by decide), h⟩
    · rw [if_neg (by rw [hst]; simpa using h1)]
      refine ⟨_, rfl, Nat.zero_le _, (sh_lots _).sh, shp_lnil, _, rfl, ?_⟩
      try dsimp only
      rw [eqv_lots, hl, if_neg (by decide)]
      have hn5 := hd.n5
      refine ⟨_, rfl, _, rfl, by omega, by omega, ?_⟩
      rw [rgD_map]
      have hd0 : d.lots = d.near :: d.lots.tail := by
        unfold Deal.near
        cases e : d.lots with
        | nil =>
          have h2 := Nm.kept_names d.n d.ties
          have h3 : d.near.length = 0 := by unfold Deal.near; rw [e]; rfl
          exfalso
          have o := Nm.names_ok hok.ties
          have h0 : (Nm.namesOf d.n d.ties).getD 0 0 ∈ Nm.namesOf d.n d.ties := by
            rw [List.getD_eq_getElem?_getD, List.getElem?_eq_getElem (by rw [o.len]; exact hok.pos)]
            exact List.getElem_mem _
          have h4 : (Nm.namesOf d.n d.ties).getD 0 0 ∈ Nm.kept (Nm.namesOf d.n d.ties) := by
            unfold Nm.kept
            rw [List.mem_filter, List.mem_range, decide_eq_true_iff, o.len]
            exact ⟨names_lt o _ h0, h0⟩
          unfold Deal.lots Nm.lotsOf at e
          rw [List.map_eq_nil_iff] at e
          rw [e] at h4; cases h4
        | cons a b => rfl
      refine compD_map (t := fun k => !decide (k ∈ d.near)) (f := fun (k : Nat) => .int (k : Int)) _ (fun k hk => ⟨_, rfl, by simp, fun kk g q => ?_, fun _ kk g q => ?_⟩) ?_
      · refine ⟨_, rfl, _, rfl, ?_⟩
        show wIx (.tuple _) _ _
        rw [wIx_t]
        have e1 : Nm.lotsOf (Nm.namesOf d.n d.ties) = d.near :: d.lots.tail := hd0
        refine ⟨lotD d.near, by rw [e1]; exact at0 _ _, ?_⟩
        rw [wInI_nat]
        refine ⟨_, rfl, ?_⟩
        exact q
      · exact ⟨_, rfl, q⟩
      · rw [List.nil_append]
        refine ⟨_, .inl rfl, by simp [hsz], d, wr, _, x2, x3, x4, _, _, x14, x16, x17, x18, rfl, hd, hw, hf, ⟨fun l e => (by rw [hn] at e; cases e), fun _ _ => rfl, fun _ e => absurd (hna.mp e) h1⟩, ?_, h⟩
        exact sh_pair (n := 7) (sh_s can_afloat) (sh_lot (n := 6) _)
  · rw [if_neg hl]
    have hs : d.standsB = false := by rw [hst, Bool.eq_false_iff.mpr hl]; rfl
    refine ⟨_, rfl, _, rfl, ?_⟩
    rw [if_neg (by decide)]
    refine ⟨_, rfl, Nat.zero_le _, (sh_lots _).sh, shp_lnil, _, rfl, ?_⟩
    try dsimp only
    rw [eqv_lots, Bool.eq_false_iff.mpr hl, if_pos (by decide), ← hs]
    have hn : d.loose ≠ none := fun z => hl (by rw [← hlo, z]; rfl)
    exact ⟨by simp [hsz], d, wr, _, x2, x3, x4, _, _, x14, x16, x17, x18, rfl, hd, hw, hf, ⟨fun l e => rfl, fun e => absurd e hn, fun e => absurd e hn⟩, sh_pair (n := 7) (sh_s can_loose) (sh_b _), h⟩
theorem rightF {u f : Addr} {cdv : Value} {A : Around} {outer : List Env} {s : Shared} {H : Hp} {E : XK} (hr : Room 18 (A.deeper (envOfC "_law_right" (defScope s_law_right) s.heap.objs.size f cdv))) (B : Bi K mg) (c_hung_lots : Ca P w K mg base 16 "hung_lots" (spD K 1 F_hung_lots)) (c_stands : Ca P w K mg base 17 "stands" (spD K 1 F_stands)) (c_law_same : Ca P w K mg base 13 "_law_same" (spD K 2 (F_law_same 12))) (c_law_lone_lots : Ca P w K mg base 5 "_law_lone_lots" (spD K 1 F_law_lone_lots)) (c_law_heard : Ca P w K mg base 18 "_law_heard" (spD K 1 F_law_heard)) :
    DSs (cx2 P w K mg base ["_law_urn", "_law_many", "_law_spots_here", "_law_hard", "_law_counted", "_law_deal", "_law_wrong_so", "_law_lots", "_law_alone", "_law_told", "_law_got", "_law_hung_so", "_law_good", "_law_due", "_law_row", "_law_soft", "_law_every", "_law_own", "_law_k"] "_law_right" (defScope s_law_right) f cdv A outer s H E true []) (some u) ((defBody s_law_right).drop 16) (RightF u) := by
  have m := md_calm (cx2 P w K mg base ["_law_urn", "_law_many", "_law_spots_here", "_law_hard", "_law_counted", "_law_deal", "_law_wrong_so", "_law_lots", "_law_alone", "_law_told", "_law_got", "_law_hung_so", "_law_good", "_law_due", "_law_row", "_law_soft", "_law_every", "_law_own", "_law_k"] "_law_right" (defScope s_law_right) f cdv A outer s H E true []) rfl rfl
  have r : Rm (cx2 P w K mg base ["_law_urn", "_law_many", "_law_spots_here", "_law_hard", "_law_counted", "_law_deal", "_law_wrong_so", "_law_lots", "_law_alone", "_law_told", "_law_got", "_law_hung_so", "_law_good", "_law_due", "_law_row", "_law_soft", "_law_every", "_law_own", "_law_k"] "_law_right" (defScope s_law_right) f cdv A outer s H E true []) 18 := rm_calm hr
  refine dss_mono ((ds_cons (ds_set 11 sc_law_right.nd (de_call (n := 1) c_law_lone_lots hr (by decide) (da_cons (de_var 5) da_nil)))
  (ds_cons (ds_if (dt_not (dt_val (de_call (n := 2) c_law_same hr (by decide) (da_cons (de_of (df_lst (da_cons (de_call (n := 1) c_hung_lots hr (by decide) (da_cons (de_var 5) da_nil)) (da_cons (de_call (n := 1) c_hung_lots hr (by decide) (da_cons (de_var 15) da_nil)) da_nil)))) (da_cons (de_of (df_lst (da_cons (de_var 11) (da_cons (de_var 11) da_nil)))) da_nil))))) (ds_one (ds_ret de_bl)) ds_nil)
  (rightG hr B c_stands c_law_same c_law_heard)))) ?_
  rintro P g δ ⟨d, wr, x2, x3, x4, x10, x11, x12, x13, x14, x16, x17, x18, rfl, hd, hw, hf, h⟩
  have hok := hd.ok
  have hsz : sizeLine = 16777216 := sizeLine_eq
  refine ⟨_, rfl, rfl, d, rfl, hok, hd.n2, hd.n5, hd.nm, hd.nh, ?_⟩
  try dsimp only
  rw [← names_eq hok hd.un hf]
  refine ⟨_, rfl, rfl, d, d.D, rfl, .inl rfl, hok, hf, _, rfl, rfl, d, d.L, rfl, .inr rfl, hok, hf, ?_⟩
  refine ⟨by simp [hsz], _, rfl, _, rfl, by simp [hsz], rfl, _, rfl, (sh_pair (n := 4) (sh_hung _) (sh_hung _)).mono (by decide), _, rfl, ?_⟩
  rw [if_neg (by decide)]
  exact ⟨d, wr, x2, x3, x4, x10, x12, x13, x14, x16, x17, x18, rfl, hd, hw, hf, h⟩
theorem rightE {u f : Addr} {cdv : Value} {A : Around} {outer : List Env} {s : Shared} {H : Hp} {E : XK} (hr : Room 18 (A.deeper (envOfC "_law_right" (defScope s_law_right) s.heap.objs.size f cdv))) (B : Bi K mg) (c_hung_lots : Ca P w K mg base 16 "hung_lots" (spD K 1 F_hung_lots)) (c_stands : Ca P w K mg base 17 "stands" (spD K 1 F_stands)) (c_law_same : Ca P w K mg base 13 "_law_same" (spD K 2 (F_law_same 12))) (c_law_lone_lots : Ca P w K mg base 5 "_law_lone_lots" (spD K 1 F_law_lone_lots)) (c_law_heard : Ca P w K mg base 18 "_law_heard" (spD K 1 F_law_heard)) :
    DSs (cx2 P w K mg base ["_law_urn", "_law_many", "_law_spots_here", "_law_hard", "_law_counted", "_law_deal", "_law_wrong_so", "_law_lots", "_law_alone", "_law_told", "_law_got", "_law_hung_so", "_law_good", "_law_due", "_law_row", "_law_soft", "_law_every", "_law_own", "_law_k"] "_law_right" (defScope s_law_right) f cdv A outer s H E true []) (some u) ((defBody s_law_right).drop 15) (RightC u) := by
  have m := md_calm (cx2 P w K mg base ["_law_urn", "_law_many", "_law_spots_here", "_law_hard", "_law_counted", "_law_deal", "_law_wrong_so", "_law_lots", "_law_alone", "_law_told", "_law_got", "_law_hung_so", "_law_good", "_law_due", "_law_row", "_law_soft", "_law_every", "_law_own", "_law_k"] "_law_right" (defScope s_law_right) f cdv A outer s H E true []) rfl rfl
  have r : Rm (cx2 P w K mg base ["_law_urn", "_law_many", "_law_spots_here", "_law_hard", "_law_counted", "_law_deal", "_law_wrong_so", "_law_lots", "_law_alone", "_law_told", "_law_got", "_law_hung_so", "_law_good", "_law_due", "_law_row", "_law_soft", "_law_every", "_law_own", "_law_k"] "_law_right" (defScope s_law_right) f cdv A outer s H E true []) 18 := rm_calm hr
  refine dss_mono ((ds_cons (ds_if (dt_val (de_var 6)) (ds_one (ds_ret (de_call (n := 2) c_law_same hr (by decide) (da_cons (de_of (df_lst (da_cons (de_call (n := 1) c_stands hr (by decide) (da_cons (de_var 5) da_nil)) (da_cons (de_call (n := 1) c_stands hr (by decide) (da_cons (de_var 15) da_nil)) (da_cons (de_call (n := 1) c_law_heard hr (by decide) (da_cons (de_var 5) da_nil)) (da_cons (de_call (n := 1) c_law_heard hr (by decide) (da_cons (de_var 15) da_nil)) da_nil)))))) (da_cons (de_of (df_lst (da_cons de_bl (da_cons de_bl (da_cons (de_of (df_lst (da_cons de_str (da_cons de_bl da_nil)))) (da_cons (de_of (df_lst (da_cons de_str (da_cons de_bl da_nil)))) da_nil)))))) da_nil))))) ds_nil)
  (rightF hr B c_hung_lots c_stands c_law_same c_law_lone_lots c_law_heard))) ?_
  rintro P g δ ⟨d, wr, x2, x3, x4, x10, x11, x12, x13, x14, x16, x17, x18, rfl, hd, hw, h⟩
  have hok := hd.ok
  have hsz : sizeLine = 16777216 := sizeLine_eq
  refine ⟨_, rfl, wr, rfl, ?_⟩
  cases wr with
  | false =>
    rw [if_neg (by decide)]
    exact ⟨d, false, x2, x3, x4, x10, x11, x12, x13, x14, x16, x17, x18, rfl, hd, hw, hw.mp rfl, h⟩
  | true =>
    rw [if_pos rfl]
    have hn : ¬ d.Feas := fun z => by have := hw.mpr z; cases this
    have hs : d.standsB = false := stands_no fun z => hn z.2.1
    have hrd : ∀ (s : PyData) (Q : PyData → Prop), d.At s → Q (.list [.str "room", .bool true]) → F_law_heard [s] Q := fun s Q hs q => ⟨d, s, rfl, hs, hok, fun _ => q, fun z => absurd z hn, fun z => absurd z hn, fun z => absurd z hn⟩
    refine ⟨_, rfl, rfl, d, d.D, rfl, .inl rfl, hok, ?_⟩
    rw [hs]
    refine ⟨_, rfl, rfl, d, d.L, rfl, .inr rfl, hok, ?_⟩
    rw [hs]
    refine ⟨_, rfl, rfl, hrd _ _ (.inl rfl) ⟨_, rfl, rfl, hrd _ _ (.inr rfl) ?_⟩⟩
    refine ⟨by simp [hsz], by simp [hsz], by simp [hsz], by simp [hsz], rfl, _, rfl, ?_, h⟩
    exact sh_four (n := 11) (sh_b _) (sh_b _) (sh_pair (n := 10) (sh_s can_room) (sh_b _)) (sh_pair (n := 10) (sh_s can_room) (sh_b _))
theorem rightD {u f : Addr} {cdv : Value} {A : Around} {outer : List Env} {s : Shared} {H : Hp} {E : XK} (hr : Room 18 (A.deeper (envOfC "_law_right" (defScope s_law_right) s.heap.objs.size f cdv))) (B : Bi K mg) (c_hung_lots : Ca P w K mg base 16 "hung_lots" (spD K 1 F_hung_lots)) (c_stands : Ca P w K mg base 17 "stands" (spD K 1 F_stands)) (c_law_same : Ca P w K mg base 13 "_law_same" (spD K 2 (F_law_same 12))) (c_law_lone_lots : Ca P w K mg base 5 "_law_lone_lots" (spD K 1 F_law_lone_lots)) (c_law_cuts : Ca P w K mg base 1 "_law_cuts" (spD K 1 F_law_cuts)) (c_law_heard : Ca P w K mg base 18 "_law_heard" (spD K 1 F_law_heard)) :
    DSs (cx2 P w K mg base ["_law_urn", "_law_many", "_law_spots_here", "_law_hard", "_law_counted", "_law_deal", "_law_wrong_so", "_law_lots", "_law_alone", "_law_told", "_law_got", "_law_hung_so", "_law_good", "_law_due", "_law_row", "_law_soft", "_law_every", "_law_own", "_law_k"] "_law_right" (defScope s_law_right) f cdv A outer s H E true []) (some u) ((defBody s_law_right).drop 14) (RightD u) := by
  have m := md_calm (cx2 P w K mg base ["_law_urn", "_law_many", "_law_spots_here", "_law_hard", "_law_counted", "_law_deal", "_law_wrong_so", "_law_lots", "_law_alone", "_law_told", "_law_got", "_law_hung_so", "_law_good", "_law_due", "_law_row", "_law_soft", "_law_every", "_law_own", "_law_k"] "_law_right" (defScope s_law_right) f cdv A outer s H E true []) rfl rfl
  have r : Rm (cx2 P w K mg base ["_law_urn", "_law_many", "_law_spots_here", "_law_hard", "_law_counted", "_law_deal", "_law_wrong_so", "_law_lots", "_law_alone", "_law_told", "_law_got", "_law_hung_so", "_law_good", "_law_due", "_law_row", "_law_soft", "_law_every", "_law_own", "_law_k"] "_law_right" (defScope s_law_right) f cdv A outer s H E true []) 18 := rm_calm hr
  refine dss_mono ((ds_cons (ds_if (dt_not (dt_val (de_call (n := 2) c_law_same hr (by decide) (da_cons (de_var 10) (da_cons (de_of (df_lst (da_cons (de_of (df_lc (own := [("_law_own", 17)]) m sc_law_right.nd (di_list (de_call (n := 1) c_law_cuts hr (by decide) (da_cons (de_var 1) da_nil))) (blkOk_by (N := ["_law_urn", "_law_many", "_law_spots_here", "_law_hard", "_law_counted", "_law_deal", "_law_wrong_so", "_law_lots", "_law_alone", "_law_told", "_law_got", "_law_hung_so", "_law_good", "_law_due", "_law_row", "_law_soft", "_law_every", "_law_own", "_law_k"]) (sc := (defScope s_law_right)) (by decide +kernel)) (fun _ _ _ _ _ => (dg_name 17 sc_law_right.nd)) (fun _ _ _ _ _ => dtt_nil) (fun _ _ _ _ _ => (de_cmp (op_inD r.hu65) good_inD (de_var 17) (de_var 7))))) (da_cons (de_cmp (op_neD r.hu64) good_ne (de_var 7) (de_of (df_lst da_nil))) (da_cons de_bl da_nil))))) da_nil))))) (ds_one (ds_ret de_bl)) ds_nil)
  (rightE hr B c_hung_lots c_stands c_law_same c_law_lone_lots c_law_heard))) ?_
  rintro P g δ ⟨d, wr, x2, x3, x4, x11, x12, x13, x14, x16, x17, x18, rfl, hd, hw, h⟩
  have hok := hd.ok
  have hsz : sizeLine = 16777216 := sizeLine_eq
  refine ⟨_, rfl, _, rfl, rfl, d.n, rfl, hd.n2, hd.n5, _, rfl, ?_⟩
  refine compD_all (emb := lotD) (f := fun c => .bool (decide (c ∈ looseL d))) (cuts d.n) (fun c hc => ⟨_, rfl, by simp, fun kk g q => ⟨_, rfl, _, rfl, _, rfl, (sh_lot (n := 3) c).sh, (sh_lots _).sh, ?_⟩⟩) ?_
  · rw [any_lot]; exact q
  rw [List.nil_append]
  refine ⟨_, rfl, Nat.zero_le _, (sh_lots _).sh, shp_lnil, ?_⟩
  try dsimp only
  rw [eqv_lots]
  refine ⟨by simp [hsz], rfl, gotD d, rfl, sh_got d, _, rfl, ?_⟩
  rw [if_neg (by decide)]
  exact ⟨d, wr, x2, x3, x4, _, x11, x12, x13, x14, x16, x17, x18, rfl, hd, hw, h⟩
theorem rightD1 {u f : Addr} {cdv : Value} {A : Around} {outer : List Env} {s : Shared} {H : Hp} {E : XK} (hr : Room 18 (A.deeper (envOfC "_law_right" (defScope s_law_right) s.heap.objs.size f cdv))) (B : Bi K mg) (c_hung_lots : Ca P w K mg base 16 "hung_lots" (spD K 1 F_hung_lots)) (c_is_loose_lot : Ca2 P w K mg base 14 "is_loose_lot" (spD K 2 F_is_loose_lot)) (c_stands : Ca P w K mg base 17 "stands" (spD K 1 F_stands)) (c_law_same : Ca P w K mg base 13 "_law_same" (spD K 2 (F_law_same 12))) (c_law_lone_lots : Ca P w K mg base 5 "_law_lone_lots" (spD K 1 F_law_lone_lots)) (c_law_cuts : Ca P w K mg base 1 "_law_cuts" (spD K 1 F_law_cuts)) (c_law_heard : Ca P w K mg base 18 "_law_heard" (spD K 1 F_law_heard)) :
    DSs (cx2 P w K mg base ["_law_urn", "_law_many", "_law_spots_here", "_law_hard", "_law_counted", "_law_deal", "_law_wrong_so", "_law_lots", "_law_alone", "_law_told", "_law_got", "_law_hung_so", "_law_good", "_law_due", "_law_row", "_law_soft", "_law_every", "_law_own", "_law_k"] "_law_right" (defScope s_law_right) f cdv A outer s H E true []) (some u) ((defBody s_law_right).drop 13) (RightC u) := by
  have m := md_calm (cx2 P w K mg base ["_law_urn", "_law_many", "_law_spots_here", "_law_hard", "_law_counted", "_law_deal", "_law_wrong_so", "_law_lots", "_law_alone", "_law_told", "_law_got", "_law_hung_so", "_law_good", "_law_due", "_law_row", "_law_soft", "_law_every", "_law_own", "_law_k"] "_law_right" (defScope s_law_right) f cdv A outer s H E true []) rfl rfl
  have r : Rm (cx2 P w K mg base ["_law_urn", "_law_many", "_law_spots_here", "_law_hard", "_law_counted", "_law_deal", "_law_wrong_so", "_law_lots", "_law_alone", "_law_told", "_law_got", "_law_hung_so", "_law_good", "_law_due", "_law_row", "_law_soft", "_law_every", "_law_own", "_law_k"] "_law_right" (defScope s_law_right) f cdv A outer s H E true []) 18 := rm_calm hr
  refine dss_mono ((ds_cons (ds_set 10 sc_law_right.nd (de_of (df_lst (da_cons (de_of (df_lc (own := [("_law_own", 17)]) m sc_law_right.nd (di_list (de_call (n := 1) c_law_cuts hr (by decide) (da_cons (de_var 1) da_nil))) (blkOk_by (N := ["_law_urn", "_law_many", "_law_spots_here", "_law_hard", "_law_counted", "_law_deal", "_law_wrong_so", "_law_lots", "_law_alone", "_law_told", "_law_got", "_law_hung_so", "_law_good", "_law_due", "_law_row", "_law_soft", "_law_every", "_law_own", "_law_k"]) (sc := (defScope s_law_right)) (by decide +kernel)) (fun _ _ _ _ _ => (dg_name 17 sc_law_right.nd)) (fun _ _ _ _ _ => dtt_nil) (fun _ _ _ _ _ => (de_call (n := 2) c_is_loose_lot.ca hr (by decide) (da_cons (de_var 5) (da_cons (de_var 17) da_nil)))))) (da_cons (de_call (n := 2) c_is_loose_lot.ca hr (by decide) (da_cons (de_var 15) (da_cons (de_if (dt_cmp (op_neD r.hu64) good_ne (de_var 7) (de_of (df_lst da_nil))) (de_ix (de_var 7) de_int) (de_tup (da_cons de_int da_nil))) da_nil))) (da_cons (de_call (n := 2) c_is_loose_lot.ca hr (by decide) (da_cons (de_var 5) (da_cons (de_of (df_listRg2 rfl B.n_list B.n_range de_int (de_var 1))) da_nil))) da_nil))))))
  (rightD hr B c_hung_lots c_stands c_law_same c_law_lone_lots c_law_cuts c_law_heard))) ?_
  rintro P g δ ⟨d, wr, x2, x3, x4, x10, x11, x12, x13, x14, x16, x17, x18, rfl, hd, hw, h⟩
  have hok := hd.ok
  have hsz : sizeLine = 16777216 := sizeLine_eq
  refine ⟨_, rfl, rfl, d.n, rfl, hd.n2, hd.n5, _, rfl, ?_⟩
  have hl900 : ∀ c ∈ cuts d.n, c.length ≤ 900 := fun c hc => by
    have := (mem_cuts.mp hc).2.2
    have := hd.n5
    omega
  refine compD_all (emb := lotD) (f := fun c => .bool (decide (c ∈ looseL d))) (cuts d.n) (fun c hc => ⟨_, rfl, by simp, fun kk g q => ⟨_, rfl, _, rfl, rfl, d, d.D, .inl rfl, hok, .inr ⟨c, rfl, hl900 c hc, ?_⟩⟩⟩) ?_
  · rw [isLoose_mem hc]; exact q
  rw [List.nil_append]
  refine ⟨_, rfl, _, rfl, Nat.zero_le _, (sh_lots _).sh, shp_lnil, _, rfl, ?_⟩
  try dsimp only
  rw [eqv_lots]
  have hn5 := hd.n5
  cases hl : looseL d with
  | nil =>
    rw [if_neg (by decide)]
    refine ⟨by simp [hsz], rfl, d, d.L, .inr rfl, hok, .inr ⟨[0], rfl, by decide, ?_⟩⟩
    rw [isLoose_mem (zero_cut hd.n2), hl]
    refine ⟨_, rfl, _, rfl, 1, (d.n : Int), rfl, rfl, by omega, by have := hd.n2; omega, by omega, rfl, d, d.D, .inl rfl, hok, .inl ⟨_, rfl, ?_⟩⟩
    refine ⟨by simp [hsz], d, wr, x2, x3, x4, x11, x12, x13, x14, x16, x17, x18, ?_, hd, hw, h⟩
    unfold gotD
    rw [hl]
    rfl
  | cons c0 rest =>
    rw [if_pos (show (!(c0 :: rest).isEmpty) = true from rfl)]
    refine ⟨_, rfl, ?_⟩
    show wIx (.list _) _ _
    rw [wIx_l]
    have hc0 : c0 ∈ looseL d := by rw [hl]; exact List.mem_cons_self
    refine ⟨lotD c0, at0 _ _, rfl, d, d.L, .inr rfl, hok, .inr ⟨c0, rfl, hl900 c0 (looseL_cuts hc0), ?_⟩⟩
    rw [isLoose_mem (looseL_cuts hc0), decide_eq_true hc0]
    refine ⟨_, rfl, _, rfl, 1, (d.n : Int), rfl, rfl, by omega, by have := hd.n2; omega, by omega, rfl, d, d.D, .inl rfl, hok, .inl ⟨_, rfl, ?_⟩⟩
    refine ⟨by simp [hsz], d, wr, x2, x3, x4, x11, x12, x13, x14, x16, x17, x18, ?_, hd, hw, h⟩
    unfold gotD
    rw [hl]
    rfl
theorem rightC {u f : Addr} {cdv : Value} {A : Around} {outer : List Env} {s : Shared} {H : Hp} {E : XK} (hr : Room 18 (A.deeper (envOfC "_law_right" (defScope s_law_right) s.heap.objs.size f cdv))) (B : Bi K mg) (c_hung_lots : Ca P w K mg base 16 "hung_lots" (spD K 1 F_hung_lots)) (c_is_loose_lot : Ca2 P w K mg base 14 "is_loose_lot" (spD K 2 F_is_loose_lot)) (c_stands : Ca P w K mg base 17 "stands" (spD K 1 F_stands)) (c_law_same : Ca P w K mg base 13 "_law_same" (spD K 2 (F_law_same 12))) (c_law_lone_lots : Ca P w K mg base 5 "_law_lone_lots" (spD K 1 F_law_lone_lots)) (c_law_cuts : Ca P w K mg base 1 "_law_cuts" (spD K 1 F_law_cuts)) (c_law_heard : Ca P w K mg base 18 "_law_heard" (spD K 1 F_law_heard)) :
    DSs (cx2 P w K mg base ["_law_urn", "_law_many", "_law_spots_here", "_law_hard", "_law_counted", "_law_deal", "_law_wrong_so", "_law_lots", "_law_alone", "_law_told", "_law_got", "_law_hung_so", "_law_good", "_law_due", "_law_row", "_law_soft", "_law_every", "_law_own", "_law_k"] "_law_right" (defScope s_law_right) f cdv A outer s H E true []) (some u) ((defBody s_law_right).drop 12) (RightC u) := by
  have m := md_calm (cx2 P w K mg base ["_law_urn", "_law_many", "_law_spots_here", "_law_hard", "_law_counted", "_law_deal", "_law_wrong_so", "_law_lots", "_law_alone", "_law_told", "_law_got", "_law_hung_so", "_law_good", "_law_due", "_law_row", "_law_soft", "_law_every", "_law_own", "_law_k"] "_law_right" (defScope s_law_right) f cdv A outer s H E true []) rfl rfl
  have r : Rm (cx2 P w K mg base ["_law_urn", "_law_many", "_law_spots_here", "_law_hard", "_law_counted", "_law_deal", "_law_wrong_so", "_law_lots", "_law_alone", "_law_told", "_law_got", "_law_hung_so", "_law_good", "_law_due", "_law_row", "_law_soft", "_law_every", "_law_own", "_law_k"] "_law_right" (defScope s_law_right) f cdv A outer s H E true []) 18 := rm_calm hr
  refine dss_mono ((ds_cons (ds_if (dt_of (dw_or (dt_cmp (op_neD r.hu64) good_ne (de_cmp (op_eqD r.hu64) good_eq (de_var 7) (de_of (df_lst da_nil))) (de_cmp (op_eqD r.hu64) good_eq (de_var 8) (de_of (df_lst da_nil)))) (dw_or (dt_cmp (op_neD r.hu64) good_ne (de_cmp op_isN good_isN (de_var 9) de_non) (de_cmp (op_eqD r.hu64) good_eq (de_var 7) (de_of (df_lst da_nil)))) (dw_or1 (dt_of (dw_and (dt_cmp op_notN good_notN (de_var 9) de_non) (dw_and1 (dt_cmp (op_notInD r.hu65) good_notInD (de_var 9) (de_var 7))))))))) (ds_one (ds_ret de_bl)) ds_nil)
  (rightD1 hr B c_hung_lots c_is_loose_lot c_stands c_law_same c_law_lone_lots c_law_cuts c_law_heard))) ?_
  rintro P g δ ⟨d, wr, x2, x3, x4, x10, x11, x12, x13, x14, x16, x17, x18, rfl, hd, hw, h⟩
  have hok := hd.ok
  have hsz : sizeLine = 16777216 := sizeLine_eq
  have hlo := loose_empty hd
  refine ⟨_, rfl, Nat.zero_le _, (sh_lots _).sh, shp_lnil, _, rfl, Nat.zero_le _, (sh_nats _).sh, shp_lnil, shp_bool _, shp_bool _, _, rfl, ?_⟩
  try dsimp only
  rw [eqv_lots, alone_empty hd, eqv_bool, if_neg (by simp)]
  refine ⟨_, rfl, rfl, _, rfl, Nat.zero_le _, (sh_lots _).sh, shp_lnil, shp_bool _, shp_bool _, _, rfl, ?_⟩
  try dsimp only
  rw [eqv_lots, isNon_opt, hlo, eqv_bool, if_neg (by simp)]
  refine ⟨_, rfl, rfl, _, rfl, ?_⟩
  rw [isNon_opt]
  rcases ho : d.loose with _ | l
  · rw [if_neg (by decide), if_neg (by decide)]
    exact ⟨d, wr, x2, x3, x4, x10, x11, x12, x13, x14, x16, x17, x18, by rw [ho], hd, hw, h⟩
  · rw [if_pos (show (!(some l).isNone) = true from rfl)]
    refine ⟨_, rfl, _, rfl, _, rfl, (sh_lot (n := 3) l).sh, (sh_lots _).sh, _, rfl, ?_⟩
    try dsimp only
    have hm := loose_some hok ho
    have e : ((looseL d).map lotD).any (fun z => PyData.eqv z (lotD l)) = true := by rw [any_lot]; exact decide_eq_true hm
    rw [show optD (some l) = lotD l from rfl, e, if_neg (by decide)]
    exact ⟨d, wr, x2, x3, x4, x10, x11, x12, x13, x14, x16, x17, x18, by rw [ho]; rfl, hd, hw, h⟩
end Lk

set_option Elab.async false
set_option linter.all false
set_option maxRecDepth 100000
set_option maxHeartbeats 4000000
namespace Lk
open PySem PySem.Spec PyProof.Rows L2 L2H HotX LkHot LkHead
variable {P : Program} {w : World} {K : PySem.W.Frag} {mg : Str → Option Value} {base : Heap}
theorem eqv_mk (a b : Bool × Nat) : PyData.eqv (mkD a) (mkD b) = decide (a = b) := by
  obtain ⟨p, k⟩ := a
  obtain ⟨q, l⟩ := b
  rw [Bool.eq_iff_iff]
  cases p <;> cases q <;> simp [mkD, PyData.eqv, PyData.eqvAll] <;> omega
theorem any_mk (w : List (Bool × Nat)) (m : Bool × Nat) : ((w.map mkD).any fun z => PyData.eqv z (mkD m)) = decide (m ∈ w) := by
  rw [Bool.eq_iff_iff, List.any_eq_true, decide_eq_true_iff]
  constructor
  · rintro ⟨z, hz, e⟩
    obtain ⟨b, hb, rfl⟩ := List.mem_map.mp hz
    rw [eqv_mk, decide_eq_true_iff] at e
    rw [← e]; exact hb
  · intro h
    exact ⟨_, List.mem_map.mpr ⟨m, h, rfl⟩, by rw [eqv_mk]; simp⟩
theorem sh_way {n : Nat} (w : List (Bool × Nat)) : Sh (n + 2) (wayD w) := sh_t fun x hx => by obtain ⟨m, _, rfl⟩ := List.mem_map.mp hx; exact sh_mk m
theorem sh_ways (l : List (List (Bool × Nat))) : Sh 4 (.list (l.map wayD)) := sh_l (n := 3) fun x hx => by obtain ⟨c, _, rfl⟩ := List.mem_map.mp hx; exact (sh_way (n := 1) c)
def highB (d : Deal) (w : List (Bool × Nat)) : Bool := hardRing w && decide (0 < (w.map d.gap).sum)
theorem high_feas {d : Deal} (h : Drawn d) : (!((allRings d).filter (highB d)).isEmpty) = false ↔ d.Feas := by
  rw [feas_iff h.ok h.un]
  simp only [Bool.not_eq_false', List.isEmpty_iff, List.filter_eq_nil_iff, highB, Bool.and_eq_true, decide_eq_true_iff, not_and, Int.not_lt]
def RightB (u : Addr) : DSt := fun P g δ => ∃ (d : Deal) (x2 x3 x6 x7 x8 x9 x10 x11 x12 x13 x14 x15 x16 x17 x18 : Sv), δ = [.raw (.ref u), .dat (.int (d.n : Int)), x2, x3, .dat (.tuple (d.ease.map eD)), .dat d.D, x6, x7, x8, x9, x10, x11, x12, x13, x14, x15, x16, x17, x18] ∧ Drawn d ∧ P.rt g (.bool true)
theorem rightB {u f : Addr} {cdv : Value} {A : Around} {outer : List Env} {s : Shared} {H : Hp} {E : XK} (hr : Room 18 (A.deeper (envOfC "_law_right" (defScope s_law_right) s.heap.objs.size f cdv))) (B : Bi K mg) (c_hung_lots : Ca P w K mg base 16 "hung_lots" (spD K 1 F_hung_lots)) (c_loose_lot : Ca P w K mg base 14 "loose_lot" (spD K 1 F_loose_lot)) (c_is_loose_lot : Ca2 P w K mg base 14 "is_loose_lot" (spD K 2 F_is_loose_lot)) (c_stands : Ca P w K mg base 17 "stands" (spD K 1 F_stands)) (c_law_lists : Ca P w K mg base 13 "_law_lists" (spD K 1 (F_law_lists 12))) (c_law_same : Ca P w K mg base 13 "_law_same" (spD K 2 (F_law_same 12))) (c_law_below : Ca P w K mg base 1 "_law_below" (spD K 2 F_law_below)) (c_law_all_rings : Ca P w K mg base 2 "_law_all_rings" (spD K 1 F_law_all_rings)) (c_law_far : Ca P w K mg base 4 "_law_far" (spD K 2 F_law_far)) (c_law_is_hard : Ca P w K mg base 1 "_law_is_hard" (spD K 1 F_law_is_hard)) (c_law_lone_lots : Ca P w K mg base 5 "_law_lone_lots" (spD K 1 F_law_lone_lots)) (c_law_cuts : Ca P w K mg base 1 "_law_cuts" (spD K 1 F_law_cuts)) (c_law_is_loose : Ca P w K mg base 1 "_law_is_loose" (spD K 2 F_law_is_loose)) (c_law_heard : Ca P w K mg base 18 "_law_heard" (spD K 1 F_law_heard)) :
    DSs (cx2 P w K mg base ["_law_urn", "_law_many", "_law_spots_here", "_law_hard", "_law_counted", "_law_deal", "_law_wrong_so", "_law_lots", "_law_alone", "_law_told", "_law_got", "_law_hung_so", "_law_good", "_law_due", "_law_row", "_law_soft", "_law_every", "_law_own", "_law_k"] "_law_right" (defScope s_law_right) f cdv A outer s H E true []) (some u) ((defBody s_law_right).drop 7) (RightB u) := by
  have m := md_calm (cx2 P w K mg base ["_law_urn", "_law_many", "_law_spots_here", "_law_hard", "_law_counted", "_law_deal", "_law_wrong_so", "_law_lots", "_law_alone", "_law_told", "_law_got", "_law_hung_so", "_law_good", "_law_due", "_law_row", "_law_soft", "_law_every", "_law_own", "_law_k"] "_law_right" (defScope s_law_right) f cdv A outer s H E true []) rfl rfl
  have r : Rm (cx2 P w K mg base ["_law_urn", "_law_many", "_law_spots_here", "_law_hard", "_law_counted", "_law_deal", "_law_wrong_so", "_law_lots", "_law_alone", "_law_told", "_law_got", "_law_hung_so", "_law_good", "_law_due", "_law_row", "_law_soft", "_law_every", "_law_own", "_law_k"] "_law_right" (defScope s_law_right) f cdv A outer s H E true []) 18 := rm_calm hr
  refine dss_mono ((ds_cons (ds_asgW (de_tup (da_cons (de_call (n := 1) c_law_lists hr (by decide) (da_cons (de_var 5) da_nil)) (da_cons (de_call (n := 1) c_law_all_rings hr (by decide) (da_cons (de_var 5) da_nil)) da_nil))) (dgw_tup (n := 2) rfl (dgws_cons (dgw_name 15 sc_law_right.nd) (dgws_cons (dgw_name 16 sc_law_right.nd) dgws_nil))))
  (ds_cons (ds_set 6 sc_law_right.nd (de_cmp (op_neD r.hu64) good_ne (de_of (df_lc (own := [("_law_own", 17)]) m sc_law_right.nd (di_list (de_var 16)) (blkOk_by (N := ["_law_urn", "_law_many", "_law_spots_here", "_law_hard", "_law_counted", "_law_deal", "_law_wrong_so", "_law_lots", "_law_alone", "_law_told", "_law_got", "_law_hung_so", "_law_good", "_law_due", "_law_row", "_law_soft", "_law_every", "_law_own", "_law_k"]) (sc := (defScope s_law_right)) (by decide +kernel)) (fun _ _ _ _ _ => (dg_name 17 sc_law_right.nd)) (fun _ _ _ _ _ => (dtt_one (dt_of (dw_and (dt_val (de_call (n := 1) c_law_is_hard hr (by decide) (da_cons (de_var 17) da_nil))) (dw_and1 (dt_val (de_call (n := 2) c_law_below hr (by decide) (da_cons (de_tup (da_cons de_int (da_cons de_int da_nil))) (da_cons (de_call (n := 2) c_law_far hr (by decide) (da_cons (de_var 5) (da_cons (de_var 17) da_nil))) da_nil))))))))) (fun _ _ _ _ _ => (de_var 17)))) (de_of (df_lst da_nil))))
  (ds_cons (ds_set 7 sc_law_right.nd (de_of (df_lc (own := [("_law_own", 17)]) m sc_law_right.nd (di_list (de_call (n := 1) c_law_cuts hr (by decide) (da_cons (de_var 1) da_nil))) (blkOk_by (N := ["_law_urn", "_law_many", "_law_spots_here", "_law_hard", "_law_counted", "_law_deal", "_law_wrong_so", "_law_lots", "_law_alone", "_law_told", "_law_got", "_law_hung_so", "_law_good", "_law_due", "_law_row", "_law_soft", "_law_every", "_law_own", "_law_k"]) (sc := (defScope s_law_right)) (by decide +kernel)) (fun _ _ _ _ _ => (dg_name 17 sc_law_right.nd)) (fun _ _ _ _ _ => (dtt_one (dt_val (de_call (n := 2) c_law_is_loose hr (by decide) (da_cons (de_var 5) (da_cons (de_var 17) da_nil)))))) (fun _ _ _ _ _ => (de_var 17)))))
  (ds_cons (ds_setLc 8 (own := [("_law_k", 18)]) m sc_law_right.nd (di_range1 B.n_range (de_callB call_len good_len B.n_len (da_cons (de_var 4) da_nil))) (blkOk_by (N := ["_law_urn", "_law_many", "_law_spots_here", "_law_hard", "_law_counted", "_law_deal", "_law_wrong_so", "_law_lots", "_law_alone", "_law_told", "_law_got", "_law_hung_so", "_law_good", "_law_due", "_law_row", "_law_soft", "_law_every", "_law_own", "_law_k"]) (sc := (defScope s_law_right)) (by decide +kernel)) (fun _ _ _ _ _ => (dg_name 18 sc_law_right.nd)) (fun _ _ _ _ _ => (dtt_one (dt_cmp (op_eqD r.hu64) good_eq (de_of (df_lc (own := [("_law_own", 17)]) (md_blk m _ _ _ _ _) sc_law_right.nd (di_list (de_var 16)) (blkOk_by (N := ["_law_urn", "_law_many", "_law_spots_here", "_law_hard", "_law_counted", "_law_deal", "_law_wrong_so", "_law_lots", "_law_alone", "_law_told", "_law_got", "_law_hung_so", "_law_good", "_law_due", "_law_row", "_law_soft", "_law_every", "_law_own", "_law_k"]) (sc := (relS _ (defScope s_law_right))) (by decide +kernel)) (fun _ _ _ _ _ => (dg_name 17 sc_law_right.nd)) (fun _ _ _ _ _ => (dtt_one (dt_cmp (op_inDT r.hu65) good_inDT (de_tup (da_cons de_str (da_cons (de_var 18) da_nil))) (de_var 17)))) (fun _ _ _ _ _ => de_int))) (de_of (df_lst da_nil))))) (fun _ _ _ _ _ => (de_var 18)) (sw_true rfl rfl rfl (by decide +kernel)))
  (ds_cons (ds_set 9 sc_law_right.nd (de_call (n := 1) c_loose_lot hr (by decide) (da_cons (de_var 5) da_nil)))
  (rightC hr B c_hung_lots c_is_loose_lot c_stands c_law_same c_law_lone_lots c_law_cuts c_law_heard))))))) ?_
  rintro P g δ ⟨d, x2, x3, x6, x7, x8, x9, x10, x11, x12, x13, x14, x15, x16, x17, x18, rfl, hd, h⟩
  have hok := hd.ok
  have hsz : sizeLine = 16777216 := sizeLine_eq
  have hn5 := hd.n5
  have hne := hok.ne
  refine ⟨_, rfl, rfl, d.D, rfl, hok.shD.mono (by decide), _, rfl, rfl, d, rfl, hok, hd.n2, hd.n5, hd.nm, by simp [hsz], _, rfl, rfl, _, _, rfl, _, _, rfl, rfl, ?_⟩
  refine ⟨_, rfl, _, rfl, ?_⟩
  have hen : ∀ w ∈ allRings d, ∀ m ∈ w, (d.ends m).isSome := fun w hw m hm => by
    obtain ⟨e, he⟩ := ends_some hok m (rings_marks hw m hm)
    rw [he]; rfl
  have ez : PyData.tuple [PyData.int 0, PyData.int 1] = frD (hf 0) := by rw [hf_zero]; rfl
  refine compD_map (emb := wayD) (t := highB d) (f := wayD) (allRings d) (fun w hw => ⟨_, rfl, by simp, fun kk g q => ?_, fun _ kk g q => ⟨_, rfl, q⟩⟩) ?_
  · refine ⟨_, rfl, rfl, w, rfl, isHard w, rfl, ?_⟩
    unfold highB at q
    rw [show hardRing w = isHard w from rfl] at q
    cases hh : isHard w with
    | false =>
      rw [if_neg (by decide)]
      rw [hh] at q
      exact q
    | true =>
      rw [if_pos rfl]
      rw [hh, Bool.true_and] at q
      refine ⟨by simp [hsz], _, rfl, _, rfl, rfl, d, w, rfl, hen w hw, rfl, hf 0, hf (w.map d.gap).sum, ?_, hf_ok _, hf_ok _, _, rfl, ?_⟩
      · rw [ez]
      · have e : decide ((hf 0).1 * (hf (w.map d.gap).sum).2 < (hf (w.map d.gap).sum).1 * (hf 0).2) = decide (0 < (w.map d.gap).sum) := by
          rw [Bool.eq_iff_iff, decide_eq_true_iff, decide_eq_true_iff, lt_hf]
        rw [e]; exact q
  rw [List.nil_append]
  refine ⟨Nat.zero_le _, (sh_ways _).sh, shp_lnil, ?_⟩
  have ew : PyData.eqv (.list (((allRings d).filter (highB d)).map wayD)) (.list []) = ((allRings d).filter (highB d)).isEmpty := by rw [eqv_lnil]; simp
  try dsimp only
  rw [ew]
  refine ⟨_, rfl, rfl, d.n, rfl, hd.n2, hd.n5, _, rfl, ?_⟩
  refine compD_map (emb := lotD) (t := fun c => d.closed c && d.entered c) (f := lotD) (cuts d.n) (fun c hc => ⟨_, rfl, by simp, fun kk g q => ⟨_, rfl, _, rfl, rfl, d, c, rfl, hok, _, rfl, q⟩, fun _ kk g q => ⟨_, rfl, q⟩⟩) ?_
  rw [List.nil_append]
  refine ⟨_, rfl, ?_⟩
  show wLen [.tuple (d.ease.map eD)] _
  rw [wLen_t]
  have ln : (d.ease.map eD).length = d.ease.length := List.length_map _
  rw [ln]
  refine ⟨_, rfl, by omega, by omega, ?_⟩
  rw [rgD_map]
  refine compD_map (t := fun k => ((allRings d).filter fun w => decide ((false, k) ∈ w)).isEmpty) (f := fun (k : Nat) => .int (k : Int)) (List.range d.ease.length) (fun k hk => ⟨_, rfl, by simp, fun kk g q => ?_, fun _ kk g q => ⟨_, rfl, q⟩⟩) ?_
  · refine ⟨_, rfl, _, rfl, ?_⟩
    refine compD_map (emb := wayD) (t := fun w => decide ((false, k) ∈ w)) (f := fun w => .int 1) (allRings d) (fun w hw => ⟨_, rfl, by simp, fun kk g q => ?_, fun _ kk g q => q⟩) ?_
    · refine ⟨_, rfl, by simp [hsz], _, rfl, w.map mkD, rfl, (sh_mk (n := 3) (false, k)).sh, (sh_way (n := 3) w).sh, _, rfl, ?_⟩
      have e := any_mk w (false, k)
      rw [← e] at q
      exact q
    · rw [List.nil_append]
      have so : SeqAt.shaped (.list (((allRings d).filter fun w => decide ((false, k) ∈ w)).map fun w => .int 1)) = true := (sh_l (n := 3) fun x hx => by obtain ⟨c, _, rfl⟩ := List.mem_map.mp hx; exact sh_i _).sh
      have eo : PyData.eqv (.list (((allRings d).filter fun w => decide ((false, k) ∈ w)).map fun w => .int 1)) (.list []) = ((allRings d).filter fun w => decide ((false, k) ∈ w)).isEmpty := by rw [eqv_lnil]; simp
      refine ⟨Nat.zero_le _, so, shp_lnil, _, rfl, ?_⟩
      rw [eo]; exact q
  rw [List.nil_append]
  refine ⟨_, rfl, rfl, d, d.D, rfl, .inl rfl, hok, ?_⟩
  exact ⟨d, _, x2, x3, _, x10, x11, x12, x13, x14, _, x17, x18, rfl, hd, high_feas hd, h⟩
end Lk

set_option Elab.async false
set_option linter.all false
set_option maxRecDepth 100000
set_option maxHeartbeats 4000000
namespace Lk
open PySem PySem.Spec PyProof.Rows L2 L2H HotX LkHot LkHead
variable {P : Program} {w : World} {K : PySem.W.Frag} {mg : Str → Option Value} {base : Heap}
theorem hf_two (v : Int) : frD (hf (2 * v)) = .tuple [.int v, .int 1] := by rw [← fr_one]; simp [frD, fr]
theorem cut_last (l : List PyData) (a : PyData) : cutD (l ++ [a]) none (some (-1)) = l := by
  unfold cutD
  have e1 : HT.sIx (l ++ [a]).length 0 none = 0 := rfl
  have e2 : HT.sIx (l ++ [a]).length (l ++ [a]).length (some (-1)) = l.length := by
    unfold HT.sIx
    simp
    omega
  rw [e1, e2]
  simp
theorem at_last (l : List PyData) (a : PyData) : atI (l ++ [a]) (-1) = some a := by
  unfold atI ixN
  rw [if_neg (by decide), if_pos (by simp; omega)]
  simp
  have : ((-1 : Int) + ((l.length : Int) + 1)).toNat = l.length := by omega
  rw [this]
  simp
theorem List.getElem_cons_eraseIdx_perm' {α : Type} : ∀ {xs : List α} {k : Nat} (hk : k < xs.length), (xs[k] :: xs.eraseIdx k).Perm xs
  | x :: xs, 0, _ => .refl _
  | x :: xs, k + 1, hk => by
    have := List.getElem_cons_eraseIdx_perm' (xs := xs) (k := k) (by simpa using hk)
    exact (List.Perm.swap _ _ _).trans (List.Perm.cons _ this)
theorem pk_perm : ∀ {xs ys : List PyData}, Pk xs xs.length ys → ys.Perm xs := by
  intro xs ys h
  generalize hn : xs.length = n at h
  induction h with
  | nil => rw [List.eq_nil_of_length_eq_zero hn]
  | @cons xs n k z ys hz _ ih =>
    have hk := (List.getElem?_eq_some_iff.mp hz).1
    have e := (List.getElem?_eq_some_iff.mp hz).2
    have ih := ih (by rw [List.length_eraseIdx, if_pos hk]; omega)
    refine (List.Perm.cons z ih).trans ?_
    rw [← e]
    exact List.getElem_cons_eraseIdx_perm' hk
theorem perm_nat {xs : List Nat} {ys : List PyData} (h : ys.Perm (natD xs)) : ∃ zs : List Nat, ys = natD zs ∧ zs.Perm xs := by
  have : ∃ zs : List Nat, ys = natD zs := by
    have hall : ∀ y ∈ ys, ∃ k : Nat, y = .int (k : Int) := fun y hy => by
      obtain ⟨k, _, e⟩ := List.mem_map.mp (h.subset hy)
      exact ⟨k, e.symm⟩
    clear h
    induction ys with
    | nil => exact ⟨[], rfl⟩
    | cons y ys ih =>
      obtain ⟨zs, e⟩ := ih fun z hz => hall z (List.mem_cons_of_mem _ hz)
      obtain ⟨k, e2⟩ := hall y List.mem_cons_self
      exact ⟨k :: zs, by rw [e, e2]; rfl⟩
  obtain ⟨zs, e⟩ := this
  refine ⟨zs, e, ?_⟩
  rw [e] at h
  have back : ∀ l : List Nat, (natD l).map (fun d => match d with | .int i => i.toNat | _ => 0) = l := fun l => by
    unfold natD
    rw [List.map_map]
    exact (List.map_congr_left fun x _ => by simp).trans (List.map_id l)
  have := h.map (fun d => match d with | .int i => i.toNat | _ => 0)
  rw [back, back] at this
  exact this
theorem sc_plain : ScOk plainD := by
  refine ⟨?_, by simp [plainD, frD, tpD, tpDs], by simp [plainD, frD, tpD, tpDs, lsD, lsDs]⟩
  refine sh_t (n := 3) fun x hx => ?_
  simp only [List.mem_cons, List.not_mem_nil, or_false] at hx
  rcases hx with rfl | rfl <;>
  · refine sh_t (n := 2) fun x hx => ?_
    simp only [List.mem_cons, List.not_mem_nil, or_false] at hx
    rcases hx with rfl | rfl <;> exact sh_frD _
theorem rgI_one (n : Nat) : (rgI 1 (n : Int)).map PyData.int = natD (List.range' 1 (n - 1)) := by
  unfold rgI natD
  rw [List.range'_eq_map_range, List.map_map, List.map_map]
  have : ((n : Int) - 1).toNat = n - 1 := by omega
  rw [this]
  refine List.map_congr_left fun k _ => ?_
  simp
theorem rgD_one (n : Nat) : rgD 1 (n : Int) = (List.range' 1 (n - 1)).map fun (k : Nat) => PyData.int (k : Int) := by
  have e : rgD 1 (n : Int) = (rgI 1 (n : Int)).map PyData.int := by unfold rgD rgI; rw [List.map_map]; rfl
  rw [e, rgI_one]; rfl
def HsOk (n : Nat) (hs : List (Nat × Nat × Int)) : Prop := ∀ h ∈ hs, h.1 < n ∧ h.2.1 < n ∧ h.1 ≠ h.2.1
def EsOk (n : Nat) (es : List (Nat × Nat × PyData)) : Prop := ∀ h ∈ es, h.1 < n ∧ h.2.1 < n ∧ h.1 ≠ h.2.1 ∧ ScOk h.2.2
def ssD (ss : List Int) : PyData := .tuple (ss.map fun s => frD (hf s))
def RightA6 (u : Addr) : DSt := fun P g δ => ∃ (n : Nat) (hs : List (Nat × Nat × Int)) (es : List (Nat × Nat × PyData)) (x2 x5 x6 x7 x8 x9 x10 x11 x12 x13 x14 x15 x16 x17 x18 : Sv), δ = [.raw (.ref u), .dat (.int (n : Int)), x2, .dat (.tuple (hs.map hD)), .dat (.tuple (es.map eD)), x5, x6, x7, x8, x9, x10, x11, x12, x13, x14, x15, x16, x17, x18] ∧ 2 ≤ n ∧ n ≤ 5 ∧ HsOk n hs ∧ EsOk n es ∧ hs.length ≤ 5 ∧ es.length ≤ 7 ∧ P.rt g (.bool true)
def RightA5 (u : Addr) : DSt := fun P g δ => ∃ (n G : Nat) (ss : List Int) (hs : List (Nat × Nat × Int)) (es : List (Nat × Nat × PyData)) (x5 x6 x7 x8 x9 x10 x11 x12 x13 x14 x15 x16 x17 x18 : Sv), δ = [.raw (.ref u), .dat (.int (n : Int)), .dat (ssD ss), .dat (.tuple (hs.map hD)), .dat (.tuple (es.map eD)), x5, x6, x7, x8, x9, x10, x11, x12, x13, x14, x15, x16, x17, x18] ∧ 2 ≤ n ∧ n ≤ 5 ∧ ss.length = n ∧ HsOk n hs ∧ EsOk n es ∧ hs.length ≤ 4 ∧ es.length ≤ 3 ∧ G ≤ 1000 ∧ g + 50 ≤ G ∧ ∀ g' ≤ G, P.rt g' (.bool true)
def RightA34 (w : Nat) (u : Addr) : DSt := fun P g δ => ∃ (n G : Nat) (ss : List Int) (hs : List (Nat × Nat × Int)) (x4 x5 x6 x7 x8 x9 x10 x11 x12 x13 x14 x15 x16 x17 x18 : Sv), δ = [.raw (.ref u), .dat (.int (n : Int)), .dat (ssD ss), .dat (.tuple (hs.map hD)), x4, x5, x6, x7, x8, x9, x10, x11, x12, x13, x14, x15, x16, x17, x18] ∧ 2 ≤ n ∧ n ≤ 5 ∧ ss.length = n ∧ HsOk n hs ∧ hs.length ≤ 4 ∧ G ≤ 1000 ∧ g + w ≤ G ∧ ∀ g' ≤ G, P.rt g' (.bool true)
abbrev RightA4 := RightA34 200
abbrev RightA3 := RightA34 300
def RightA0 (u : Addr) : DSt := fun P g δ => ∃ (G : Nat) (x1 x2 x3 x4 x5 x6 x7 x8 x9 x10 x11 x12 x13 x14 x15 x16 x17 x18 : Sv), δ = [.raw (.ref u), x1, x2, x3, x4, x5, x6, x7, x8, x9, x10, x11, x12, x13, x14, x15, x16, x17, x18] ∧ G ≤ 1000 ∧ g + 500 ≤ G ∧ ∀ g' ≤ G, P.rt g' (.bool true)
theorem rightA6 {u f : Addr} {cdv : Value} {A : Around} {outer : List Env} {s : Shared} {H : Hp} {E : XK} (hr : Room 18 (A.deeper (envOfC "_law_right" (defScope s_law_right) s.heap.objs.size f cdv))) (B : Bi K mg) (c_hung_lots : Ca P w K mg base 16 "hung_lots" (spD K 1 F_hung_lots)) (c_loose_lot : Ca P w K mg base 14 "loose_lot" (spD K 1 F_loose_lot)) (c_is_loose_lot : Ca2 P w K mg base 14 "is_loose_lot" (spD K 2 F_is_loose_lot)) (c_stands : Ca P w K mg base 17 "stands" (spD K 1 F_stands)) (c_law_lists : Ca P w K mg base 13 "_law_lists" (spD K 1 (F_law_lists 12))) (c_law_same : Ca P w K mg base 13 "_law_same" (spD K 2 (F_law_same 12))) (c_law_below : Ca P w K mg base 1 "_law_below" (spD K 2 F_law_below)) (c_law_all_rings : Ca P w K mg base 2 "_law_all_rings" (spD K 1 F_law_all_rings)) (c_law_far : Ca P w K mg base 4 "_law_far" (spD K 2 F_law_far)) (c_law_is_hard : Ca P w K mg base 1 "_law_is_hard" (spD K 1 F_law_is_hard)) (c_law_lone_lots : Ca P w K mg base 5 "_law_lone_lots" (spD K 1 F_law_lone_lots)) (c_law_cuts : Ca P w K mg base 1 "_law_cuts" (spD K 1 F_law_cuts)) (c_law_is_loose : Ca P w K mg base 1 "_law_is_loose" (spD K 2 F_law_is_loose)) (c_law_heard : Ca P w K mg base 18 "_law_heard" (spD K 1 F_law_heard)) :
    DSs (cx2 P w K mg base ["_law_urn", "_law_many", "_law_spots_here", "_law_hard", "_law_counted", "_law_deal", "_law_wrong_so", "_law_lots", "_law_alone", "_law_told", "_law_got", "_law_hung_so", "_law_good", "_law_due", "_law_row", "_law_soft", "_law_every", "_law_own", "_law_k"] "_law_right" (defScope s_law_right) f cdv A outer s H E true []) (some u) ((defBody s_law_right).drop 6) (RightA6 u) := by
  have m := md_calm (cx2 P w K mg base ["_law_urn", "_law_many", "_law_spots_here", "_law_hard", "_law_counted", "_law_deal", "_law_wrong_so", "_law_lots", "_law_alone", "_law_told", "_law_got", "_law_hung_so", "_law_good", "_law_due", "_law_row", "_law_soft", "_law_every", "_law_own", "_law_k"] "_law_right" (defScope s_law_right) f cdv A outer s H E true []) rfl rfl
  have r : Rm (cx2 P w K mg base ["_law_urn", "_law_many", "_law_spots_here", "_law_hard", "_law_counted", "_law_deal", "_law_wrong_so", "_law_lots", "_law_alone", "_law_told", "_law_got", "_law_hung_so", "_law_good", "_law_due", "_law_row", "_law_soft", "_law_every", "_law_own", "_law_k"] "_law_right" (defScope s_law_right) f cdv A outer s H E true []) 18 := rm_calm hr
  refine dss_mono ((ds_cons (ds_set 5 sc_law_right.nd (de_tup (da_cons (de_var 1) (da_cons (de_var 3) (da_cons (de_var 4) da_nil)))))
  (rightB hr B c_hung_lots c_loose_lot c_is_loose_lot c_stands c_law_lists c_law_same c_law_below c_law_all_rings c_law_far c_law_is_hard c_law_lone_lots c_law_cuts c_law_is_loose c_law_heard))) ?_
  rintro P g δ ⟨n, hs, es, x2, x5, x6, x7, x8, x9, x10, x11, x12, x13, x14, x15, x16, x17, x18, rfl, h2, h5, hh, he, hhl, hel, h⟩
  have hsz : sizeLine = 16777216 := sizeLine_eq
  have hok : (⟨n, hs, es⟩ : Deal).Ok := ⟨fun h q => ⟨(hh h q).1, (hh h q).2.1⟩, fun h q => ⟨(he h q).1, (he h q).2.1⟩, by show hs.length ≤ 20; omega, by show es.length ≤ 20; omega, by show n ≤ 20; omega, by show 0 < n; omega, fun h q => (he h q).2.2.2⟩
  refine ⟨_, rfl, _, rfl, _, rfl, by simp [hsz], ?_⟩
  refine ⟨⟨n, hs, es⟩, x2, _, x6, x7, x8, x9, x10, x11, x12, x13, x14, x15, x16, x17, x18, rfl, ⟨hok, ⟨fun h q => (hh h q).2.2, fun h q => (he h q).2.2.1⟩, h2, h5, ?_, by show hs.length ≤ 6; omega⟩, h⟩
  simp [Deal.marks]
  omega
theorem rightA5 {u f : Addr} {cdv : Value} {A : Around} {outer : List Env} {s : Shared} {H : Hp} {E : XK} (hr : Room 18 (A.deeper (envOfC "_law_right" (defScope s_law_right) s.heap.objs.size f cdv))) (B : Bi K mg) (c_hung_lots : Ca P w K mg base 16 "hung_lots" (spD K 1 F_hung_lots)) (c_loose_lot : Ca P w K mg base 14 "loose_lot" (spD K 1 F_loose_lot)) (c_is_loose_lot : Ca2 P w K mg base 14 "is_loose_lot" (spD K 2 F_is_loose_lot)) (c_stands : Ca P w K mg base 17 "stands" (spD K 1 F_stands)) (c_law_take : Ca P w K mg base 1 "_law_take" (spU K 1 1 F_law_take)) (c_law_pick : Ca P w K mg base 2 "_law_pick" (spU K 2 8 F_law_pick)) (c_law_lists : Ca P w K mg base 13 "_law_lists" (spD K 1 (F_law_lists 12))) (c_law_same : Ca P w K mg base 13 "_law_same" (spD K 2 (F_law_same 12))) (c_law_off : Ca P w K mg base 2 "_law_off" (spD K 2 F_law_off)) (c_law_below : Ca P w K mg base 1 "_law_below" (spD K 2 F_law_below)) (c_law_plain : Ca P w K mg base 1 "_law_plain" (spD K 0 F_law_plain)) (c_law_all_rings : Ca P w K mg base 2 "_law_all_rings" (spD K 1 F_law_all_rings)) (c_law_far : Ca P w K mg base 4 "_law_far" (spD K 2 F_law_far)) (c_law_is_hard : Ca P w K mg base 1 "_law_is_hard" (spD K 1 F_law_is_hard)) (c_law_lone_lots : Ca P w K mg base 5 "_law_lone_lots" (spD K 1 F_law_lone_lots)) (c_law_cuts : Ca P w K mg base 1 "_law_cuts" (spD K 1 F_law_cuts)) (c_law_is_loose : Ca P w K mg base 1 "_law_is_loose" (spD K 2 F_law_is_loose)) (c_law_heard : Ca P w K mg base 18 "_law_heard" (spD K 1 F_law_heard)) :
    DSs (cx2 P w K mg base ["_law_urn", "_law_many", "_law_spots_here", "_law_hard", "_law_counted", "_law_deal", "_law_wrong_so", "_law_lots", "_law_alone", "_law_told", "_law_got", "_law_hung_so", "_law_good", "_law_due", "_law_row", "_law_soft", "_law_every", "_law_own", "_law_k"] "_law_right" (defScope s_law_right) f cdv A outer s H E true []) (some u) ((defBody s_law_right).drop 5) (RightA5 u) := by
  have m := md_calm (cx2 P w K mg base ["_law_urn", "_law_many", "_law_spots_here", "_law_hard", "_law_counted", "_law_deal", "_law_wrong_so", "_law_lots", "_law_alone", "_law_told", "_law_got", "_law_hung_so", "_law_good", "_law_due", "_law_row", "_law_soft", "_law_every", "_law_own", "_law_k"] "_law_right" (defScope s_law_right) f cdv A outer s H E true []) rfl rfl
  have r : Rm (cx2 P w K mg base ["_law_urn", "_law_many", "_law_spots_here", "_law_hard", "_law_counted", "_law_deal", "_law_wrong_so", "_law_lots", "_law_alone", "_law_told", "_law_got", "_law_hung_so", "_law_good", "_law_due", "_law_row", "_law_soft", "_law_every", "_law_own", "_law_k"] "_law_right" (defScope s_law_right) f cdv A outer s H E true []) 18 := rm_calm hr
  refine dss_mono ((ds_cons (ds_if (dt_cmp op_gt good_gt (de_callU (n := 1) 0 c_law_take hr (by decide) (da_cons de_int da_nil)) de_int) (ds_cons (ds_set 14 sc_law_right.nd (de_op op_catL good_catL (de_of (df_lst (da_cons de_int da_nil))) (de_callU (n := 2) 0 c_law_pick hr (by decide) (da_cons (de_of (df_listRg2 rfl B.n_list B.n_range de_int (de_var 1))) (da_cons (de_var 1) da_nil)))))
  (ds_cons (ds_set 4 sc_law_right.nd (de_op op_catA good_catT (de_var 4) (de_callTy call_tuple_of good_tup B.n_tuple (da_cons (de_of (df_lc (own := [("_law_k", 18)]) m sc_law_right.nd (di_range2 rfl B.n_range de_int (de_var 1)) (blkOk_by (N := ["_law_urn", "_law_many", "_law_spots_here", "_law_hard", "_law_counted", "_law_deal", "_law_wrong_so", "_law_lots", "_law_alone", "_law_told", "_law_got", "_law_hung_so", "_law_good", "_law_due", "_law_row", "_law_soft", "_law_every", "_law_own", "_law_k"]) (sc := (defScope s_law_right)) (by decide +kernel)) (fun _ _ _ _ _ => (dg_name 18 sc_law_right.nd)) (fun _ _ _ _ _ => dtt_nil) (fun _ _ _ _ _ => (de_tup (da_cons (de_ix (de_var 14) (de_op op_sub good_sub (de_var 18) de_int)) (da_cons (de_ix (de_var 14) (de_var 18)) (da_cons (de_call0 c_law_plain hr (by decide)) da_nil))))))) da_nil))))
  (ds_one (ds_set 3 sc_law_right.nd (de_op op_catA good_catT (de_var 3) (de_tup (da_cons (de_tup (da_cons (de_ix (de_var 14) (de_neg de_int)) (da_cons de_int (da_cons (de_call (n := 2) c_law_off hr (by decide) (da_cons (de_call (n := 2) c_law_off hr (by decide) (da_cons (de_tup (da_cons de_int (da_cons de_int da_nil))) (da_cons (de_ix (de_var 2) (de_ix (de_var 14) (de_neg de_int))) da_nil))) (da_cons (de_tup (da_cons (de_callU (n := 1) 0 c_law_take hr (by decide) (da_cons de_int da_nil)) (da_cons de_int da_nil))) da_nil))) da_nil)))) da_nil))))))) ds_nil)
  (rightA6 hr B c_hung_lots c_loose_lot c_is_loose_lot c_stands c_law_lists c_law_same c_law_below c_law_all_rings c_law_far c_law_is_hard c_law_lone_lots c_law_cuts c_law_is_loose c_law_heard))) ?_
  rintro P g δ ⟨n, G, ss, hs, es, x5, x6, x7, x8, x9, x10, x11, x12, x13, x14, x15, x16, x17, x18, rfl, h2, h5, hss, hh, he, hhl, hel, hG, hg, h⟩
  have hsz : sizeLine = 16777216 := sizeLine_eq
  refine ⟨rfl, rfl, by omega, 3, rfl, by decide, by decide, fun v hv => ⟨_, _, rfl, rfl, _, rfl, ?_⟩⟩
  dsimp only
  by_cases hv0 : 0 < v
  · rw [if_pos (decide_eq_true (by omega))]
    refine ⟨by simp [hsz], rfl, _, rfl, 1, (n : Int), rfl, rfl, by decide, by omega, by omega, ?_⟩
    rw [rgI_one]
    refine ⟨_, rfl, rfl, by omega, _, n, rfl, by omega, by simp [natD]; omega, fun ys hys => ?_⟩
    have hln : (natD (List.range' 1 (n - 1))).length = n - 1 := by simp [natD]
    have hmin : min n (natD (List.range' 1 (n - 1))).length = (natD (List.range' 1 (n - 1))).length := by omega
    rw [hmin] at hys
    obtain ⟨zs, rfl, pz⟩ := perm_nat (pk_perm hys)
    have lz : zs.length = n - 1 := by rw [pz.length_eq]; simp
    have mz : ∀ x ∈ zs, 1 ≤ x ∧ x < n := fun x hx => by
      have := List.mem_range'_1.mp (pz.subset hx)
      omega
    have nz : zs.Nodup := pz.symm.nodup List.nodup_range'
    have lL : (0 :: zs).length = n := by simp; omega
    have nL : (0 :: zs).Nodup := List.nodup_cons.mpr ⟨fun z => by have := mz 0 z; omega, nz⟩
    have mL : ∀ x ∈ 0 :: zs, x < n := fun x hx => by
      rcases List.mem_cons.mp hx with rfl | hx
      · omega
      · exact (mz x hx).2
    have gL : ∀ k (h : k < (0 :: zs).length), (0 :: zs).getD k 0 = (0 :: zs)[k] := fun k h => by rw [List.getD_eq_getElem?_getD, List.getElem?_eq_getElem h]; rfl
    show wCatL (.list [.int 0]) (.list (natD zs)) _
    rw [wCatL_l]
    have eL : [PyData.int 0] ++ natD zs = natD (0 :: zs) := rfl
    rw [eL]
    refine ⟨by simp [natD, hsz]; omega, _, rfl, _, rfl, 1, (n : Int), rfl, rfl, ⟨by decide, by decide⟩, ⟨by omega, by omega⟩, ?_⟩
    rw [rgD_one]
    refine compD_all (f := fun k => eD ((0 :: zs).getD (k - 1) 0, (0 :: zs).getD k 0, plainD)) (List.range' 1 (n - 1)) (fun k hk => ⟨_, rfl, by simp, fun kk g q => ?_⟩) ?_
    · have hk := List.mem_range'_1.mp hk
      refine ⟨_, rfl, _, rfl, _, _, rfl, rfl, ?_⟩
      have ek : (k : Int) - 1 = ((k - 1 : Nat) : Int) := by omega
      dsimp only
      rw [ek]
      show wIx (.list (natD (0 :: zs))) _ _
      rw [wIx_l]
      refine ⟨_, nat_get (by omega), _, rfl, _, rfl, ?_⟩
      show wIx (.list (natD (0 :: zs))) _ _
      rw [wIx_l]
      exact ⟨_, nat_get (by omega), by simp [hsz], q⟩
    · rw [List.nil_append, wTup_l]
      show wCatT (.tuple (es.map eD)) (.tuple _) _
      rw [wCatT_t]
      have ee : es.map eD ++ (List.range' 1 (n - 1)).map (fun k => eD ((0 :: zs).getD (k - 1) 0, (0 :: zs).getD k 0, plainD)) = (es ++ (List.range' 1 (n - 1)).map fun k => ((0 :: zs).getD (k - 1) 0, (0 :: zs).getD k 0, plainD)).map eD := by simp [Function.comp_def]
      rw [ee]
      have he' : EsOk n (es ++ (List.range' 1 (n - 1)).map fun k => ((0 :: zs).getD (k - 1) 0, (0 :: zs).getD k 0, plainD)) := fun q hq => by
        rcases List.mem_append.mp hq with z | z
        · exact he q z
        · obtain ⟨k, hk, rfl⟩ := List.mem_map.mp z
          have hk := List.mem_range'_1.mp hk
          have h1 : k - 1 < (0 :: zs).length := by omega
          have h2 : k < (0 :: zs).length := by omega
          refine ⟨?_, ?_, ?_, sc_plain⟩
          · show (0 :: zs).getD (k - 1) 0 < n
            rw [gL _ h1]; exact mL _ (List.getElem_mem h1)
          · show (0 :: zs).getD k 0 < n
            rw [gL _ h2]; exact mL _ (List.getElem_mem h2)
          · show (0 :: zs).getD (k - 1) 0 ≠ (0 :: zs).getD k 0
            rw [gL _ h1, gL _ h2]
            exact List.pairwise_iff_getElem.mp nL (k - 1) k h1 h2 (by omega)
      have hel' : (es ++ (List.range' 1 (n - 1)).map fun k => ((0 :: zs).getD (k - 1) 0, (0 :: zs).getD k 0, plainD)).length ≤ 7 := by simp; omega
      generalize (es ++ (List.range' 1 (n - 1)).map fun k => ((0 :: zs).getD (k - 1) 0, (0 :: zs).getD k 0, plainD)) = es' at *
      rcases List.eq_nil_or_concat zs with rfl | ⟨zs', b, rfl⟩
      · simp at lz; omega
      rw [List.concat_eq_append] at *
      have hb := mz b (by simp)
      have eb : natD (0 :: (zs' ++ [b])) = natD (0 :: zs') ++ [.int (b : Int)] := by simp [natD]
      rw [eb]
      refine ⟨by simp [hsz]; omega, _, rfl, _, rfl, _, rfl, ?_⟩
      show wIx (.list _) (.int (-1)) _
      rw [wIx_l]
      refine ⟨_, at_last _ _, by simp [hsz], _, rfl, _, rfl, _, rfl, ?_⟩
      show wIx (.list _) (.int (-1)) _
      rw [wIx_l]
      refine ⟨_, at_last _ _, ?_⟩
      show wIx (.tuple _) _ _
      rw [wIx_t]
      have hbs : (ss.map fun s => frD (hf s))[b]? = some (frD (hf (ss.getD b 0))) := by
        rw [List.getElem?_map, List.getD_eq_getElem?_getD, List.getElem?_eq_getElem (by omega)]; rfl
      have ez : PyData.tuple [PyData.int 0, PyData.int 1] = frD (hf 0) := by rw [hf_zero]; rfl
      refine ⟨_, atI_nat hbs, rfl, hf 0, hf (ss.getD b 0), by rw [ez], hf_ok _, hf_ok _, ?_⟩
      rw [off_hf]
      refine ⟨rfl, rfl, by omega, 3, rfl, by decide, by decide, fun v2 hv2 => ⟨by simp [hsz], rfl, hf (0 - ss.getD b 0), hf (2 * (v2 : Int)), by rw [hf_two], hf_ok _, hf_ok _, ?_⟩⟩
      rw [off_hf]
      refine ⟨by simp [hsz], by simp [hsz], ?_⟩
      rw [wCatT_t]
      have eq2 : hs.map hD ++ [PyData.tuple [.int (b : Int), .int 0, frD (hf (0 - ss.getD b 0 - 2 * (v2 : Int)))]] = (hs ++ [(b, 0, 0 - ss.getD b 0 - 2 * (v2 : Int))]).map hD := by simp [hD]
      rw [eq2]
      refine ⟨by simp [hsz]; omega, n, hs ++ [(b, 0, 0 - ss.getD b 0 - 2 * (v2 : Int))], es', _, x5, x6, x7, x8, x9, x10, x11, x12, x13, _, x15, x16, x17, x18, rfl, h2, h5, fun p hp => ?_, he', by simp; omega, hel', h _ (by omega)⟩
      rcases List.mem_append.mp hp with z | z
      · exact hh p z
      · rw [List.mem_singleton.mp z]
        exact ⟨hb.2, by show 0 < n; omega, by show b ≠ 0; omega⟩
  · rw [if_neg (by simp; omega)]
    exact ⟨n, hs, es, _, x5, x6, x7, x8, x9, x10, x11, x12, x13, x14, x15, x16, x17, x18, rfl, h2, h5, hh, he, by omega, by omega, h _ (by omega)⟩
theorem rightA4 {u f : Addr} {cdv : Value} {A : Around} {outer : List Env} {s : Shared} {H : Hp} {E : XK} (hr : Room 18 (A.deeper (envOfC "_law_right" (defScope s_law_right) s.heap.objs.size f cdv))) (B : Bi K mg) (c_hung_lots : Ca P w K mg base 16 "hung_lots" (spD K 1 F_hung_lots)) (c_loose_lot : Ca P w K mg base 14 "loose_lot" (spD K 1 F_loose_lot)) (c_is_loose_lot : Ca2 P w K mg base 14 "is_loose_lot" (spD K 2 F_is_loose_lot)) (c_stands : Ca P w K mg base 17 "stands" (spD K 1 F_stands)) (c_law_take : Ca P w K mg base 1 "_law_take" (spU K 1 1 F_law_take)) (c_law_pick : Ca P w K mg base 2 "_law_pick" (spU K 2 8 F_law_pick)) (c_law_lists : Ca P w K mg base 13 "_law_lists" (spD K 1 (F_law_lists 12))) (c_law_same : Ca P w K mg base 13 "_law_same" (spD K 2 (F_law_same 12))) (c_law_off : Ca P w K mg base 2 "_law_off" (spD K 2 F_law_off)) (c_law_below : Ca P w K mg base 1 "_law_below" (spD K 2 F_law_below)) (c_law_plain : Ca P w K mg base 1 "_law_plain" (spD K 0 F_law_plain)) (c_law_counts : Ca P w K mg base 4 "_law_counts" (spU K 2 120 F_law_counts)) (c_law_all_rings : Ca P w K mg base 2 "_law_all_rings" (spD K 1 F_law_all_rings)) (c_law_far : Ca P w K mg base 4 "_law_far" (spD K 2 F_law_far)) (c_law_is_hard : Ca P w K mg base 1 "_law_is_hard" (spD K 1 F_law_is_hard)) (c_law_lone_lots : Ca P w K mg base 5 "_law_lone_lots" (spD K 1 F_law_lone_lots)) (c_law_cuts : Ca P w K mg base 1 "_law_cuts" (spD K 1 F_law_cuts)) (c_law_is_loose : Ca P w K mg base 1 "_law_is_loose" (spD K 2 F_law_is_loose)) (c_law_heard : Ca P w K mg base 18 "_law_heard" (spD K 1 F_law_heard)) :
    DSs (cx2 P w K mg base ["_law_urn", "_law_many", "_law_spots_here", "_law_hard", "_law_counted", "_law_deal", "_law_wrong_so", "_law_lots", "_law_alone", "_law_told", "_law_got", "_law_hung_so", "_law_good", "_law_due", "_law_row", "_law_soft", "_law_every", "_law_own", "_law_k"] "_law_right" (defScope s_law_right) f cdv A outer s H E true []) (some u) ((defBody s_law_right).drop 4) (RightA4 u) := by
  have m := md_calm (cx2 P w K mg base ["_law_urn", "_law_many", "_law_spots_here", "_law_hard", "_law_counted", "_law_deal", "_law_wrong_so", "_law_lots", "_law_alone", "_law_told", "_law_got", "_law_hung_so", "_law_good", "_law_due", "_law_row", "_law_soft", "_law_every", "_law_own", "_law_k"] "_law_right" (defScope s_law_right) f cdv A outer s H E true []) rfl rfl
  have r : Rm (cx2 P w K mg base ["_law_urn", "_law_many", "_law_spots_here", "_law_hard", "_law_counted", "_law_deal", "_law_wrong_so", "_law_lots", "_law_alone", "_law_told", "_law_got", "_law_hung_so", "_law_good", "_law_due", "_law_row", "_law_soft", "_law_every", "_law_own", "_law_k"] "_law_right" (defScope s_law_right) f cdv A outer s H E true []) 18 := rm_calm hr
  refine dss_mono ((ds_cons (ds_set 4 sc_law_right.nd (de_callU (n := 2) 0 c_law_counts hr (by decide) (da_cons (de_var 1) (da_cons (de_callU (n := 1) 0 c_law_take hr (by decide) (da_cons de_int da_nil)) da_nil))))
  (rightA5 hr B c_hung_lots c_loose_lot c_is_loose_lot c_stands c_law_take c_law_pick c_law_lists c_law_same c_law_off c_law_below c_law_plain c_law_all_rings c_law_far c_law_is_hard c_law_lone_lots c_law_cuts c_law_is_loose c_law_heard))) ?_
  rintro P g δ ⟨n, G, ss, hs, x4, x5, x6, x7, x8, x9, x10, x11, x12, x13, x14, x15, x16, x17, x18, rfl, h2, h5, hss, hh, hhl, hG, hg, h⟩
  have hsz : sizeLine = 16777216 := sizeLine_eq
  refine ⟨rfl, _, rfl, rfl, rfl, by omega, 4, rfl, by decide, by decide, fun v hv => ?_⟩
  refine ⟨rfl, by omega, n, v, rfl, h2, by omega, by omega, fun es hl he => ?_⟩
  exact ⟨n, G, ss, hs, es, x5, x6, x7, x8, x9, x10, x11, x12, x13, x14, x15, x16, x17, x18, rfl, h2, h5, hss, hh, he, hhl, by omega, hG, by omega, h⟩
theorem rightA3 {u f : Addr} {cdv : Value} {A : Around} {outer : List Env} {s : Shared} {H : Hp} {E : XK} (hr : Room 18 (A.deeper (envOfC "_law_right" (defScope s_law_right) s.heap.objs.size f cdv))) (B : Bi K mg) (c_hung_lots : Ca P w K mg base 16 "hung_lots" (spD K 1 F_hung_lots)) (c_loose_lot : Ca P w K mg base 14 "loose_lot" (spD K 1 F_loose_lot)) (c_is_loose_lot : Ca2 P w K mg base 14 "is_loose_lot" (spD K 2 F_is_loose_lot)) (c_stands : Ca P w K mg base 17 "stands" (spD K 1 F_stands)) (c_law_take : Ca P w K mg base 1 "_law_take" (spU K 1 1 F_law_take)) (c_law_pick : Ca P w K mg base 2 "_law_pick" (spU K 2 8 F_law_pick)) (c_law_lists : Ca P w K mg base 13 "_law_lists" (spD K 1 (F_law_lists 12))) (c_law_same : Ca P w K mg base 13 "_law_same" (spD K 2 (F_law_same 12))) (c_law_add : Ca P w K mg base 2 "_law_add" (spD K 2 F_law_add)) (c_law_off : Ca P w K mg base 2 "_law_off" (spD K 2 F_law_off)) (c_law_below : Ca P w K mg base 1 "_law_below" (spD K 2 F_law_below)) (c_law_plain : Ca P w K mg base 1 "_law_plain" (spD K 0 F_law_plain)) (c_law_counts : Ca P w K mg base 4 "_law_counts" (spU K 2 120 F_law_counts)) (c_law_all_rings : Ca P w K mg base 2 "_law_all_rings" (spD K 1 F_law_all_rings)) (c_law_far : Ca P w K mg base 4 "_law_far" (spD K 2 F_law_far)) (c_law_is_hard : Ca P w K mg base 1 "_law_is_hard" (spD K 1 F_law_is_hard)) (c_law_lone_lots : Ca P w K mg base 5 "_law_lone_lots" (spD K 1 F_law_lone_lots)) (c_law_cuts : Ca P w K mg base 1 "_law_cuts" (spD K 1 F_law_cuts)) (c_law_is_loose : Ca P w K mg base 1 "_law_is_loose" (spD K 2 F_law_is_loose)) (c_law_heard : Ca P w K mg base 18 "_law_heard" (spD K 1 F_law_heard)) :
    DSs (cx2 P w K mg base ["_law_urn", "_law_many", "_law_spots_here", "_law_hard", "_law_counted", "_law_deal", "_law_wrong_so", "_law_lots", "_law_alone", "_law_told", "_law_got", "_law_hung_so", "_law_good", "_law_due", "_law_row", "_law_soft", "_law_every", "_law_own", "_law_k"] "_law_right" (defScope s_law_right) f cdv A outer s H E true []) (some u) ((defBody s_law_right).drop 3) (RightA3 u) := by
  have m := md_calm (cx2 P w K mg base ["_law_urn", "_law_many", "_law_spots_here", "_law_hard", "_law_counted", "_law_deal", "_law_wrong_so", "_law_lots", "_law_alone", "_law_told", "_law_got", "_law_hung_so", "_law_good", "_law_due", "_law_row", "_law_soft", "_law_every", "_law_own", "_law_k"] "_law_right" (defScope s_law_right) f cdv A outer s H E true []) rfl rfl
  have r : Rm (cx2 P w K mg base ["_law_urn", "_law_many", "_law_spots_here", "_law_hard", "_law_counted", "_law_deal", "_law_wrong_so", "_law_lots", "_law_alone", "_law_told", "_law_got", "_law_hung_so", "_law_good", "_law_due", "_law_row", "_law_soft", "_law_every", "_law_own", "_law_k"] "_law_right" (defScope s_law_right) f cdv A outer s H E true []) 18 := rm_calm hr
  refine dss_mono ((ds_cons (ds_if (dt_of (dw_and (dt_cmp (op_neD r.hu64) good_ne (de_var 3) (de_tup da_nil)) (dw_and1 (dt_cmp (op_eqD r.hu64) good_eq (de_callU (n := 1) 0 c_law_take hr (by decide) (da_cons de_int da_nil)) de_int)))) (ds_one (ds_set 3 sc_law_right.nd (de_op op_catA good_catT (de_slT (de_var 3) dp_none (dp_some (de_neg de_int))) (de_tup (da_cons (de_op op_catA good_catT (de_slT (de_ix (de_var 3) (de_neg de_int)) dp_none (dp_some de_int)) (de_tup (da_cons (de_call (n := 2) c_law_add hr (by decide) (da_cons (de_ix (de_ix (de_var 3) (de_neg de_int)) de_int) (da_cons (de_tup (da_cons de_int (da_cons de_int da_nil))) da_nil))) da_nil))) da_nil))))) ds_nil)
  (rightA4 hr B c_hung_lots c_loose_lot c_is_loose_lot c_stands c_law_take c_law_pick c_law_lists c_law_same c_law_off c_law_below c_law_plain c_law_counts c_law_all_rings c_law_far c_law_is_hard c_law_lone_lots c_law_cuts c_law_is_loose c_law_heard))) ?_
  rintro P g δ ⟨n, G, ss, hs, x4, x5, x6, x7, x8, x9, x10, x11, x12, x13, x14, x15, x16, x17, x18, rfl, h2, h5, hss, hh, hhl, hG, hg, h⟩
  have hsz : sizeLine = 16777216 := sizeLine_eq
  have shh : SeqAt.shaped (.tuple (hs.map hD)) = true := (sh_t (n := 3) fun x hx => by obtain ⟨c, _, rfl⟩ := List.mem_map.mp hx; exact sh_h c).sh
  refine ⟨_, rfl, Nat.zero_le _, shh, shp_tnil, _, rfl, ?_⟩
  rw [eqv_tnil]
  dsimp only
  rcases List.eq_nil_or_concat hs with rfl | ⟨hs', q, rfl⟩
  · rw [if_neg (by decide), if_neg (by decide)]
    exact ⟨n, G, ss, [], x4, x5, x6, x7, x8, x9, x10, x11, x12, x13, x14, x15, x16, x17, x18, rfl, h2, h5, hss, hh, hhl, hG, by omega, h⟩
  · rw [List.concat_eq_append] at *
    rw [if_pos (by simp)]
    refine ⟨rfl, rfl, by omega, 5, rfl, by decide, by decide, fun v hv => ⟨shp_int _, shp_int _, _, rfl, ?_⟩⟩
    rw [eqv_int]
    by_cases hv0 : v = 0
    · rw [if_pos (decide_eq_true (by omega))]
      have eh : (hs' ++ [q]).map hD = hs'.map hD ++ [hD q] := by simp
      have e4 : PyData.tuple [.int 2, .int 1] = frD (hf 4) := by rw [show hf 4 = (2, 1) from by decide]; rfl
      rw [eh]
      refine ⟨_, rfl, _, rfl, _, rfl, _, rfl, _, rfl, _, rfl, ?_⟩
      show wIx (.tuple _) (.int (-1)) _
      rw [wIx_t]
      refine ⟨_, at_last _ _, _, rfl, [.int (q.1 : Int), .int (q.2.1 : Int), frD (hf q.2.2)], rfl, _, rfl, _, rfl, ?_⟩
      show wIx (.tuple _) (.int (-1)) _
      rw [wIx_t]
      refine ⟨_, at_last _ _, ?_⟩
      show wIx (.tuple [_, _, _]) (.int 2) _
      rw [wIx_t]
      refine ⟨_, at2 _ _ _ _, by simp [hsz], rfl, hf q.2.2, hf 4, by rw [e4], hf_ok _, hf_ok _, ?_⟩
      rw [plus_hf]
      refine ⟨by simp [hsz], ?_⟩
      rw [wCatT_t]
      have ec : cutD [PyData.int (q.1 : Int), .int (q.2.1 : Int), frD (hf q.2.2)] none (some 2) = [.int (q.1 : Int), .int (q.2.1 : Int)] := rfl
      rw [ec]
      refine ⟨by simp [hsz], by simp [hsz], ?_⟩
      rw [wCatT_t, cut_last]
      have eq2 : hs'.map hD ++ [PyData.tuple ([.int (q.1 : Int), .int (q.2.1 : Int)] ++ [frD (hf (q.2.2 + 4))])] = (hs' ++ [(q.1, q.2.1, q.2.2 + 4)]).map hD := by simp [hD]
      rw [eq2]
      refine ⟨by simp at hhl; simp [hsz]; omega, n, G, ss, hs' ++ [(q.1, q.2.1, q.2.2 + 4)], x4, x5, x6, x7, x8, x9, x10, x11, x12, x13, x14, x15, x16, x17, x18, rfl, h2, h5, hss, fun p hp => ?_, by simpa using hhl, hG, by omega, h⟩
      rcases List.mem_append.mp hp with z | z
      · exact hh p (List.mem_append_left _ z)
      · rw [List.mem_singleton.mp z]
        exact hh q (by simp)
    · rw [if_neg (by simp; omega)]
      exact ⟨n, G, ss, hs' ++ [q], x4, x5, x6, x7, x8, x9, x10, x11, x12, x13, x14, x15, x16, x17, x18, rfl, h2, h5, hss, hh, hhl, hG, by omega, h⟩
theorem rightA0 {u f : Addr} {cdv : Value} {A : Around} {outer : List Env} {s : Shared} {H : Hp} {E : XK} (hr : Room 18 (A.deeper (envOfC "_law_right" (defScope s_law_right) s.heap.objs.size f cdv))) (B : Bi K mg) (c_hung_lots : Ca P w K mg base 16 "hung_lots" (spD K 1 F_hung_lots)) (c_loose_lot : Ca P w K mg base 14 "loose_lot" (spD K 1 F_loose_lot)) (c_is_loose_lot : Ca2 P w K mg base 14 "is_loose_lot" (spD K 2 F_is_loose_lot)) (c_stands : Ca P w K mg base 17 "stands" (spD K 1 F_stands)) (c_law_take : Ca P w K mg base 1 "_law_take" (spU K 1 1 F_law_take)) (c_law_pick : Ca P w K mg base 2 "_law_pick" (spU K 2 8 F_law_pick)) (c_law_lists : Ca P w K mg base 13 "_law_lists" (spD K 1 (F_law_lists 12))) (c_law_same : Ca P w K mg base 13 "_law_same" (spD K 2 (F_law_same 12))) (c_law_add : Ca P w K mg base 2 "_law_add" (spD K 2 F_law_add)) (c_law_off : Ca P w K mg base 2 "_law_off" (spD K 2 F_law_off)) (c_law_below : Ca P w K mg base 1 "_law_below" (spD K 2 F_law_below)) (c_law_plain : Ca P w K mg base 1 "_law_plain" (spD K 0 F_law_plain)) (c_law_hards : Ca P w K mg base 4 "_law_hards" (spU K 2 60 F_law_hards)) (c_law_spots : Ca P w K mg base 2 "_law_spots" (spU K 1 12 F_law_spots)) (c_law_counts : Ca P w K mg base 4 "_law_counts" (spU K 2 120 F_law_counts)) (c_law_all_rings : Ca P w K mg base 2 "_law_all_rings" (spD K 1 F_law_all_rings)) (c_law_far : Ca P w K mg base 4 "_law_far" (spD K 2 F_law_far)) (c_law_is_hard : Ca P w K mg base 1 "_law_is_hard" (spD K 1 F_law_is_hard)) (c_law_lone_lots : Ca P w K mg base 5 "_law_lone_lots" (spD K 1 F_law_lone_lots)) (c_law_cuts : Ca P w K mg base 1 "_law_cuts" (spD K 1 F_law_cuts)) (c_law_is_loose : Ca P w K mg base 1 "_law_is_loose" (spD K 2 F_law_is_loose)) (c_law_heard : Ca P w K mg base 18 "_law_heard" (spD K 1 F_law_heard)) :
    DSs (cx2 P w K mg base ["_law_urn", "_law_many", "_law_spots_here", "_law_hard", "_law_counted", "_law_deal", "_law_wrong_so", "_law_lots", "_law_alone", "_law_told", "_law_got", "_law_hung_so", "_law_good", "_law_due", "_law_row", "_law_soft", "_law_every", "_law_own", "_law_k"] "_law_right" (defScope s_law_right) f cdv A outer s H E true []) (some u) ((defBody s_law_right).drop 0) (RightA0 u) := by
  have m := md_calm (cx2 P w K mg base ["_law_urn", "_law_many", "_law_spots_here", "_law_hard", "_law_counted", "_law_deal", "_law_wrong_so", "_law_lots", "_law_alone", "_law_told", "_law_got", "_law_hung_so", "_law_good", "_law_due", "_law_row", "_law_soft", "_law_every", "_law_own", "_law_k"] "_law_right" (defScope s_law_right) f cdv A outer s H E true []) rfl rfl
  have r : Rm (cx2 P w K mg base ["_law_urn", "_law_many", "_law_spots_here", "_law_hard", "_law_counted", "_law_deal", "_law_wrong_so", "_law_lots", "_law_alone", "_law_told", "_law_got", "_law_hung_so", "_law_good", "_law_due", "_law_row", "_law_soft", "_law_every", "_law_own", "_law_k"] "_law_right" (defScope s_law_right) f cdv A outer s H E true []) 18 := rm_calm hr
  refine dss_mono ((ds_cons (ds_set 1 sc_law_right.nd (de_op op_add good_add de_int (de_callU (n := 1) 0 c_law_take hr (by decide) (da_cons de_int da_nil))))
  (ds_cons (ds_set 2 sc_law_right.nd (de_callU (n := 1) 0 c_law_spots hr (by decide) (da_cons (de_var 1) da_nil)))
  (ds_cons (ds_set 3 sc_law_right.nd (de_callU (n := 2) 0 c_law_hards hr (by decide) (da_cons (de_var 2) (da_cons (de_callU (n := 1) 0 c_law_take hr (by decide) (da_cons de_int da_nil)) da_nil))))
  (rightA3 hr B c_hung_lots c_loose_lot c_is_loose_lot c_stands c_law_take c_law_pick c_law_lists c_law_same c_law_add c_law_off c_law_below c_law_plain c_law_counts c_law_all_rings c_law_far c_law_is_hard c_law_lone_lots c_law_cuts c_law_is_loose c_law_heard))))) ?_
  rintro P g δ ⟨G, x1, x2, x3, x4, x5, x6, x7, x8, x9, x10, x11, x12, x13, x14, x15, x16, x17, x18, rfl, hG, hg, h⟩
  have hsz : sizeLine = 16777216 := sizeLine_eq
  refine ⟨rfl, rfl, by omega, 4, rfl, by decide, by decide, fun v hv => ⟨_, _, rfl, rfl, ?_⟩⟩
  have e2 : (2 : Int) + (v : Int) = ((2 + v : Nat) : Int) := by omega
  dsimp only
  rw [e2]
  refine ⟨rfl, _, rfl, rfl, by omega, 2 + v, rfl, by omega, by omega, fun ss hss h0 => ?_⟩
  refine ⟨rfl, _, rfl, rfl, rfl, by omega, 5, rfl, by decide, by decide, fun c hc => ?_⟩
  refine ⟨rfl, by omega, ss, c, rfl, by omega, by omega, by omega, fun hs hl hh => ?_⟩
  exact ⟨2 + v, G, ss, hs, x4, x5, x6, x7, x8, x9, x10, x11, x12, x13, x14, x15, x16, x17, x18, rfl, by omega, by omega, hss, fun q hq => by have := hh q hq; rw [hss] at this; exact this, by omega, hG, by omega, h⟩
def F_law_right : DSp := fun ds P => ds = [] ∧ P (.bool true)
theorem ca_law_right {f : Addr} {fd : FuncData} (B : Bi K mg) (Fd : FunD K "_law_right" "_law_right" (defArgs s_law_right) (defBody s_law_right) (defScope s_law_right) [] [] f fd) (hm : mg "_law_right" = some (.ref f)) (c_hung_lots : Ca P w K mg base 16 "hung_lots" (spD K 1 F_hung_lots)) (c_loose_lot : Ca P w K mg base 14 "loose_lot" (spD K 1 F_loose_lot)) (c_is_loose_lot : Ca2 P w K mg base 14 "is_loose_lot" (spD K 2 F_is_loose_lot)) (c_stands : Ca P w K mg base 17 "stands" (spD K 1 F_stands)) (c_law_take : Ca P w K mg base 1 "_law_take" (spU K 1 1 F_law_take)) (c_law_pick : Ca P w K mg base 2 "_law_pick" (spU K 2 8 F_law_pick)) (c_law_lists : Ca P w K mg base 13 "_law_lists" (spD K 1 (F_law_lists 12))) (c_law_same : Ca P w K mg base 13 "_law_same" (spD K 2 (F_law_same 12))) (c_law_add : Ca P w K mg base 2 "_law_add" (spD K 2 F_law_add)) (c_law_off : Ca P w K mg base 2 "_law_off" (spD K 2 F_law_off)) (c_law_below : Ca P w K mg base 1 "_law_below" (spD K 2 F_law_below)) (c_law_plain : Ca P w K mg base 1 "_law_plain" (spD K 0 F_law_plain)) (c_law_hards : Ca P w K mg base 4 "_law_hards" (spU K 2 60 F_law_hards)) (c_law_spots : Ca P w K mg base 2 "_law_spots" (spU K 1 12 F_law_spots)) (c_law_counts : Ca P w K mg base 4 "_law_counts" (spU K 2 120 F_law_counts)) (c_law_all_rings : Ca P w K mg base 2 "_law_all_rings" (spD K 1 F_law_all_rings)) (c_law_far : Ca P w K mg base 4 "_law_far" (spD K 2 F_law_far)) (c_law_is_hard : Ca P w K mg base 1 "_law_is_hard" (spD K 1 F_law_is_hard)) (c_law_lone_lots : Ca P w K mg base 5 "_law_lone_lots" (spD K 1 F_law_lone_lots)) (c_law_cuts : Ca P w K mg base 1 "_law_cuts" (spD K 1 F_law_cuts)) (c_law_is_loose : Ca P w K mg base 1 "_law_is_loose" (spD K 2 F_law_is_loose)) (c_law_heard : Ca P w K mg base 18 "_law_heard" (spD K 1 F_law_heard)) :
    Ca P w K mg base 19 "_law_right" (spU K 0 500 F_law_right) := by
  refine cau_of (k := 18) Fd sc_law_right rfl hm (fun _ _ _ _ _ _ us hl => match us, hl with | [_], _ => rfl) (fun u cdv A outer s H E hr => (rightA0 hr B c_hung_lots c_loose_lot c_is_loose_lot c_stands c_law_take c_law_pick c_law_lists c_law_same c_law_add c_law_off c_law_below c_law_plain c_law_hards c_law_spots c_law_counts c_law_all_rings c_law_far c_law_is_hard c_law_lone_lots c_law_cuts c_law_is_loose c_law_heard)) ?_
  rintro u ds g P' - hg ⟨rfl, h⟩
  exact ⟨g + 500, _, _, _, _, _, _, _, _, _, _, _, _, _, _, _, _, _, _, rfl, by omega, Nat.le_refl _, fun g' hg' => ⟨hg', h⟩⟩
end Lk

set_option Elab.async false
set_option linter.all false
set_option maxRecDepth 100000
set_option maxHeartbeats 4000000
namespace Lk
open PySem PySem.Spec PyProof.Rows L2 L2H HotX LkHot LkHead
variable {P : Program} {w : World} {K : PySem.W.Frag} {mg : Str → Option Value} {base : Heap}
/-! ### the front -/
def F_law_front_right : DSp := fun ds P => ds = [] ∧ P (.bool true)
def pairD : Deal := ⟨4, [(0, 1, 2)], [(2, 3, plainD), (3, 2, plainD), (1, 2, plainD)]⟩
def roundD : Deal := ⟨4, [(0, 1, 2), (1, 2, 1), (2, 0, -3)], []⟩
def nearD : Deal := ⟨3, [(0, 1, 2), (1, 0, -4)], [(0, 2, plainD), (2, 0, plainD)]⟩
theorem ok_small {d : Deal} (h1 : ∀ h ∈ d.hard, h.1 < d.n ∧ h.2.1 < d.n) (h2 : ∀ h ∈ d.ease, h.1 < d.n ∧ h.2.1 < d.n) (h3 : d.hard.length ≤ 20) (h4 : d.ease.length ≤ 20) (h5 : d.n ≤ 20) (h6 : 0 < d.n) (h7 : ∀ h ∈ d.ease, h.2.2 = plainD) : d.Ok :=
  ⟨h1, h2, h3, h4, h5, h6, fun h q => by rw [h7 h q]; exact sc_plain⟩
theorem ok_pair : pairD.Ok := ok_small (by decide) (by decide) (by decide) (by decide) (by decide) (by decide) (by simp [pairD])
theorem ok_round : roundD.Ok := ok_small (by decide) (by decide) (by decide) (by decide) (by decide) (by decide) (by simp [roundD])
theorem ok_near : nearD.Ok := ok_small (by decide) (by decide) (by decide) (by decide) (by decide) (by decide) (by simp [nearD])
theorem ok_frame : frameD.Ok := ok_small (by decide) (by decide) (by decide) (by decide) (by decide) (by decide) (by simp [frameD])
theorem fe_pair : pairD.Feas := ⟨fun x => if x = 1 then 2 else 0, by decide⟩
theorem fe_round : roundD.Feas := ⟨fun x => if x = 1 then 2 else if x = 2 then 3 else 0, by decide⟩
theorem fe_near : nearD.Feas := ⟨fun x => if x = 1 then 2 else 0, by decide⟩
theorem fe_frame : frameD.Feas := ⟨fun x => if x = 2 then 8 else 0, by decide⟩
theorem mem_ll {d : Deal} {c : List Nat} : c ∈ looseL d ↔ c ∈ (properL d.n).filter fun c => d.closed c && d.entered c := by
  unfold looseL cuts
  rw [List.mem_filter, List.mem_filter, List.mem_mergeSort]
theorem ll_nil {d : Deal} (h : ((properL d.n).filter fun c => d.closed c && d.entered c) = []) : looseL d = [] := List.eq_nil_iff_forall_not_mem.mpr fun c hc => by
  rw [mem_ll, h] at hc
  cases hc
theorem ll_pair : ((properL pairD.n).filter fun c => pairD.closed c && pairD.entered c) = [[2, 3]] := by decide +kernel
theorem ll_near : looseL nearD = [] := ll_nil (by decide +kernel)
theorem ll_frame : looseL frameD = [] := ll_nil (by decide +kernel)
theorem lo_none {d : Deal} (h : d.Ok) (e : looseL d = []) : d.loose = none := (loose_none h).mpr ((looseL_nil h).mp e)
theorem lo_pair : pairD.loose = some [2, 3] := by
  cases e : pairD.loose with
  | none =>
    have h1 := (looseL_nil ok_pair).mpr ((loose_none ok_pair).mp e)
    have h2 : [2, 3] ∈ looseL pairD := by rw [mem_ll, ll_pair]; simp
    rw [h1] at h2; cases h2
  | some l =>
    have := loose_some ok_pair e
    rw [mem_ll, ll_pair] at this
    rw [List.mem_singleton.mp this]
theorem is_pair : pairD.isLoose [0, 2, 3] = false := by decide +kernel
theorem hu_pair : Nm.lotsOf (Nm.namesOf pairD.n pairD.ties) = [[0], [1, 2, 3]] := by decide +kernel
theorem hu_round : Nm.lotsOf (Nm.namesOf roundD.n roundD.ties) = [[0, 1, 2], [3]] := by decide +kernel
theorem hu_near : Nm.lotsOf (Nm.namesOf nearD.n nearD.ties) = [[0, 2], [1]] := by decide +kernel
theorem hu_frame : Nm.lotsOf (Nm.namesOf frameD.n frameD.ties) = [[0, 1, 2]] := by decide +kernel
open Classical in
theorem st_frame : frameD.standsB = true := by
  unfold Deal.standsB
  exact decide_eq_true ⟨by decide, fe_frame, lo_none ok_frame ll_frame, by unfold Deal.lots; rw [hu_frame]; rfl⟩
theorem st_pair : pairD.standsB = false := stands_no fun z => by
  have := z.2.2.1
  rw [lo_pair] at this; cases this
theorem f11 : PyData.tuple [.int 1, .int 1] = frD (hf 2) := by rw [show hf 2 = (1, 1) from by decide]; rfl
theorem f12 : PyData.tuple [.int 1, .int 2] = frD (hf 1) := by rw [show hf 1 = (1, 2) from by decide]; rfl
theorem f32 : PyData.tuple [.int (-3), .int 2] = frD (hf (-3)) := by rw [show hf (-3) = (-3, 2) from by decide]; rfl
theorem f21 : PyData.tuple [.int (-2), .int 1] = frD (hf (-4)) := by rw [show hf (-4) = (-2, 1) from by decide]; rfl
theorem sc_law_front_right : FnScope ["_law_plain_here", "_law_pair", "_law_round_so", "_law_near", "_law_got"] [] (defScope s_law_front_right) := ⟨rfl, rfl, rfl, by decide +kernel, rfl, by decide +kernel, by decide +kernel⟩
theorem ca_law_front_right {f : Addr} {fd : FuncData} (B : Bi K mg) (Fd : FunD K "_law_front_right" "_law_front_right" (defArgs s_law_front_right) (defBody s_law_front_right) (defScope s_law_front_right) [] [] f fd) (hm : mg "_law_front_right" = some (.ref f)) (c_hung_lots : Ca P w K mg base 16 "hung_lots" (spD K 1 F_hung_lots)) (c_loose_lot : Ca P w K mg base 14 "loose_lot" (spD K 1 F_loose_lot)) (c_is_loose_lot : Ca2 P w K mg base 14 "is_loose_lot" (spD K 2 F_is_loose_lot)) (c_stands : Ca P w K mg base 17 "stands" (spD K 1 F_stands)) (c_law_same : Ca P w K mg base 13 "_law_same" (spD K 2 (F_law_same 12))) (c_law_plain : Ca P w K mg base 1 "_law_plain" (spD K 0 F_law_plain)) (c_law_frame : Ca P w K mg base 2 "_law_frame" (spD K 0 F_law_frame)) (c_law_heard : Ca P w K mg base 18 "_law_heard" (spD K 1 F_law_heard)) :
    Ca P w K mg base 19 "_law_front_right" (spD K 0 F_law_front_right) := by
  refine ca_of (k := 18) Fd sc_law_front_right rfl hm (fun _ _ _ _ _ _ us hl => match us, hl with | [], _ => rfl) (fun cdv A outer s H E hr =>
  have m := md_calm (cx2 P w K mg base ["_law_plain_here", "_law_pair", "_law_round_so", "_law_near", "_law_got"] "_law_front_right" (defScope s_law_front_right) f cdv A outer s H E true []) rfl rfl
  have r : Rm (cx2 P w K mg base ["_law_plain_here", "_law_pair", "_law_round_so", "_law_near", "_law_got"] "_law_front_right" (defScope s_law_front_right) f cdv A outer s H E true []) 18 := rm_calm hr
  (ds_cons (ds_set 0 sc_law_front_right.nd (de_call0 c_law_plain hr (by decide)))
  (ds_cons (ds_set 1 sc_law_front_right.nd (de_tup (da_cons de_int (da_cons (de_tup (da_cons (de_tup (da_cons de_int (da_cons de_int (da_cons (de_tup (da_cons de_int (da_cons de_int da_nil))) da_nil)))) da_nil)) (da_cons (de_tup (da_cons (de_tup (da_cons de_int (da_cons de_int (da_cons (de_var 0) da_nil)))) (da_cons (de_tup (da_cons de_int (da_cons de_int (da_cons (de_var 0) da_nil)))) (da_cons (de_tup (da_cons de_int (da_cons de_int (da_cons (de_var 0) da_nil)))) da_nil)))) da_nil)))))
  (ds_cons (ds_set 2 sc_law_front_right.nd (de_tup (da_cons de_int (da_cons (de_tup (da_cons (de_tup (da_cons de_int (da_cons de_int (da_cons (de_tup (da_cons de_int (da_cons de_int da_nil))) da_nil)))) (da_cons (de_tup (da_cons de_int (da_cons de_int (da_cons (de_tup (da_cons de_int (da_cons de_int da_nil))) da_nil)))) (da_cons (de_tup (da_cons de_int (da_cons de_int (da_cons (de_tup (da_cons (de_neg de_int) (da_cons de_int da_nil))) da_nil)))) da_nil)))) (da_cons (de_tup da_nil) da_nil)))))
  (ds_cons (ds_set 3 sc_law_front_right.nd (de_tup (da_cons de_int (da_cons (de_tup (da_cons (de_tup (da_cons de_int (da_cons de_int (da_cons (de_tup (da_cons de_int (da_cons de_int da_nil))) da_nil)))) (da_cons (de_tup (da_cons de_int (da_cons de_int (da_cons (de_tup (da_cons (de_neg de_int) (da_cons de_int da_nil))) da_nil)))) da_nil))) (da_cons (de_tup (da_cons (de_tup (da_cons de_int (da_cons de_int (da_cons (de_var 0) da_nil)))) (da_cons (de_tup (da_cons de_int (da_cons de_int (da_cons (de_var 0) da_nil)))) da_nil))) da_nil)))))
  (ds_cons (ds_set 4 sc_law_front_right.nd (de_of (df_lst (da_cons (de_call (n := 1) c_loose_lot hr (by decide) (da_cons (de_var 1) da_nil)) (da_cons (de_call (n := 2) c_is_loose_lot.ca hr (by decide) (da_cons (de_var 1) (da_cons (de_tup (da_cons de_int (da_cons de_int (da_cons de_int da_nil)))) da_nil))) (da_cons (de_call (n := 1) c_hung_lots hr (by decide) (da_cons (de_var 1) da_nil)) (da_cons (de_call (n := 1) c_hung_lots hr (by decide) (da_cons (de_var 2) da_nil)) (da_cons (de_call (n := 1) c_hung_lots hr (by decide) (da_cons (de_var 3) da_nil)) (da_cons (de_call (n := 1) c_law_heard hr (by decide) (da_cons (de_var 2) da_nil)) (da_cons (de_call (n := 1) c_law_heard hr (by decide) (da_cons (de_var 3) da_nil)) (da_cons (de_call (n := 1) c_stands hr (by decide) (da_cons (de_call0 c_law_frame hr (by decide)) da_nil)) (da_cons (de_call (n := 1) c_stands hr (by decide) (da_cons (de_var 1) da_nil)) da_nil))))))))))))
  (ds_one (ds_ret (de_call (n := 2) c_law_same hr (by decide) (da_cons (de_var 4) (da_cons (de_of (df_lst (da_cons (de_tup (da_cons de_int (da_cons de_int da_nil))) (da_cons de_bl (da_cons (de_tup (da_cons (de_tup (da_cons de_int da_nil)) (da_cons (de_tup (da_cons de_int (da_cons de_int (da_cons de_int da_nil)))) da_nil))) (da_cons (de_tup (da_cons (de_tup (da_cons de_int (da_cons de_int (da_cons de_int da_nil)))) (da_cons (de_tup (da_cons de_int da_nil)) da_nil))) (da_cons (de_tup (da_cons (de_tup (da_cons de_int (da_cons de_int da_nil))) (da_cons (de_tup (da_cons de_int da_nil)) da_nil))) (da_cons (de_of (df_lst (da_cons de_str (da_cons (de_tup (da_cons de_int da_nil)) da_nil)))) (da_cons (de_of (df_lst (da_cons de_str (da_cons (de_tup (da_cons de_int da_nil)) da_nil)))) (da_cons de_bl (da_cons de_bl da_nil))))))))))) da_nil))))))))))) ?_
  rintro ds P' - ⟨rfl, h⟩
  have hsz : sizeLine = 16777216 := sizeLine_eq
  refine ⟨by simp [hsz], by simp [hsz], by simp [hsz], _, rfl, by simp [hsz], _, rfl, by simp [hsz], _, rfl, by simp [hsz], by simp [hsz], by simp [hsz], ?_⟩
  refine ⟨by simp [hsz], by simp [hsz], by simp [hsz], by simp [hsz], _, rfl, by simp [hsz], by simp [hsz], by simp [hsz], by simp [hsz], by simp [hsz], ?_⟩
  refine ⟨by simp [hsz], by simp [hsz], _, rfl, by simp [hsz], by simp [hsz], by simp [hsz], _, rfl, by simp [hsz], _, rfl, by simp [hsz], by simp [hsz], by simp [hsz], ?_⟩
  have ep : PyData.tuple [.int 4, .tuple [.tuple [.int 0, .int 1, .tuple [.int 1, .int 1]]], .tuple [.tuple [.int 2, .int 3, plainD], .tuple [.int 3, .int 2, plainD], .tuple [.int 1, .int 2, plainD]]] = pairD.D := by rw [f11]; rfl
  have er : PyData.tuple [.int 4, .tuple [.tuple [.int 0, .int 1, .tuple [.int 1, .int 1]], .tuple [.int 1, .int 2, .tuple [.int 1, .int 2]], .tuple [.int 2, .int 0, .tuple [.int (-3), .int 2]]], .tuple []] = roundD.D := by rw [f11, f12, f32]; rfl
  have en : PyData.tuple [.int 3, .tuple [.tuple [.int 0, .int 1, .tuple [.int 1, .int 1]], .tuple [.int 1, .int 0, .tuple [.int (-2), .int 1]]], .tuple [.tuple [.int 0, .int 2, plainD], .tuple [.int 2, .int 0, plainD]]] = nearD.D := by rw [f11, f21]; rfl
  have hrd : ∀ (Q : PyData → Prop), Q (.list [.str "afloat", lotD [3]]) → F_law_heard [roundD.D] Q := fun Q q => ⟨roundD, _, rfl, .inl rfl, ok_round, fun z => absurd fe_round z, fun _ l e => (by cases e), fun _ _ _ => (by rw [show roundD.rest = [3] from by unfold Deal.rest Deal.near Deal.lots; rw [hu_round]; decide]; exact q), fun _ _ z => absurd z (by unfold Deal.near Deal.lots; rw [hu_round]; decide)⟩
  have hln : nearD.loose = none := lo_none ok_near ll_near
  have hnd : ∀ (Q : PyData → Prop), Q (.list [.str "afloat", lotD [1]]) → F_law_heard [nearD.D] Q := fun Q q => ⟨nearD, _, rfl, .inl rfl, ok_near, fun z => absurd fe_near z, fun _ l e => (by rw [hln] at e; cases e), fun _ _ _ => (by rw [show nearD.rest = [1] from by unfold Deal.rest Deal.near Deal.lots; rw [hu_near]; decide]; exact q), fun _ _ z => absurd z (by unfold Deal.near Deal.lots; rw [hu_near]; decide)⟩
  refine ⟨_, rfl, rfl, pairD, _, congrArg (fun x => [x]) ep, .inl rfl, ok_pair, ?_⟩
  rw [lo_pair]
  refine ⟨_, rfl, by simp [hsz], rfl, pairD, pairD.D, .inl rfl, ok_pair, .inr ⟨[0, 2, 3], congrArg (fun x => [x, lotD [0, 2, 3]]) ep, by decide, ?_⟩⟩
  rw [is_pair]
  refine ⟨_, rfl, rfl, pairD, _, congrArg (fun x => [x]) ep, .inl rfl, ok_pair, fe_pair, ?_⟩
  refine ⟨_, rfl, rfl, roundD, _, congrArg (fun x => [x]) er, .inl rfl, ok_round, fe_round, ?_⟩
  refine ⟨_, rfl, rfl, nearD, _, congrArg (fun x => [x]) en, .inl rfl, ok_near, fe_near, ?_⟩
  unfold hungD
  rw [hu_pair, hu_round, hu_near]
  refine ⟨_, rfl, rfl, ?_⟩
  show F_law_heard [PyData.tuple _] _
  rw [er]
  refine hrd _ ⟨_, rfl, rfl, ?_⟩
  show F_law_heard [PyData.tuple _] _
  rw [en]
  refine hnd _ ⟨rfl, frameD, _, rfl, .inl rfl, ok_frame, ?_⟩
  rw [st_frame]
  refine ⟨_, rfl, rfl, pairD, _, congrArg (fun x => [x]) ep, .inl rfl, ok_pair, ?_⟩
  rw [st_pair]
  refine ⟨by simp [hsz], _, rfl, by simp [hsz], by simp [hsz], by simp [hsz], by simp [hsz], by simp [hsz], by simp [hsz], by simp [hsz], by simp [hsz], by simp [hsz], by simp [hsz], by simp [hsz], by simp [hsz], by simp [hsz], by simp [hsz], by simp [hsz], rfl, _, rfl, ?_⟩
  refine ⟨sh_l (n := 11) fun x hx => ?_, h⟩
  simp only [List.mem_cons, List.not_mem_nil, or_false] at hx
  rcases hx with rfl | rfl | rfl | rfl | rfl | rfl | rfl | rfl | rfl
  · exact sh_lot (n := 10) [2, 3]
  · exact sh_b _
  · exact sh_t (n := 10) fun x hx => by obtain ⟨c, _, rfl⟩ := List.mem_map.mp hx; exact sh_lot c
  · exact sh_t (n := 10) fun x hx => by obtain ⟨c, _, rfl⟩ := List.mem_map.mp hx; exact sh_lot c
  · exact sh_t (n := 10) fun x hx => by obtain ⟨c, _, rfl⟩ := List.mem_map.mp hx; exact sh_lot c
  · exact sh_pair (n := 10) (sh_s can_afloat) (sh_lot (n := 9) _)
  · exact sh_pair (n := 10) (sh_s can_afloat) (sh_lot (n := 9) _)
  · exact sh_b _
  · exact sh_b _
end Lk

set_option Elab.async false
set_option linter.all false
set_option maxRecDepth 100000
set_option maxHeartbeats 4000000
namespace Lk
open PySem PySem.Spec PyProof.Rows L2 L2H HotX LkHot LkHead
variable {P : Program} {w : World} {K : PySem.W.Frag} {mg : Str → Option Value} {base : Heap}
section
variable {X : Cx} {W : Option Addr}
/-- a or b, both fresh lists -/
theorem df_or {a b : Expr} {Fa Fb : DL} {pos : Pos} (ha : DF X W a Fa) (hb : DF X W b Fb) : DF X W (.BoolOp .Or [a, b] pos) (fun g δ P => Fa g δ fun g1 ds => if ds.isEmpty = true then Fb g1 δ P else P g1 ds) :=
  pe_mono (pe_orT ha (pe_one hb)) fun σ H Q ⟨E, O, g, δ, P, R, f, k⟩ => ⟨E, O, g, δ, _, R, f, fun g1 ds vs p H1 q R1 s1 n x1 => by
    have l := dpAll_len x1
    refine ⟨!vs.isEmpty, .inl ⟨vs, SqL.of upd_same, rfl⟩, ?_⟩
    cases vs with
    | nil =>
      have : ds = [] := List.eq_nil_of_length_eq_zero (by simpa using l.symm)
      subst this
      rw [if_neg (by decide)]
      have q : Fb g1 δ P := q
      have s2 : Same H1 (upd H1 p (.lst [])) := same_new n
      exact ⟨E, O, g1, δ, _, R1.grow s2, q, fun g2 es ws p2 H2 pp R2 s3 n2 x2 => k g2 es ws p2 H2 pp R2 ((s1.trans (.of s2)).trans s3) n2 x2⟩
    | cons v vs =>
      cases ds with
      | nil => simp at l
      | cons d ds =>
        have q : P g1 (d :: ds) := q
        exact k g1 _ _ p H1 q R1 s1 n x1⟩
end
/-! ### a def that ends in a fresh list -/
def spB (K : PySem.W.Frag) (n : Nat) (F : List PyData → (List PyData → Prop) → Prop) : Sp := fun vs H Q _ => vs.length = n ∧ ∃ O ds P, (∀ a, O a = true → H a ≠ none) ∧ DpAll K (hid O H) vs ds ∧ F ds P ∧
  ∀ es ws p H', P es → Same H H' → H' p = none → DpAll K (hid O H') ws es → Q (.ref p) (upd H' p (.lst ws))
section
variable {x qual : Str} {params : Arguments} {scope : Scope} {f : Addr} {fd : FuncData} {N ps : List Str} {k n : Nat} {F : List PyData → (List PyData → Prop) → Prop} {G1 : DSt} {G : DL} {st : Stmt} {e : Expr} {pos : Pos}
theorem ca_ofB (Fd : FunD K x qual params [st, .Return (some e) pos] scope [] [] f fd) (S : FnScope N ps scope) (hps : ps.length = n) (hm : mg x = some (.ref f))
    (hbd : ∀ (kV doc pm : Value) (an : Option Addr) (cdv ct : Value) (us : List Value), us.length = ps.length → bindArgs (PySem.W.fnOf x qual params [st, .Return (some e) pos] scope .none kV doc pm an cdv ct) ⟨us, []⟩ = pure (ps.zip us))
    (hb1 : ∀ cdv A outer s H E, Room k (A.deeper (envOfC qual scope s.heap.objs.size f cdv)) → DS (cx2 P w K mg base N qual scope f cdv A outer s H E true []) none st G1)
    (hb2 : ∀ cdv A outer s H E, Room k (A.deeper (envOfC qual scope s.heap.objs.size f cdv)) → DF (cx2 P w K mg base N qual scope f cdv A outer s H E true []) none e G)
    (pure_ : ∀ ds P, ds.length = n → F ds P → G1 ⟨fun g δ => G g δ fun _ es => P es, fun _ _ => False⟩ 0 (initD N ds)) : Ca P w K mg base (k + 1) x (spB K n F) := by
  have hn : n ≤ N.length := by have := congrArg List.length S.pre; rw [List.length_take] at this; omega
  refine ⟨f, fd, ps, Fd.ok S (fun vs H Q E h => h.1.trans hps.symm) (fun cdv A outer s H vs Q E hr h => ⟨_, pss_cons (hb1 cdv A outer s H E hr) (pss_one (ps_ret (hb2 cdv A outer s H E hr))), ?_⟩), hm, Fd.kp, Fd.bindsN hbd⟩
  obtain ⟨l, O, ds, P', t, x, f', k'⟩ := h
  refine ⟨⟨O, H⟩, O, 0, initD N ds, _, rel_start t x (by omega), pure_ ds P' (by rw [← dpAll_len x]; exact l) f', fun O' g' δ' σ' H' pp R' u' s' => ?_, fun g' d v H' pp f' => pp.elim⟩
  exact ⟨⟨O, H⟩, O', g', δ', _, R', pp, fun g2 es ws p H2 q R2 s2 n2 x2 => k' es ws p H2 q (fun a o z => R2.same a o (fun z => nomatch z) z) n2 (x2.keep (hid_less R2.sub))⟩
end
section
variable {X : Cx} {W : Option Addr}
theorem df_callB {x : Str} {p pos : Pos} {e : Expr} {es : List Expr} {Fs : DL} {n k j : Nat} {F : List PyData → (List PyData → Prop) → Prop} (c : Ca X.prog X.w X.K X.mg X.base k x (spB X.K n F)) (hr : Room j X.A) (hk : k ≤ j) (ha : DA X W (e :: es) Fs) (hg : Gl X x := by rfl)
    (hdb : (x == ("__debug__" : Str)) = false := by decide) (he : starEach (e :: es) X.env = (false, eval e X.env) :: starEach es X.env := by rfl) (hpl : (backTo pos (starEach es X.env)).any (·.1) = false := by rfl) :
    DF X W (.Call (.Name x p) (e :: es) [] pos) (fun g δ P => Fs g δ fun g1 ds => ds.length = n ∧ F ds (P g1)) := by
  obtain ⟨f, fd, ps, h1, h2, h3, h4⟩ := c.ex
  refine pe_mono (pe_call h1 (hr.mono hk) hg h2 h3 h4 .nil pass0 ha hdb he hpl) fun σ H Q ⟨En, O, g, δ, P, R, f, k⟩ => ⟨En, O, g, δ, _, R, f, fun g1 ds vs H1 ⟨l, q⟩ R1 s1 x1 => ?_⟩
  show spB X.K n F (vs ++ []) H1 Q _
  rw [List.append_nil]
  exact ⟨by rw [dpAll_len x1]; exact l, O, ds, P g1, R1.there, x1, q, fun es ws p H' pp s n' x => k g1 es ws p H' pp (R1.grow s) (s1.trans (.of s)) n' x⟩
/-- a def over an urn that is made for it -/
theorem de_callU0 {x : Str} {p pos : Pos} {e : Expr} {Fe : DL} {c k j : Nat} {F : DSp} (cc : Ca X.prog X.w X.K X.mg X.base k x (spU X.K 0 c F)) (hr : Room j X.A) (hk : k ≤ j) (ha : DF X W e Fe) (hg : Gl X x := by rfl)
    (hdb : (x == ("__debug__" : Str)) = false := by decide) (he : starEach [e] X.env = (false, eval e X.env) :: starEach [] X.env := by rfl) (hpl : (backTo pos (starEach [] X.env)).any (·.1) = false := by rfl) :
    DE X W (.Call (.Name x p) [e] [] pos) (fun g δ P => Fe g δ fun g1 ds => ∃ a b : Int, ds = [.int a, .int b, .int 0] ∧ 0 ≤ a ∧ 0 ≤ b ∧ b < 2 ^ 62 ∧ c ≤ 1000 ∧ F [] (P g1)) := by
  obtain ⟨f, fd, ps, h1, h2, h3, h4⟩ := cc.ex
  refine pe_mono (pe_call h1 (hr.mono hk) hg h2 h3 h4 .nil pass0 (pa_cons ha pa_nil he) hdb he hpl) fun σ H Q ⟨En, O, g, δ, P, R, f, k⟩ => ⟨En, O, g, δ, _, R, f, fun g1 ds vs p H1 ⟨a, b, e1, h0, hb0, hb1, hc, q⟩ R1 s1 n x1 => ?_⟩
  show spU X.K 0 c F [.ref p] (upd H1 p (.lst vs)) Q E0
  subst e1
  have ev : vs = [.int a, .int b, .int 0] := dpAll_ints [a, b, 0] x1
  subst ev
  refine ⟨rfl, p, [], rfl, addO O p, 0, [], P g1, fun z hz => ?_, addO_self, ⟨a, b, 0, upd_same, h0, hb0, hb1, Int.le_refl _, Int.le_refl _⟩, by omega, .nil, q, fun d v H' pd s hu x => ?_⟩
  · by_cases e : z = p
    · rw [e, upd_same]; exact fun z => nomatch z
    · rw [upd_ne e]
      refine R1.there z ?_
      unfold addO at hz
      simpa [e] using hz
  · have ss : Same H1 H' := fun z o h => by
      have hne : z ≠ p := by rintro rfl; rw [n] at h; cases h
      exact s z o hne (by rw [upd_ne hne]; exact h)
    exact k g1 d v H' pd (R1.grow ss) (s1.trans (.of ss)) (x.keep (hid_less fun z hz => addO_old hz))
end
/-! ### cells, box, law -/
def F_law_cells : DSp := fun ds P => ∃ ns : List Int, ds = [.list (ns.map PyData.int), .int 1] ∧ ns.length ≤ 63 ∧ ∀ i : Int, P (.list [.int i])
def F_law_box : List PyData → (List PyData → Prop) → Prop := fun ds P => ∃ i : Int, ds = [.list [.int i], .int 0] ∧ ∀ a b : Int, 0 ≤ a → 0 ≤ b → b < 2 ^ 62 → P [.int a, .int b, .int 0]
def F_law : DSp := fun ds P => ∃ ns : List Int, ds = [.list (ns.map PyData.int)] ∧ ns.length ≤ 63 ∧ P (.bool true)
theorem sc_law_cells : FnScope ["_law_script", "_law_roof_so", "_law_bits_so", "_law_k", "_law_bit_so", "_law_at_so"] ["_law_script", "_law_roof_so"] (defScope s_law_cells) := ⟨rfl, rfl, rfl, by decide +kernel, rfl, by decide +kernel, by decide +kernel⟩
theorem cut_one (ns : List Int) : cutD (ns.map PyData.int) none (some 1) = (ns.take 1).map PyData.int := by
  unfold cutD
  have e1 : HT.sIx (ns.map PyData.int).length 0 none = 0 := rfl
  have e2 : HT.sIx (ns.map PyData.int).length (ns.map PyData.int).length (some 1) = min 1 ns.length := by
    have := HT.sIx_nat (ns.map PyData.int).length (ns.map PyData.int).length 1
    rw [List.length_map] at *
    exact this
  rw [e1, e2, List.drop_zero, Nat.sub_zero, ← List.map_take]
  cases ns <;> simp
theorem cut_some (ns : List Int) (lo hi : Option Int) : ∃ ms : List Int, cutD (ns.map PyData.int) lo hi = ms.map PyData.int ∧ ms.length ≤ ns.length := by
  unfold cutD
  refine ⟨_, by rw [← List.map_drop, ← List.map_take], ?_⟩
  rw [List.length_take, List.length_drop]
  omega
def CellsB : DSt := fun P g δ => ∃ (ns : List Int) (j : Int) (x3 x4 x5 : Sv), δ = [.dat (.list (ns.map PyData.int)), .dat (.int 1), .own [.int j], x3, x4, x5] ∧ ns.length ≤ 63 ∧ ∀ i : Int, P.rt g (.list [.int i])
theorem cellsB {f : Addr} {cdv : Value} {A : Around} {outer : List Env} {s : Shared} {H : Hp} {E : XK} (hr : Room 0 (A.deeper (envOfC "_law_cells" (defScope s_law_cells) s.heap.objs.size f cdv))) (B : Bi K mg) :
    DSs (cx2 P w K mg base ["_law_script", "_law_roof_so", "_law_bits_so", "_law_k", "_law_bit_so", "_law_at_so"] "_law_cells" (defScope s_law_cells) f cdv A outer s H E true []) none ((defBody s_law_cells).drop 1) CellsB := by
  have m := md_calm (cx2 P w K mg base ["_law_script", "_law_roof_so", "_law_bits_so", "_law_k", "_law_bit_so", "_law_at_so"] "_law_cells" (defScope s_law_cells) f cdv A outer s H E true []) rfl rfl
  have r : Rm (cx2 P w K mg base ["_law_script", "_law_roof_so", "_law_bits_so", "_law_k", "_law_bit_so", "_law_at_so"] "_law_cells" (defScope s_law_cells) f cdv A outer s H E true []) 0 := rm_calm hr
  refine dss_mono ((ds_cons (ds_for m PassesOwn.leaving (di_enum rfl B.n_enumerate (de_of (df_slL (de_var 0) (dp_some (de_var 1)) (dp_some de_int)))) (dg_tup (n := 2) m (dgs_cons (dg_name 3 sc_law_cells.nd) (dgs_cons (dg_name 4 sc_law_cells.nd) dgs_nil)) (mlen_cons (mlen_cons mlen_nil))) (ds_cons (ds_set 5 sc_law_cells.nd (de_op op_mod good_mod (de_callTy call_int1 good_int B.n_int (da_cons (de_var 3) da_nil)) (de_var 1)))
  (ds_one (ds_setItem 2 (de_op op_add good_add (de_ixO 2 (de_var 5)) (de_op op_mul good_mul (de_var 4) (de_op op_add good_add (de_var 3) de_int))) (de_var 5)))))
  (ds_one (ds_retO 2)))) ?_
  rintro P g δ ⟨ns, j, x3, x4, x5, rfl, hl, h⟩
  have hsz : sizeLine = 16777216 := sizeLine_eq
  obtain ⟨ms, e1, e2⟩ := cut_some ns (some 1) (some 63)
  refine ⟨_, rfl, _, rfl, 1, rfl, _, rfl, _, rfl, ?_⟩
  rw [e1]
  dsimp only
  refine ⟨_, rfl, ?_⟩
  rw [enD_zip]
  refine forD_rel (emb := fun p : Int × Nat => PyData.tuple [.int (p.2 : Int), .int p.1]) (fun rs g' δ => ∃ (j : Int) (a b c : Sv), δ = [.dat (.list (ns.map PyData.int)), .dat (.int 1), .own [.int j], a, b, c] ∧ g' = g ∧ ∀ p ∈ rs, p.2 ≤ 100)
    (fun p rs g' δ hI => ?_) (fun g' δ hI => ?_) _ g _ ⟨j, _, _, _, rfl, rfl, fun p hp => ?_⟩
  · obtain ⟨j, a, b, c, rfl, rfl, hb⟩ := hI
    refine ⟨_, rfl, fun k hkr hk => ?_⟩
    have hp := hb p List.mem_cons_self
    refine ⟨_, rfl, ?_⟩
    show wInt [.int (p.2 : Int)] _
    rw [wInt_i]
    refine ⟨_, rfl, _, _, rfl, rfl, (show (0 : Int) < 1 by decide), ?_⟩
    dsimp only
    rw [Int.emod_one]
    refine ⟨_, rfl, _, rfl, _, rfl, 0, .int j, rfl, rfl, _, rfl, _, rfl, _, _, rfl, rfl, _, _, rfl, rfl, .inr ⟨by omega, by omega⟩, _, _, rfl, rfl, _, rfl, 0, 0, rfl, rfl, ?_⟩
    exact hk _ _ ⟨_, _, _, _, rfl, rfl, fun q hq => hb q (List.mem_cons_of_mem _ hq)⟩
  · obtain ⟨j, a, b, c, rfl, rfl, hb⟩ := hI
    exact ⟨_, rfl, h j⟩
  · have := List.snd_lt_of_mem_zipIdx hp
    omega
theorem ca_law_cells {f : Addr} {fd : FuncData} (B : Bi K mg) (Fd : FunD K "_law_cells" "_law_cells" (defArgs s_law_cells) (defBody s_law_cells) (defScope s_law_cells) [] [] f fd) (hm : mg "_law_cells" = some (.ref f)) :
    Ca P w K mg base 1 "_law_cells" (spD K 2 F_law_cells) := by
  refine ca_of (k := 0) Fd sc_law_cells rfl hm (fun _ _ _ _ _ _ us hl => match us, hl with | [_, _], _ => rfl) (fun cdv A outer s H E hr =>
  have m := md_calm (cx2 P w K mg base ["_law_script", "_law_roof_so", "_law_bits_so", "_law_k", "_law_bit_so", "_law_at_so"] "_law_cells" (defScope s_law_cells) f cdv A outer s H E true []) rfl rfl
  have r : Rm (cx2 P w K mg base ["_law_script", "_law_roof_so", "_law_bits_so", "_law_k", "_law_bit_so", "_law_at_so"] "_law_cells" (defScope s_law_cells) f cdv A outer s H E true []) 0 := rm_calm hr
  (ds_cons (ds_setO 2 sc_law_cells.nd (df_or (df_list B.n_list (de_of (df_slL (de_var 0) dp_none (dp_some (de_var 1))))) (df_lst (da_cons de_int da_nil)))) (cellsB hr B))) ?_
  rintro ds P' - ⟨ns, rfl, hl, h⟩
  have hsz : sizeLine = 16777216 := sizeLine_eq
  refine ⟨_, rfl, _, rfl, 1, rfl, _, rfl, _, .inl rfl, ?_⟩
  rw [cut_one]
  cases ns with
  | nil => exact ⟨by simp [hsz], [], 0, _, _, _, rfl, by simp, h⟩
  | cons n ns => exact ⟨n :: ns, n, _, _, _, rfl, hl, h⟩
theorem sc_law_box : FnScope ["_law_script", "_law_k", "_law_bit_so"] ["_law_script", "_law_k"] (defScope s_law_box) := ⟨rfl, rfl, rfl, by decide +kernel, rfl, by decide +kernel, by decide +kernel⟩
theorem ca_law_box {f : Addr} {fd : FuncData} (B : Bi K mg) (Fd : FunD K "_law_box" "_law_box" (defArgs s_law_box) (defBody s_law_box) (defScope s_law_box) [] [] f fd) (hm : mg "_law_box" = some (.ref f)) :
    Ca P w K mg base 1 "_law_box" (spB K 2 F_law_box) := by
  refine ca_ofB (k := 0) Fd sc_law_box rfl hm (fun _ _ _ _ _ _ us hl => match us, hl with | [_, _], _ => rfl) (fun cdv A outer s H E hr =>
  have m := md_calm (cx2 P w K mg base ["_law_script", "_law_k", "_law_bit_so"] "_law_box" (defScope s_law_box) f cdv A outer s H E true []) rfl rfl
  have r : Rm (cx2 P w K mg base ["_law_script", "_law_k", "_law_bit_so"] "_law_box" (defScope s_law_box) f cdv A outer s H E true []) 0 := rm_calm hr
  (ds_set 2 sc_law_box.nd (de_if (dt_cmp op_lt good_lt (de_var 1) (de_callB call_len good_len B.n_len (da_cons (de_var 0) da_nil))) (de_ix (de_var 0) (de_var 1)) de_int))) (fun cdv A outer s H E hr =>
  have m := md_calm (cx2 P w K mg base ["_law_script", "_law_k", "_law_bit_so"] "_law_box" (defScope s_law_box) f cdv A outer s H E true []) rfl rfl
  have r : Rm (cx2 P w K mg base ["_law_script", "_law_k", "_law_bit_so"] "_law_box" (defScope s_law_box) f cdv A outer s H E true []) 0 := rm_calm hr
  (df_lst (da_cons (de_op op_mul good_mul (de_callB call_abs good_abs B.n_abs (da_cons (de_var 2) da_nil)) (de_callTy call_int1 good_int B.n_int (da_cons (de_cmp op_ge good_ge (de_callB call_abs good_abs B.n_abs (da_cons (de_var 2) da_nil)) (de_op op_pow good_pow de_int de_int)) da_nil))) (da_cons (de_op op_add good_add (de_op op_add good_add (de_op op_mod good_mod (de_callTy call_int1 good_int B.n_int (da_cons (de_var 2) da_nil)) de_int) (de_op op_mul good_mul de_int (de_var 1))) de_int) (da_cons de_int da_nil))))) ?_
  rintro ds P' - ⟨i, rfl, h⟩
  have hsz : sizeLine = 16777216 := sizeLine_eq
  refine ⟨_, rfl, _, rfl, ?_⟩
  show wLen [.list [.int i]] _
  rw [wLen_l]
  refine ⟨_, _, rfl, rfl, _, rfl, ?_⟩
  dsimp only
  rw [if_pos (by simp)]
  refine ⟨_, rfl, _, rfl, ?_⟩
  show wIx (.list [.int i]) (.int 0) _
  rw [wIx_l]
  refine ⟨_, at0 _ _, ?_⟩
  refine ⟨_, rfl, i, rfl, _, rfl, i, rfl, 10, 18, rfl, rfl, ⟨by decide, by decide, by decide⟩, _, _, rfl, rfl, ?_⟩
  show wInt [.bool _] _
  rw [wInt_b]
  have hj : ∀ b : Bool, (0 : Int) ≤ (if b = true then 1 else 0) ∧ (if b = true then (1 : Int) else 0) ≤ 1 := fun b => by cases b <;> decide
  have hab : 0 ≤ (if i < 0 then -i else i) := by split <;> omega
  refine ⟨_, _, rfl, rfl, .inr ?_, _, rfl, ?_⟩
  · exact ⟨Int.lt_of_lt_of_le (by decide) (hj _).1, Int.lt_of_le_of_lt (hj _).2 (by decide)⟩
  show wInt [.int i] _
  rw [wInt_i]
  have h1 := Int.emod_nonneg i (b := 2305843009213693951) (by decide)
  have h2 := Int.emod_lt_of_pos i (b := 2305843009213693951) (by decide)
  refine ⟨_, _, rfl, rfl, (show (0 : Int) < 2305843009213693951 by decide), _, rfl, 39373, 0, rfl, rfl, .inl ⟨by decide, by decide⟩, _, _, rfl, rfl, _, _, rfl, rfl, by simp [hsz], h _ _ (Int.mul_nonneg hab (hj _).1) ?_ ?_⟩
  · omega
  · omega
theorem fn_of {x qual : Str} {params : Arguments} {body : List Stmt} {scope : Scope} {f : Addr} {fd : FuncData} {N ps : List Str} {k n : Nat} {F : DSp} {G : DSt} (Fd : FunD K x qual params body scope [] [] f fd) (S : FnScope N ps scope) (hps : ps.length = n)
    (hb : ∀ cdv A outer s H E, Room k (A.deeper (envOfC qual scope s.heap.objs.size f cdv)) → DSs (cx2 P w K mg base N qual scope f cdv A outer s H E true []) none body G)
    (pure_ : ∀ ds P, ds.length = n → F ds P → G ⟨fun _ _ => P .none, fun _ d => P d⟩ 0 (initD N ds)) : FnOk P w K mg base CX0 (k + 1) f fd ps (spD K n F) := by
  have hn : n ≤ N.length := by have := congrArg List.length S.pre; rw [List.length_take] at this; omega
  exact Fd.ok S (fun vs H Q E h => h.1.trans hps.symm) (fun cdv A outer s H vs Q E hr h => ⟨_, hb cdv A outer s H E hr, tS_start hn pure_ h⟩)
theorem sc_law : FnScope ["_law_script"] ["_law_script"] (defScope s_law) := ⟨rfl, rfl, rfl, by decide +kernel, rfl, by decide +kernel, by decide +kernel⟩
theorem ok_law {f : Addr} {fd : FuncData} (B : Bi K mg) (Fd : FunD K "law" "law" (defArgs s_law) (defBody s_law) (defScope s_law) [] [] f fd) (hm : mg "law" = some (.ref f)) (c_law_front_right : Ca P w K mg base 19 "_law_front_right" (spD K 0 F_law_front_right)) (c_law_right : Ca P w K mg base 19 "_law_right" (spU K 0 500 F_law_right)) (c_law_box : Ca P w K mg base 1 "_law_box" (spB K 2 F_law_box)) (c_law_cells : Ca P w K mg base 1 "_law_cells" (spD K 2 F_law_cells)) :
    FnOk P w K mg base CX0 20 f fd ["_law_script"] (spD K 1 F_law) := by
  refine fn_of (k := 19) Fd sc_law rfl (fun cdv A outer s H E hr =>
  have m := md_calm (cx2 P w K mg base ["_law_script"] "law" (defScope s_law) f cdv A outer s H E true []) rfl rfl
  have r : Rm (cx2 P w K mg base ["_law_script"] "law" (defScope s_law) f cdv A outer s H E true []) 19 := rm_calm hr
  (ds_cons (ds_if (dt_not (dt_val (de_call0 c_law_front_right hr (by decide)))) (ds_one (ds_ret de_bl)) ds_nil)
  (ds_one (ds_ret (de_callU0 c_law_right hr (by decide) (df_callB (n := 2) c_law_box hr (by decide) (da_cons (de_call (n := 2) c_law_cells hr (by decide) (da_cons (de_var 0) (da_cons de_int da_nil))) (da_cons de_int da_nil)))))))) ?_
  rintro ds P' - ⟨ns, rfl, hl, h⟩
  refine ⟨rfl, ?_⟩
  refine ⟨_, rfl, ?_⟩
  dsimp only
  rw [if_neg (by decide)]
  refine ⟨_, rfl, rfl, ns, rfl, hl, fun i => ⟨rfl, i, rfl, fun a b h1 h2 h3 => ⟨a, b, rfl, h1, h2, h3, by decide, rfl, h⟩⟩⟩
end Lk

set_option Elab.async false
set_option linter.all false
set_option maxRecDepth 100000
set_option maxHeartbeats 0
namespace LkHead
open PySem PySem.Spec PyProof.Rows L2
/-! ### own exceptions, by a look -/
def oexB (K : PySem.W.Frag) (C : Addr) : Bool := (match K.lookup C with
  | some ⟨.type t, _, .cls cd, sl⟩ => decide (t = "type") && (match cd.mro, sl.toList with
    | .ref C' :: bm, [_, _, _, _, some (.builtin n), _] => decide (C' = C) && (decide (n = "ValueError.__new__") && (!cd.hasDel && (cd.hasDict && PySem.HandSPX.refsVE bm)))
    | _, _ => false)
  | _ => false) && (He.eqO (PySem.W.findIn K (.ref C) "__setattr__") (some (some (.builtin "object.__setattr__"))) && (decide (PySem.W.subIn K (.ref C) (.type "BaseException") = some true) && (decide (PySem.W.typeIn K (.ref C) = some (.type "type")) && PySem.W.keepIn K (.ref C))))
theorem oexB_ok {K : PySem.W.Frag} {C : Addr} (h : oexB K C = true) : OexC K C := by
  unfold oexB at h
  obtain ⟨h1, h⟩ := He.ba h
  obtain ⟨h2, h⟩ := He.ba h
  obtain ⟨h3, h⟩ := He.ba h
  obtain ⟨h4, h5⟩ := He.ba h
  refine ⟨?_, He.eqO_ok h2, of_decide_eq_true h3, of_decide_eq_true h4, h5⟩
  split at h1
  · rename_i t dd cd sl ho
    obtain ⟨e0, h1⟩ := He.ba h1
    have e0 := of_decide_eq_true e0
    subst e0
    split at h1
    · rename_i C' bm k0 k1 k2 k3 n k5 hm hs
      obtain ⟨_, h1⟩ := He.ba h1
      obtain ⟨e1, h1⟩ := He.ba h1
      obtain ⟨e2, h1⟩ := He.ba h1
      obtain ⟨e3, h1⟩ := He.ba h1
      obtain ⟨e4, e5⟩ := He.ba h1
      have e1 := of_decide_eq_true e1
      have e2 := of_decide_eq_true e2
      subst e1 e2
      obtain ⟨nm, bs, mro, ns, qn, hd, sn, sub, ab, col, del⟩ := cd
      dsimp only at hm e3 e4
      have e3 : del = false := by simpa using e3
      subst hm e3 e4
      have hsl : sl = #[k0, k1, k2, k3, some (.builtin "ValueError.__new__"), k5] := by
        obtain ⟨l⟩ := sl
        simp only at hs
        rw [hs]
      subst hsl
      exact ⟨nm, qn, ns, bs, bm, sn, sub, ab, col, dd, k0, k1, k2, k3, k5, ho, e5⟩
    · cases h1
  · cases h1
def ecB (K : PySem.W.Frag) (x f : Str) : Bool := oexB K (He.ga K x) && (xfB K (He.ga K x) && (He.eqO (PySem.W.findIn K (.ref (He.ga K x)) f) (some none) && (He.eqO (PySem.W.findIn K (.ref (He.ga K x)) "__init__") (some (some (.ref (He.ma K (He.ga K x) "__init__")))) && decide (PySem.W.typeIn K (.ref (He.ma K (He.ga K x) "__init__")) = some (.type "function")))))
abbrev si_NoRoom : Stmt := inClass (top 4) 0
def di_NoRoom : He.DefD := ⟨("NoRoom", some "__init__"), "__init__", "NoRoom.__init__", defArgs si_NoRoom, defBody si_NoRoom, defScope si_NoRoom, [], []⟩
abbrev si_Loose : Stmt := inClass (top 5) 0
def di_Loose : He.DefD := ⟨("Loose", some "__init__"), "__init__", "Loose.__init__", defArgs si_Loose, defBody si_Loose, defScope si_Loose, [], []⟩
abbrev si_Afloat : Stmt := inClass (top 6) 0
def di_Afloat : He.DefD := ⟨("Afloat", some "__init__"), "__init__", "Afloat.__init__", defArgs si_Afloat, defBody si_Afloat, defScope si_Afloat, [], []⟩
def fnC : List He.DefD := [di_NoRoom, di_Loose, di_Afloat]
def fn1 : List He.DefD := fn ++ fnC
def faE : List He.Fa := [.exm "NoRoom" "NoRoom" true, .exm "Loose" "NoRoom" false, .exm "Loose" "Loose" true, .exm "Afloat" "NoRoom" false, .exm "Afloat" "Loose" false, .exm "Afloat" "Afloat" true]
def fa1 : List He.Fa := fa ++ faE
def ex1 (K : PySem.W.Frag) : Bool := ex K && (ecB K "NoRoom" "ring" && ecB K "Loose" "lot" && ecB K "Afloat" "lot")
abbrev hk1 : PySem.W.Hook := hookY 5 fa1 fn1 ex1
def ob1 (s : PySem.W.SharedT) : He.AlD × Bool := obsYG 5 fa1 fn1 ex1 (HandSHeadRun.getT s)
theorem ob1_eq (s : PySem.W.SharedT) : ob1 s = hk1.obs s.abs := obsY_eq (HandSHeadRun.getT_eq s)
theorem run1 (w : World) : HandSHeadRun.RunEqI R qv hk1 ob1 20000 loose w := by
  unfold HandSHeadRun.RunEqI
  kernel_rfl
end LkHead

set_option Elab.async false
set_option linter.all false
set_option maxRecDepth 100000
set_option maxHeartbeats 4000000
namespace Lk
open PySem PySem.Spec PyProof.Rows L2 L2H HotX LkHot LkHead
/-! ### all together -/
section
variable {P : Program} {w : World} {K : PySem.W.Frag} {h : Heap} {mg : Str → Option Value}
theorem bi_of (X : K.In h) (G : h.Ns mainGlobals mg) (c : SaysY fa1 fn1 ex1 K) : Bi K mg where
  n_isinstance := He.free_ok X G (c.d.fact 54 (f := .free "isinstance") rfl)
  n_int := He.free_ok X G (c.d.fact 55 (f := .free "int") rfl)
  n_bool := He.free_ok X G (c.d.fact 56 (f := .free "bool") rfl)
  n_tuple := He.free_ok X G (c.d.fact 57 (f := .free "tuple") rfl)
  n_list := He.free_ok X G (c.d.fact 58 (f := .free "list") rfl)
  n_len := He.free_ok X G (c.d.fact 59 (f := .free "len") rfl)
  n_str := He.free_ok X G (c.d.fact 60 (f := .free "str") rfl)
  n_all := He.free_ok X G (c.d.fact 61 (f := .free "all") rfl)
  n_any := He.free_ok X G (c.d.fact 62 (f := .free "any") rfl)
  n_set := He.free_ok X G (c.d.fact 63 (f := .free "set") rfl)
  n_sorted := He.free_ok X G (c.d.fact 64 (f := .free "sorted") rfl)
  n_range := He.free_ok X G (c.d.fact 65 (f := .free "range") rfl)
  n_enumerate := He.free_ok X G (c.d.fact 66 (f := .free "enumerate") rfl)
  n_zip := He.free_ok X G (c.d.fact 67 (f := .free "zip") rfl)
  n_min := He.free_ok X G (c.d.fact 68 (f := .free "min") rfl)
  n_max := He.free_ok X G (c.d.fact 69 (f := .free "max") rfl)
  n_abs := He.free_ok X G (c.d.fact 70 (f := .free "abs") rfl)
  n_gcd := by
    obtain ⟨h1, _⟩ := He.ba (show (ex K && _) = true from c.more)
    obtain ⟨_, h2⟩ := He.ba h1
    exact PySem.W.mg_of X G (He.eqO_ok h2)
  none_ := by
    obtain ⟨h1, _⟩ := He.ba (show (ex K && _) = true from c.more)
    obtain ⟨h2, _⟩ := He.ba h1
    exact ⟨He.ga K "NONE", (He.glo_ok X G (c.d.fact 73 (f := .glo "NONE") rfl)), fun H => He.tupB_ok h2 H⟩
  hard := He.str_ok X G (c.d.fact 71 (f := .str "HARD" "hard") rfl)
  ease := He.str_ok X G (c.d.fact 72 (f := .str "EASE" "ease") rfl)
theorem ec_of {x f : Str} {k : Nat} {base : Heap} (he : ecB K x f = true) (hm : mg x = some (.ref (He.ga K x)))
    (hi : ∃ (fd : FuncData) (ps : List Str), FnOk P w K mg base CX0 1 (He.ma K (He.ga K x) "__init__") fd ps (spI K (He.ga K x) f) ∧ Binds K fd ps []) : Ec P w K mg base x f (He.ga K x) := by
  obtain ⟨h1, he⟩ := He.ba he
  obtain ⟨h2, he⟩ := He.ba he
  obtain ⟨h3, he⟩ := He.ba he
  obtain ⟨h4, h5⟩ := He.ba he
  obtain ⟨fd, ps, i1, i2⟩ := hi
  exact ⟨oexB_ok h1, xfB_ok h2, He.eqO_ok h3, hm, _, fd, ps, He.eqO_ok h4, of_decide_eq_true h5, i1, i2⟩
theorem ecs_of (X : K.In h) (G : h.Ns mainGlobals mg) (c : SaysY fa1 fn1 ex1 K) (base : Heap) : Ecs P w K mg base (He.ga K "NoRoom") (He.ga K "Loose") (He.ga K "Afloat") := by
  obtain ⟨_, hx⟩ := He.ba (show (ex K && _) = true from c.more)
  obtain ⟨hx, e3⟩ := He.ba hx
  obtain ⟨e1, e2⟩ := He.ba hx
  obtain ⟨fd0, F0⟩ := c.d.def_ 54 (d := di_NoRoom) rfl
  obtain ⟨fd1, F1⟩ := c.d.def_ 55 (d := di_Loose) rfl
  obtain ⟨fd2, F2⟩ := c.d.def_ 56 (d := di_Afloat) rfl
  have x_NoRoom_NoRoom := He.exm_ok (c.d.fact 79 (f := .exm "NoRoom" "NoRoom" true) rfl)
  have x_Loose_NoRoom := He.exm_ok (c.d.fact 80 (f := .exm "Loose" "NoRoom" false) rfl)
  have x_Loose_Loose := He.exm_ok (c.d.fact 81 (f := .exm "Loose" "Loose" true) rfl)
  have x_Afloat_NoRoom := He.exm_ok (c.d.fact 82 (f := .exm "Afloat" "NoRoom" false) rfl)
  have x_Afloat_Loose := He.exm_ok (c.d.fact 83 (f := .exm "Afloat" "Loose" false) rfl)
  have x_Afloat_Afloat := He.exm_ok (c.d.fact 84 (f := .exm "Afloat" "Afloat" true) rfl)
  exact {
    nr := ec_of (k := 1) e1 (He.glo_ok X G (c.d.fact 74 (f := .glo "NoRoom") rfl)) ⟨_, _, ini_iNR F0, F0.bindsN (ps := ["self", "ring"]) fun _ _ _ _ _ _ us hl => match us, hl with | [_, _], _ => rfl⟩
    lo := ec_of (k := 1) e2 (He.glo_ok X G (c.d.fact 75 (f := .glo "Loose") rfl)) ⟨_, _, ini_iLo F1, F1.bindsN (ps := ["self", "lot"]) fun _ _ _ _ _ _ us hl => match us, hl with | [_, _], _ => rfl⟩
    af := ec_of (k := 1) e3 (He.glo_ok X G (c.d.fact 76 (f := .glo "Afloat") rfl)) ⟨_, _, ini_iAf F2, F2.bindsN (ps := ["self", "lot"]) fun _ _ _ _ _ _ us hl => match us, hl with | [_, _], _ => rfl⟩
    ab := fun e => by rw [e, x_NoRoom_NoRoom] at x_Loose_NoRoom; cases x_Loose_NoRoom
    ac := fun e => by rw [e, x_NoRoom_NoRoom] at x_Afloat_NoRoom; cases x_Afloat_NoRoom
    bc := fun e => by rw [e, x_Loose_Loose] at x_Afloat_Loose; cases x_Afloat_Loose
    aa := x_NoRoom_NoRoom
    ba := x_Loose_NoRoom
    bb := x_Loose_Loose
    ca := x_Afloat_NoRoom
    cb := x_Afloat_Loose
    cc := x_Afloat_Afloat }
theorem law_facts (X : K.In h) (G : h.Ns mainGlobals mg) (c : SaysY fa1 fn1 ex1 K) :
    ∃ fd : FuncData, (∀ (s : Shared) (v : Value), BindsTo s fd ⟨[v], []⟩ [("_law_script", v)]) ∧ ∀ base : Heap, FnOk P w K mg base CX0 20 (He.ga K "law") fd ["_law_script"] (spD K 1 F_law) := by
  have B := bi_of X G c
  obtain ⟨fd_is_number, F_is_number⟩ := c.d.def_ 0 (d := d_is_number) rfl
  have m_is_number := (He.glo_ok X G (c.d.fact 0 (f := .glo "is_number") rfl))
  obtain ⟨fd_is_tuple_of, F_is_tuple_of⟩ := c.d.def_ 2 (d := d_is_tuple_of) rfl
  have m_is_tuple_of := (He.glo_ok X G (c.d.fact 2 (f := .glo "is_tuple_of") rfl))
  obtain ⟨fd_fraction, F_fraction⟩ := c.d.def_ 3 (d := d_fraction) rfl
  have m_fraction := (He.glo_ok X G (c.d.fact 3 (f := .glo "fraction") rfl))
  obtain ⟨fd_plus, F_plus⟩ := c.d.def_ 4 (d := d_plus) rfl
  have m_plus := (He.glo_ok X G (c.d.fact 4 (f := .glo "plus") rfl))
  obtain ⟨fd_order, F_order⟩ := c.d.def_ 5 (d := d_order) rfl
  have m_order := (He.glo_ok X G (c.d.fact 5 (f := .glo "order") rfl))
  obtain ⟨fd_is_thing_below, F_is_thing_below⟩ := c.d.def_ 6 (d := d_is_thing_below) rfl
  have m_is_thing_below := (He.glo_ok X G (c.d.fact 6 (f := .glo "is_thing_below") rfl))
  obtain ⟨fd_has_mark, F_has_mark⟩ := c.d.def_ 7 (d := d_has_mark) rfl
  have m_has_mark := (He.glo_ok X G (c.d.fact 7 (f := .glo "has_mark") rfl))
  obtain ⟨fd_tuple_of, F_tuple_of⟩ := c.d.def_ 1 (d := d_tuple_of) rfl
  have m_tuple_of := (He.glo_ok X G (c.d.fact 1 (f := .glo "tuple_of") rfl))
  obtain ⟨fd_law_lists, F_law_lists⟩ := c.d.def_ 27 (d := d_law_lists) rfl
  have m_law_lists := (He.glo_ok X G (c.d.fact 27 (f := .glo "_law_lists") rfl))
  obtain ⟨fd_law_same, F_law_same⟩ := c.d.def_ 28 (d := d_law_same) rfl
  have m_law_same := (He.glo_ok X G (c.d.fact 28 (f := .glo "_law_same") rfl))
  obtain ⟨fd_law_frac, F_law_frac⟩ := c.d.def_ 29 (d := d_law_frac) rfl
  have m_law_frac := (He.glo_ok X G (c.d.fact 29 (f := .glo "_law_frac") rfl))
  obtain ⟨fd_law_add, F_law_add⟩ := c.d.def_ 30 (d := d_law_add) rfl
  have m_law_add := (He.glo_ok X G (c.d.fact 30 (f := .glo "_law_add") rfl))
  obtain ⟨fd_law_off, F_law_off⟩ := c.d.def_ 31 (d := d_law_off) rfl
  have m_law_off := (He.glo_ok X G (c.d.fact 31 (f := .glo "_law_off") rfl))
  obtain ⟨fd_law_below, F_law_below⟩ := c.d.def_ 33 (d := d_law_below) rfl
  have m_law_below := (He.glo_ok X G (c.d.fact 33 (f := .glo "_law_below") rfl))
  obtain ⟨fd_law_sum, F_law_sum⟩ := c.d.def_ 32 (d := d_law_sum) rfl
  have m_law_sum := (He.glo_ok X G (c.d.fact 32 (f := .glo "_law_sum") rfl))
  obtain ⟨fd_law_plain, F_law_plain⟩ := c.d.def_ 34 (d := d_law_plain) rfl
  have m_law_plain := (He.glo_ok X G (c.d.fact 34 (f := .glo "_law_plain") rfl))
  obtain ⟨fd_law_frame, F_law_frame⟩ := c.d.def_ 49 (d := d_law_frame) rfl
  have m_law_frame := (He.glo_ok X G (c.d.fact 49 (f := .glo "_law_frame") rfl))
  obtain ⟨fd_law_ends, F_law_ends⟩ := c.d.def_ 40 (d := d_law_ends) rfl
  have m_law_ends := (He.glo_ok X G (c.d.fact 40 (f := .glo "_law_ends") rfl))
  obtain ⟨fd_law_marks, F_law_marks⟩ := c.d.def_ 41 (d := d_law_marks) rfl
  have m_law_marks := (He.glo_ok X G (c.d.fact 41 (f := .glo "_law_marks") rfl))
  obtain ⟨fd_law_is_hard, F_law_is_hard⟩ := c.d.def_ 45 (d := d_law_is_hard) rfl
  have m_law_is_hard := (He.glo_ok X G (c.d.fact 45 (f := .glo "_law_is_hard") rfl))
  obtain ⟨fd_law_far, F_law_far⟩ := c.d.def_ 44 (d := d_law_far) rfl
  have m_law_far := (He.glo_ok X G (c.d.fact 44 (f := .glo "_law_far") rfl))
  obtain ⟨fd_rule_of, F_rule_of⟩ := c.d.def_ 8 (d := d_rule_of) rfl
  have m_rule_of := (He.glo_ok X G (c.d.fact 8 (f := .glo "rule_of") rfl))
  obtain ⟨fd_ring_far, F_ring_far⟩ := c.d.def_ 10 (d := d_ring_far) rfl
  have m_ring_far := (He.glo_ok X G (c.d.fact 10 (f := .glo "ring_far") rfl))
  obtain ⟨fd_come_to, F_come_to⟩ := c.d.def_ 17 (d := d_come_to) rfl
  have m_come_to := (He.glo_ok X G (c.d.fact 17 (f := .glo "come_to") rfl))
  obtain ⟨fd_loose_lot, F_loose_lot⟩ := c.d.def_ 18 (d := d_loose_lot) rfl
  have m_loose_lot := (He.glo_ok X G (c.d.fact 18 (f := .glo "loose_lot") rfl))
  obtain ⟨fd_is_loose_lot, F_is_loose_lot⟩ := c.d.def_ 19 (d := d_is_loose_lot) rfl
  have m_is_loose_lot := (He.glo_ok X G (c.d.fact 19 (f := .glo "is_loose_lot") rfl))
  obtain ⟨fd_law_is_loose, F_law_is_loose⟩ := c.d.def_ 48 (d := d_law_is_loose) rfl
  have m_law_is_loose := (He.glo_ok X G (c.d.fact 48 (f := .glo "_law_is_loose") rfl))
  obtain ⟨fd_gaps_from, F_gaps_from⟩ := c.d.def_ 14 (d := d_gaps_from) rfl
  have m_gaps_from := (He.glo_ok X G (c.d.fact 14 (f := .glo "gaps_from") rfl))
  obtain ⟨fd_ties_of, F_ties_of⟩ := c.d.def_ 15 (d := d_ties_of) rfl
  have m_ties_of := (He.glo_ok X G (c.d.fact 15 (f := .glo "ties_of") rfl))
  obtain ⟨fd_no_room, F_no_room⟩ := c.d.def_ 11 (d := d_no_room) rfl
  have m_no_room := (He.glo_ok X G (c.d.fact 11 (f := .glo "no_room") rfl))
  obtain ⟨fd_is_ring, F_is_ring⟩ := c.d.def_ 9 (d := d_is_ring) rfl
  have m_is_ring := (He.glo_ok X G (c.d.fact 9 (f := .glo "is_ring") rfl))
  obtain ⟨fd_is_no_room, F_is_no_room⟩ := c.d.def_ 12 (d := d_is_no_room) rfl
  have m_is_no_room := (He.glo_ok X G (c.d.fact 12 (f := .glo "is_no_room") rfl))
  obtain ⟨fd_sure_room, F_sure_room⟩ := c.d.def_ 13 (d := d_sure_room) rfl
  have m_sure_room := (He.glo_ok X G (c.d.fact 13 (f := .glo "sure_room") rfl))
  obtain ⟨fd_hung_lots, F_hung_lots⟩ := c.d.def_ 16 (d := d_hung_lots) rfl
  have m_hung_lots := (He.glo_ok X G (c.d.fact 16 (f := .glo "hung_lots") rfl))
  obtain ⟨fd_stands, F_stands⟩ := c.d.def_ 21 (d := d_stands) rfl
  have m_stands := (He.glo_ok X G (c.d.fact 21 (f := .glo "stands") rfl))
  obtain ⟨fd_standing, F_standing⟩ := c.d.def_ 20 (d := d_standing) rfl
  have m_standing := (He.glo_ok X G (c.d.fact 20 (f := .glo "standing") rfl))
  obtain ⟨fd_law_heard, F_law_heard⟩ := c.d.def_ 51 (d := d_law_heard) rfl
  have m_law_heard := (He.glo_ok X G (c.d.fact 51 (f := .glo "_law_heard") rfl))
  obtain ⟨fd_law_take, F_law_take⟩ := c.d.def_ 23 (d := d_law_take) rfl
  have m_law_take := (He.glo_ok X G (c.d.fact 23 (f := .glo "_law_take") rfl))
  obtain ⟨fd_law_of, F_law_of⟩ := c.d.def_ 25 (d := d_law_of) rfl
  have m_law_of := (He.glo_ok X G (c.d.fact 25 (f := .glo "_law_of") rfl))
  obtain ⟨fd_law_pick, F_law_pick⟩ := c.d.def_ 26 (d := d_law_pick) rfl
  have m_law_pick := (He.glo_ok X G (c.d.fact 26 (f := .glo "_law_pick") rfl))
  obtain ⟨fd_law_two, F_law_two⟩ := c.d.def_ 36 (d := d_law_two) rfl
  have m_law_two := (He.glo_ok X G (c.d.fact 36 (f := .glo "_law_two") rfl))
  obtain ⟨fd_law_scale, F_law_scale⟩ := c.d.def_ 35 (d := d_law_scale) rfl
  have m_law_scale := (He.glo_ok X G (c.d.fact 35 (f := .glo "_law_scale") rfl))
  obtain ⟨fd_law_hards, F_law_hards⟩ := c.d.def_ 37 (d := d_law_hards) rfl
  have m_law_hards := (He.glo_ok X G (c.d.fact 37 (f := .glo "_law_hards") rfl))
  obtain ⟨fd_law_counts, F_law_counts⟩ := c.d.def_ 39 (d := d_law_counts) rfl
  have m_law_counts := (He.glo_ok X G (c.d.fact 39 (f := .glo "_law_counts") rfl))
  obtain ⟨fd_law_spots, F_law_spots⟩ := c.d.def_ 38 (d := d_law_spots) rfl
  have m_law_spots := (He.glo_ok X G (c.d.fact 38 (f := .glo "_law_spots") rfl))
  obtain ⟨fd_law_cuts, F_law_cuts⟩ := c.d.def_ 47 (d := d_law_cuts) rfl
  have m_law_cuts := (He.glo_ok X G (c.d.fact 47 (f := .glo "_law_cuts") rfl))
  obtain ⟨fd_law_orders, F_law_orders⟩ := c.d.def_ 42 (d := d_law_orders) rfl
  have m_law_orders := (He.glo_ok X G (c.d.fact 42 (f := .glo "_law_orders") rfl))
  obtain ⟨fd_law_all_rings, F_law_all_rings⟩ := c.d.def_ 43 (d := d_law_all_rings) rfl
  have m_law_all_rings := (He.glo_ok X G (c.d.fact 43 (f := .glo "_law_all_rings") rfl))
  obtain ⟨fd_law_lone_lots, F_law_lone_lots⟩ := c.d.def_ 46 (d := d_law_lone_lots) rfl
  have m_law_lone_lots := (He.glo_ok X G (c.d.fact 46 (f := .glo "_law_lone_lots") rfl))
  obtain ⟨fd_law_right, F_law_right⟩ := c.d.def_ 52 (d := d_law_right) rfl
  have m_law_right := (He.glo_ok X G (c.d.fact 52 (f := .glo "_law_right") rfl))
  obtain ⟨fd_law_front_right, F_law_front_right⟩ := c.d.def_ 50 (d := d_law_front_right) rfl
  have m_law_front_right := (He.glo_ok X G (c.d.fact 50 (f := .glo "_law_front_right") rfl))
  obtain ⟨fd_law_cells, F_law_cells⟩ := c.d.def_ 24 (d := d_law_cells) rfl
  have m_law_cells := (He.glo_ok X G (c.d.fact 24 (f := .glo "_law_cells") rfl))
  obtain ⟨fd_law_box, F_law_box⟩ := c.d.def_ 22 (d := d_law_box) rfl
  have m_law_box := (He.glo_ok X G (c.d.fact 22 (f := .glo "_law_box") rfl))
  obtain ⟨fd_law, F_law⟩ := c.d.def_ 53 (d := d_law) rfl
  have m_law := (He.glo_ok X G (c.d.fact 53 (f := .glo "law") rfl))
  refine ⟨fd_law, fun s v => (FunD.bindsA (ps := ["_law_script"]) F_law fun _ _ _ _ _ _ us hl => match us, hl with | [_], _ => rfl) s [v] rfl, fun base => ?_⟩
  have Ex := ecs_of (P := P) (w := w) X G c base
  have c_is_number := ca_is_number (P := P) (w := w) (base := base) B F_is_number m_is_number
  have c_is_tuple_of := ca_is_tuple_of (P := P) (w := w) (base := base) B F_is_tuple_of m_is_tuple_of
  have c_fraction := ca_fraction (P := P) (w := w) (base := base) B F_fraction m_fraction
  have c_plus := ca_plus (P := P) (w := w) (base := base) B F_plus m_plus c_fraction
  have c_order := ca_order (P := P) (w := w) (base := base) B F_order m_order
  have c_is_thing_below := ca_is_thing_below (P := P) (w := w) (base := base) B F_is_thing_below m_is_thing_below c_is_number
  have c_has_mark := ca_has_mark (P := P) (w := w) (base := base) B F_has_mark m_has_mark c_is_tuple_of c_is_thing_below
  have c_tuple_of := ca_tuple_of (P := P) (w := w) (base := base) B F_tuple_of m_tuple_of 12
  have c_law_lists := ca_law_lists (P := P) (w := w) (base := base) B F_law_lists m_law_lists 12
  have c_law_same := ca_law_same (P := P) (w := w) (base := base) B F_law_same m_law_same 12
  have c_law_frac := ca_law_frac (P := P) (w := w) (base := base) B F_law_frac m_law_frac
  have c_law_add := ca_law_add (P := P) (w := w) (base := base) B F_law_add m_law_add c_law_frac
  have c_law_off := ca_law_off (P := P) (w := w) (base := base) B F_law_off m_law_off c_law_frac
  have c_law_below := ca_law_below (P := P) (w := w) (base := base) B F_law_below m_law_below
  have c_law_sum := ca_law_sum (P := P) (w := w) (base := base) B F_law_sum m_law_sum c_law_add
  have c_law_plain := ca_law_plain (P := P) (w := w) (base := base) B F_law_plain m_law_plain
  have c_law_frame := ca_law_frame (P := P) (w := w) (base := base) B F_law_frame m_law_frame c_law_plain
  have c_law_ends := ca_law_ends (P := P) (w := w) (base := base) B F_law_ends m_law_ends
  have c_law_marks := ca_law_marks (P := P) (w := w) (base := base) B F_law_marks m_law_marks
  have c_law_is_hard := ca_law_is_hard (P := P) (w := w) (base := base) B F_law_is_hard m_law_is_hard
  have c_law_far := ca_law_far (P := P) (w := w) (base := base) B F_law_far m_law_far c_law_sum
  have c_rule_of := ca_rule_of (P := P) (w := w) (base := base) B F_rule_of m_rule_of c_tuple_of c_has_mark
  have c_ring_far := ca_ring_far (P := P) (w := w) (base := base) B F_ring_far m_ring_far c_plus c_rule_of
  have c_come_to := ca_come_to (P := P) (w := w) (base := base) B F_come_to m_come_to
  have c_loose_lot := ca_loose_lot (P := P) (w := w) (base := base) B F_loose_lot m_loose_lot c_tuple_of c_come_to
  have c_is_loose_lot := ca_is_loose_lot (P := P) (w := w) (base := base) B F_is_loose_lot m_is_loose_lot c_tuple_of c_is_thing_below
  have c_law_is_loose := ca_law_is_loose (P := P) (w := w) (base := base) B F_law_is_loose m_law_is_loose
  have c_gaps_from := ca_gaps_from (P := P) (w := w) (base := base) B F_gaps_from m_gaps_from c_plus c_order
  have c_ties_of := ca_ties_of (P := P) (w := w) (base := base) B F_ties_of m_ties_of c_plus c_gaps_from
  have c_no_room := ca_no_room (P := P) (w := w) (base := base) B F_no_room m_no_room c_tuple_of c_plus c_order
  have c_is_ring := ca_is_ring (P := P) (w := w) (base := base) B F_is_ring m_is_ring c_has_mark c_rule_of
  have c_is_no_room := ca_is_no_room (P := P) (w := w) (base := base) B F_is_no_room m_is_no_room c_order c_is_ring c_ring_far
  have c_sure_room := ca_sure_room (P := P) (w := w) (base := base) B F_sure_room m_sure_room c_tuple_of c_no_room
  have c_hung_lots := ca_hung_lots (P := P) (w := w) (base := base) B F_hung_lots m_hung_lots c_sure_room c_ties_of
  have c_stands := ca_stands (P := P) (w := w) (base := base) B F_stands m_stands c_tuple_of c_no_room c_hung_lots c_loose_lot
  have cx_sure_room := cx_sure_room (P := P) (w := w) (base := base) B Ex F_sure_room m_sure_room c_tuple_of c_no_room
  have cx_standing := cx_standing (P := P) (w := w) (base := base) B Ex F_standing m_standing cx_sure_room c_hung_lots c_loose_lot
  have c_law_heard := ca_law_heard (P := P) (w := w) (base := base) B Ex F_law_heard m_law_heard c_is_no_room c_is_loose_lot cx_standing c_is_no_room c_is_loose_lot
  have c_law_take := ca_law_take (P := P) (w := w) (base := base) B F_law_take m_law_take
  have c_law_of := ca_law_of (P := P) (w := w) (base := base) B F_law_of m_law_of c_law_take
  have c_law_pick := ca_law_pick (P := P) (w := w) (base := base) B F_law_pick m_law_pick c_law_take
  have c_law_two := ca_law_two (P := P) (w := w) (base := base) B F_law_two m_law_two c_law_pick
  have c_law_scale := ca_law_scale (P := P) (w := w) (base := base) B F_law_scale m_law_scale c_law_take c_law_frac c_law_add
  have c_law_hards := ca_law_hards (P := P) (w := w) (base := base) B F_law_hards m_law_hards c_law_take c_law_of c_law_frac c_law_off c_law_two
  have c_law_counts := ca_law_counts (P := P) (w := w) (base := base) B F_law_counts m_law_counts c_law_scale c_law_two
  have c_law_spots := ca_law_spots (P := P) (w := w) (base := base) B F_law_spots m_law_spots c_law_take c_law_frac
  have c_law_cuts := ca_law_cuts (P := P) (w := w) (base := base) B F_law_cuts m_law_cuts
  have c_law_orders := ca_law_orders (P := P) (w := w) (base := base) B F_law_orders m_law_orders
  have c_ends_k := ca_ends_k (P := P) (w := w) (base := base) B F_law_ends m_law_ends
  have c_law_all_rings := ca_law_all_rings (P := P) (w := w) (base := base) B F_law_all_rings m_law_all_rings c_law_marks c_ends_k c_law_orders
  have c_law_lone_lots := ca_law_lone_lots (P := P) (w := w) (base := base) B F_law_lone_lots m_law_lone_lots c_law_ends c_law_all_rings c_law_far c_law_is_hard
  have c_law_right := ca_law_right (P := P) (w := w) (base := base) B F_law_right m_law_right c_hung_lots c_loose_lot c_is_loose_lot c_stands c_law_take c_law_pick c_law_lists c_law_same c_law_add c_law_off c_law_below c_law_plain c_law_hards c_law_spots c_law_counts c_law_all_rings c_law_far c_law_is_hard c_law_lone_lots c_law_cuts c_law_is_loose c_law_heard
  have c_law_front_right := ca_law_front_right (P := P) (w := w) (base := base) B F_law_front_right m_law_front_right c_hung_lots c_loose_lot c_is_loose_lot c_stands c_law_same c_law_plain c_law_frame c_law_heard
  have c_law_cells := ca_law_cells (P := P) (w := w) (base := base) B F_law_cells m_law_cells
  have c_law_box := ca_law_box (P := P) (w := w) (base := base) B F_law_box m_law_box
  exact ok_law B F_law m_law c_law_front_right c_law_right c_law_box c_law_cells
end
end Lk

set_option Elab.async false
set_option linter.all false
set_option maxRecDepth 100000
namespace Lk
open PySem PySem.Spec PyProof.Rows L2
theorem sp_law {K : PySem.W.Frag} {H : Hp} {a : Addr} {ns : List Int} {E : XK} (hl : ns.length ≤ 63) (hS : SqL K H a (ns.map V.int)) : spD K 1 F_law [.ref a] H (fun v _ => v = .bl true) E := by
  have e : hid (fun _ => false) H = H := by funext b; rfl
  refine ⟨rfl, fun _ => false, [.list (ns.map PyData.int)], fun d => d = .bool true, fun _ z => (by cases z), ?_, ⟨ns, rfl, hl, rfl⟩, fun d v H' hd _ hx => ?_⟩
  · rw [e]
    exact .cons (.lst hS (ints_dp ns)) .nil
  · subst hd
    cases hx
    rfl
end Lk
open PySem PySem.W PySem.Calls PyProof.Rows
set_option maxHeartbeats 0 in
theorem PySem.Challenge.cw_likecuts_k07_whole_what_stands_by_all_cu_holds : PySem.Challenge.rw_likecuts_k07_whole_what_stands_by_all_cu.Holds := by
  w_on; o_law
  refine HandSHeadRun.head_imp (r := OpenLaw.row PySem.Challenge.rw_likecuts_k07_whole_what_stands_by_all_cu) (q := LkHead.qv) (H := LkHead.hk1) (ob := LkHead.ob1) (M := 20000) (loose := LkHead.loose) (d := HandSHeadRun.topDef (OpenLaw.row PySem.Challenge.rw_likecuts_k07_whole_what_stands_by_all_cu).prog 67) (kwd := []) LkHead.ob1_eq
    LkHead.run1 (by kernel_rfl) (by kernel_rfl) (by kernel_rfl) (by rfl) (by first | assumption | decide +kernel) (by decide +kernel) ⟨rfl, rfl, rfl, rfl, rfl, by decide +kernel⟩ ?hw ?hc
  case hw => w_witness2
  case hc =>
    refine L2.walk_ofE (l := PySem.Challenge.rw_likecuts_k07_whole_what_stands_by_all_cu) (n := 63) (k := 20) (x := "_law_script") (CX := L2.CX0) rfl (by decide) (by kernel_rfl) ⟨rfl, by decide, by decide⟩ ?F (fun _ _ _ _ z => z)
    intro w mg fa h Y G hmg0
    obtain ⟨K, KX, c⟩ := Y
    have hmg : mg ("law" : PySem.Str) = some (.ref fa) := by
      have e : (HandSHeadRun.topDef (OpenLaw.row PySem.Challenge.rw_likecuts_k07_whole_what_stands_by_all_cu).prog 67).name = ("law" : PySem.Str) := by kernel_rfl
      rw [← e]
      exact hmg0
    have e := hmg.symm.trans (He.glo_ok KX G (c.d.fact 53 (f := .glo "law") rfl))
    cases e
    obtain ⟨fd, hb, hF⟩ := Lk.law_facts (P := (PySem.Challenge.rw_likecuts_k07_whole_what_stands_by_all_cu).prog) (w := w) KX G c
    exact ⟨K, fd, Lk.spD K 1 Lk.F_law, KX, hb, fun H a ns hl _ hS => Lk.sp_law hl hS, fun base _ _ => hF base⟩
