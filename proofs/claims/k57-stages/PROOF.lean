import PyProof.Rows.All
import Wide.All
import OpenK.AllK
import Wide.FinOn
import HandS.ForMost
import HandS.Walk
import HandS.ForExc
import HandS.ExcInit
import HandS.TupMul
import HandS.Style
import HandS.IsInst
import KE.GoesEnum
import KE.GoesMore
import HandS.Iter
import HandS.TupSets
import HandS.DictTup
import HandS.Conv
import HandS.Zip
import HandS.TryMany
import HandS.ExcField
import HandS.Wide
import PyProof.Rows.RegFStrParts
import PyProof.Rows.ReprOcc
import HandS.Ends
import HandS.ExcIs
import PySem.Challenge.RW_overlappedloops_k57_stages_for_slots
set_option Elab.async false
set_option linter.all false
set_option maxRecDepth 100000
set_option maxHeartbeats 4000000
namespace K57
/-- an edge: from, to, gain -/
abbrev Edge := Nat × Nat × Int
def hA (h : List Int) (i : Nat) : Int := h.getD i 0
structure S where
  h : List Int
  led : List (Option Nat)
  rose : Bool
def rstep (s : S) (e : Edge) (k : Nat) : S :=
  if hA s.h e.2.1 < hA s.h e.1 + e.2.2 then ⟨s.h.set e.2.1 (hA s.h e.1 + e.2.2), s.led.set e.2.1 (some k), true⟩ else s
def rfold (s : S) : List Edge → Nat → S
  | [], _ => s
  | e :: r, k => rfold (rstep s e k) r (k + 1)
def hstep (h : List Int) (e : Edge) : List Int := if hA h e.2.1 < hA h e.1 + e.2.2 then h.set e.2.1 (hA h e.1 + e.2.2) else h
def sweep (E : List Edge) (h : List Int) : List Int := E.foldl hstep h
def stable (E : List Edge) (h : List Int) : Prop := ∀ e ∈ E, hA h e.1 + e.2.2 ≤ hA h e.2.1
/-- all edges lead among the rows -/
def Fits (n : Nat) (E : List Edge) : Prop := ∀ e ∈ E, e.1 < n ∧ e.2.1 < n

theorem hA_set_eq {h : List Int} {i : Nat} {z : Int} (hi : i < h.length) : hA (h.set i z) i = z := by
  unfold hA
  rw [List.getD_eq_getElem?_getD, List.getElem?_set_self hi]
  rfl
theorem hA_set_ne {h : List Int} {i j : Nat} {z : Int} (hi : i ≠ j) : hA (h.set i z) j = hA h j := by
  unfold hA
  rw [List.getD_eq_getElem?_getD, List.getElem?_set_ne hi, List.getD_eq_getElem?_getD]
theorem hA_get {h : List Int} {i : Nat} (hi : i < h.length) : h[i]? = some (hA h i) := by
  unfold hA
  rw [List.getD_eq_getElem?_getD, List.getElem?_eq_getElem hi]
  rfl
theorem rstep_h (s : S) (e : Edge) (k : Nat) : (rstep s e k).h = hstep s.h e := by
  unfold rstep hstep
  split <;> rfl
theorem rfold_h : ∀ (E : List Edge) (s : S) (k : Nat), (rfold s E k).h = sweep E s.h
  | [], s, k => rfl
  | e :: r, s, k => by
    show (rfold (rstep s e k) r (k + 1)).h = sweep r (hstep s.h e)
    rw [rfold_h r, rstep_h]
theorem hstep_len (h : List Int) (e : Edge) : (hstep h e).length = h.length := by
  unfold hstep
  split
  · exact List.length_set
  · rfl
theorem sweep_len : ∀ (E : List Edge) (h : List Int), (sweep E h).length = h.length
  | [], h => rfl
  | e :: r, h => by
    show (sweep r (hstep h e)).length = h.length
    rw [sweep_len r, hstep_len]
theorem rstep_led_len (s : S) (e : Edge) (k : Nat) : (rstep s e k).led.length = s.led.length := by
  unfold rstep
  split
  · exact List.length_set
  · rfl
theorem rfold_led_len : ∀ (E : List Edge) (s : S) (k : Nat), (rfold s E k).led.length = s.led.length
  | [], s, k => rfl
  | e :: r, s, k => by
    show (rfold (rstep s e k) r (k + 1)).led.length = s.led.length
    rw [rfold_led_len r, rstep_led_len]
theorem rfold_rose : ∀ (E : List Edge) (s : S) (k : Nat), s.rose = true → (rfold s E k).rose = true
  | [], s, k, h => h
  | e :: r, s, k, h => rfold_rose r _ _ (by
    unfold rstep
    split
    · rfl
    · exact h)
/-- nothing rose: nothing changed, and the heights are stable -/
theorem rfold_not : ∀ (E : List Edge) (s : S) (k : Nat), (rfold s E k).rose = false → rfold s E k = s ∧ stable E s.h
  | [], s, k, h => ⟨rfl, fun _ m => nomatch m⟩
  | e :: r, s, k, h => by
    by_cases c : hA s.h e.2.1 < hA s.h e.1 + e.2.2
    · have e1 : (rstep s e k).rose = true := by
        unfold rstep
        rw [if_pos c]
      have h2 : (rfold (rstep s e k) r (k + 1)).rose = false := h
      rw [rfold_rose r _ _ e1] at h2
      cases h2
    · have e1 : rstep s e k = s := by
        unfold rstep
        rw [if_neg c]
      have h2 : (rfold (rstep s e k) r (k + 1)).rose = false := h
      rw [e1] at h2
      obtain ⟨a, b⟩ := rfold_not r s (k + 1) h2
      refine ⟨?_, fun x m => ?_⟩
      · show rfold (rstep s e k) r (k + 1) = s
        rw [e1, a]
      · rcases List.mem_cons.mp m with rfl | m
        · omega
        · exact b x m
theorem rfold_stable : ∀ (E : List Edge) (s : S) (k : Nat), stable E s.h → rfold s E k = s
  | [], s, k, h => rfl
  | e :: r, s, k, h => by
    have c : ¬ hA s.h e.2.1 < hA s.h e.1 + e.2.2 := by
      have := h e List.mem_cons_self
      omega
    have e1 : rstep s e k = s := by
      unfold rstep
      rw [if_neg c]
    show rfold (rstep s e k) r (k + 1) = s
    rw [e1]
    exact rfold_stable r s _ fun x m => h x (List.mem_cons_of_mem _ m)
theorem sweep_stable {E : List Edge} {h : List Int} (hs : stable E h) : sweep E h = h := by
  have a := rfold_stable E ⟨h, [], false⟩ 0 hs
  have b := rfold_h E ⟨h, [], false⟩ 0
  rw [a] at b
  exact b.symm

/-! ### closed chains -/
/-- consecutive edges of L (from a) lead on; they end at b -/
def Chain : Nat → List Edge → Nat → Prop
  | a, [], b => a = b
  | a, e :: r, b => e.1 = a ∧ Chain e.2.1 r b
def gsum : List Edge → Int
  | [] => 0
  | e :: r => e.2.2 + gsum r
theorem gsum_append : ∀ (L M : List Edge), gsum (L ++ M) = gsum L + gsum M
  | [], M => by show gsum M = 0 + gsum M; omega
  | e :: r, M => by
    show e.2.2 + gsum (r ++ M) = e.2.2 + gsum r + gsum M
    rw [gsum_append r M]
    omega
theorem chain_append : ∀ {a b c : Nat} {L M : List Edge}, Chain a L b → Chain b M c → Chain a (L ++ M) c
  | a, b, c, [], M, h, k => by
    have e : a = b := h
    subst e
    exact k
  | a, b, c, e :: r, M, h, k => ⟨h.1, chain_append h.2 k⟩
theorem chain_split : ∀ {a c : Nat} {L M : List Edge}, Chain a (L ++ M) c → ∃ b, Chain a L b ∧ Chain b M c
  | a, c, [], M, h => ⟨a, rfl, h⟩
  | a, c, e :: r, M, h => by
    obtain ⟨b, h1, h2⟩ := chain_split h.2
    exact ⟨b, ⟨h.1, h1⟩, h2⟩
/-- with stable heights no closed chain gains -/
theorem chain_stable {E : List Edge} {h : List Int} (hs : stable E h) : ∀ {L : List Edge} {a b : Nat}, Chain a L b → (∀ e ∈ L, e ∈ E) → hA h a + gsum L ≤ hA h b
  | [], a, b, c, m => by
    have e : a = b := c
    subst e
    show hA h a + 0 ≤ hA h a
    omega
  | e :: r, a, b, c, m => by
    have q := chain_stable hs c.2 fun x hx => m x (List.mem_cons_of_mem _ hx)
    have p := hs e (m e List.mem_cons_self)
    have c1 : e.1 = a := c.1
    rw [c1] at p
    show hA h a + (e.2.2 + gsum r) ≤ hA h b
    omega
theorem no_gain {E : List Edge} {h : List Int} (hs : stable E h) {L : List Edge} {a : Nat} (c : Chain a L a) (m : ∀ e ∈ L, e ∈ E) : gsum L ≤ 0 := by
  have := chain_stable hs c m
  omega
/-- the reversed chain -/
def rev (e : Edge) : Edge := (e.2.1, e.1, e.2.2)
theorem rev_rev (e : Edge) : rev (rev e) = e := rfl
theorem gsum_rev : ∀ (L : List Edge), gsum (L.reverse.map rev) = gsum L
  | [] => rfl
  | e :: r => by
    rw [List.reverse_cons, List.map_append, gsum_append, gsum_rev r]
    show gsum r + (e.2.2 + 0) = e.2.2 + gsum r
    omega
theorem chain_rev : ∀ {L : List Edge} {a b : Nat}, Chain a L b → Chain b (L.reverse.map rev) a
  | [], a, b, h => Eq.symm h
  | e :: r, a, b, h => by
    rw [List.reverse_cons, List.map_append]
    exact chain_append (chain_rev h.2) ⟨rfl, h.1⟩

/-! ### what led -/
/-- edge e at place k led to its end -/
def Led (E : List Edge) (led : List (Option Nat)) (e : Edge) : Prop := ∃ k, led[e.2.1]? = some (some k) ∧ E[k]? = some e
/-- the words between two raisings: what led holds still; a closed chain of what led has an edge that is left behind -/
structure Good (E : List Edge) (h : List Int) (led : List (Option Nat)) : Prop where
  to : ∀ v k, led[v]? = some (some k) → ∃ e : Edge, E[k]? = some e ∧ e.2.1 = v
  le : ∀ (e : Edge), Led E led e → hA h e.2.1 ≤ hA h e.1 + e.2.2
  lt : ∀ (L : List Edge) (a : Nat), L ≠ [] → Chain a L a → (∀ e ∈ L, Led E led e) → ∃ e : Edge, e ∈ L ∧ hA h e.2.1 < hA h e.1 + e.2.2
theorem chain_mem_src : ∀ {L : List Edge} {a b : Nat}, Chain a L b → ∀ e ∈ L, e.1 = a ∨ ∃ d ∈ L, d.2.1 = e.1
  | [], a, b, c, e, m => nomatch m
  | d :: r, a, b, c, e, m => by
    rcases List.mem_cons.mp m with rfl | m
    · exact .inl c.1
    · rcases chain_mem_src c.2 e m with q | ⟨x, hx, q⟩
      · exact .inr ⟨d, List.mem_cons_self, q.symm⟩
      · exact .inr ⟨x, List.mem_cons_of_mem _ hx, q⟩
theorem chain_last : ∀ {L : List Edge} {a b : Nat}, L ≠ [] → Chain a L b → ∃ d ∈ L, d.2.1 = b
  | [], a, b, n, c => absurd rfl n
  | [d], a, b, n, c => ⟨d, List.mem_cons_self, c.2⟩
  | d :: d2 :: r, a, b, n, c => by
    obtain ⟨x, hx, q⟩ := chain_last (L := d2 :: r) (by simp) c.2
    exact ⟨x, List.mem_cons_of_mem _ hx, q⟩
theorem chain_mem_dst : ∀ {L : List Edge} {a b : Nat}, Chain a L b → ∀ e ∈ L, e.2.1 = b ∨ ∃ d ∈ L, d.1 = e.2.1
  | [], a, b, c, e, m => nomatch m
  | d :: r, a, b, c, e, m => by
    rcases List.mem_cons.mp m with rfl | m
    · cases r with
      | nil => exact .inl c.2
      | cons d2 r2 => exact .inr ⟨d2, List.mem_cons_of_mem _ List.mem_cons_self, c.2.1⟩
    · rcases chain_mem_dst c.2 e m with q | ⟨x, hx, q⟩
      · exact .inl q
      · exact .inr ⟨x, List.mem_cons_of_mem _ hx, q⟩
theorem chain_first : ∀ {L : List Edge} {a b : Nat}, L ≠ [] → Chain a L b → ∃ d ∈ L, d.1 = a
  | [], a, b, n, c => absurd rfl n
  | d :: r, a, b, n, c => ⟨d, List.mem_cons_self, c.1⟩
/-- in a closed chain each edge's start is some edge's end, and its end some edge's start -/
theorem closed_src {L : List Edge} {a : Nat} (c : Chain a L a) (e : Edge) (m : e ∈ L) : ∃ d ∈ L, d.2.1 = e.1 := by
  rcases chain_mem_src c e m with q | q
  · obtain ⟨d, hd, q2⟩ := chain_last (fun z => by rw [z] at m; cases m) c
    exact ⟨d, hd, q2.trans q.symm⟩
  · exact q
theorem closed_dst {L : List Edge} {a : Nat} (c : Chain a L a) (e : Edge) (m : e ∈ L) : ∃ d ∈ L, d.1 = e.2.1 := by
  rcases chain_mem_dst c e m with q | q
  · obtain ⟨d, hd, q2⟩ := chain_first (fun z => by rw [z] at m; cases m) c
    exact ⟨d, hd, q2.trans q.symm⟩
  · exact q
/-- a closed chain of what led gains -/
theorem chain_gain {h : List Int} : ∀ {L : List Edge} {a b : Nat}, Chain a L b → (∀ e ∈ L, hA h e.2.1 ≤ hA h e.1 + e.2.2) → hA h b ≤ hA h a + gsum L
  | [], a, b, c, m => by
    have e : a = b := c
    subst e
    show hA h a ≤ hA h a + 0
    omega
  | e :: r, a, b, c, m => by
    have q := chain_gain c.2 fun x hx => m x (List.mem_cons_of_mem _ hx)
    have p := m e List.mem_cons_self
    have c1 : e.1 = a := c.1
    rw [c1] at p
    show hA h b ≤ hA h a + (e.2.2 + gsum r)
    omega
theorem mem_split {α : Type} {x : α} {L : List α} (m : x ∈ L) : ∃ s t, L = s ++ x :: t := List.append_of_mem m
theorem Good.pos {E : List Edge} {h : List Int} {led : List (Option Nat)} (g : Good E h led) {L : List Edge} {a : Nat} (n : L ≠ []) (c : Chain a L a) (m : ∀ e ∈ L, Led E led e) : 0 < gsum L := by
  obtain ⟨e, me, q⟩ := g.lt L a n c m
  obtain ⟨s, t, rfl⟩ := mem_split me
  obtain ⟨b, c1, c2⟩ := chain_split c
  have p1 := chain_gain (h := h) c1 fun x hx => g.le x (m x (List.mem_append_left _ hx))
  have p2 := chain_gain (h := h) c2.2 fun x hx => g.le x (m x (List.mem_append_right _ (List.mem_cons_of_mem _ hx)))
  have e1 : e.1 = b := c2.1
  rw [e1] at q
  rw [gsum_append]
  show 0 < gsum s + (e.2.2 + gsum t)
  omega
theorem good_start (E : List Edge) (h : List Int) (n : Nat) : Good E h (List.replicate n none) := by
  have none' : ∀ v k, (List.replicate n (none : Option Nat))[v]? = some (some k) → False := fun v k q => by
    have := List.mem_of_getElem? q
    rw [List.mem_replicate] at this
    cases this.2
  refine ⟨fun v k q => (none' v k q).elim, fun e ⟨k, q, _⟩ => (none' _ k q).elim, fun L a ne c m => ?_⟩
  cases L with
  | nil => exact absurd rfl ne
  | cons e r =>
    obtain ⟨k, q, _⟩ := m e List.mem_cons_self
    exact (none' _ k q).elim
/-- one raising keeps the words -/
theorem Good.step {E : List Edge} {s : S} {e : Edge} {k : Nat} (g : Good E s.h s.led) (he : E[k]? = some e) (hl : s.led.length = s.h.length) (hf : Fits s.h.length E) : Good E (rstep s e k).h (rstep s e k).led := by
  by_cases c : hA s.h e.2.1 < hA s.h e.1 + e.2.2
  · have e1 : rstep s e k = ⟨s.h.set e.2.1 (hA s.h e.1 + e.2.2), s.led.set e.2.1 (some k), true⟩ := by
      unfold rstep
      rw [if_pos c]
    rw [e1]
    have hv : e.2.1 < s.h.length := (hf e (List.mem_of_getElem? he)).2
    have hv2 : e.2.1 < s.led.length := by omega
    have at_v : ∀ d, Led E (s.led.set e.2.1 (some k)) d → (d.2.1 = e.2.1 ∧ d = e) ∨ (d.2.1 ≠ e.2.1 ∧ Led E s.led d) := fun d ⟨j, q1, q2⟩ => by
      by_cases z : d.2.1 = e.2.1
      · rw [z, List.getElem?_set_self hv2] at q1
        have q3 : k = j := Option.some.inj (Option.some.inj q1)
        subst q3
        rw [he] at q2
        exact .inl ⟨z, (Option.some.inj q2).symm⟩
      · rw [List.getElem?_set_ne (Ne.symm z)] at q1
        exact .inr ⟨z, j, q1, q2⟩
    have up : ∀ u, hA s.h u ≤ hA (s.h.set e.2.1 (hA s.h e.1 + e.2.2)) u := fun u => by
      by_cases z : e.2.1 = u
      · rw [← z, hA_set_eq hv]
        omega
      · rw [hA_set_ne z]
        exact Int.le_refl _
    refine ⟨fun v j q => ?_, fun d hd => ?_, fun L a ne cl m => ?_⟩
    · by_cases z : e.2.1 = v
      · subst z
        have q : (s.led.set e.2.1 (some k))[e.2.1]? = some (some j) := q
        rw [List.getElem?_set_self hv2] at q
        have q3 : k = j := Option.some.inj (Option.some.inj q)
        subst q3
        exact ⟨e, he, rfl⟩
      · have q : (s.led.set e.2.1 (some k))[v]? = some (some j) := q
        rw [List.getElem?_set_ne z] at q
        exact g.to v j q
    · show hA (s.h.set e.2.1 (hA s.h e.1 + e.2.2)) d.2.1 ≤ hA (s.h.set e.2.1 (hA s.h e.1 + e.2.2)) d.1 + d.2.2
      rcases at_v d hd with ⟨z, rfl⟩ | ⟨z, q⟩
      · rw [hA_set_eq hv]
        have := up d.1
        omega
      · rw [hA_set_ne (Ne.symm z)]
        have p := g.le d q
        have := up d.1
        omega
    · show ∃ d ∈ L, hA (s.h.set e.2.1 (hA s.h e.1 + e.2.2)) d.2.1 < hA (s.h.set e.2.1 (hA s.h e.1 + e.2.2)) d.1 + d.2.2
      by_cases z : ∃ d ∈ L, d.2.1 = e.2.1
      · obtain ⟨d, md, zd⟩ := z
        obtain ⟨b, mb, zb⟩ := closed_dst cl d md
        refine ⟨b, mb, ?_⟩
        rw [zd] at zb
        rcases at_v b (m b mb) with ⟨z2, rfl⟩ | ⟨z2, q⟩
        · rw [zb, hA_set_eq hv]
          rw [zb] at c
          omega
        · rw [hA_set_ne (Ne.symm z2), zb, hA_set_eq hv]
          have p := g.le b q
          rw [zb] at p
          omega
      · have old : ∀ d ∈ L, Led E s.led d := fun d md => by
          rcases at_v d (m d md) with ⟨z2, _⟩ | ⟨_, q⟩
          · exact absurd ⟨d, md, z2⟩ z
          · exact q
        obtain ⟨d, md, q⟩ := g.lt L a ne cl old
        refine ⟨d, md, ?_⟩
        have n1 : e.2.1 ≠ d.2.1 := fun y => z ⟨d, md, y.symm⟩
        have n2 : e.2.1 ≠ d.1 := fun y => by
          obtain ⟨x, mx, zx⟩ := closed_src cl d md
          exact z ⟨x, mx, zx.trans y.symm⟩
        rw [hA_set_ne n1, hA_set_ne n2]
        exact q
  · have e1 : rstep s e k = s := by
      unfold rstep
      rw [if_neg c]
    rw [e1]
    exact g
theorem Good.fold {E : List Edge} : ∀ (F : List Edge) (s : S) (k : Nat), Good E s.h s.led → (∀ i, E[k + i]? = F[i]?) → s.led.length = s.h.length → Fits s.h.length E → Good E (rfold s F k).h (rfold s F k).led
  | [], s, k, g, _, _, _ => g
  | e :: r, s, k, g, he, hl, hf => by
    show Good E (rfold (rstep s e k) r (k + 1)).h (rfold (rstep s e k) r (k + 1)).led
    have hlen : (rstep s e k).h.length = s.h.length := by rw [rstep_h, hstep_len]
    refine Good.fold r _ _ (g.step (by have := he 0; simpa using this) hl hf) (fun i => ?_) (by rw [rstep_led_len, hlen]; exact hl) (by rw [hlen]; exact hf)
    have := he (i + 1)
    rw [show k + 1 + i = k + (i + 1) by omega, this]
    rfl
end K57

/-! L3A: data above the heap: values as data D, a store of things that change (Sto), what is known at a place (OkS, En), what an expression gives (Ev), what a block reaches (Run). -/
namespace L3
open PySem PySem.Spec PyProof.Rows L2

/-- data: a tuple, a list or an object that is not changed any more; ptr: a thing of the store -/
inductive D where
  | non | bl (b : Bool) | int (i : Int) | str (x : Str) | ty (n : String) | ptr (p : Addr)
  | tup (ds : List D) | lst (ds : List D) | obj (C : Addr) (fs : List (Str × D))
  /-- a list, a tuple that is only read (the script, a written one) -/
  | wl (ds : List D) | wt (ds : List D)
  /-- a caught error at a, its fields' dict at dx -/
  | err (a dx : Addr) (fs : List (Str × D))

theorem same_new {H : Hp} {p : Addr} {o : HO} (h : H p = none) : Same H (upd H p o) := fun a u e => by
  rw [upd_ne (ne_of_none e h)]
  exact e
theorem same_l {K : PySem.W.Frag} {H H' : Hp} {a : Addr} {xs : List V} (e : Same H H') (h : SqL K H a xs) : SqL K H' a xs := e.seq h
theorem same_t {K : PySem.W.Frag} {H H' : Hp} {a : Addr} {xs : List V} (e : Same H H') (h : SqT K H a xs) : SqT K H' a xs := by
  rcases h with (h | ⟨o, h⟩) | h
  · exact .inl (.inl (e _ _ h))
  · exact .inl (.inr ⟨o, e _ _ h⟩)
  · exact .inr h

mutual
inductive Rp (K : PySem.W.Frag) (B : Hp) : V → D → Prop
  | non : Rp K B .non .non
  | bl (b : Bool) : Rp K B (.bl b) (.bl b)
  | int (i : Int) : Rp K B (.int i) (.int i)
  | str (x : Str) : Rp K B (.str x) (.str x)
  | ty (n : String) : Rp K B (.ty n) (.ty n)
  | ptr (p : Addr) : Rp K B (.ref p) (.ptr p)
  | tup {a : Addr} {xs : List V} {ds : List D} : B a = some (.tup xs) → RpAll K B xs ds → Rp K B (.ref a) (.tup ds)
  | lst {a : Addr} {xs : List V} {ds : List D} : B a = some (.lst xs) → RpAll K B xs ds → Rp K B (.ref a) (.lst ds)
  | wt {a : Addr} {xs : List V} {ds : List D} : SqT K B a xs → RpAll K B xs ds → Rp K B (.ref a) (.wt ds)
  | wl {a : Addr} {xs : List V} {ds : List D} : SqL K B a xs → RpAll K B xs ds → Rp K B (.ref a) (.wl ds)
  | obj {a C dx : Addr} {fs : List (Str × V)} {ds : List (Str × D)} : B a = some (.ins C dx fs) → RpFs K B fs ds → Rp K B (.ref a) (.obj C ds)
  | err {a dx : Addr} {fs : List (Str × V)} {ds : List (Str × D)} : B dx = some (.xd fs) → RpFs K B fs ds → Rp K B (.ref a) (.err a dx ds)
inductive RpAll (K : PySem.W.Frag) (B : Hp) : List V → List D → Prop
  | nil : RpAll K B [] []
  | cons {v : V} {vs : List V} {d : D} {ds : List D} : Rp K B v d → RpAll K B vs ds → RpAll K B (v :: vs) (d :: ds)
inductive RpFs (K : PySem.W.Frag) (B : Hp) : List (Str × V) → List (Str × D) → Prop
  | nil : RpFs K B [] []
  | cons {f : Str} {v : V} {vs : List (Str × V)} {d : D} {ds : List (Str × D)} : Rp K B v d → RpFs K B vs ds → RpFs K B ((f, v) :: vs) ((f, d) :: ds)
end

section
variable {K : PySem.W.Frag} {B B' : Hp}
mutual
theorem Rp.mono (e : Same B B') : ∀ {v : V} {d : D}, Rp K B v d → Rp K B' v d
  | _, _, .non => .non
  | _, _, .bl b => .bl b
  | _, _, .int i => .int i
  | _, _, .str x => .str x
  | _, _, .ty n => .ty n
  | _, _, .ptr p => .ptr p
  | _, _, .tup h r => .tup (e _ _ h) (RpAll.mono e r)
  | _, _, .lst h r => .lst (e _ _ h) (RpAll.mono e r)
  | _, _, .wt h r => .wt (same_t e h) (RpAll.mono e r)
  | _, _, .wl h r => .wl (same_l e h) (RpAll.mono e r)
  | _, _, .obj h r => .obj (e _ _ h) (RpFs.mono e r)
  | _, _, .err h r => .err (e _ _ h) (RpFs.mono e r)
theorem RpAll.mono (e : Same B B') : ∀ {vs : List V} {ds : List D}, RpAll K B vs ds → RpAll K B' vs ds
  | _, _, .nil => .nil
  | _, _, .cons h r => .cons (Rp.mono e h) (RpAll.mono e r)
theorem RpFs.mono (e : Same B B') : ∀ {vs : List (Str × V)} {ds : List (Str × D)}, RpFs K B vs ds → RpFs K B' vs ds
  | _, _, .nil => .nil
  | _, _, .cons h r => .cons (Rp.mono e h) (RpFs.mono e r)
end
theorem RpAll.length : ∀ {vs : List V} {ds : List D}, RpAll K B vs ds → vs.length = ds.length
  | _, _, .nil => rfl
  | _, _, .cons _ r => congrArg (· + 1) (RpAll.length r)
theorem RpAll.at : ∀ {vs : List V} {ds : List D} {i : Nat} {v : V}, RpAll K B vs ds → vs[i]? = some v → ∃ d, ds[i]? = some d ∧ Rp K B v d
  | _, _, _, _, .nil, e => by simp at e
  | _, _, 0, v, .cons (d := d) h r, e => by
    have e' := Option.some.inj e
    subst e'
    exact ⟨d, rfl, h⟩
  | _, _, i + 1, v, .cons _ r, e => RpAll.at (i := i) r (by simpa using e)
theorem RpAll.get : ∀ {vs : List V} {ds : List D} {i : Nat} {d : D}, RpAll K B vs ds → ds[i]? = some d → ∃ v, vs[i]? = some v ∧ Rp K B v d
  | _, _, _, _, .nil, e => by simp at e
  | _, _, 0, _, .cons (v := v) h r, e => by
    have e' := Option.some.inj e
    subst e'
    exact ⟨v, rfl, h⟩
  | _, _, i + 1, _, .cons _ r, e => RpAll.get (i := i) r (by simpa using e)
theorem RpAll.append : ∀ {vs ws : List V} {ds es : List D}, RpAll K B vs ds → RpAll K B ws es → RpAll K B (vs ++ ws) (ds ++ es)
  | _, _, _, _, .nil, s => s
  | _, _, _, _, .cons h r, s => .cons h (RpAll.append r s)
theorem RpAll.set {v : V} {d : D} (q : Rp K B v d) : ∀ {vs : List V} {ds : List D} (i : Nat), RpAll K B vs ds → RpAll K B (vs.set i v) (ds.set i d)
  | _, _, _, .nil => .nil
  | _, _, 0, .cons _ r => .cons q r
  | _, _, i + 1, .cons h r => .cons h (RpAll.set q i r)
theorem RpAll.drop : ∀ {vs : List V} {ds : List D} (n : Nat), RpAll K B vs ds → RpAll K B (vs.drop n) (ds.drop n)
  | _, _, 0, r => r
  | _, _, _ + 1, .nil => .nil
  | _, _, n + 1, .cons _ r => RpAll.drop n r
theorem RpAll.take : ∀ {vs : List V} {ds : List D} (n : Nat), RpAll K B vs ds → RpAll K B (vs.take n) (ds.take n)
  | _, _, 0, _ => .nil
  | _, _, _ + 1, .nil => .nil
  | _, _, n + 1, .cons h r => .cons h (RpAll.take n r)
theorem RpAll.reverse : ∀ {vs : List V} {ds : List D}, RpAll K B vs ds → RpAll K B vs.reverse ds.reverse
  | _, _, .nil => .nil
  | _, _, .cons h r => by
    rw [List.reverse_cons, List.reverse_cons]
    exact (RpAll.reverse r).append (.cons h .nil)
theorem RpAll.eraseIdx : ∀ {vs : List V} {ds : List D} (i : Nat), RpAll K B vs ds → RpAll K B (vs.eraseIdx i) (ds.eraseIdx i)
  | _, _, _, .nil => .nil
  | _, _, 0, .cons _ r => r
  | _, _, i + 1, .cons h r => .cons h (RpAll.eraseIdx i r)
theorem RpAll.rep {v : V} {d : D} (h : Rp K B v d) : ∀ n : Nat, RpAll K B (List.replicate n v) (List.replicate n d)
  | 0 => .nil
  | n + 1 => .cons h (RpAll.rep h n)
theorem RpFs.look : ∀ {fs : List (Str × V)} {ds : List (Str × D)} {f : Str} {d : D}, RpFs K B fs ds → ds.lookup f = some d → ∃ v, fs.lookup f = some v ∧ Rp K B v d
  | _, _, _, _, .nil, e => nomatch e
  | _, _, f, d, .cons (f := g) (v := v) (vs := vs) (d := d') (ds := ds) h r, e => by
    rw [List.lookup_cons] at e ⊢
    cases q : (f == g) with
    | true =>
      rw [q] at e
      have e' := Option.some.inj e
      subst e'
      exact ⟨v, rfl, h⟩
    | false =>
      rw [q] at e
      exact RpFs.look r e
theorem Rp.v_int {v : V} {i : Int} (h : Rp K B v (.int i)) : v = .int i := by cases h; rfl
theorem Rp.v_bl {v : V} {i : Bool} (h : Rp K B v (.bl i)) : v = .bl i := by cases h; rfl
theorem Rp.v_str {v : V} {i : Str} (h : Rp K B v (.str i)) : v = .str i := by cases h; rfl
theorem Rp.v_non {v : V} (h : Rp K B v .non) : v = .non := by cases h; rfl
theorem Rp.v_ty {v : V} {n : String} (h : Rp K B v (.ty n)) : v = .ty n := by cases h; rfl
theorem Rp.v_ptr {v : V} {p : Addr} (h : Rp K B v (.ptr p)) : v = .ref p := by cases h; rfl
theorem Rp.v_tup {v : V} {ds : List D} (h : Rp K B v (.tup ds)) : ∃ a xs, v = .ref a ∧ B a = some (.tup xs) ∧ RpAll K B xs ds := by
  cases h with | tup h r => exact ⟨_, _, rfl, h, r⟩
theorem Rp.v_lst {v : V} {ds : List D} (h : Rp K B v (.lst ds)) : ∃ a xs, v = .ref a ∧ B a = some (.lst xs) ∧ RpAll K B xs ds := by
  cases h with | lst h r => exact ⟨_, _, rfl, h, r⟩
theorem Rp.v_wt {v : V} {ds : List D} (h : Rp K B v (.wt ds)) : ∃ a xs, v = .ref a ∧ SqT K B a xs ∧ RpAll K B xs ds := by
  cases h with | wt h r => exact ⟨_, _, rfl, h, r⟩
theorem Rp.v_wl {v : V} {ds : List D} (h : Rp K B v (.wl ds)) : ∃ a xs, v = .ref a ∧ SqL K B a xs ∧ RpAll K B xs ds := by
  cases h with | wl h r => exact ⟨_, _, rfl, h, r⟩
theorem Rp.v_obj {v : V} {C : Addr} {ds : List (Str × D)} (h : Rp K B v (.obj C ds)) : ∃ a dx fs, v = .ref a ∧ B a = some (.ins C dx fs) ∧ RpFs K B fs ds := by
  cases h with | obj h r => exact ⟨_, _, _, rfl, h, r⟩
theorem Rp.v_err {v : V} {a dx : Addr} {ds : List (Str × D)} (h : Rp K B v (.err a dx ds)) : v = .ref a ∧ ∃ fs, B dx = some (.xd fs) ∧ RpFs K B fs ds := by
  cases h with | err h r => exact ⟨rfl, _, h, r⟩
theorem RpAll.ints : ∀ {vs : List V} {ns : List Int}, RpAll K B vs (ns.map D.int) → vs = ns.map V.int
  | _, [], .nil => rfl
  | _, n :: ns, .cons h r => by
    cases h
    rw [RpAll.ints (ns := ns) r]
    rfl
theorem rpInts : ∀ (ns : List Int), RpAll K B (ns.map V.int) (ns.map D.int)
  | [] => .nil
  | n :: ns => .cons (.int n) (rpInts ns)
theorem RpAll.strs : ∀ {vs : List V} {ns : List Str}, RpAll K B vs (ns.map D.str) → vs = ns.map V.str
  | _, [], .nil => rfl
  | _, n :: ns, .cons h r => by
    cases h
    rw [RpAll.strs (ns := ns) r]
    rfl
theorem rpStrs : ∀ (ns : List Str), RpAll K B (ns.map V.str) (ns.map D.str)
  | [] => .nil
  | n :: ns => .cons (.str n) (rpStrs ns)
end

/-! ### the heap without what changes -/
def cut (H : Hp) (M : List Addr) : Hp := fun a => if a ∈ M then none else H a
theorem cut_in {H : Hp} {M : List Addr} {a : Addr} (h : a ∈ M) : cut H M a = none := by unfold cut; rw [if_pos h]
theorem cut_out {H : Hp} {M : List Addr} {a : Addr} (h : a ∉ M) : cut H M a = H a := by unfold cut; rw [if_neg h]
theorem cut_some {H : Hp} {M : List Addr} {a : Addr} {o : HO} (h : cut H M a = some o) : a ∉ M ∧ H a = some o := by
  by_cases z : a ∈ M
  · rw [cut_in z] at h; cases h
  · rw [cut_out z] at h; exact ⟨z, h⟩
theorem cut_same {H : Hp} {M : List Addr} : Same (cut H M) H := fun a o e => (cut_some e).2
theorem cut_mono {H H' : Hp} {M : List Addr} (e : Same H H') : Same (cut H M) (cut H' M) := fun a o h => by
  obtain ⟨z, h⟩ := cut_some h
  rw [cut_out z]
  exact e a o h
theorem cut_less {H : Hp} {M N : List Addr} (h : ∀ a ∈ N, a ∈ M) : Same (cut H M) (cut H N) := fun a o e => by
  obtain ⟨z, e⟩ := cut_some e
  rw [cut_out fun q => z (h a q)]
  exact e
theorem cut_upd {H : Hp} {M : List Addr} {a : Addr} {o : HO} (h : a ∈ M) : cut (upd H a o) M = cut H M := by
  funext b
  by_cases z : b ∈ M
  · rw [cut_in z, cut_in z]
  · rw [cut_out z, cut_out z, upd_ne fun (e : b = a) => z (by rw [e]; exact h)]

/-! ### the store -/
/-- no tuple -/
def NT (o : HO) : Prop := ∀ xs, o ≠ .tup xs
/-- what changes: a list; an instance; a dict whose keys are tuples of ints -/
inductive MO where
  | lst (ds : List D)
  | ins (C : Addr) (fs : List (Str × D))
  | dT (kvs : List (List Key × D))
  /-- just this thing (a dict while it is walked) -/
  | raw (o : HO)
abbrev Sto := List (Addr × MO)
abbrev adr (Z : Sto) : List Addr := Z.map (·.1)
abbrev Gam := List (Option D)
inductive KvOk (K : PySem.W.Frag) (B : Hp) : List (List Key × V) → List (List Key × D) → Prop
  | nil : KvOk K B [] []
  | cons {k : List Key} {v : V} {d : D} {vs : List (List Key × V)} {ds : List (List Key × D)} : Rp K B v d → KvOk K B vs ds → KvOk K B ((k, v) :: vs) ((k, d) :: ds)
theorem KvOk.mono {K : PySem.W.Frag} {B B' : Hp} (e : Same B B') : ∀ {vs : List (List Key × V)} {ds : List (List Key × D)}, KvOk K B vs ds → KvOk K B' vs ds
  | _, _, .nil => .nil
  | _, _, .cons h r => .cons (h.mono e) (KvOk.mono e r)
def MoOk (K : PySem.W.Frag) (B : Hp) : MO → HO → Prop
  | .lst ds, o => ∃ vs, o = .lst vs ∧ RpAll K B vs ds
  | .ins C fs, o => ∃ dx vs, o = .ins C dx vs ∧ RpFs K B vs fs
  | .dT kvs, o => ∃ ws, o = .dT ws ∧ KvOk K B ws kvs
  | .raw u, o => o = u ∧ ∀ xs, u ≠ .tup xs
theorem MoOk.mono {K : PySem.W.Frag} {B B' : Hp} (e : Same B B') {m : MO} {o : HO} (h : MoOk K B m o) : MoOk K B' m o := by
  cases m with
  | lst ds => obtain ⟨vs, q, r⟩ := h; exact ⟨vs, q, r.mono e⟩
  | ins C fs => obtain ⟨dx, vs, q, r⟩ := h; exact ⟨dx, vs, q, r.mono e⟩
  | dT kvs => obtain ⟨vs, q, r⟩ := h; exact ⟨vs, q, r.mono e⟩
  | raw u => exact h
theorem MoOk.nt {K : PySem.W.Frag} {B : Hp} {m : MO} {o : HO} (h : MoOk K B m o) : NT o := fun xs e => by
  subst e
  cases m with
  | lst ds => obtain ⟨_, q, _⟩ := h; cases q
  | ins C fs => obtain ⟨_, _, q, _⟩ := h; cases q
  | dT kvs => obtain ⟨_, q, _⟩ := h; cases q
  | raw u => exact h.2 xs h.1.symm
def StoOk (K : PySem.W.Frag) (B H : Hp) (Z : Sto) : Prop := ∀ p m, (p, m) ∈ Z → ∃ o, H p = some o ∧ MoOk K B m o
/-- what is not to change for data: neither others' things (F) nor our own (Z) -/
abbrev im (F : List Addr) (H : Hp) (Z : Sto) : Hp := cut H (F ++ adr Z)
/-- G: what stood and stands (F within it); Z: our own things that change -/
structure OkS (K : PySem.W.Frag) (F : List Addr) (G H : Hp) (Z : Sto) : Prop where
  base : Same G H
  fF : ∀ p ∈ F, ∃ o, G p = some o ∧ NT o
  own : ∀ p ∈ adr Z, G p = none
  nd : (adr Z).Nodup
  sto : StoOk K (im F H Z) H Z
/-- the slots -/
def En (K : PySem.W.Frag) (B : Hp) (σ : L2.St) (Γ : Gam) : Prop := σ.length = Γ.length ∧ ∀ (i : Nat) (d : D), Γ[i]? = some (some d) → ∃ v, σ[i]? = some (some v) ∧ Rp K B v d
theorem En.mono {K : PySem.W.Frag} {B B' : Hp} {σ : L2.St} {Γ : Gam} (e : Same B B') (h : En K B σ Γ) : En K B' σ Γ := ⟨h.1, fun i d q => by
  obtain ⟨v, a, b⟩ := h.2 i d q
  exact ⟨v, a, b.mono e⟩⟩
theorem En.set {K : PySem.W.Frag} {B : Hp} {σ : L2.St} {Γ : Gam} {v : V} {d : D} (h : En K B σ Γ) (r : Rp K B v d) (i : Nat) : En K B (σ.set i (some v)) (Γ.set i (some d)) := by
  refine ⟨by rw [List.length_set, List.length_set]; exact h.1, fun j e q => ?_⟩
  by_cases z : i = j
  · subst z
    have hl : i < Γ.length := by
      have := (List.getElem?_eq_some_iff.mp q).1
      rwa [List.length_set] at this
    rw [List.getElem?_set_self hl] at q
    have q' : d = e := Option.some.inj (Option.some.inj q)
    subst q'
    exact ⟨v, List.getElem?_set_self (by rw [h.1]; exact hl), r⟩
  · rw [List.getElem?_set_ne z] at q
    rw [List.getElem?_set_ne z]
    exact h.2 j e q
/-- forget what slots hold -/
theorem En.less {K : PySem.W.Frag} {B : Hp} {σ : L2.St} {Γ Γ' : Gam} (h : En K B σ Γ) (hl : Γ.length = Γ'.length) (e : ∀ (i : Nat) (d : D), Γ'[i]? = some (some d) → Γ[i]? = some (some d)) : En K B σ Γ' := ⟨h.1.trans hl, fun i d q => h.2 i d (e i d q)⟩

section
variable {K : PySem.W.Frag} {F : List Addr} {G H H' : Hp} {Z Z' : Sto}
theorem OkS.fresh (ok : OkS K F G H Z) {p : Addr} (h : H p = none) : p ∉ F ∧ p ∉ adr Z ∧ G p = none := by
  have g : G p = none := ok.base.free h
  refine ⟨fun z => ?_, fun z => ?_, g⟩
  · obtain ⟨o, e, _⟩ := ok.fF p z
    rw [g] at e; cases e
  · obtain ⟨m, hm, e⟩ := List.mem_map.mp z
    obtain ⟨o, e2, _⟩ := ok.sto m.1 m.2 hm
    rw [e, h] at e2; cases e2
/-- all is kept -/
theorem OkS.keep (ok : OkS K F G H Z) (e : Same H H') : OkS K F G H' Z := ⟨ok.base.trans e, ok.fF, ok.own, ok.nd, fun p m hm => by
  obtain ⟨o, a, b⟩ := ok.sto p m hm
  exact ⟨o, e p o a, b.mono (cut_mono e)⟩⟩
/-- a new thing joins the store -/
theorem OkS.add (ok : OkS K F G H Z) {p : Addr} {o : HO} {m : MO} (h : H p = none) (e : Same H H') (hp : H' p = some o) (hm : MoOk K (im F H Z) m o) :
    OkS K F G H' ((p, m) :: Z) ∧ Same (im F H Z) (im F H' ((p, m) :: Z)) := by
  obtain ⟨h1, h2, h3⟩ := ok.fresh h
  have s : Same (im F H Z) (im F H' ((p, m) :: Z)) := fun a u q => by
    obtain ⟨z, q⟩ := cut_some q
    have hne : a ≠ p := fun w => by rw [w, h] at q; cases q
    show cut H' _ a = some u
    rw [cut_out]
    · exact e a u q
    · intro w
      rcases List.mem_append.mp w with w | w
      · exact z (List.mem_append_left _ w)
      · rcases List.mem_cons.mp w with w | w
        · exact hne w
        · exact z (List.mem_append_right _ w)
  refine ⟨⟨ok.base.trans e, ok.fF, fun q hq => ?_, List.nodup_cons.mpr ⟨h2, ok.nd⟩, fun q k hq => ?_⟩, s⟩
  · rcases List.mem_cons.mp hq with rfl | hq
    · exact h3
    · exact ok.own q hq
  · rcases List.mem_cons.mp hq with z | hq
    · cases z
      exact ⟨o, hp, hm.mono s⟩
    · obtain ⟨u, a, b⟩ := ok.sto q k hq
      exact ⟨u, e q u a, b.mono s⟩
/-- the first thing of the store is no more changed -/
theorem OkS.drop {p : Addr} {m : MO} (ok : OkS K F G H ((p, m) :: Z)) : OkS K F G H Z ∧ Same (im F H ((p, m) :: Z)) (im F H Z) := by
  have s : Same (im F H ((p, m) :: Z)) (im F H Z) := cut_less fun a h => by
    rcases List.mem_append.mp h with h | h
    · exact List.mem_append_left _ h
    · exact List.mem_append_right _ (List.mem_cons_of_mem _ h)
  refine ⟨⟨ok.base, ok.fF, fun q hq => ok.own q (List.mem_cons_of_mem _ hq), (List.nodup_cons.mp ok.nd).2, fun q k hq => ?_⟩, s⟩
  obtain ⟨u, a, b⟩ := ok.sto q k (List.mem_cons_of_mem _ hq)
  exact ⟨u, a, b.mono s⟩
theorem OkS.in_im {p : Addr} {m : MO} {o : HO} (ok : OkS K F G H ((p, m) :: Z)) (a : H p = some o) : im F H Z p = some o := by
  have h1 : p ∉ F := fun z => by
    obtain ⟨o, e, _⟩ := ok.fF p z
    rw [ok.own p List.mem_cons_self] at e; cases e
  have h2 : p ∉ adr Z := (List.nodup_cons.mp ok.nd).1
  show cut H _ p = _
  rw [cut_out fun z => (List.mem_append.mp z).elim h1 h2]
  exact a
theorem OkS.frozen {p : Addr} {ds : List D} (ok : OkS K F G H ((p, .lst ds) :: Z)) : Rp K (im F H Z) (.ref p) (.lst ds) := by
  obtain ⟨o, a, vs, rfl, r⟩ := ok.sto p _ List.mem_cons_self
  exact .lst (ok.in_im a) (r.mono ok.drop.2)
theorem OkS.frozenI {p C : Addr} {fs : List (Str × D)} (ok : OkS K F G H ((p, .ins C fs) :: Z)) : Rp K (im F H Z) (.ref p) (.obj C fs) := by
  obtain ⟨o, a, dx, vs, rfl, r⟩ := ok.sto p _ List.mem_cons_self
  exact .obj (ok.in_im a) (r.mono ok.drop.2)
/-- the order of the store is of no matter -/
theorem OkS.perm (ok : OkS K F G H Z) (h : Z.Perm Z') : OkS K F G H Z' ∧ Same (im F H Z) (im F H Z') := by
  have hm : ∀ a, a ∈ adr Z ↔ a ∈ adr Z' := fun a => (h.map (·.1)).mem_iff
  have s : Same (im F H Z) (im F H Z') := cut_less fun a q => by
    rcases List.mem_append.mp q with q | q
    · exact List.mem_append_left _ q
    · exact List.mem_append_right _ ((hm a).mpr q)
  refine ⟨⟨ok.base, ok.fF, fun q hq => ok.own q ((hm q).mpr hq), (h.map (·.1)).nodup_iff.mp ok.nd, fun q k hq => ?_⟩, s⟩
  obtain ⟨u, a, b⟩ := ok.sto q k (h.mem_iff.mpr hq)
  exact ⟨u, a, b.mono s⟩
/-- the thing at p changes -/
def putZ (Z : Sto) (p : Addr) (m : MO) : Sto := Z.map fun q => if q.1 = p then (p, m) else q
theorem adr_putZ (Z : Sto) (p : Addr) (m : MO) : adr (putZ Z p m) = adr Z := by
  unfold adr putZ
  rw [List.map_map]
  refine List.map_congr_left fun q _ => ?_
  show (if q.1 = p then (p, m) else q).1 = q.1
  by_cases h : q.1 = p
  · rw [if_pos h, h]
  · rw [if_neg h]
theorem OkS.put (ok : OkS K F G H Z) {p : Addr} {o : HO} {m : MO} (hp : p ∈ adr Z) (hm : MoOk K (im F H Z) m o) : OkS K F G (upd H p o) (putZ Z p m) ∧ im F (upd H p o) (putZ Z p m) = im F H Z := by
  have e : im F (upd H p o) (putZ Z p m) = im F H Z := by
    show cut _ (F ++ adr (putZ Z p m)) = _
    rw [adr_putZ]
    exact cut_upd (List.mem_append_right _ hp)
  refine ⟨⟨fun a u q => ?_, ok.fF, fun q hq => ok.own q (by rw [adr_putZ] at hq; exact hq), by rw [adr_putZ]; exact ok.nd, fun q k hq => ?_⟩, e⟩
  · rw [upd_ne fun z => by rw [z, ok.own p hp] at q; cases q]
    exact ok.base a u q
  · rw [e]
    obtain ⟨x, hx, z⟩ := List.mem_map.mp hq
    by_cases c : x.1 = p
    · rw [if_pos c] at z
      cases z
      exact ⟨o, upd_same, hm⟩
    · rw [if_neg c] at z
      subst z
      obtain ⟨u, a, b⟩ := ok.sto _ _ hx
      exact ⟨u, by rw [upd_ne c]; exact a, b⟩
/-- what the store says of p -/
theorem OkS.lst (ok : OkS K F G H Z) {p : Addr} {ds : List D} (h : (p, MO.lst ds) ∈ Z) : ∃ vs, H p = some (.lst vs) ∧ RpAll K (im F H Z) vs ds := by
  obtain ⟨o, a, vs, rfl, r⟩ := ok.sto p _ h
  exact ⟨vs, a, r⟩
theorem OkS.ins (ok : OkS K F G H Z) {p C : Addr} {fs : List (Str × D)} (h : (p, MO.ins C fs) ∈ Z) : ∃ dx vs, H p = some (.ins C dx vs) ∧ RpFs K (im F H Z) vs fs := by
  obtain ⟨o, a, dx, vs, rfl, r⟩ := ok.sto p _ h
  exact ⟨dx, vs, a, r⟩
theorem OkS.raw (ok : OkS K F G H Z) {p : Addr} {o : HO} (h : (p, MO.raw o) ∈ Z) : H p = some o := by
  obtain ⟨u, a, e, _⟩ := ok.sto p _ h
  rw [a]
  exact congrArg some e
theorem OkS.dT (ok : OkS K F G H Z) {p : Addr} {ds : List (List Key × D)} (h : (p, MO.dT ds) ∈ Z) : ∃ vs, H p = some (.dT vs) ∧ KvOk K (im F H Z) vs ds := by
  obtain ⟨o, a, vs, rfl, r⟩ := ok.sto p _ h
  exact ⟨vs, a, r⟩
/-- a larger frame: all that stands but our own things -/
theorem OkS.wide (ok : OkS K F G H Z) : OkS K F (cut H (adr Z)) H Z ∧ Same G (cut H (adr Z)) := by
  have s : Same G (cut H (adr Z)) := fun a o e => by
    rw [cut_out fun z => by rw [ok.own a z] at e; cases e]
    exact ok.base a o e
  exact ⟨⟨cut_same, fun p hp => let ⟨o, e, t⟩ := ok.fF p hp; ⟨o, s p o e, t⟩, fun p hp => cut_in hp, ok.nd, ok.sto⟩, s⟩
theorem OkS.narrow {G' : Hp} (ok : OkS K F G' H Z) (s : Same G G') (f : ∀ p ∈ F, ∃ o, G p = some o ∧ NT o) : OkS K F G H Z :=
  ⟨s.trans ok.base, f, fun p hp => s.free (ok.own p hp), ok.nd, ok.sto⟩
/-- behind steps over the larger frame -/
theorem wide_im (ok' : OkS K F (cut H (adr Z)) H' Z') : Same (im F H Z) (im F H' Z') := fun a o e => by
  obtain ⟨z, e⟩ := cut_some e
  have g : cut H (adr Z) a = some o := by
    rw [cut_out fun q => z (List.mem_append_right _ q)]
    exact e
  show cut H' _ a = some o
  rw [cut_out]
  · exact ok'.base a o g
  · intro q
    rcases List.mem_append.mp q with q | q
    · exact z (List.mem_append_left _ q)
    · rw [ok'.own a q] at g; cases g
end
end L3

/-! L3B: what an expression gives. -/
namespace L3
open PySem PySem.Spec PyProof.Rows L2

/-- what the fields of an exception hold: things that need no heap -/
def XdOk (K : PySem.W.Frag) (H : Hp) (dx : Addr) (fs : List (Str × D)) : Prop := ∃ vs, H dx = some (.xd vs) ∧ RpFs K (fun _ => none) vs fs
abbrev XP := Addr → List (Str × D) → Prop
/-- the context of rules: the written part, the wish about exceptions (by the slots), of the class C with the fields fs, as X says -/
structure Cn where
  K : PySem.W.Frag
  E : L2.St → XK
  X : Addr → List (Str × D) → Gam → Sto → Prop
def Thr (c : Cn) (F : List Addr) (G : Hp) : Prop := ∀ (C : Addr) (fs : List (Str × D)) (dx : Addr) (H : Hp) (σ : L2.St) (Γ : Gam) (Z : Sto), c.X C fs Γ Z → OkS c.K F G H Z → En c.K (im F H Z) σ Γ → XdOk c.K H dx fs → G dx = none → c.E σ (.ref C) (some dx) H
theorem Thr.wide {c : Cn} {F : List Addr} {G G' : Hp} (h : Thr c F G) (s : Same G G') (f : ∀ p ∈ F, ∃ o, G p = some o ∧ NT o) : Thr c F G' := fun C fs dx H σ Γ Z x ok en q g => h C fs dx H σ Γ Z x (ok.narrow s f) en q (s.free g)
/-- where nothing is raised -/
abbrev Cn.calm (c : Cn) : Cn := ⟨c.K, fun _ => E0, fun _ _ _ _ => False⟩
theorem Thr.calm {c : Cn} {F : List Addr} {G : Hp} : Thr c.calm F G := fun _ _ _ _ _ _ _ x => x.elim
/-- an expression gives d; Z becomes Z' -/
def Ev (c : Cn) (te : TE) (Γ : Gam) (Z : Sto) (d : D) (Z' : Sto) : Prop := ∀ (F : List Addr) (G : Hp) (σ : L2.St) (H : Hp) (Q : VK), OkS c.K F G H Z → En c.K (im F H Z) σ Γ → Thr c F G →
  (∀ v H', OkS c.K F G H' Z' → Same (im F H Z) (im F H' Z') → Rp c.K (im F H' Z') v d → Q v H') → te σ H Q
/-- .. some d, as P says -/
def EvP (c : Cn) (te : TE) (Γ : Gam) (Z : Sto) (P : D → Sto → Prop) : Prop := ∀ (F : List Addr) (G : Hp) (σ : L2.St) (H : Hp) (Q : VK), OkS c.K F G H Z → En c.K (im F H Z) σ Γ → Thr c F G →
  (∀ d Z' v H', P d Z' → OkS c.K F G H' Z' → Same (im F H Z) (im F H' Z') → Rp c.K (im F H' Z') v d → Q v H') → te σ H Q
/-- .. a new thing of the store, behind Z' -/
def EvN (c : Cn) (te : TE) (Γ : Gam) (Z : Sto) (m : MO) (Z' : Sto) : Prop := ∀ (F : List Addr) (G : Hp) (σ : L2.St) (H : Hp) (Q : VK), OkS c.K F G H Z → En c.K (im F H Z) σ Γ → Thr c F G →
  (∀ p H', OkS c.K F G H' ((p, m) :: Z') → Same (im F H Z) (im F H' ((p, m) :: Z')) → Q (.ref p) H') → te σ H Q
def EvA (c : Cn) (ta : TA) (Γ : Gam) (Z : Sto) (ds : List D) (Z' : Sto) : Prop := ∀ (F : List Addr) (G : Hp) (σ : L2.St) (H : Hp) (Q : List V → Hp → Prop), OkS c.K F G H Z → En c.K (im F H Z) σ Γ → Thr c F G →
  (∀ vs H', OkS c.K F G H' Z' → Same (im F H Z) (im F H' Z') → RpAll c.K (im F H' Z') vs ds → Q vs H') → ta σ H Q
def EvT (c : Cn) (tt : TT) (Γ : Gam) (Z : Sto) (b : Bool) (Z' : Sto) : Prop := ∀ (F : List Addr) (G : Hp) (σ : L2.St) (H : Hp) (Q : Bool → Hp → Prop), OkS c.K F G H Z → En c.K (im F H Z) σ Γ → Thr c F G →
  (∀ H', OkS c.K F G H' Z' → Same (im F H Z) (im F H' Z') → Q b H') → tt σ H Q
/-- an operation on two values -/
def Op2 (c : Cn) (r : R2) (x y : D) (Z : Sto) (d : D) (Z' : Sto) : Prop := ∀ (F : List Addr) (G H : Hp) (v w : V) (Q : VK), OkS c.K F G H Z → Rp c.K (im F H Z) v x → Rp c.K (im F H Z) w y → Thr c F G →
  (∀ v H', OkS c.K F G H' Z' → Same (im F H Z) (im F H' Z') → Rp c.K (im F H' Z') v d → Q v H') → r v w H Q
def OpN (c : Cn) (r : R2) (x y : D) (Z : Sto) (m : MO) (Z' : Sto) : Prop := ∀ (F : List Addr) (G H : Hp) (v w : V) (Q : VK), OkS c.K F G H Z → Rp c.K (im F H Z) v x → Rp c.K (im F H Z) w y → Thr c F G →
  (∀ p H', OkS c.K F G H' ((p, m) :: Z') → Same (im F H Z) (im F H' ((p, m) :: Z')) → Q (.ref p) H') → r v w H Q
/-- a call on values -/
def OpC (c : Cn) (r : List V → Hp → VK → Prop) (xs : List D) (Z : Sto) (d : D) (Z' : Sto) : Prop := ∀ (F : List Addr) (G H : Hp) (vs : List V) (Q : VK), OkS c.K F G H Z → RpAll c.K (im F H Z) vs xs → Thr c F G →
  (∀ v H', OkS c.K F G H' Z' → Same (im F H Z) (im F H' Z') → Rp c.K (im F H' Z') v d → Q v H') → r vs H Q
def OpCN (c : Cn) (r : List V → Hp → VK → Prop) (xs : List D) (Z : Sto) (m : MO) (Z' : Sto) : Prop := ∀ (F : List Addr) (G H : Hp) (vs : List V) (Q : VK), OkS c.K F G H Z → RpAll c.K (im F H Z) vs xs → Thr c F G →
  (∀ p H', OkS c.K F G H' ((p, m) :: Z') → Same (im F H Z) (im F H' ((p, m) :: Z')) → Q (.ref p) H') → r vs H Q

section
variable {c : Cn} {Γ : Gam} {Z Z1 Z2 Z3 Z' : Sto} {ta tb te : TE} {d x y : D} {r : R2} {i j : Int} {m : MO}
theorem EvP.of (h : Ev c te Γ Z d Z') {P : D → Sto → Prop} (p : P d Z') : EvP c te Γ Z P := fun F G σ H Q ok en th k => h F G σ H Q ok en th fun v H' a b e => k d Z' v H' p a b e
theorem EvP.ofN (h : EvN c te Γ Z m Z') {P : D → Sto → Prop} (q : ∀ p, P (.ptr p) ((p, m) :: Z')) : EvP c te Γ Z P := fun F G σ H Q ok en th k => h F G σ H Q ok en th fun p H' a b => k _ _ _ H' (q p) a b (.ptr p)
/-- a new list that nobody changes -/
theorem EvN.ev {ds : List D} (h : EvN c te Γ Z (.lst ds) Z') : Ev c te Γ Z (.lst ds) Z' := fun F G σ H Q ok en th k => h F G σ H Q ok en th fun p H' a b => k _ H' a.drop.1 (b.trans a.drop.2) a.frozen
theorem OpN.op {ds : List D} (h : OpN c r x y Z (.lst ds) Z') : Op2 c r x y Z (.lst ds) Z' := fun F G H v w Q ok a b th k => h F G H v w Q ok a b th fun p H' a b => k _ H' a.drop.1 (b.trans a.drop.2) a.frozen
theorem Ev.is {e : D} (h : Ev c te Γ Z d Z') (q : d = e) : Ev c te Γ Z e Z' := q ▸ h
/-! names, constants -/
theorem ev_var {i : Nat} (h : Γ[i]? = some (some d) := by rfl) : Ev c (tVar i) Γ Z d Z := fun F G σ H Q ok en th k => by
  obtain ⟨v, a, b⟩ := en.2 i d h
  exact ⟨v, a, k v H ok (Same.refl _) b⟩
theorem ev_c {v : V} (h : ∀ B, Rp c.K B v d) : Ev c (tC v) Γ Z d Z := fun F G σ H Q ok en th k => k v H ok (Same.refl _) (h _)
theorem ev_int : Ev c (tC (.int i)) Γ Z (.int i) Z := ev_c fun _ => .int i
theorem ev_bl {b : Bool} : Ev c (tC (.bl b)) Γ Z (.bl b) Z := ev_c fun _ => .bl b
theorem ev_str {z : Str} : Ev c (tC (.str z)) Γ Z (.str z) Z := ev_c fun _ => .str z
theorem ev_non : Ev c (tC .non) Γ Z .non Z := ev_c fun _ => .non
theorem ev_ty {n : String} : Ev c (tC (.ty n)) Γ Z (.ty n) Z := ev_c fun _ => .ty n
/-! two places -/
theorem ev_op (ha : Ev c ta Γ Z x Z1) (hb : Ev c tb Γ Z1 y Z2) (hr : Op2 c r x y Z2 d Z3) : Ev c (tOp r ta tb) Γ Z d Z3 := fun F G σ H Q ok en th k =>
  ha F G σ H _ ok en th fun v H1 ok1 s1 r1 => hb F G σ H1 _ ok1 (en.mono s1) th fun w H2 ok2 s2 r2 => hr F G H2 v w Q ok2 (r1.mono s2) r2 th fun u H3 ok3 s3 r3 => k u H3 ok3 ((s1.trans s2).trans s3) r3
theorem evN_op (ha : Ev c ta Γ Z x Z1) (hb : Ev c tb Γ Z1 y Z2) (hr : OpN c r x y Z2 m Z3) : EvN c (tOp r ta tb) Γ Z m Z3 := fun F G σ H Q ok en th k =>
  ha F G σ H _ ok en th fun v H1 ok1 s1 r1 => hb F G σ H1 _ ok1 (en.mono s1) th fun w H2 ok2 s2 r2 => hr F G H2 v w Q ok2 (r1.mono s2) r2 th fun u H3 ok3 s3 => k u H3 ok3 ((s1.trans s2).trans s3)
theorem op_pure (h : ∀ (B : Hp) (v w : V) (H : Hp) (Q : VK), Rp c.K B v x → Rp c.K B w y → (∀ u, Rp c.K B u d → Q u H) → r v w H Q) : Op2 c r x y Z d Z := fun F G H v w Q ok a b th k =>
  h (im F H Z) v w H Q a b fun u q => k u H ok (Same.refl _) q
theorem op_I0 {g : Int → Int → V} (h : ∀ B, Rp c.K B (g i j) d) : Op2 c (rI0 g) (.int i) (.int j) Z d Z := op_pure fun B v w H Q a b k => by
  cases a.v_int; cases b.v_int
  exact ⟨i, j, rfl, rfl, k _ (h B)⟩
theorem op_I {C : Int → Int → Prop} {g : Int → Int → V} (hc : C i j) (h : ∀ B, Rp c.K B (g i j) d) : Op2 c (rI C g) (.int i) (.int j) Z d Z := op_pure fun B v w H Q a b k => by
  cases a.v_int; cases b.v_int
  exact ⟨i, j, rfl, rfl, hc, k _ (h B)⟩
theorem op_II {g : Int → Int → Int} : Op2 c (rI0 fun i j => .int (g i j)) (.int i) (.int j) Z (.int (g i j)) Z := op_I0 fun _ => .int _
theorem op_IB {g : Int → Int → Bool} : Op2 c (rI0 fun i j => .bl (g i j)) (.int i) (.int j) Z (.bl (g i j)) Z := op_I0 fun _ => .bl _
theorem op_CI {C : Int → Int → Prop} {g : Int → Int → Int} (hc : C i j) : Op2 c (rI C fun i j => .int (g i j)) (.int i) (.int j) Z (.int (g i j)) Z := op_I hc fun _ => .int _
theorem op_addII : Op2 c (rI0 fun i j => .int (i + j)) (.int i) (.int j) Z (.int (i + j)) Z := op_II
/-- scalars -/
inductive Sc : D → V → Prop
  | non : Sc .non .non
  | bl (b : Bool) : Sc (.bl b) (.bl b)
  | int (i : Int) : Sc (.int i) (.int i)
  | str (z : Str) : Sc (.str z) (.str z)
theorem Sc.v {K : PySem.W.Frag} {B : Hp} {x : D} {v w : V} (s : Sc x v) (r : Rp K B w x) : w = v := by cases s <;> cases r <;> rfl
theorem op_eqS {v w : V} (a : Sc x v) (b : Sc y w) (h : scal v w = true) : Op2 c rEq x y Z (.bl (decide (v = w))) Z := op_pure fun B v' w' H Q p q k => by
  cases a.v p; cases b.v q
  exact ⟨h, k _ (.bl _)⟩
theorem op_neS {v w : V} (a : Sc x v) (b : Sc y w) (h : scal v w = true) : Op2 c rNe x y Z (.bl (!decide (v = w))) Z := op_pure fun B v' w' H Q p q k => by
  cases a.v p; cases b.v q
  exact ⟨h, k _ (.bl _)⟩
theorem op_eqI : Op2 c rEq (.int i) (.int j) Z (.bl (decide (i = j))) Z := by
  have h := op_eqS (c := c) (Z := Z) (Sc.int i) (Sc.int j) rfl
  have e : decide (V.int i = V.int j) = decide (i = j) := by by_cases q : i = j <;> simp [q]
  rwa [e] at h
theorem op_neI : Op2 c rNe (.int i) (.int j) Z (.bl (!decide (i = j))) Z := by
  have h := op_neS (c := c) (Z := Z) (Sc.int i) (Sc.int j) rfl
  have e : decide (V.int i = V.int j) = decide (i = j) := by by_cases q : i = j <;> simp [q]
  rwa [e] at h
theorem op_eqStr {z w : Str} : Op2 c rEq (.str z) (.str w) Z (.bl (decide (z = w))) Z := by
  have h := op_eqS (c := c) (Z := Z) (Sc.str z) (Sc.str w) rfl
  have e : decide (V.str z = V.str w) = decide (z = w) := by by_cases q : z = w <;> simp [q]
  rwa [e] at h
theorem op_neStr {z w : Str} : Op2 c rNe (.str z) (.str w) Z (.bl (!decide (z = w))) Z := by
  have h := op_neS (c := c) (Z := Z) (Sc.str z) (Sc.str w) rfl
  have e : decide (V.str z = V.str w) = decide (z = w) := by by_cases q : z = w <;> simp [q]
  rwa [e] at h
/-- is None, is not None -/
def isN : D → Bool
  | .non => true
  | _ => false
theorem isN_v {K : PySem.W.Frag} {B : Hp} {v : V} {x : D} (r : Rp K B v x) : decide (v = V.non) = isN x := by cases r <;> rfl
abbrev rIsN : R2 := fun x y H Q => y = .non ∧ Q (.bl (decide (x = .non))) H
abbrev rNotN : R2 := fun x y H Q => y = .non ∧ Q (.bl (!decide (x = .non))) H
theorem op_isNon : Op2 c rIsN x .non Z (.bl (isN x)) Z := op_pure fun B v w H Q p q k => ⟨q.v_non, by rw [isN_v p]; exact k _ (.bl _)⟩
theorem op_notNon : Op2 c rNotN x .non Z (.bl (!isN x)) Z := op_pure fun B v w H Q p q k => ⟨q.v_non, by rw [isN_v p]; exact k _ (.bl _)⟩
/-! items -/
theorem atI_len {α β : Type} {xs : List α} {ys : List β} {i : Int} {v : β} (hl : xs.length = ys.length) (h : atI ys i = some v) : ∃ k, ixN xs.length i = some k ∧ ys[k]? = some v := by
  unfold atI at h
  rw [← hl] at h
  cases q : ixN xs.length i with
  | none => rw [q] at h; cases h
  | some k => rw [q] at h; exact ⟨k, rfl, h⟩
theorem at_rp {K : PySem.W.Frag} {B : Hp} {xs : List V} {ds : List D} (r : RpAll K B xs ds) (h : atI ds i = some d) : ∃ v, atI xs i = some v ∧ Rp K B v d := by
  obtain ⟨k, a, b⟩ := atI_len r.length h
  obtain ⟨v, e, q⟩ := r.get b
  refine ⟨v, ?_, q⟩
  unfold atI
  rw [a]
  exact e
theorem op_ixT {ds : List D} (h : atI ds i = some d) : Op2 c (rIxT c.K) (.tup ds) (.int i) Z d Z := fun F G H v w Q ok a b th k => by
  cases b.v_int
  obtain ⟨p, xs, rfl, hx, ra⟩ := a.v_tup
  obtain ⟨u, e, q⟩ := at_rp ra h
  exact ⟨p, xs, i, u, rfl, rfl, SqT.of (cut_some hx).2, e, k u H ok (Same.refl _) q⟩
theorem op_ixL {ds : List D} (h : atI ds i = some d) : Op2 c (rIxL c.K) (.lst ds) (.int i) Z d Z := fun F G H v w Q ok a b th k => by
  cases b.v_int
  obtain ⟨p, xs, rfl, hx, ra⟩ := a.v_lst
  obtain ⟨u, e, q⟩ := at_rp ra h
  exact ⟨p, xs, i, u, rfl, rfl, SqL.of (cut_some hx).2, e, k u H ok (Same.refl _) q⟩
theorem op_ixP {p : Addr} {ds : List D} (hz : (p, MO.lst ds) ∈ Z) (h : atI ds i = some d) : Op2 c (rIxL c.K) (.ptr p) (.int i) Z d Z := fun F G H v w Q ok a b th k => by
  cases b.v_int; cases a.v_ptr
  obtain ⟨xs, hx, ra⟩ := ok.lst hz
  obtain ⟨u, e, q⟩ := at_rp ra h
  exact ⟨p, xs, i, u, rfl, rfl, SqL.of hx, e, k u H ok (Same.refl _) q⟩
/-! one place -/
theorem ev_neg (ha : Ev c ta Γ Z (.int i) Z1) : Ev c (tUn (rU fun i => .int (-i)) ta) Γ Z (.int (-i)) Z1 := fun F G σ H Q ok en th k =>
  ha F G σ H _ ok en th fun v H1 ok1 s1 r1 => by
    cases r1.v_int
    exact ⟨i, rfl, k _ H1 ok1 s1 (.int _)⟩
/-! arguments, displays -/
theorem ea_nil : EvA c tNil Γ Z [] Z := fun F G σ H Q ok en th k => k [] H ok (Same.refl _) .nil
theorem ea_cons {tr : TA} {ds : List D} (ha : Ev c ta Γ Z x Z1) (hr : EvA c tr Γ Z1 ds Z2) : EvA c (tCons ta tr) Γ Z (x :: ds) Z2 := fun F G σ H Q ok en th k =>
  ha F G σ H _ ok en th fun v H1 ok1 s1 r1 => hr F G σ H1 _ ok1 (en.mono s1) th fun vs H2 ok2 s2 r2 => k _ H2 ok2 (s1.trans s2) (.cons (r1.mono s2) r2)
theorem ev_tup {t : TA} {ds : List D} (h : EvA c t Γ Z ds Z1) (hl : ds.length ≤ 1000000 := by decide) : Ev c (tTup t) Γ Z (.tup ds) Z1 := fun F G σ H Q ok en th k =>
  h F G σ H _ ok en th fun vs H1 ok1 s1 r1 => ⟨by rw [r1.length]; exact Nat.le_trans hl (by decide), fun p hp => by
    have e := same_new (o := HO.tup vs) hp
    have ok2 := ok1.keep e
    have s2 : Same (im F H1 Z1) (im F (upd H1 p (.tup vs)) Z1) := cut_mono e
    obtain ⟨f1, f2, _⟩ := ok1.fresh hp
    refine k _ _ ok2 (s1.trans s2) (.tup ?_ (r1.mono s2))
    show cut _ _ p = _
    rw [cut_out fun z => (List.mem_append.mp z).elim f1 f2]
    exact upd_same⟩
theorem evN_lst {t : TA} {ds : List D} (h : EvA c t Γ Z ds Z1) (hl : ds.length ≤ 1000000 := by decide) : EvN c (tLst t) Γ Z (.lst ds) Z1 := fun F G σ H Q ok en th k =>
  h F G σ H _ ok en th fun vs H1 ok1 s1 r1 => ⟨by rw [r1.length]; exact Nat.le_trans hl (by decide), fun p hp => by
    obtain ⟨a, b⟩ := ok1.add (m := .lst ds) hp (same_new hp) upd_same ⟨vs, rfl, r1⟩
    exact k p _ a (s1.trans b)⟩
/-! calls on values -/
theorem ev_cb {r : List V → Hp → VK → Prop} {t : TA} {xs : List D} (h : EvA c t Γ Z xs Z1) (hr : OpC c r xs Z1 d Z2) : Ev c (tCB r t) Γ Z d Z2 := fun F G σ H Q ok en th k =>
  h F G σ H _ ok en th fun vs H1 ok1 s1 r1 => hr F G H1 vs Q ok1 r1 th fun v H2 ok2 s2 r2 => k v H2 ok2 (s1.trans s2) r2
theorem evN_cb {r : List V → Hp → VK → Prop} {t : TA} {xs : List D} (h : EvA c t Γ Z xs Z1) (hr : OpCN c r xs Z1 m Z2) : EvN c (tCB r t) Γ Z m Z2 := fun F G σ H Q ok en th k =>
  h F G σ H _ ok en th fun vs H1 ok1 s1 r1 => hr F G H1 vs Q ok1 r1 th fun v H2 ok2 s2 => k v H2 ok2 (s1.trans s2)
theorem opc_pure {r : List V → Hp → VK → Prop} {xs : List D} (h : ∀ (F : List Addr) (G H : Hp) (vs : List V) (Q : VK), OkS c.K F G H Z → RpAll c.K (im F H Z) vs xs → (∀ u, Rp c.K (im F H Z) u d → Q u H) → r vs H Q) : OpC c r xs Z d Z := fun F G H vs Q ok a th k =>
  h F G H vs Q ok a fun u q => k u H ok (Same.refl _) q
theorem RpAll.one {K : PySem.W.Frag} {B : Hp} {vs : List V} (r : RpAll K B vs [x]) : ∃ v, vs = [v] ∧ Rp K B v x := by
  cases r with
  | cons h t => cases t; exact ⟨_, rfl, h⟩
theorem RpAll.two {K : PySem.W.Frag} {B : Hp} {vs : List V} (r : RpAll K B vs [x, y]) : ∃ v w, vs = [v, w] ∧ Rp K B v x ∧ Rp K B w y := by
  cases r with
  | cons h t =>
    obtain ⟨w, rfl, q⟩ := t.one
    exact ⟨_, w, rfl, h, q⟩
/-- len -/
abbrev rLen1 (K : PySem.W.Frag) : List V → Hp → VK → Prop := fun xs H Q => ∃ p ys, xs = [.ref p] ∧ (SqL K H p ys ∨ SqT K H p ys) ∧ Q (.int ys.length) H
theorem oc_lenL {ds : List D} : OpC c (rLen1 c.K) [.lst ds] Z (.int ds.length) Z := opc_pure fun F G H vs Q ok a k => by
  obtain ⟨v, rfl, q⟩ := a.one
  obtain ⟨p, xs, rfl, hx, ra⟩ := q.v_lst
  refine ⟨p, xs, rfl, .inl (SqL.of (cut_some hx).2), ?_⟩
  rw [ra.length]
  exact k _ (.int _)
theorem oc_lenT {ds : List D} : OpC c (rLen1 c.K) [.tup ds] Z (.int ds.length) Z := opc_pure fun F G H vs Q ok a k => by
  obtain ⟨v, rfl, q⟩ := a.one
  obtain ⟨p, xs, rfl, hx, ra⟩ := q.v_tup
  refine ⟨p, xs, rfl, .inr (SqT.of (cut_some hx).2), ?_⟩
  rw [ra.length]
  exact k _ (.int _)
theorem oc_lenP {p : Addr} {ds : List D} (hz : (p, MO.lst ds) ∈ Z) : OpC c (rLen1 c.K) [.ptr p] Z (.int ds.length) Z := opc_pure fun F G H vs Q ok a k => by
  obtain ⟨v, rfl, q⟩ := a.one
  cases q.v_ptr
  obtain ⟨xs, hx, ra⟩ := ok.lst hz
  refine ⟨p, xs, rfl, .inl (SqL.of hx), ?_⟩
  rw [ra.length]
  exact k _ (.int _)
/-! tests -/
theorem et_test {b : Bool} (h : Ev c te Γ Z (.bl b) Z1) : EvT c (tTest te) Γ Z b Z1 := fun F G σ H Q ok en th k => h F G σ H _ ok en th fun v H1 ok1 s1 r1 => ⟨b, r1.v_bl, k H1 ok1 s1⟩
theorem et_B {b : Bool} (h : Ev c te Γ Z (.bl b) Z1) : EvT c (tB te) Γ Z b Z1 := fun F G σ H Q ok en th k => h F G σ H _ ok en th fun v H1 ok1 s1 r1 => ⟨b, r1.v_bl, k H1 ok1 s1⟩
theorem et_not {t : TT} {b : Bool} (h : EvT c t Γ Z b Z1) : EvT c (tNot t) Γ Z (!b) Z1 := fun F G σ H Q ok en th k => h F G σ H _ ok en th fun H1 ok1 s1 => k H1 ok1 s1
theorem et_and {t u : TT} {a b : Bool} (h : EvT c t Γ Z a Z) (h2 : a = true → EvT c u Γ Z b Z) : EvT c (tAnd t u) Γ Z (a && b) Z := fun F G σ H Q ok en th k => h F G σ H _ ok en th fun H1 ok1 s1 => by
  cases a with
  | true => exact h2 rfl F G σ H1 Q ok1 (en.mono s1) th fun H2 ok2 s2 => k H2 ok2 (s1.trans s2)
  | false => exact k H1 ok1 s1
theorem et_or {t u : TT} {a b : Bool} (h : EvT c t Γ Z a Z) (h2 : a = false → EvT c u Γ Z b Z) : EvT c (tOr t u) Γ Z (a || b) Z := fun F G σ H Q ok en th k => h F G σ H _ ok en th fun H1 ok1 s1 => by
  cases a with
  | true => exact k H1 ok1 s1
  | false => exact h2 rfl F G σ H1 Q ok1 (en.mono s1) th fun H2 ok2 s2 => k H2 ok2 (s1.trans s2)
theorem EvT.is {t : TT} {a b : Bool} (h : EvT c t Γ Z a Z') (q : a = b) : EvT c t Γ Z b Z' := q ▸ h
/-- a < b < c -/
theorem ev_chain {r r' : R2} {tc : TE} {z : D} {a b : Bool} (ha : Ev c ta Γ Z x Z) (hb : Ev c tb Γ Z y Z) (h1 : Op2 c r x y Z (.bl a) Z) (hc : a = true → Ev c tc Γ Z z Z) (h2 : a = true → Op2 c r' y z Z (.bl b) Z) :
    Ev c (tChain r r' ta tb tc) Γ Z (.bl (a && b)) Z := fun F G σ H Q ok en th k =>
  ha F G σ H _ ok en th fun v H1 ok1 s1 r1 => hb F G σ H1 _ ok1 (en.mono s1) th fun w H2 ok2 s2 r2 => h1 F G H2 v w _ ok2 (r1.mono s2) r2 th fun u H3 ok3 s3 r3 => ⟨a, r3.v_bl, by
    have s := (s1.trans s2).trans s3
    cases a with
    | true =>
      rw [if_pos rfl]
      exact hc rfl F G σ H3 _ ok3 (en.mono s) th fun w' H4 ok4 s4 r4 => h2 rfl F G H4 w w' Q ok4 ((r2.mono s3).mono s4) r4 th fun u H5 ok5 s5 r5 => k u H5 ok5 ((s.trans s4).trans s5) r5
    | false =>
      rw [if_neg Bool.false_ne_true]
      exact k _ H3 ok3 s (.bl false)⟩
/-- a if t else b -/
theorem ev_if {t : TT} {b : Bool} (h : EvT c t Γ Z b Z1) (h1 : b = true → Ev c ta Γ Z1 d Z') (h2 : b = false → Ev c tb Γ Z1 d Z') : Ev c (tIf t ta tb) Γ Z d Z' := fun F G σ H Q ok en th k => h F G σ H _ ok en th fun H1 ok1 s1 => by
  cases b with
  | true => exact h1 rfl F G σ H1 Q ok1 (en.mono s1) th fun v H2 ok2 s2 r2 => k v H2 ok2 (s1.trans s2) r2
  | false => exact h2 rfl F G σ H1 Q ok1 (en.mono s1) th fun v H2 ok2 s2 r2 => k v H2 ok2 (s1.trans s2) r2
theorem ev_andV {a b : Bool} (h1 : Ev c ta Γ Z (.bl a) Z) (h2 : a = true → Ev c tb Γ Z (.bl b) Z) : Ev c (tAndV ta tb) Γ Z (.bl (a && b)) Z := fun F G σ H Q ok en th k => h1 F G σ H _ ok en th fun v H1 ok1 s1 r1 => ⟨a, r1.v_bl, by
  cases a with
  | true =>
    rw [if_pos rfl]
    exact h2 rfl F G σ H1 Q ok1 (en.mono s1) th fun v H2 ok2 s2 r2 => k v H2 ok2 (s1.trans s2) r2
  | false =>
    rw [if_neg Bool.false_ne_true]
    exact k _ H1 ok1 s1 (.bl false)⟩
theorem ev_orV {a b : Bool} (h1 : Ev c ta Γ Z (.bl a) Z) (h2 : a = false → Ev c tb Γ Z (.bl b) Z) : Ev c (tOrV ta tb) Γ Z (.bl (a || b)) Z := fun F G σ H Q ok en th k => h1 F G σ H _ ok en th fun v H1 ok1 s1 r1 => ⟨a, r1.v_bl, by
  cases a with
  | false =>
    rw [if_neg Bool.false_ne_true]
    exact h2 rfl F G σ H1 Q ok1 (en.mono s1) th fun v H2 ok2 s2 r2 => k v H2 ok2 (s1.trans s2) r2
  | true =>
    rw [if_pos rfl]
    exact k _ H1 ok1 s1 (.bl true)⟩
theorem ev_notV {a : Bool} (h1 : Ev c ta Γ Z (.bl a) Z1) : Ev c (tNotV ta) Γ Z (.bl (!a)) Z1 := fun F G σ H Q ok en th k => h1 F G σ H _ ok en th fun v H1 ok1 s1 r1 => ⟨a, r1.v_bl, k _ H1 ok1 s1 (.bl _)⟩
/-- a field of an object that is not changed any more -/
theorem ev_fld {C : Addr} {fs : List (Str × D)} {f : Str} (ha : Ev c ta Γ Z (.obj C fs) Z1) (hc : Cls c.K C) (hn : NoAttr c.K C f) (hl : fs.lookup f = some d) : Ev c (tFld c.K ta f) Γ Z d Z1 := fun F G σ H Q ok en th k => ha F G σ H _ ok en th fun v H1 ok1 s1 r1 => by
  obtain ⟨a, dx, vs, rfl, e, q⟩ := r1.v_obj
  obtain ⟨u, e2, q2⟩ := q.look hl
  exact ⟨a, C, dx, vs, u, rfl, (cut_some e).2, hc, hn, e2, k u H1 ok1 s1 q2⟩
end
end L3

/-! L3C: what a block reaches (Run), loops (Wk), comprehensions. -/
namespace L3
open PySem PySem.Spec PyProof.Rows L2

structure Out where
  nx : Gam → Sto → Prop
  rt : D → Sto → Prop
  bk : Gam → Sto → Prop := fun _ _ => False
  ct : Gam → Sto → Prop := fun _ _ => False
/-- the ends of a reading answer what is reached -/
structure Fin (c : Cn) (F : List Addr) (G : Hp) (O : Out) (e : Ends) : Prop where
  nx : ∀ Γ Z σ H, O.nx Γ Z → OkS c.K F G H Z → En c.K (im F H Z) σ Γ → e.nx σ H
  rt : ∀ d Z v H, O.rt d Z → OkS c.K F G H Z → Rp c.K (im F H Z) v d → e.rt v H
  bk : ∀ Γ Z σ H, O.bk Γ Z → OkS c.K F G H Z → En c.K (im F H Z) σ Γ → e.bk σ H
  ct : ∀ Γ Z σ H, O.ct Γ Z → OkS c.K F G H Z → En c.K (im F H Z) σ Γ → e.ct σ H
  th : Thr c F G
def Run (c : Cn) (t : TS) (O : Out) (Γ : Gam) (Z : Sto) : Prop := ∀ (F : List Addr) (G : Hp) (σ : L2.St) (H : Hp) (e : Ends), OkS c.K F G H Z → En c.K (im F H Z) σ Γ → Fin c F G O e → t e σ H
/-- a target takes d -/
def Tg (c : Cn) (g : TG) (Γ : Gam) (d : D) (Γ' : Gam) (vs : List Nat) : Prop := ∀ (F : List Addr) (G : Hp) (σ : L2.St) (H : Hp) (Z : Sto) (v : V) (Q : L2.St → Hp → Prop), OkS c.K F G H Z → En c.K (im F H Z) σ Γ → Rp c.K (im F H Z) v d →
  (∀ σ' : L2.St, En c.K (im F H Z) σ' Γ' → σ'.length = σ.length → (∀ k : Nat, k ∉ vs → σ'[k]? = σ[k]?) → Q σ' H) → g v σ H Q
def Tgs (c : Cn) (g : TGs) (Γ : Gam) (ds : List D) (Γ' : Gam) (ws : List Nat) : Prop := ∀ (F : List Addr) (G : Hp) (σ : L2.St) (H : Hp) (Z : Sto) (vs : List V) (Q : L2.St → Hp → Prop), OkS c.K F G H Z → En c.K (im F H Z) σ Γ → RpAll c.K (im F H Z) vs ds →
  (∀ σ' : L2.St, En c.K (im F H Z) σ' Γ' → σ'.length = σ.length → (∀ k : Nat, k ∉ ws → σ'[k]? = σ[k]?) → Q σ' H) → g vs σ H Q
/-- what a loop walks: n turns, the items f -/
def WkK (c : Cn) (wi : TI) (Γ : Gam) (Z : Sto) (n : Nat) (f : Nat → D) (Z' : Sto) (Kp : Sto → Prop) : Prop := ∀ (F : List Addr) (G : Hp) (σ : L2.St) (H : Hp) (R : It → Hp → Prop), OkS c.K F G H Z → En c.K (im F H Z) σ Γ → Thr c F G →
  (∀ (J : It) (H' : Hp) (Gp : Hp → Prop) (Y : Nat → Hp → V → Hp → Prop), OkS c.K F G H' Z' → Same (im F H Z) (im F H' Z') → Walk J n Gp Y → (∀ F' G' H2 Z2, Kp Z2 → OkS c.K F' G' H2 Z2 → Same (im F H' Z') (im F' H2 Z2) → Gp H2) →
    (∀ (i : Nat) (x : V) (F' : List Addr) (G' H2 : Hp) (Z2 : Sto) (H3 : Hp), i < n → OkS c.K F' G' H2 Z2 → Same (im F H' Z') (im F' H2 Z2) → Gp H2 → Y i H2 x H3 → Same H2 H3 ∧ Rp c.K (im F' H3 Z2) x (f i)) → R J H') → wi σ H R
abbrev Wk (c : Cn) (wi : TI) (Γ : Gam) (Z : Sto) (n : Nat) (f : Nat → D) (Z' : Sto) : Prop := WkK c wi Γ Z n f Z' fun _ => True

section
variable {c : Cn} {O O' : Out} {Γ Γ' : Gam} {Z Z1 Z2 Z3 Z' : Sto} {t u : TS} {te ta tb : TE} {d x : D} {m : MO}
theorem Run.mono (h : Run c t O Γ Z) (n : ∀ Γ Z, O.nx Γ Z → O'.nx Γ Z) (r : ∀ d Z, O.rt d Z → O'.rt d Z) (b : ∀ Γ Z, O.bk Γ Z → O'.bk Γ Z) (k : ∀ Γ Z, O.ct Γ Z → O'.ct Γ Z) : Run c t O' Γ Z := fun F G σ H e ok en fin =>
  h F G σ H e ok en ⟨fun Γ Z σ H p => fin.nx Γ Z σ H (n Γ Z p), fun d Z v H p => fin.rt d Z v H (r d Z p), fun Γ Z σ H p => fin.bk Γ Z σ H (b Γ Z p), fun Γ Z σ H p => fin.ct Γ Z σ H (k Γ Z p), fin.th⟩
theorem run_seq (h : Run c t { O with nx := fun Γ' Z' => Run c u O Γ' Z' } Γ Z) : Run c (tSeq t u) O Γ Z := fun F G σ H e ok en fin =>
  h F G σ H { e with nx := u e } ok en ⟨fun Γ' Z' σ' H' p ok' en' => p F G σ' H' e ok' en' fin, fin.rt, fin.bk, fin.ct, fin.th⟩
/-- with a word between -/
theorem run_cut (M : Gam → Sto → Prop) (h : Run c t { O with nx := M } Γ Z) (k : ∀ Γ' Z', M Γ' Z' → Run c u O Γ' Z') : Run c (tSeq t u) O Γ Z := run_seq (h.mono k (fun _ _ p => p) (fun _ _ p => p) fun _ _ p => p)
theorem run_next (h : O.nx Γ Z) : Run c tNext O Γ Z := fun F G σ H e ok en fin => fin.nx Γ Z σ H h ok en
theorem run_break (h : O.bk Γ Z) : Run c tBreak O Γ Z := fun F G σ H e ok en fin => fin.bk Γ Z σ H h ok en
theorem run_cont (h : O.ct Γ Z) : Run c tCont O Γ Z := fun F G σ H e ok en fin => fin.ct Γ Z σ H h ok en
/-- forget slots; a list of the store is no more changed -/
theorem run_less (hl : Γ.length = Γ'.length) (e : ∀ (i : Nat) (d : D), Γ'[i]? = some (some d) → Γ[i]? = some (some d)) (h : Run c t O Γ' Z) : Run c t O Γ Z := fun F G σ H ed ok en fin => h F G σ H ed ok (en.less hl e) fin
theorem run_freeze {p : Addr} {ds : List D} (i : Nat) (hi : Γ[i]? = some (some (.ptr p))) (h : Run c t O (Γ.set i (some (.lst ds))) Z) : Run c t O Γ ((p, .lst ds) :: Z) := fun F G σ H ed ok en fin => by
  obtain ⟨v, a, b⟩ := en.2 i _ hi
  cases b.v_ptr
  obtain ⟨ok2, s⟩ := ok.drop
  have en2 := (en.mono s).set ok.frozen i
  have e : σ.set i (some (V.ref p)) = σ := by
    have hl := (List.getElem?_eq_some_iff.mp a).1
    have := (List.getElem?_eq_some_iff.mp a).2
    rw [← this]
    exact List.set_getElem_self hl
  rw [e] at en2
  exact h F G σ H ed ok2 en2 fin
theorem run_dropZ {p : Addr} {m : MO} (h : Run c t O Γ Z) : Run c t O Γ ((p, m) :: Z) := fun F G σ H ed ok en fin => h F G σ H ed ok.drop.1 (en.mono ok.drop.2) fin
theorem run_perm (hp : Z.Perm Z') (h : Run c t O Γ Z') : Run c t O Γ Z := fun F G σ H ed ok en fin => h F G σ H ed (ok.perm hp).1 (en.mono (ok.perm hp).2) fin
/-- what is known of the store's addresses -/
theorem run_nd (h : (adr Z).Nodup → Run c t O Γ Z) : Run c t O Γ Z := fun F G σ H ed ok en fin => h ok.nd F G σ H ed ok en fin
/-! targets -/
theorem tg_name {i : Nat} : Tg c (gName i) Γ d (Γ.set i (some d)) [i] := fun F G σ H Z v Q ok en r k => k _ (en.set r i) (List.length_set) fun j hj => List.getElem?_set_ne fun e => hj (by rw [e]; exact List.mem_singleton.mpr rfl)
theorem tgs_nil : Tgs c gNil Γ [] Γ [] := fun F G σ H Z vs Q ok en r k => by
  cases r
  exact ⟨rfl, k σ en rfl fun _ _ => rfl⟩
theorem tgs_cons {g : TG} {gs : TGs} {ds : List D} {Γ1 Γ2 : Gam} {vs ws : List Nat} (h : Tg c g Γ d Γ1 vs) (hr : Tgs c gs Γ1 ds Γ2 ws) : Tgs c (gCons g gs) Γ (d :: ds) Γ2 (vs ++ ws) := fun F G σ H Z us Q ok en r k => by
  cases r with
  | cons r1 r2 =>
    refine ⟨_, _, rfl, h F G σ H Z _ _ ok en r1 fun σ1 en1 l1 o1 => hr F G σ1 H Z _ _ ok en1 r2 fun σ2 en2 l2 o2 => k σ2 en2 (l2.trans l1) fun j hj => ?_⟩
    rw [o2 j fun z => hj (List.mem_append_right _ z), o1 j fun z => hj (List.mem_append_left _ z)]
theorem tg_tup {gs : TGs} {ds : List D} {n : Nat} {ws : List Nat} (h : Tgs c gs Γ ds Γ' ws) (hn : ds.length = n := by rfl) : Tg c (gTup c.K n gs) Γ (.tup ds) Γ' ws := fun F G σ H Z v Q ok en r k => by
  obtain ⟨a, xs, rfl, hx, ra⟩ := r.v_tup
  exact ⟨a, xs, rfl, SqT.of (cut_some hx).2, ra.length.trans hn, h F G σ H Z xs Q ok en ra k⟩
/-! statements -/
theorem run_asgT {g : TG} {vs : List Nat} (h : Ev c te Γ Z d Z') (hg : Tg c g Γ d Γ' vs) (k : O.nx Γ' Z') : Run c (tAsg te g) O Γ Z := fun F G σ H e ok en fin =>
  h F G σ H _ ok en fin.th fun v H1 ok1 s1 r1 => hg F G σ H1 Z' v _ ok1 (en.mono s1) r1 fun σ' en' _ _ => fin.nx Γ' Z' σ' H1 k ok1 en'
theorem run_asg {i : Nat} (h : Ev c te Γ Z d Z') (k : O.nx (Γ.set i (some d)) Z') : Run c (tAsg te (gName i)) O Γ Z := run_asgT h tg_name k
theorem run_asgN {i : Nat} (h : EvN c te Γ Z m Z') (k : ∀ p, p ∉ adr Z' → O.nx (Γ.set i (some (.ptr p))) ((p, m) :: Z')) : Run c (tAsg te (gName i)) O Γ Z := fun F G σ H e ok en fin =>
  h F G σ H _ ok en fin.th fun p H1 ok1 s1 => fin.nx _ _ _ H1 (k p (List.nodup_cons.mp ok1.nd).1) ok1 ((en.mono s1).set (.ptr p) i)
theorem run_asgP {i : Nat} {P : D → Sto → Prop} (h : EvP c te Γ Z P) (k : ∀ d Z', P d Z' → O.nx (Γ.set i (some d)) Z') : Run c (tAsg te (gName i)) O Γ Z := fun F G σ H e ok en fin =>
  h F G σ H _ ok en fin.th fun d Z' v H1 p ok1 s1 r1 => fin.nx _ _ _ H1 (k d Z' p) ok1 ((en.mono s1).set r1 i)
theorem run_drop (h : Ev c te Γ Z d Z') (k : O.nx Γ Z') : Run c (tDrop te) O Γ Z := fun F G σ H e ok en fin =>
  h F G σ H _ ok en fin.th fun v H1 ok1 s1 r1 => fin.nx _ _ _ H1 k ok1 (en.mono s1)
theorem run_dropP {P : D → Sto → Prop} (h : EvP c te Γ Z P) (k : ∀ d Z', P d Z' → O.nx Γ Z') : Run c (tDrop te) O Γ Z := fun F G σ H e ok en fin =>
  h F G σ H _ ok en fin.th fun d Z' v H1 p ok1 s1 r1 => fin.nx _ _ _ H1 (k d Z' p) ok1 (en.mono s1)
theorem run_ret (h : Ev c te Γ Z d Z') (k : O.rt d Z') : Run c (tRet te) O Γ Z := fun F G σ H e ok en fin =>
  h F G σ H _ ok en fin.th fun v H1 ok1 s1 r1 => fin.rt _ _ _ H1 k ok1 r1
theorem run_retP {P : D → Sto → Prop} (h : EvP c te Γ Z P) (k : ∀ d Z', P d Z' → O.rt d Z') : Run c (tRet te) O Γ Z := fun F G σ H e ok en fin =>
  h F G σ H _ ok en fin.th fun d Z' v H1 p ok1 s1 r1 => fin.rt _ _ _ H1 (k d Z' p) ok1 r1
theorem run_retN0 (k : O.rt .non Z) : Run c tRetN O Γ Z := fun F G σ H e ok en fin => fin.rt _ _ _ H k ok .non
theorem run_if {tt : TT} {b : Bool} (h : EvT c tt Γ Z b Z') (h1 : b = true → Run c t O Γ Z') (h2 : b = false → Run c u O Γ Z') : Run c (tIfS tt t u) O Γ Z := fun F G σ H e ok en fin =>
  h F G σ H _ ok en fin.th fun H1 ok1 s1 => by
    cases b with
    | true => exact h1 rfl F G σ H1 e ok1 (en.mono s1) fin
    | false => exact h2 rfl F G σ H1 e ok1 (en.mono s1) fin
/-- xs[i] = e for a list of the store -/
theorem run_set {p : Addr} {ds : List D} {k : Int} {j : Nat} (h : Ev c te Γ Z d Z1) (ho : Ev c ta Γ Z1 (.ptr p) Z2) (hi : Ev c tb Γ Z2 (.int k) Z3) (hz : (p, MO.lst ds) ∈ Z3) (hj : ixN ds.length k = some j)
    (kk : O.nx Γ (putZ Z3 p (.lst (ds.set j d)))) : Run c (tAsg te (gSub ta tb rSetL)) O Γ Z := fun F G σ H e ok en fin =>
  h F G σ H _ ok en fin.th fun v H1 ok1 s1 r1 => ho F G σ H1 _ ok1 (en.mono s1) fin.th fun w H2 ok2 s2 r2 => hi F G σ H2 _ ok2 (en.mono (s1.trans s2)) fin.th fun w2 H3 ok3 s3 r3 => by
    cases r2.v_ptr; cases r3.v_int
    obtain ⟨xs, hx, ra⟩ := ok3.lst hz
    obtain ⟨ok4, e4⟩ := ok3.put (o := .lst (xs.set j v)) (m := .lst (ds.set j d)) (List.mem_map.mpr ⟨_, hz, rfl⟩) ⟨_, rfl, ra.set ((r1.mono s2).mono s3) j⟩
    refine ⟨p, xs, k, j, rfl, rfl, hx, by rw [ra.length]; exact hj, fin.nx _ _ _ _ kk ok4 ?_⟩
    rw [e4]
    exact en.mono ((s1.trans s2).trans s3)
/-- a while: the word I by a measure -/
theorem run_while {tt : TT} (I : Nat → Gam → Sto → Prop) (m0 : Nat) (h0 : I m0 Γ Z) (hs : ∀ m Γ' Z', I m Γ' Z' → ∃ b Z2, EvT c tt Γ' Z' b Z2 ∧
      (b = true → Run c t { nx := fun Γ Z => ∃ m', m' < m ∧ I m' Γ Z, rt := O.rt, bk := O.nx, ct := fun Γ Z => ∃ m', m' < m ∧ I m' Γ Z } Γ' Z2) ∧ (b = false → O.nx Γ' Z2)) : Run c (tWhile tt t) O Γ Z := fun F G σ H e ok en fin => by
  refine ⟨fun m σ' H' => ∃ Γ' Z', I m Γ' Z' ∧ OkS c.K F G H' Z' ∧ En c.K (im F H' Z') σ' Γ', ⟨m0, Γ, Z, h0, ok, en⟩, fun m σ' H' hw => ?_⟩
  obtain ⟨Γ', Z', hI, ok', en'⟩ := hw
  obtain ⟨b, Z2, ht, h1, h2⟩ := hs m Γ' Z' hI
  refine ht F G σ' H' _ ok' en' fin.th fun H1 ok1 s1 => ?_
  cases b with
  | true =>
    rw [if_pos rfl]
    refine ⟨fun σ2 H2 => ∃ Γ2 Z3, (∃ m', m' < m ∧ I m' Γ2 Z3) ∧ OkS c.K F G H2 Z3 ∧ En c.K (im F H2 Z3) σ2 Γ2, fun σ2 H2 hN => ?_, ?_⟩
    · obtain ⟨Γ2, Z3, ⟨m', hm, hI'⟩, ok2, en2⟩ := hN
      exact ⟨m', hm, Γ2, Z3, hI', ok2, en2⟩
    · exact h1 rfl F G σ' H1 _ ok1 (en'.mono s1) ⟨fun Γ2 Z3 σ2 H2 p ok2 en2 => ⟨Γ2, Z3, p, ok2, en2⟩, fin.rt, fin.nx, fun Γ2 Z3 σ2 H2 p ok2 en2 => ⟨Γ2, Z3, p, ok2, en2⟩, fin.th⟩
  | false =>
    rw [if_neg Bool.false_ne_true]
    exact fin.nx _ _ _ _ (h2 rfl) ok1 (en'.mono s1)
/-! loops -/
theorem run_for {wi : TI} {g : TG} {tl : TS} {n : Nat} {f : Nat → D} {Kp : Sto → Prop} (hw : WkK c wi Γ Z n f Z1 Kp) (I : Nat → Gam → Sto → Prop) (h0 : I 0 Γ Z1)
    (hs : ∀ i Γ' Z', i < n → I i Γ' Z' → ∃ Γ2 vs, Tg c g Γ' (f i) Γ2 vs ∧ Run c tl { nx := I (i + 1), rt := O.rt, bk := O.nx, ct := I (i + 1) } Γ2 Z') (hd : ∀ Γ' Z', I n Γ' Z' → O.nx Γ' Z') (hk : ∀ i Γ' Z', I i Γ' Z' → Kp Z' := by intros; trivial) : Run c (tFor wi g tl) O Γ Z := fun F G σ H e ok en fin => by
  refine hw F G σ H _ ok en fin.th fun J H1 Gp Y ok1 s1 w hG hY => ?_
  obtain ⟨okw, sw⟩ := ok1.wide
  have nar : ∀ {H2 : Hp} {Z2 : Sto}, OkS c.K F (cut H1 (adr Z1)) H2 Z2 → OkS c.K F G H2 Z2 := fun q => q.narrow sw ok1.fF
  refine for_it w (fun i σ' H' => ∃ Γ' Z', I i Γ' Z' ∧ OkS c.K F (cut H1 (adr Z1)) H' Z' ∧ En c.K (im F H' Z') σ' Γ') ⟨Γ, Z1, h0, okw, en.mono s1⟩ (fun i σ' H' _ hp => ?_) (fun i x σ' H' H2 hi hp hy => ?_) (fun σ' H' hp => ?_)
  · obtain ⟨Γ', Z', hI, ok', _⟩ := hp
    exact hG F _ H' Z' (hk i Γ' Z' hI) ok' (wide_im ok')
  · obtain ⟨Γ', Z', hI, ok', en'⟩ := hp
    obtain ⟨Γ2, vs, hg, hr⟩ := hs i Γ' Z' hi hI
    obtain ⟨s2, r⟩ := hY i x F _ H' Z' H2 hi ok' (wide_im ok') (hG F _ H' Z' (hk i Γ' Z' hI) ok' (wide_im ok')) hy
    refine hg F _ σ' H2 Z' x _ (ok'.keep s2) (en'.mono (cut_mono s2)) r fun σ2 en2 _ _ => ?_
    refine hr F _ σ2 H2 _ (ok'.keep s2) en2 ⟨fun Γ3 Z3 σ3 H3 p ok3 en3 => ⟨Γ3, Z3, p, ok3, en3⟩, fun d Z3 v H3 p ok3 => fin.rt d Z3 v H3 p (nar ok3), fun Γ3 Z3 σ3 H3 p ok3 => fin.nx Γ3 Z3 σ3 H3 p (nar ok3), fun Γ3 Z3 σ3 H3 p ok3 en3 => ⟨Γ3, Z3, p, ok3, en3⟩, fin.th.wide sw ok1.fF⟩
  · obtain ⟨Γ', Z', hI, ok', en'⟩ := hp
    exact fin.nx _ _ _ _ (hd Γ' Z' hI) (nar ok') en'
theorem getD_of {α : Type} {l : List α} {i : Nat} {x d : α} (h : l[i]? = some x) : l.getD i d = x := by
  rw [List.getD_eq_getElem?_getD, h]
  rfl
theorem wk_tup {tl : TE} {ds : List D} (h : Ev c tl Γ Z (.tup ds) Z1) : Wk c (iTup c.K tl) Γ Z ds.length (fun i => ds.getD i .non) Z1 := fun F G σ H R ok en th k => h F G σ H _ ok en th fun v H1 ok1 s1 r1 => by
  obtain ⟨a, xs, rfl, hx, ra⟩ := r1.v_tup
  refine ⟨a, rfl, ⟨xs, SqT.of (cut_some hx).2⟩, k _ H1 _ _ ok1 s1 (ra.length ▸ walk_tup (xs := xs)) (fun F' G' H2 Z2 _ _ s => SqT.of (cut_some (s _ _ hx)).2) fun i x F' G' H2 Z2 H3 hi ok2 s2 _ hy => ?_⟩
  obtain ⟨rfl, e⟩ := hy
  obtain ⟨d, e2, q⟩ := ra.at e
  show _ ∧ Rp c.K _ x (ds.getD i .non)
  rw [getD_of e2]
  exact ⟨Same.refl _, q.mono s2⟩
theorem wk_list {tl : TE} {ds : List D} (h : Ev c tl Γ Z (.lst ds) Z1) : Wk c (iList c.K tl) Γ Z ds.length (fun i => ds.getD i .non) Z1 := fun F G σ H R ok en th k => h F G σ H _ ok en th fun v H1 ok1 s1 r1 => by
  obtain ⟨a, xs, rfl, hx, ra⟩ := r1.v_lst
  refine ⟨a, rfl, ⟨xs, SqL.of (cut_some hx).2⟩, k _ H1 _ _ ok1 s1 (ra.length ▸ walk_list (xs := xs)) (fun F' G' H2 Z2 _ _ s => SqL.of (cut_some (s _ _ hx)).2) fun i x F' G' H2 Z2 H3 hi ok2 s2 _ hy => ?_⟩
  obtain ⟨rfl, e⟩ := hy
  obtain ⟨d, e2, q⟩ := ra.at e
  show _ ∧ Rp c.K _ x (ds.getD i .non)
  rw [getD_of e2]
  exact ⟨Same.refl _, q.mono s2⟩
theorem wk_rng1 {ta : TA} {j : Int} (h : EvA c ta Γ Z [.int j] Z1) (hj : -(2 ^ 62) ≤ j ∧ j < 2 ^ 62) : Wk c (iRng1 ta) Γ Z j.toNat (fun i => .int (i : Nat)) Z1 := fun F G σ H R ok en th k => h F G σ H _ ok en th fun vs H1 ok1 s1 r1 => by
  obtain ⟨v, rfl, q⟩ := r1.one
  cases q.v_int
  refine ⟨j, rfl, hj.1, hj.2, k _ H1 _ _ ok1 s1 (walk_range (lo := 0) (n := j.toNat)) (fun _ _ _ _ _ _ _ => trivial) fun i x F' G' H2 Z2 H3 hi ok2 s2 _ hy => ?_⟩
  obtain ⟨rfl, rfl⟩ := hy
  have e0 : (0 : Int) + (i : Int) = (i : Int) := Int.zero_add _
  show _ ∧ Rp c.K _ (.int (0 + (i : Int))) (.int (i : Int))
  rw [e0]
  exact ⟨Same.refl _, .int _⟩
theorem wk_rng2 {ta : TA} {i j : Int} (h : EvA c ta Γ Z [.int i, .int j] Z1) (hj : -(2 ^ 62) ≤ i ∧ i < 2 ^ 62 ∧ -(2 ^ 62) ≤ j ∧ j < 2 ^ 62) : Wk c (iRng2 ta) Γ Z (j - i).toNat (fun k => .int (i + (k : Nat))) Z1 := fun F G σ H R ok en th k => h F G σ H _ ok en th fun vs H1 ok1 s1 r1 => by
  obtain ⟨v, w, rfl, q, q2⟩ := r1.two
  cases q.v_int; cases q2.v_int
  refine ⟨i, j, rfl, hj, k _ H1 _ _ ok1 s1 (walk_range (lo := i) (n := (j - i).toNat)) (fun _ _ _ _ _ _ _ => trivial) fun i x F' G' H2 Z2 H3 hi ok2 s2 _ hy => ?_⟩
  obtain ⟨rfl, rfl⟩ := hy
  exact ⟨Same.refl _, .int _⟩
/-- a new pair -/
theorem pair_new {K : PySem.W.Frag} {F' : List Addr} {G' H2 : Hp} {Z2 : Sto} {T : Addr} {v w : V} {d e : D} (ok2 : OkS K F' G' H2 Z2) (hT : H2 T = none) (a : Rp K (im F' H2 Z2) v d) (b : Rp K (im F' H2 Z2) w e) :
    Same H2 (upd H2 T (.tup [v, w])) ∧ Rp K (im F' (upd H2 T (.tup [v, w])) Z2) (.ref T) (.tup [d, e]) := by
  have s := same_new (o := HO.tup [v, w]) hT
  have s2 : Same (im F' H2 Z2) (im F' (upd H2 T (.tup [v, w])) Z2) := cut_mono s
  obtain ⟨f1, f2, _⟩ := ok2.fresh hT
  refine ⟨s, .tup ?_ (.cons (a.mono s2) (.cons (b.mono s2) .nil))⟩
  show cut _ _ T = _
  rw [cut_out fun z => (List.mem_append.mp z).elim f1 f2]
  exact upd_same
theorem wk_enum {ta : TA} {ds : List D} (h : EvA c ta Γ Z [.lst ds] Z1) : Wk c (iEnum c.K ta) Γ Z ds.length (fun i => .tup [.int (i : Nat), ds.getD i .non]) Z1 := fun F G σ H R ok en th k => h F G σ H _ ok en th fun vs H1 ok1 s1 r1 => by
  obtain ⟨v, rfl, q⟩ := r1.one
  obtain ⟨a, xs, rfl, hx, ra⟩ := q.v_lst
  refine ⟨a, xs, rfl, SqL.of (cut_some hx).2, k _ H1 _ _ ok1 s1 (ra.length ▸ walk_enum (xs := xs)) (fun F' G' H2 Z2 _ _ s => SqL.of (cut_some (s _ _ hx)).2) fun i x F' G' H2 Z2 H3 hi ok2 s2 _ hy => ?_⟩
  obtain ⟨T, y1, y2, rfl, hT, rfl, e1, e2⟩ := hy
  cases e1
  obtain ⟨d, e3, q⟩ := ra.at e2
  show _ ∧ Rp c.K _ _ (.tup [.int (i : Nat), ds.getD i .non])
  rw [getD_of e3]
  exact pair_new ok2 hT (.int _) (q.mono s2)
/-! comprehensions -/
def wipeG (Γ : Gam) : List Nat → Gam
  | [] => Γ
  | v :: vs => (wipeG Γ vs).set v none
theorem wipeG_len (Γ : Gam) : ∀ vs : List Nat, (wipeG Γ vs).length = Γ.length
  | [] => rfl
  | v :: vs => by
    show ((wipeG Γ vs).set v none).length = _
    rw [List.length_set, wipeG_len Γ vs]
theorem En.wipe {K : PySem.W.Frag} {B : Hp} {σ : L2.St} {Γ : Gam} (h : En K B σ Γ) : ∀ vs : List Nat, En K B (wipe σ vs) (wipeG Γ vs)
  | [] => h
  | v :: vs => by
    have ih := h.wipe vs
    refine ⟨by show ((L2.wipe σ vs).set v none).length = ((wipeG Γ vs).set v none).length; rw [List.length_set, List.length_set]; exact ih.1, fun i d q => ?_⟩
    have q : ((wipeG Γ vs).set v none)[i]? = some (some d) := q
    by_cases z : v = i
    · subst z
      have hl := (List.getElem?_eq_some_iff.mp q).1
      rw [List.length_set] at hl
      rw [List.getElem?_set_self hl] at q
      cases q
    · rw [List.getElem?_set_ne z] at q
      obtain ⟨w, a, b⟩ := ih.2 i d q
      exact ⟨w, by show ((L2.wipe σ vs).set v none)[i]? = _; rw [List.getElem?_set_ne z]; exact a, b⟩
theorem wipe_at (σ : L2.St) (i : Nat) : ∀ vs : List Nat, i ∈ vs → i < σ.length → (wipe σ vs)[i]? = some none
  | v :: vs, h, hl => by
    show ((wipe σ vs).set v none)[i]? = some none
    by_cases z : v = i
    · subst z
      exact List.getElem?_set_self (by rw [wipe_length]; exact hl)
    · rw [List.getElem?_set_ne z]
      exact wipe_at σ i vs ((List.mem_cons.mp h).resolve_left fun e => z e.symm) hl
theorem wipe_eq {σ τ : L2.St} {vs : List Nat} (hl : τ.length = σ.length) (h : ∀ k : Nat, k ∉ vs → τ[k]? = σ[k]?) : wipe τ vs = wipe σ vs := List.ext_getElem? fun k => by
  by_cases hk : k ∈ vs
  · by_cases z : k < σ.length
    · rw [wipe_at τ k vs hk (by omega), wipe_at σ k vs hk z]
    · rw [List.getElem?_eq_none (by rw [wipe_length]; omega), List.getElem?_eq_none (by rw [wipe_length]; omega)]
  · rw [wipe_out hk, wipe_out hk, h k hk]
theorem wipe_wipe {σ : L2.St} {vs : List Nat} : wipe (wipe σ vs) vs = wipe σ vs := wipe_eq (wipe_length σ vs) fun k hk => wipe_out hk
theorem evN_lc {wi : TI} {g : TG} {vs : List Nat} {n : Nat} {f : Nat → D} {Kp : Sto → Prop} (hw : WkK c wi Γ Z n f Z1 Kp) (es : List D) (z : Nat → Sto) (hz0 : z 0 = Z1) (hl : es.length = n) (hn : n ≤ 1000000)
    (hs : ∀ i, i < n → ∃ Γ2 e, Tg c g (wipeG Γ vs) (f i) Γ2 vs ∧ es[i]? = some e ∧ Ev c.calm te Γ2 (z i) e (z (i + 1))) (hk : ∀ i, Kp (z i) := by intros; trivial) : EvN c (tLc wi g tYes te vs) Γ Z (.lst es) (z n) := fun F G σ H Q ok en th k => by
  refine hw F G σ H _ ok en th fun J H1 Gp Y ok1 s1 w hG hY => fun p hp => ?_
  subst hz0
  obtain ⟨f1, f2, f3⟩ := ok1.fresh hp
  have gw : cut H1 (adr (z 0)) p = none := cut_same.free hp
  refine lc_it w (fun i H' => ∃ acc, H' p = some (.lst acc) ∧ RpAll c.K (im (p :: F) H' (z i)) acc (es.take i) ∧ OkS c.K (p :: F) (cut H' (adr (z i))) H' (z i) ∧ Same (cut H1 (adr (z 0))) H' ∧ (∀ q ∈ adr (z i), cut H1 (adr (z 0)) q = none) ∧ Same (im F H1 (z 0)) (im (p :: F) H' (z i)))
    ⟨[], upd_same, .nil, ?_, ?_, fun q hq => cut_in hq, ?_⟩ (fun i H' hi hv => ?_) (fun i x H' H2 hi hv hy => ?_) (fun H' hv => ?_)
  · have e := same_new (o := HO.lst []) hp
    have s0 : Same (im F H1 (z 0)) (im (p :: F) (upd H1 p (.lst [])) (z 0)) := fun a o h => by
      obtain ⟨q, h⟩ := cut_some h
      show cut _ _ a = _
      rw [cut_out (M := p :: F ++ adr (z 0)) fun r => (List.mem_cons.mp r).elim (fun r => by rw [r, hp] at h; cases h) q]
      exact e a o h
    refine ⟨cut_same, fun q hq => ?_, fun q hq => cut_in hq, ok1.nd, fun q m hq => ?_⟩
    · rcases List.mem_cons.mp hq with rfl | hq
      · exact ⟨_, by rw [cut_out f2]; exact upd_same, fun _ z => by cases z⟩
      · obtain ⟨o, h, t⟩ := ok1.wide.1.fF q hq
        obtain ⟨h1, h2⟩ := cut_some h
        exact ⟨o, by rw [cut_out h1]; exact e q o h2, t⟩
    · obtain ⟨u, a, r⟩ := ok1.sto q m hq
      exact ⟨u, e q u a, r.mono s0⟩
  · exact cut_same.trans (same_new hp)
  · intro a o h
    obtain ⟨q, h⟩ := cut_some h
    show cut _ _ a = _
    rw [cut_out (M := p :: F ++ adr (z 0)) fun r => (List.mem_cons.mp r).elim (fun r => by rw [r, hp] at h; cases h) q]
    exact same_new hp a o h
  · obtain ⟨acc, _, _, o, b, ow, s⟩ := hv
    exact hG _ _ H' _ (hk i) o s
  · obtain ⟨acc, ha, ra, o, b, ow, s⟩ := hv
    obtain ⟨Γ2, e, hg, he, hv⟩ := hs i hi
    obtain ⟨s2, r⟩ := hY i x (p :: F) _ H' (z i) H2 hi o s (hG _ _ H' _ (hk i) o s) hy
    have o2 := o.keep s2
    refine hg (p :: F) _ (wipe σ vs) H2 (z i) x _ o2 (((en.mono s1).mono (s.trans (cut_mono s2))).wipe vs) r fun σ2 en2 l2 k2 => ?_
    refine ⟨by rw [wipe_eq l2 k2, wipe_wipe], ?_⟩
    simp only [tYes, if_true]
    refine hv (p :: F) _ σ2 H2 _ o2 en2 Thr.calm fun v H4 ok4 s4 r4 => ?_
    have hp4 : H4 p = some (.lst acc) := ok4.base p _ (by
      obtain ⟨u, h, _⟩ := o.fF p List.mem_cons_self
      rw [(cut_some h).2] at ha
      rw [h]
      exact ha)
    have lacc : acc.length ≤ n := by
      rw [ra.length, List.length_take]
      omega
    refine ⟨acc, hp4, Nat.lt_of_lt_of_le (show acc.length < 1000001 by omega) (by decide), acc ++ [v], upd_same, ?_, ?_, ?_, ?_, ?_⟩
    all_goals have e5 : im (p :: F) (upd H4 p (.lst (acc ++ [v]))) (z (i + 1)) = im (p :: F) H4 (z (i + 1)) := cut_upd List.mem_cons_self
    · rw [e5, List.take_add_one, he]
      exact ((ra.mono (cut_mono s2)).mono s4).append (.cons r4 .nil)
    · have np : p ∉ adr (z (i + 1)) := fun q => by
        obtain ⟨u, h, _⟩ := o.fF p List.mem_cons_self
        rw [ok4.own p q] at h; cases h
      have ex : ∀ q u, H4 q = some u → NT u → ∃ u', upd H4 p (.lst (acc ++ [v])) q = some u' ∧ NT u' := fun q u h t => by
        by_cases hq : q = p
        · subst hq
          exact ⟨_, upd_same, fun _ z => by cases z⟩
        · exact ⟨u, by rw [upd_ne hq]; exact h, t⟩
      refine ⟨cut_same, fun q hq => ?_, fun q hq => cut_in hq, ok4.nd, fun q m hq => ?_⟩
      · obtain ⟨u, h, t⟩ := ok4.fF q hq
        obtain ⟨u', h', t'⟩ := ex q u (ok4.base q u h) t
        have nq : q ∉ adr (z (i + 1)) := fun r => by rw [ok4.own q r] at h; cases h
        exact ⟨u', by rw [cut_out nq]; exact h', t'⟩
      · obtain ⟨u, a, r⟩ := ok4.sto q m hq
        refine ⟨u, ?_, by rw [e5]; exact r⟩
        rw [upd_ne fun (h : q = p) => np (by rw [← h]; exact List.mem_map.mpr ⟨_, hq, rfl⟩)]
        exact a
    · intro a u h
      have n1 : a ≠ p := fun q => by rw [q, gw] at h; cases h
      rw [upd_ne n1]
      refine ok4.base a u ?_
      rw [cut_out fun q => by rw [ow a q] at h; cases h]
      exact b a u h
    · intro q hq
      cases h : cut H1 (adr (z 0)) q with
      | none => rfl
      | some u =>
        have := ok4.own q hq
        have nq : q ∉ adr (z i) := fun r => by rw [ow q r] at h; cases h
        rw [cut_out nq, b q u h] at this
        cases this
    · rw [e5]
      exact (s.trans (cut_mono s2)).trans s4
  · obtain ⟨acc, ha, ra, o, b, ow, s⟩ := hv
    have np : p ∉ adr (z n) := fun q => by
      obtain ⟨u, h, _⟩ := o.fF p List.mem_cons_self
      rw [o.own p q] at h; cases h
    have mm : ∀ a, a ∈ F ++ adr ((p, MO.lst es) :: z n) ↔ a ∈ (p :: F) ++ adr (z n) := fun a => by
      simp only [List.mem_append, List.mem_cons, adr, List.map_cons]
      constructor
      · rintro (h | h | h)
        · exact .inl (.inr h)
        · exact .inl (.inl h)
        · exact .inr h
      · rintro ((h | h) | h)
        · exact .inr (.inl h)
        · exact .inl h
        · exact .inr (.inr h)
    have s5 : Same (im (p :: F) H' (z n)) (im F H' ((p, .lst es) :: z n)) := cut_less fun a h => (mm a).mp h
    have e6 : es.take n = es := List.take_of_length_le (by omega)
    refine k p H' ⟨ok1.wide.2.trans b, ok1.fF, fun q hq => ?_, List.nodup_cons.mpr ⟨np, o.nd⟩, fun q m hq => ?_⟩ ((s1.trans s).trans s5)
    · rcases List.mem_cons.mp hq with rfl | hq
      · exact f3
      · exact ok1.wide.2.free (ow q hq)
    · rcases List.mem_cons.mp hq with e | hq
      · cases e
        rw [e6] at ra
        exact ⟨_, ha, acc, rfl, ra.mono s5⟩
      · obtain ⟨u, a, r⟩ := o.sto q m hq
        exact ⟨u, a, r.mono s5⟩
end
end L3

/-! L3R: further rules over the hand layer: defs in a place where no repr is under way (FnG), their calls, a call by keywords alone. -/
namespace L3
open PySem PySem.Spec PyProof.Rows L2

/-- a def's promise, where no repr is under way -/
structure FnG (P : Program) (w : World) (K : PySem.W.Frag) (mg : Str → Option Value) (base : Heap) (k : Nat) (f : Addr) (fd : FuncData) (ps : List Str) (sp : Sp) : Prop where
  len : ∀ vs H Q E, sp vs H Q E → vs.length = ps.length
  go : ∀ (A : Around) (outer : List Env) (s : Shared) (H : Hp) (args : Args) (us : List Value) (vs : List V) (Q : VK) (E : XK), A.guards = some [] → Room k A → Env0 P w K mg base A outer s H →
    BindsTo s fd args (ps.zip us) → Vals vs us → sp vs H Q E → codeAny (model P w) A (.call (.ref f) args) (CR (L2.CX P w) outer P w H s Q E) s
section
variable {P : Program} {w : World} {K : PySem.W.Frag} {mg : Str → Option Value} {base : Heap} {k : Nat} {f : Addr} {fd : FuncData} {ps : List Str} {sp : Sp}
theorem FnG.of (F : FnOk P w K mg base (L2.CX P w) k f fd ps sp) : FnG P w K mg base k f fd ps sp := ⟨F.len, fun A outer s H args us vs Q E _ => F.run A outer s H args us vs Q E⟩
theorem FnG.mono {j : Nat} (F : FnG P w K mg base j f fd ps sp) (h : j ≤ k) : FnG P w K mg base k f fd ps sp := ⟨F.len, fun A outer s H args us vs Q E g r => F.go A outer s H args us vs Q E g (r.mono h)⟩
/-- a def by its body -/
theorem fnG_of {x qual : Str} {st : Stmt} {N : List Str} (T : Fun K x qual st f fd) (S : FnScope N ps (defScope st)) (len : ∀ vs H Q E, sp vs H Q E → vs.length = ps.length)
    (body : ∀ (cdv : Value) (A : Around) (outer : List Env) (s : Shared) (H : Hp) (vs : List V) (Q : VK) (E : XK), A.guards = some [] → Room k (A.deeper (envOfC qual (defScope st) s.heap.objs.size f cdv)) → sp vs H Q E →
      ∃ t, PSs (cxOf (L2.CX P w) P w K mg base N qual (defScope st) f cdv A outer s H E) (defBody st) t ∧ t { nx := fun _ H' => Q .non H', rt := Q } (start N vs) H) : FnG P w K mg base (k + 1) f fd ps sp := by
  obtain ⟨oc, od, kV, doc, pm, an, cdv, ct, osl, rfl, lk, hcd⟩ := T.ex
  refine ⟨len, fun A outer s H args us vs Q E hg room e0 bd rv hsp => ?_⟩
  have inn := e0.mod.kin.keeps fun b o e => (e0.bs b o e).1
  have par : ∀ y ∈ ps.zip us, (defScope st).names.lookup y.1 = some .local ∨ ((defScope st).names.lookup y.1 = some .cell ∧ ((cellsFrom (s.heap.objs.size + 1) (defScope st).names []).lookup y.1).isSome = true) := by
    rintro ⟨n, v⟩ hy
    exact (S.par n (List.of_mem_zip hy).1).imp id fun q => ⟨q, PySem.W.cellsFrom_some _ _ _ (.inl q)⟩
  refine codeAny_call_function room.depth (inn _ _ lk) rfl S.co S.gen rfl (PySem.W.codeRec_of inn hcd) (bd _ _ _ _ (wpAny_newFunctionEnv_cells S.kind par fun env he s1 ic => ?_))
  cases he
  refine ⟨(e0.mod.nolimit.keeps fun b o e => (e0.bs b o e).1).keeps ic.toInCall.keep, codeAny_func ?_⟩
  obtain ⟨t, pt, ht⟩ := body cdv A outer s H vs Q E hg (room.deeper _) hsp
  refine wpAny_mono (pt.run [] s1 (start N vs) H _ (inv_start S room.hd e0 (len _ _ _ _ hsp) rv ic) ht) (fun fl s' end_ => ?_) fun _ _ h => h
  cases fl with
  | ret u =>
    obtain ⟨v, _, H', J, r, q⟩ := end_
    exact ⟨v, H', J.os, J.bare, J.base, J.hok, r, q⟩
  | next =>
    obtain ⟨_, H', J, q⟩ := end_
    exact ⟨V.non, H', J.os, J.bare, J.base, J.hok, (rfl : RelV V.non Value.none), q⟩
  | brk =>
    obtain ⟨_, _, _, q⟩ := end_
    exact q.elim
  | cont =>
    obtain ⟨_, _, _, q⟩ := end_
    exact q.elim
end
section
variable {X : Cx} {k : Nat} {f : Addr} {fd : FuncData} {ps ks : List Str} {sp : Sp} {E : L2.St → XK} {x : Str} {p pos : Pos} {e : Expr} {es : List Expr} {t tk : TA} {kws : List Keyword}
/-- what a callee raises is taken, whatever the slots -/
def PassG (X : Cx) (E : L2.St → XK) : Prop := ∀ (pins : List (Addr × Obj)) (σ : L2.St) (H : Hp) (s : Shared) (u : Value) (s' : Shared), Inv X pins σ H s → L2.CX X.prog X.w X.stack H s (E σ) u s' → X.xe u s'
theorem pass_def {E : XK} (tk : Takes X (fun cls d _ H => E cls d H)) : PassG X (fun _ => E) := fun pins σ H s u s' I c => tk u s' (XE.of_call I (fun _ _ _ h => h) c)
theorem pass_try {W : WX} (tk : Takes X W) : PassG X (WE W) := fun pins σ H s u s' I c => tk u s' (XE.of_call I (fun _ _ _ h => h) c)
theorem pass_calm : PassG X (fun _ => E0) := fun pins σ H s u s' I c => by
  obtain ⟨_, _, _, _, _, _, _, _, _, _, _, _, z⟩ := c
  exact z.elim
/-- f(..) -/
def tCallG (sp : Sp) (E : L2.St → XK) (t : TA) : TE := fun σ H Q => t σ H fun vs H1 => sp vs H1 Q (E σ)
theorem runG {pins : List (Addr × Obj)} {σ : L2.St} {H : Hp} {s : Shared} {Q : VK} {args : Args} {us : List Value} {vs : List V} (F : FnG X.prog X.w X.K X.mg X.base k f fd ps sp) (hg : X.A.guards = some []) (hr : Room k X.A)
    (hb : BindsTo s fd args (ps.zip us)) (hp : PassG X E) (I : Inv X pins σ H s) (r : Vals vs us) (h : sp vs H Q (E σ)) : codeAny (model X.prog X.w) X.A (.call (.ref f) args) (fun r s' => match r with
      | .ok (.ret u) => EP X pins σ Q u s'
      | .ok _ => False
      | .error u => X.xe u s') s := codeAny_mono (F.go X.A X.stack s H args us vs Q (E σ) hg hr I.env0 hb r h) fun r s' q => by
  cases r with
  | error u => exact hp pins σ H s u s' I q
  | ok fl => cases fl with
    | ret u => exact I.after q
    | _ => exact q
theorem pe_callG (F : FnG X.prog X.w X.K X.mg X.base k f fd ps sp) (hg : X.A.guards = some []) (hr : Room k X.A) (hl : Gl X x) (hm : X.mg x = some (.ref f)) (hk : PySem.W.keepIn X.K (.ref f) = true) (hb : Binds X.K fd ps []) (hp : PassG X E)
    (ha : PA X (e :: es) t) (hdb : (x == ("__debug__" : Str)) = false := by decide) (he : starEach (e :: es) X.env = (false, eval e X.env) :: starEach es X.env := by rfl) (hpl : (backTo pos (starEach es X.env)).any (·.1) = false := by rfl) :
    PE X (.Call (.Name x p) (e :: es) [] pos) (tCallG sp E t) := ⟨fun pins s σ H Q I h =>
  wpAny_Call_Name_kw (ld_glob I hl hm (PySem.W.callWith_K (h₀ := X.base) I.ok.mod.kin hk (thn (ha.run pos pins s σ H _ I h) fun us s1 ⟨vs, H1, I1, r, q⟩ => ⟨I1.kIn, by
    have hlen : us.length = ps.length := by rw [← r.length]; exact F.len _ _ _ _ q
    have b := hb s1 us I1.kIn (by rw [List.append_nil]; exact hlen)
    rw [List.append_nil] at b
    exact wpAny_call (codeAny_mono (runG F hg hr b hp I1 r q) fun r' s2 z => by
      cases r' with
      | error u => exact z
      | ok fl => cases fl with
        | ret u => exact z
        | _ => exact z.elim)⟩) he hpl) hdb)⟩
/-- .. of a def whose promise asks nothing of repr -/
theorem runF {pins : List (Addr × Obj)} {σ : L2.St} {H : Hp} {s : Shared} {Q : VK} {args : Args} {us : List Value} {vs : List V} (F : FnOk X.prog X.w X.K X.mg X.base (L2.CX X.prog X.w) k f fd ps sp) (hr : Room k X.A)
    (hb : BindsTo s fd args (ps.zip us)) (hp : PassG X E) (I : Inv X pins σ H s) (r : Vals vs us) (h : sp vs H Q (E σ)) : codeAny (model X.prog X.w) X.A (.call (.ref f) args) (fun r s' => match r with
      | .ok (.ret u) => EP X pins σ Q u s'
      | .ok _ => False
      | .error u => X.xe u s') s := codeAny_mono (F.run X.A X.stack s H args us vs Q (E σ) hr I.env0 hb r h) fun r s' q => by
  cases r with
  | error u => exact hp pins σ H s u s' I q
  | ok fl => cases fl with
    | ret u => exact I.after q
    | _ => exact q
theorem pe_callF (F : FnOk X.prog X.w X.K X.mg X.base (L2.CX X.prog X.w) k f fd ps sp) (hr : Room k X.A) (hl : Gl X x) (hm : X.mg x = some (.ref f)) (hk : PySem.W.keepIn X.K (.ref f) = true) (hb : Binds X.K fd ps []) (hp : PassG X E)
    (ha : PA X (e :: es) t) (hdb : (x == ("__debug__" : Str)) = false := by decide) (he : starEach (e :: es) X.env = (false, eval e X.env) :: starEach es X.env := by rfl) (hpl : (backTo pos (starEach es X.env)).any (·.1) = false := by rfl) :
    PE X (.Call (.Name x p) (e :: es) [] pos) (tCallG sp E t) := ⟨fun pins s σ H Q I h =>
  wpAny_Call_Name_kw (ld_glob I hl hm (PySem.W.callWith_K (h₀ := X.base) I.ok.mod.kin hk (thn (ha.run pos pins s σ H _ I h) fun us s1 ⟨vs, H1, I1, r, q⟩ => ⟨I1.kIn, by
    have hlen : us.length = ps.length := by rw [← r.length]; exact F.len _ _ _ _ q
    have b := hb s1 us I1.kIn (by rw [List.append_nil]; exact hlen)
    rw [List.append_nil] at b
    exact wpAny_call (codeAny_mono (runF F hr b hp I1 r q) fun r' s2 z => by
      cases r' with
      | error u => exact z
      | ok fl => cases fl with
        | ret u => exact z
        | _ => exact z.elim)⟩) he hpl) hdb)⟩
/-- f(k = v, ..) -/
def tCallGK (sp : Sp) (gV : List V → List V → List V) (E : L2.St → XK) (tk : TA) : TE := fun σ H Q => tk σ H fun zs H2 => sp (gV [] zs) H2 Q (E σ)
theorem pe_callGK0 {g : List Value → List Value → List Value} {gV : List V → List V → List V} (F : FnG X.prog X.w X.K X.mg X.base k f fd ps sp) (hg : X.A.guards = some []) (hr : Room k X.A) (hl : Gl X x) (hm : X.mg x = some (.ref f)) (hk : PySem.W.keepIn X.K (.ref f) = true)
    (hb : KBinds X.K fd ps ks g gV) (hp : PassG X E) (hkw : PK X kws tk) (hall : (backToKw pos (keywordEach kws X.env)).all (·.1.isSome) = true := by rfl) (hks : (backToKw pos (keywordEach kws X.env)).filterMap (·.1) = ks := by rfl)
    (hdb : (x == ("__debug__" : Str)) = false := by decide) (hpl : ((backTo pos (starEach [] X.env)).any (·.1) || (backToKw pos (keywordEach kws X.env)).any (·.1.isNone)) = false := by rfl) :
    PE X (.Call (.Name x p) [] kws pos) (tCallGK sp gV E tk) := ⟨fun pins s σ H Q I h =>
  wpAny_Call_Name_kw (ld_glob I hl hm (PySem.W.callWith_KW0 (h₀ := X.base) I.ok.mod.kin hk hall (thn (hkw.run pos pins s σ H _ I h) fun ws s1 ⟨zs, H1, I1, r, q⟩ => ⟨I1.kIn, by
    rw [hks]
    have rr : Vals (gV [] zs) (g [] ws) := hb.rel .nil r
    have hlen : (g [] ws).length = ps.length := by rw [← rr.length]; exact F.len _ _ _ _ q
    exact wpAny_call (codeAny_mono (runG F hg hr (hb.to s1 [] ws I1.kIn hlen) hp I1 rr q) fun r' s2 z => by
      cases r' with
      | error u => exact z
      | ok fl => cases fl with
        | ret u => exact z
        | _ => exact z.elim)⟩) hpl) hdb)⟩
end
end L3

/-! L3D: promises over data (Pr), calls, objects, errors. -/
namespace L3
open PySem PySem.Spec PyProof.Rows L2

/-- S tells, of the arguments and what of the store goes along, that what comes is as P says, or an error as X says -/
abbrev SpD := List D → Sto → (D → Sto → Prop) → XP → Prop
def Pr (K : PySem.W.Frag) (S : SpD) : Sp := fun vs H Q E => ∃ (F : List Addr) (ds : List D) (Z : Sto) (P : D → Sto → Prop) (X : XP), S ds Z P X ∧ OkS K F (cut H (adr Z)) H Z ∧ RpAll K (im F H Z) vs ds ∧
  (∀ d Z' v H', P d Z' → OkS K F (cut H (adr Z)) H' Z' → Rp K (im F H' Z') v d → Q v H') ∧
  ∀ C fs dx H', X C fs → Same (cut H (adr Z)) H' → XdOk K H' dx fs → cut H (adr Z) dx = none → E (.ref C) (some dx) H'
def startG (N : List Str) (ds : List D) : Gam := ds.map some ++ List.replicate (N.length - ds.length) none
theorem en_start {K : PySem.W.Frag} {B : Hp} {N : List Str} {vs : List V} {ds : List D} (r : RpAll K B vs ds) : En K B (L2.start N vs) (startG N ds) := by
  have hl := r.length
  refine ⟨by unfold L2.start startG; rw [List.length_append, List.length_append, List.length_map, List.length_map, List.length_replicate, List.length_replicate, hl], fun i d h => ?_⟩
  unfold startG at h
  unfold L2.start
  by_cases hi : i < ds.length
  · rw [List.getElem?_append_left (by rw [List.length_map]; exact hi), List.getElem?_map] at h
    rw [List.getElem?_append_left (by rw [List.length_map, hl]; exact hi), List.getElem?_map]
    cases q : ds[i]? with
    | none => rw [q] at h; cases h
    | some d' =>
      rw [q] at h
      have h' : d' = d := Option.some.inj (Option.some.inj h)
      subst h'
      obtain ⟨v, a, b⟩ := r.get q
      exact ⟨v, by rw [a]; rfl, b⟩
  · rw [List.getElem?_append_right (by rw [List.length_map]; omega)] at h
    have := List.mem_of_getElem? h
    rw [List.mem_replicate] at this
    cases this.2
/-- a body's reading, from what its blocks reach -/
theorem body_of {K : PySem.W.Frag} {S : SpD} {t : TS} {N : List Str} {vs : List V} {H : Hp} {Q : VK} {E : XK} (h : Pr K S vs H Q E)
    (run : ∀ ds Z P X, S ds Z P X → Run ⟨K, fun _ => E, fun C fs _ _ => X C fs⟩ t { nx := fun _ Z' => P .non Z', rt := P } (startG N ds) Z) : t { nx := fun _ H' => Q .non H', rt := Q } (L2.start N vs) H := by
  obtain ⟨F, ds, Z, P, X, hS, ok, ra, q, x⟩ := h
  exact run ds Z P X hS F _ _ H _ ok (en_start ra) ⟨fun Γ Z' σ H' p ok' _ => q _ Z' _ H' p ok' .non, fun d Z' v H' p ok' r => q d Z' v H' p ok' r, fun _ _ _ _ p => p.elim, fun _ _ _ _ p => p.elim, fun C fs dx H' σ Γ Z' p ok' _ xd g => x C fs dx H' p ok'.base xd g⟩
theorem Pr.len {K : PySem.W.Frag} {S : SpD} {n : Nat} (h : ∀ ds Z P X, S ds Z P X → ds.length = n) : ∀ vs H Q E, Pr K S vs H Q E → vs.length = n := fun vs H Q E p => by
  obtain ⟨F, ds, Z, P, X, hS, ok, ra, _⟩ := p
  rw [ra.length]
  exact h _ _ _ _ hS

section
variable {c : Cn} {Γ : Gam} {Z Z1 Z2 Z' Za Zb : Sto} {t : TA} {ds : List D} {d : D} {S : SpD} {P : D → Sto → Prop} {m : MO}
/-- what stands when a callee holds Za and the rest is foreign -/
theorem split_ok {K : PySem.W.Frag} {F : List Addr} {G H : Hp} (ok : OkS K F G H (Za ++ Zb)) : OkS K (F ++ adr Zb) (cut H (adr Za)) H Za ∧ Same (im F H (Za ++ Zb)) (im (F ++ adr Zb) H Za) ∧ Same G (cut H (adr Za)) := by
  have mm : ∀ a, a ∈ (F ++ adr Zb) ++ adr Za ↔ a ∈ F ++ adr (Za ++ Zb) := fun a => by
    simp only [List.mem_append, adr, List.map_append]
    constructor
    · rintro ((h | h) | h)
      · exact .inl h
      · exact .inr (.inr h)
      · exact .inr (.inl h)
    · rintro (h | h | h)
      · exact .inl (.inl h)
      · exact .inr h
      · exact .inl (.inr h)
  have s : Same (im F H (Za ++ Zb)) (im (F ++ adr Zb) H Za) := cut_less fun a h => (mm a).mp h
  have nd : (adr Za ++ adr Zb).Nodup := by
    have := ok.nd
    unfold adr at this
    rw [List.map_append] at this
    exact this
  have g : Same G (cut H (adr Za)) := fun a o e => by
    rw [cut_out fun z => by
      have := ok.own a (by unfold adr; rw [List.map_append]; exact List.mem_append_left _ z)
      rw [this] at e; cases e]
    exact ok.base a o e
  refine ⟨⟨cut_same, fun p hp => ?_, fun p hp => cut_in hp, (List.nodup_append.mp nd).1, fun p m hp => ?_⟩, s, g⟩
  · rcases List.mem_append.mp hp with hp | hp
    · obtain ⟨o, e, t⟩ := ok.fF p hp
      exact ⟨o, g p o e, t⟩
    · obtain ⟨m, hm, e⟩ := List.mem_map.mp hp
      obtain ⟨o, a, mo⟩ := ok.sto m.1 m.2 (List.mem_append_right _ hm)
      rw [e] at a
      exact ⟨o, by rw [cut_out fun z => (List.nodup_append.mp nd).2.2 p z p hp rfl]; exact a, mo.nt⟩
  · obtain ⟨u, a, r⟩ := ok.sto p m (List.mem_append_left _ hp)
    exact ⟨u, a, r.mono s⟩
/-- behind the callee -/
theorem join_ok {K : PySem.W.Frag} {F : List Addr} {G H H' : Hp} (ok : OkS K F G H (Za ++ Zb)) (ok' : OkS K (F ++ adr Zb) (cut H (adr Za)) H' Z') : OkS K F G H' (Z' ++ Zb) ∧ Same (im F H (Za ++ Zb)) (im F H' (Z' ++ Zb)) ∧ Same (im (F ++ adr Zb) H' Z') (im F H' (Z' ++ Zb)) := by
  obtain ⟨_, _, g⟩ := split_ok ok
  have mm : ∀ a, a ∈ F ++ adr (Z' ++ Zb) ↔ a ∈ (F ++ adr Zb) ++ adr Z' := fun a => by
    simp only [List.mem_append, adr, List.map_append]
    constructor
    · rintro (h | h | h)
      · exact .inl (.inl h)
      · exact .inr h
      · exact .inl (.inr h)
    · rintro ((h | h) | h)
      · exact .inl h
      · exact .inr (.inr h)
      · exact .inr (.inl h)
  have s2 : Same (im (F ++ adr Zb) H' Z') (im F H' (Z' ++ Zb)) := cut_less fun a h => (mm a).mp h
  have nd : (adr Za ++ adr Zb).Nodup := by
    have := ok.nd
    unfold adr at this
    rw [List.map_append] at this
    exact this
  have zb : ∀ p ∈ adr Zb, ∃ o, H p = some o ∧ cut H (adr Za) p = some o := fun p hp => by
    obtain ⟨m, hm, e⟩ := List.mem_map.mp hp
    obtain ⟨o, a, _⟩ := ok.sto m.1 m.2 (List.mem_append_right _ hm)
    rw [e] at a
    exact ⟨o, a, by rw [cut_out fun z => (List.nodup_append.mp nd).2.2 p z p hp rfl]; exact a⟩
  have s1 : Same (im F H (Za ++ Zb)) (im F H' (Z' ++ Zb)) := fun a o e => by
    obtain ⟨z, e⟩ := cut_some e
    have nza : a ∉ adr Za := fun q => z (List.mem_append_right _ (by unfold adr; rw [List.map_append]; exact List.mem_append_left _ q))
    have nzb : a ∉ adr Zb := fun q => z (List.mem_append_right _ (by unfold adr; rw [List.map_append]; exact List.mem_append_right _ q))
    have e2 : cut H (adr Za) a = some o := by rw [cut_out nza]; exact e
    show cut H' _ a = _
    rw [cut_out]
    · exact ok'.base a o e2
    · intro q
      rcases List.mem_append.mp ((mm a).mp q) with q | q
      · rcases List.mem_append.mp q with q | q
        · exact z (List.mem_append_left _ q)
        · exact nzb q
      · rw [ok'.own a q] at e2; cases e2
  refine ⟨⟨g.trans ok'.base, ok.fF, fun p hp => ?_, ?_, fun p m hp => ?_⟩, s1, s2⟩
  · unfold adr at hp
    rw [List.map_append] at hp
    rcases List.mem_append.mp hp with hp | hp
    · exact g.free (ok'.own p hp)
    · exact ok.own p (by unfold adr; rw [List.map_append]; exact List.mem_append_right _ hp)
  · unfold adr
    rw [List.map_append]
    refine List.nodup_append.mpr ⟨ok'.nd, (List.nodup_append.mp nd).2.1, fun a ha b hb e => ?_⟩
    subst e
    obtain ⟨o, _, q⟩ := zb a hb
    rw [ok'.own a ha] at q; cases q
  · rcases List.mem_append.mp hp with hp | hp
    · obtain ⟨u, a, r⟩ := ok'.sto p m hp
      exact ⟨u, a, r.mono s2⟩
    · obtain ⟨u, a, r⟩ := ok.sto p m (List.mem_append_right _ hp)
      obtain ⟨o, a2, q⟩ := zb p (List.mem_map.mpr ⟨_, hp, rfl⟩)
      rw [a] at a2
      cases a2
      exact ⟨u, ok'.base p u q, r.mono s1⟩
/-- what a caller has to show -/
theorem pr_of {F : List Addr} {G H : Hp} {σ : L2.St} {vs : List V} {Q : VK} {X : XP} (ok : OkS c.K F G H (Za ++ Zb)) (ra : RpAll c.K (im F H (Za ++ Zb)) vs ds) (en : En c.K (im F H (Za ++ Zb)) σ Γ) (th : Thr c F G) (hS : S ds Za P X) (hX : ∀ C fs, X C fs → Za = [] ∧ c.X C fs Γ Zb)
    (k : ∀ d Z' v H', P d Z' → OkS c.K F G H' (Z' ++ Zb) → Same (im F H (Za ++ Zb)) (im F H' (Z' ++ Zb)) → Rp c.K (im F H' (Z' ++ Zb)) v d → Q v H') : Pr c.K S vs H Q (c.E σ) := by
  obtain ⟨o1, s1, g⟩ := split_ok ok
  refine ⟨F ++ adr Zb, ds, Za, P, X, hS, o1, ra.mono s1, fun d Z' v H' p ok' r => ?_, fun C fs dx H' x s xd g => ?_⟩
  · obtain ⟨o2, s2, s3⟩ := join_ok ok ok'
    exact k d Z' v H' p o2 s2 (r.mono s3)
  · obtain ⟨rfl, x⟩ := hX C fs x
    have e : Same H H' := fun a o h => s a o (by rw [cut_out (by intro z; cases z)]; exact h)
    exact th C fs dx H' σ Γ Zb x (ok.keep e) (en.mono (cut_mono e)) xd (ok.base.free (by rw [cut_out (by intro z; cases z)] at g; exact g))
theorem evP_call {X : XP} (ha : EvA c t Γ Z ds Z1) (hp : Z1.Perm (Za ++ Zb)) (hS : S ds Za P X) (hX : ∀ C fs, X C fs → Za = [] ∧ c.X C fs Γ Zb) : EvP c (tCallG (Pr c.K S) c.E t) Γ Z (fun d Z' => ∃ Zc, P d Zc ∧ Z' = Zc ++ Zb) := fun F G σ H Q ok en th k =>
  ha F G σ H _ ok en th fun vs H1 ok1 s1 r1 => by
    obtain ⟨ok2, s2⟩ := ok1.perm hp
    exact pr_of ok2 (r1.mono s2) ((en.mono s1).mono s2) th hS hX fun d Z' v H' p ok' s' r => k d _ v H' ⟨Z', p, rfl⟩ ok' ((s1.trans s2).trans s') r
/-- .. where it is told what comes -/
theorem ev_callD {X : XP} {Zc : Sto} (ha : EvA c t Γ Z ds Z1) (hp : Z1.Perm (Za ++ Zb)) (hS : S ds Za (fun e Z' => e = d ∧ Z' = Zc) X) (hX : ∀ C fs, X C fs → Za = [] ∧ c.X C fs Γ Zb) : Ev c (tCallG (Pr c.K S) c.E t) Γ Z d (Zc ++ Zb) := fun F G σ H Q ok en th k =>
  evP_call ha hp hS hX F G σ H Q ok en th fun d' Z' v H' p ok' s' r => by
    obtain ⟨Z3, ⟨rfl, rfl⟩, rfl⟩ := p
    exact k v H' ok' s' r
/-- a call that takes nothing of the store along and hands back data -/
theorem ev_call0 {X : XP} (ha : EvA c t Γ Z ds Z1) (hS : S ds [] (fun e Z' => e = d ∧ Z' = []) X) (hX : ∀ C fs, X C fs → c.X C fs Γ Z1) : Ev c (tCallG (Pr c.K S) c.E t) Γ Z d Z1 :=
  ev_callD (Zb := Z1) (Za := []) ha (List.Perm.refl _) hS fun C fs x => ⟨rfl, hX C fs x⟩
/-- .. a new thing -/
theorem evN_call0 {X : XP} (ha : EvA c t Γ Z ds Z1) (hS : S ds [] (fun e Z' => ∃ p, e = .ptr p ∧ Z' = [(p, m)]) X) (hX : ∀ C fs, X C fs → c.X C fs Γ Z1) : EvN c (tCallG (Pr c.K S) c.E t) Γ Z m Z1 := fun F G σ H Q ok en th k =>
  evP_call (Zb := Z1) (Za := []) ha (List.Perm.refl _) hS (fun C fs x => ⟨rfl, hX C fs x⟩) F G σ H Q ok en th fun d' Z' v H' p ok' s' r => by
    obtain ⟨Z3, ⟨p, rfl, rfl⟩, rfl⟩ := p
    cases r.v_ptr
    exact k p H' ok' s'
/-- .. whatever comes -/
theorem evP_call0 {X : XP} (ha : EvA c t Γ Z ds Z1) (hS : S ds [] P X) (hX : ∀ C fs, X C fs → c.X C fs Γ Z1) : EvP c (tCallG (Pr c.K S) c.E t) Γ Z (fun d Z' => ∃ Zc, P d Zc ∧ Z' = Zc ++ Z1) :=
  evP_call (Zb := Z1) (Za := []) ha (List.Perm.refl _) hS fun C fs x => ⟨rfl, hX C fs x⟩
theorem ev_callK0 {X : XP} {gV : List V → List V → List V} {es : List D} (ha : EvA c t Γ Z es Z1) (hg : ∀ {B : Hp} {vs : List V}, RpAll c.K B vs es → RpAll c.K B (gV [] vs) ds) (hS : S ds [] (fun e Z' => e = d ∧ Z' = []) X) (hX : ∀ C fs, X C fs → c.X C fs Γ Z1) : Ev c (tCallGK (Pr c.K S) gV c.E t) Γ Z d Z1 := fun F G σ H Q ok en th k =>
  ha F G σ H _ ok en th fun vs H1 ok1 s1 r1 => pr_of (Za := []) (Zb := Z1) (Q := Q) ok1 (hg r1) (en.mono s1) th hS (fun C fs x => ⟨rfl, hX C fs x⟩) fun d' Z' v H' p ok' s' r => by
    obtain ⟨rfl, rfl⟩ := p
    exact k v H' ok' (s1.trans s') r
end
end L3

/-! L3E: operations: repr, == of data, lists, tuples, numbers. -/
namespace L3
open PySem PySem.Spec PyProof.Rows L2

/-! ### data as the library's data -/
mutual
def py : D → PyData
  | .non => .none
  | .bl b => .bool b
  | .int i => .int i
  | .str x => .str x
  | .tup ds => .tuple (pys ds)
  | .lst ds => .list (pys ds)
  | .wt ds => .tuple (pys ds)
  | .wl ds => .list (pys ds)
  | .ty _ => .none
  | .ptr _ => .none
  | .obj _ _ => .none
  | .err _ _ _ => .none
def pys : List D → List PyData
  | [] => []
  | d :: ds => py d :: pys ds
end
mutual
def plain : D → Bool
  | .non => true
  | .bl _ => true
  | .int _ => true
  | .str _ => true
  | .tup ds => plains ds
  | .lst ds => plains ds
  | .wt ds => plains ds
  | .wl ds => plains ds
  | .ty _ => false
  | .ptr _ => false
  | .obj _ _ => false
  | .err _ _ _ => false
def plains : List D → Bool
  | [] => true
  | d :: ds => plain d && plains ds
end
theorem pys_map : ∀ ds : List D, pys ds = ds.map py
  | [] => by simp [pys]
  | d :: ds => by simp [pys, pys_map ds]
theorem plains_all : ∀ ds : List D, plains ds = ds.all plain
  | [] => by simp [plains]
  | d :: ds => by simp [plains, plains_all ds]
section
variable {K : PySem.W.Frag} {B H : Hp}
mutual
theorem Rp.dp (e : Same B H) : ∀ {v : V} {d : D}, Rp K B v d → plain d = true → Dp K H v (py d)
  | _, _, .non, _ => by simp only [py]; exact .non
  | _, _, .bl b, _ => by simp only [py]; exact .bl b
  | _, _, .int i, _ => by simp only [py]; exact .int i
  | _, _, .str x, _ => by simp only [py]; exact .str x
  | _, _, .ty n, h => by simp [plain] at h
  | _, _, .ptr p, h => by simp [plain] at h
  | _, _, .tup h r, p => by
    simp only [py]
    exact .tup (SqT.of (e _ _ h)) (RpAll.dp e r (by simpa [plain] using p))
  | _, _, .lst h r, p => by
    simp only [py]
    exact .lst (SqL.of (e _ _ h)) (RpAll.dp e r (by simpa [plain] using p))
  | _, _, .wt h r, p => by
    simp only [py]
    exact .tup (same_t e h) (RpAll.dp e r (by simpa [plain] using p))
  | _, _, .wl h r, p => by
    simp only [py]
    exact .lst (same_l e h) (RpAll.dp e r (by simpa [plain] using p))
  | _, _, .obj _ _, h => by simp [plain] at h
  | _, _, .err _ _, h => by simp [plain] at h
theorem RpAll.dp (e : Same B H) : ∀ {vs : List V} {ds : List D}, RpAll K B vs ds → plains ds = true → DpAll K H vs (pys ds)
  | _, _, .nil, _ => by simp only [pys]; exact .nil
  | _, _, .cons (d := d) (ds := ds) h r, p => by
    have p' : plain d = true ∧ plains ds = true := by simpa [plains] using p
    simp only [pys]
    exact .cons (Rp.dp e h p'.1) (RpAll.dp e r p'.2)
end
end
/-- d stands for the library's data e; a list of the store stands for its items -/
def PyIs (Z : Sto) (d : D) (e : PyData) : Prop := (plain d = true ∧ e = py d) ∨ ∃ p ds, d = .ptr p ∧ (p, MO.lst ds) ∈ Z ∧ plains ds = true ∧ e = .list (pys ds)
theorem pyIs_of {Z : Sto} {d : D} (h : plain d = true := by rfl) : PyIs Z d (py d) := .inl ⟨h, rfl⟩
theorem pyIs_ptr {Z : Sto} {p : Addr} {ds : List D} (hz : (p, MO.lst ds) ∈ Z) (h : plains ds = true := by rfl) : PyIs Z (.ptr p) (.list (pys ds)) := .inr ⟨p, ds, rfl, hz, h, rfl⟩
theorem PyIs.dp {K : PySem.W.Frag} {F : List Addr} {G H : Hp} {Z : Sto} {d : D} {e : PyData} {v : V} (ok : OkS K F G H Z) (h : PyIs Z d e) (r : Rp K (im F H Z) v d) : Dp K H v e := by
  rcases h with ⟨p, rfl⟩ | ⟨p, ds, rfl, hz, pl, rfl⟩
  · exact r.dp cut_same p
  · cases r.v_ptr
    obtain ⟨vs, a, ra⟩ := ok.lst hz
    exact .lst (SqL.of a) (ra.dp cut_same pl)
/-- laid flat enough -/
def Lay (k : Nat) (d : PyData) : Prop := d.canLay0 = true ∧ d.depth ≤ k
theorem Lay.shaped {d : PyData} {k : Nat} (h : Lay k d) (hk : k ≤ 64 := by decide) : SeqAt.shaped d = true := by
  unfold SeqAt.shaped
  rw [h.1, Bool.true_and]
  exact decide_eq_true (Nat.le_trans h.2 hk)
theorem Lay.mono {d : PyData} {k j : Nat} (h : Lay k d) (hk : k ≤ j) : Lay j d := ⟨h.1, Nat.le_trans h.2 hk⟩
theorem lay_non {k : Nat} : Lay k .none := ⟨rfl, by simp [PyData.depth]⟩
theorem lay_bl {k : Nat} {b : Bool} : Lay k (.bool b) := ⟨rfl, by simp [PyData.depth]⟩
theorem lay_int {k : Nat} {i : Int} : Lay k (.int i) := ⟨rfl, by simp [PyData.depth]⟩
theorem lay_str {k : Nat} {x : Str} (h : PyData.strOk x = true) : Lay k (.str x) := ⟨by simp [PyData.canLay0, h], by simp [PyData.depth]⟩
theorem lay_all {k : Nat} : ∀ {ds : List PyData}, (∀ d ∈ ds, Lay k d) → PyData.canLayAll0 ds = true ∧ PyData.depthAll ds ≤ k
  | [], _ => ⟨rfl, by simp [PyData.depthAll]⟩
  | d :: ds, h => by
    have a := h d List.mem_cons_self
    have b := lay_all (ds := ds) fun e m => h e (List.mem_cons_of_mem _ m)
    refine ⟨by simp [PyData.canLayAll0, a.1, b.1], ?_⟩
    have a2 := a.2
    have b2 := b.2
    simp only [PyData.depthAll]
    omega
theorem lay_tup {k : Nat} {ds : List PyData} (h : ∀ d ∈ ds, Lay k d) : Lay (k + 1) (.tuple ds) := by
  obtain ⟨a, b⟩ := lay_all h
  exact ⟨by simp [PyData.canLay0, a], by simp only [PyData.depth]; omega⟩
theorem lay_lst {k : Nat} {ds : List PyData} (h : ∀ d ∈ ds, Lay k d) : Lay (k + 1) (.list ds) := by
  obtain ⟨a, b⟩ := lay_all h
  exact ⟨by simp [PyData.canLay0, a], by simp only [PyData.depth]; omega⟩
theorem lay_pyTup {k : Nat} {ds : List D} (h : ∀ d ∈ ds, Lay k (py d)) : Lay (k + 1) (py (.tup ds)) := by
  simp only [py, pys_map]
  exact lay_tup fun e m => by
    obtain ⟨d, hd, rfl⟩ := List.mem_map.mp m
    exact h d hd
theorem lay_pyLst {k : Nat} {ds : List D} (h : ∀ d ∈ ds, Lay k (py d)) : Lay (k + 1) (py (.lst ds)) := by
  simp only [py, pys_map]
  exact lay_lst fun e m => by
    obtain ⟨d, hd, rfl⟩ := List.mem_map.mp m
    exact h d hd
theorem eqv_lay {k : Nat} {d : PyData} (h : Lay k d) : PyData.eqv d d = true := SeqAt.eqv_refl d h.1

/-! ### repr -/
/-- what may be shown -/
structure Shows (d : PyData) : Prop where
  sh : d.showable = true
  nd : d.hasDict = false
  dp : d.depth ≤ 64
  sz : d.shown.length ≤ 1000000
def rRepr (K : PySem.W.Frag) : List V → Hp → VK → Prop := fun xs H Q => ∃ x d, xs = [x] ∧ Dp K H x d ∧ Shows d ∧ Q (.str d.shown) H
theorem cr_repr {X : Cx} (hg : X.A.guards = some []) (hu : X.A.units + 100 < cLine) : CallR X (.builtin "repr") (rRepr X.K) := by
  intro pins s σ H xs us Q I r h
  obtain ⟨x, d, rfl, dp, sh, q⟩ := h
  obtain ⟨u, rfl, ru⟩ := Vals.one r
  have sz : d.shown.length ≤ sizeLine := Nat.le_trans sh.sz (by decide)
  cases dp with
  | non =>
    cases ru
    exact PySem.P.repr_of_none ⟨.str _, H, I.tok _, ⟨_, rfl⟩, q⟩
  | bl b =>
    cases ru
    exact PySem.P.repr_of_bool ⟨.str _, H, I.tok _, ⟨_, rfl⟩, q⟩
  | int i =>
    obtain ⟨t, rfl⟩ := ru
    exact PySem.P.repr_of_int (by simpa [PyData.showable] using sh.sh) ⟨.str _, H, I.tok _, ⟨_, rfl⟩, q⟩
  | str z =>
    obtain ⟨t, rfl⟩ := ru
    exact PySem.P.repr_of_str ⟨.str _, H, I.tok _, ⟨_, rfl⟩, q⟩ sz
  | @lst a ys ds hq hall =>
    obtain ⟨as, rd⟩ := Dp.reads I _ _ _ (Dp.lst hq hall) ru
    cases ru
    exact repr_of_reads' rd sh.sh (PyData.noDict_hsm sh.nd) hg (by have := sh.dp; omega) (fun _ _ e => e) (fun h' u tk hk => ⟨.str _, H, I.kept hk, ⟨_, rfl⟩, q⟩) sz
  | @tup a ys ds hq hall =>
    obtain ⟨as, rd⟩ := Dp.reads I _ _ _ (Dp.tup hq hall) ru
    cases ru
    exact repr_of_reads' rd sh.sh (PyData.noDict_hsm sh.nd) hg (by have := sh.dp; omega) (fun _ _ e => e) (fun h' u tk hk => ⟨.str _, H, I.kept hk, ⟨_, rfl⟩, q⟩) sz

section
variable {c : Cn} {Γ : Gam} {Z Z1 Z2 Z3 Z' : Sto} {ta tb te : TE} {d x y : D} {i j : Int} {m : MO} {ds es : List D}
theorem oc_repr {e : PyData} (h : PyIs Z x e) (sh : Shows e) : OpC c (rRepr c.K) [x] Z (.str e.shown) Z := opc_pure fun F G H vs Q ok a k => by
  obtain ⟨v, rfl, q⟩ := a.one
  exact ⟨v, e, rfl, h.dp ok q, sh, k _ (.str _)⟩
theorem op_eqDD {a b : PyData} (ha : PyIs Z x a) (hb : PyIs Z y b) (sa : SeqAt.shaped a = true) (sb : SeqAt.shaped b = true) : Op2 c (rEqD c.K) x y Z (.bl (PyData.eqv a b)) Z := fun F G H v w Q ok p q th k =>
  ⟨a, b, ha.dp ok p, hb.dp ok q, sa, sb, k _ H ok (Same.refl _) (.bl _)⟩
theorem op_neDD {a b : PyData} (ha : PyIs Z x a) (hb : PyIs Z y b) (sa : SeqAt.shaped a = true) (sb : SeqAt.shaped b = true) : Op2 c (rNeD c.K) x y Z (.bl (!PyData.eqv a b)) Z := fun F G H v w Q ok p q th k =>
  ⟨a, b, ha.dp ok p, hb.dp ok q, sa, sb, k _ H ok (Same.refl _) (.bl _)⟩
/-! ### numbers -/
abbrev rAbs : List V → Hp → VK → Prop := fun xs H Q => ∃ i, xs = [.int i] ∧ Q (.int (if i < 0 then -i else i)) H
abbrev rMx2 : List V → Hp → VK → Prop := fun xs H Q => ∃ i j, xs = [.int i, .int j] ∧ Q (.int (if j > i then j else i)) H
abbrev rMn2 : List V → Hp → VK → Prop := fun xs H Q => ∃ i j, xs = [.int i, .int j] ∧ Q (.int (if j < i then j else i)) H
abbrev rInt1 : List V → Hp → VK → Prop := fun xs H Q => (∃ i, xs = [.int i] ∧ Q (.int i) H) ∨ ∃ k, xs = [.bl k] ∧ Q (.int (if k then 1 else 0)) H
theorem oc_abs : OpC c rAbs [.int i] Z (.int (if i < 0 then -i else i)) Z := opc_pure fun F G H vs Q ok a k => by
  obtain ⟨v, rfl, q⟩ := a.one
  cases q.v_int
  exact ⟨i, rfl, k _ (.int _)⟩
theorem oc_max2 : OpC c rMx2 [.int i, .int j] Z (.int (if j > i then j else i)) Z := opc_pure fun F G H vs Q ok a k => by
  obtain ⟨v, w, rfl, q, q2⟩ := a.two
  cases q.v_int; cases q2.v_int
  exact ⟨i, j, rfl, k _ (.int _)⟩
theorem oc_min2 : OpC c rMn2 [.int i, .int j] Z (.int (if j < i then j else i)) Z := opc_pure fun F G H vs Q ok a k => by
  obtain ⟨v, w, rfl, q, q2⟩ := a.two
  cases q.v_int; cases q2.v_int
  exact ⟨i, j, rfl, k _ (.int _)⟩
theorem oc_int1 : OpC c rInt1 [.int i] Z (.int i) Z := opc_pure fun F G H vs Q ok a k => by
  obtain ⟨v, rfl, q⟩ := a.one
  cases q.v_int
  exact .inl ⟨i, rfl, k _ (.int _)⟩
/-! ### lists -/
/-- where a sequence's items stand -/
def SeqIs (Z : Sto) (d : D) (ds : List D) : Prop := d = .lst ds ∨ d = .tup ds ∨ (∃ p, d = .ptr p ∧ (p, MO.lst ds) ∈ Z) ∨ d = .wl ds ∨ d = .wt ds
theorem SeqIs.at {K : PySem.W.Frag} {F : List Addr} {G H : Hp} {v : V} (ok : OkS K F G H Z) (h : SeqIs Z d ds) (r : Rp K (im F H Z) v d) : ∃ p xs, v = .ref p ∧ (SqL K H p xs ∨ SqT K H p xs) ∧ RpAll K (im F H Z) xs ds := by
  rcases h with rfl | rfl | ⟨p, rfl, hz⟩ | rfl | rfl
  · obtain ⟨a, xs, rfl, hx, ra⟩ := r.v_lst
    exact ⟨a, xs, rfl, .inl (SqL.of (cut_some hx).2), ra⟩
  · obtain ⟨a, xs, rfl, hx, ra⟩ := r.v_tup
    exact ⟨a, xs, rfl, .inr (SqT.of (cut_some hx).2), ra⟩
  · cases r.v_ptr
    obtain ⟨xs, hx, ra⟩ := ok.lst hz
    exact ⟨p, xs, rfl, .inl (SqL.of hx), ra⟩
  · obtain ⟨a, xs, rfl, hx, ra⟩ := r.v_wl
    exact ⟨a, xs, rfl, .inl (same_l cut_same hx), ra⟩
  · obtain ⟨a, xs, rfl, hx, ra⟩ := r.v_wt
    exact ⟨a, xs, rfl, .inr (same_t cut_same hx), ra⟩
theorem oc_len (h : SeqIs Z d ds) : OpC c (rLen1 c.K) [d] Z (.int ds.length) Z := opc_pure fun F G H vs Q ok a k => by
  obtain ⟨v, rfl, q⟩ := a.one
  obtain ⟨p, xs, rfl, hx, ra⟩ := h.at ok q
  refine ⟨p, xs, rfl, hx, ?_⟩
  rw [ra.length]
  exact k _ (.int _)
abbrev rListOf (K : PySem.W.Frag) : List V → Hp → VK → Prop := fun xs H Q => ∃ p ys, xs = [.ref p] ∧ (SqL K H p ys ∨ SqT K H p ys) ∧ ∀ l, H l = none → Q (.ref l) (upd H l (.lst ys))
/-- a new list -/
theorem new_lst {F : List Addr} {G H : Hp} {vs : List V} {p : Addr} (ok : OkS c.K F G H Z) (r : RpAll c.K (im F H Z) vs ds) (hp : H p = none) : OkS c.K F G (upd H p (.lst vs)) ((p, .lst ds) :: Z) ∧ Same (im F H Z) (im F (upd H p (.lst vs)) ((p, .lst ds) :: Z)) :=
  ok.add (m := .lst ds) hp (same_new hp) upd_same ⟨vs, rfl, r⟩
/-- a new tuple -/
theorem new_tup {F : List Addr} {G H : Hp} {vs : List V} {p : Addr} (ok : OkS c.K F G H Z) (r : RpAll c.K (im F H Z) vs ds) (hp : H p = none) : OkS c.K F G (upd H p (.tup vs)) Z ∧ Same (im F H Z) (im F (upd H p (.tup vs)) Z) ∧ Rp c.K (im F (upd H p (.tup vs)) Z) (.ref p) (.tup ds) := by
  have e := same_new (o := HO.tup vs) hp
  have s2 : Same (im F H Z) (im F (upd H p (.tup vs)) Z) := cut_mono e
  obtain ⟨f1, f2, _⟩ := ok.fresh hp
  refine ⟨ok.keep e, s2, .tup ?_ (r.mono s2)⟩
  show cut _ _ p = _
  rw [cut_out fun z => (List.mem_append.mp z).elim f1 f2]
  exact upd_same
theorem on_listOf (h : SeqIs Z d ds) : OpCN c (rListOf c.K) [d] Z (.lst ds) Z := fun F G H vs Q ok a th k => by
  obtain ⟨v, rfl, q⟩ := a.one
  obtain ⟨p, xs, rfl, hx, ra⟩ := h.at ok q
  refine ⟨p, xs, rfl, hx, fun l hl => ?_⟩
  obtain ⟨a, b⟩ := new_lst ok ra hl
  exact k l _ a b
abbrev rTupOf (K : PySem.W.Frag) : List V → Hp → VK → Prop := fun xs H Q => ∃ p ys, xs = [.ref p] ∧ ((SqL K H p ys ∧ ∀ l, H l = none → Q (.ref l) (upd H l (.tup ys))) ∨ (SqT K H p ys ∧ Q (.ref p) H))
/-- tuple(x), x a list -/
theorem oc_tupOf (h : d = .lst ds ∨ (∃ p, d = .ptr p ∧ (p, MO.lst ds) ∈ Z)) : OpC c (rTupOf c.K) [d] Z (.tup ds) Z := fun F G H vs Q ok a th k => by
  obtain ⟨v, rfl, q⟩ := a.one
  have hq : ∃ p xs, v = .ref p ∧ SqL c.K H p xs ∧ RpAll c.K (im F H Z) xs ds := by
    rcases h with rfl | ⟨p, rfl, hz⟩
    · obtain ⟨t, xs, rfl, hx, ra⟩ := q.v_lst
      exact ⟨t, xs, rfl, SqL.of (cut_some hx).2, ra⟩
    · cases q.v_ptr
      obtain ⟨xs, hx, ra⟩ := ok.lst hz
      exact ⟨p, xs, rfl, SqL.of hx, ra⟩
  obtain ⟨p, xs, rfl, hx, ra⟩ := hq
  refine ⟨p, xs, rfl, .inl ⟨hx, fun l hl => ?_⟩⟩
  obtain ⟨a, b, e⟩ := new_tup ok ra hl
  exact k _ _ a b e
theorem oc_tupOfT : OpC c (rTupOf c.K) [.tup ds] Z (.tup ds) Z := opc_pure fun F G H vs Q ok a k => by
  obtain ⟨v, rfl, q⟩ := a.one
  obtain ⟨p, xs, rfl, hx, ra⟩ := id q.v_tup
  exact ⟨p, xs, rfl, .inr ⟨SqT.of (cut_some hx).2, k _ q⟩⟩
/-- a tracked list's items -/
def LstIs (Z : Sto) (d : D) (ds : List D) : Prop := d = .lst ds ∨ ∃ p, d = .ptr p ∧ (p, MO.lst ds) ∈ Z
theorem LstIs.at {K : PySem.W.Frag} {F : List Addr} {G H : Hp} {v : V} (ok : OkS K F G H Z) (h : LstIs Z d ds) (r : Rp K (im F H Z) v d) : ∃ p xs, v = .ref p ∧ H p = some (.lst xs) ∧ RpAll K (im F H Z) xs ds := by
  rcases h with rfl | ⟨p, rfl, hz⟩
  · obtain ⟨a, xs, rfl, hx, ra⟩ := r.v_lst
    exact ⟨a, xs, rfl, (cut_some hx).2, ra⟩
  · cases r.v_ptr
    obtain ⟨xs, hx, ra⟩ := ok.lst hz
    exact ⟨p, xs, rfl, hx, ra⟩
theorem lstIs_ptr {p : Addr} (h : (p, MO.lst ds) ∈ Z) : LstIs Z (.ptr p) ds := .inr ⟨p, rfl, h⟩
theorem seqIs_ptr {p : Addr} (h : (p, MO.lst ds) ∈ Z) : SeqIs Z (.ptr p) ds := .inr (.inr (.inl ⟨p, rfl, h⟩))
theorem rp_flat {K : PySem.W.Frag} {B : Hp} {vs : List V} (r : RpAll K B vs ds) : ∀ n : Nat, RpAll K B (List.replicate n vs).flatten (List.replicate n ds).flatten
  | 0 => .nil
  | n + 1 => by
    rw [List.replicate_succ, List.replicate_succ, List.flatten_cons, List.flatten_cons]
    exact r.append (rp_flat r n)
theorem flat_one {α : Type} (x : α) : ∀ n : Nat, (List.replicate n [x]).flatten = List.replicate n x
  | 0 => rfl
  | n + 1 => by rw [List.replicate_succ, List.flatten_cons, flat_one x n, List.replicate_succ]; rfl
/-- [x] * n -/
theorem on_rep1 (h : LstIs Z x [d]) (hk : 0 ≤ i ∧ i ≤ 1000000) : OpN c rRep x (.int i) Z (.lst (List.replicate i.toNat d)) Z := fun F G H v w Q ok a b th k => by
  cases b.v_int
  obtain ⟨p, xs, rfl, hx, ra⟩ := h.at ok a
  refine ⟨p, i, xs, rfl, rfl, hx, by omega, by omega, ?_, fun l hl => ?_⟩
  · rw [ra.length]
    exact Nat.le_trans (show [d].length * i.toNat ≤ 1000000 by simp; omega) (by decide)
  · have r2 := rp_flat ra i.toNat
    rw [flat_one] at r2
    obtain ⟨a, b⟩ := new_lst ok r2 hl
    exact k l _ a b
/-- xs + ys -/
theorem on_cat (hx : LstIs Z x ds) (hy : LstIs Z y es) (hl : ds.length + es.length ≤ 1000000) : OpN c rCat x y Z (.lst (ds ++ es)) Z := fun F G H v w Q ok a b th k => by
  obtain ⟨p, xs, rfl, h1, ra⟩ := hx.at ok a
  obtain ⟨q, ys, rfl, h2, rb⟩ := hy.at ok b
  refine ⟨p, q, xs, ys, rfl, rfl, h1, h2, ?_, fun l hl => ?_⟩
  · rw [ra.length, rb.length]
    exact Nat.le_trans hl (by decide)
  · obtain ⟨a, b⟩ := new_lst ok (ra.append rb) hl
    exact k l _ a b
theorem ty_lst {K : PySem.W.Frag} {H : Hp} {p : Addr} {xs : List V} (h : H p = some (.lst xs)) : tyV K "list" (.ref p) H := .inl ⟨rfl, _, SqL.of h⟩
/-- xs.append(e) -/
theorem ev_app {p : Addr} (ha : Ev c ta Γ Z (.ptr p) Z) (he : Ev c te Γ Z d Z1) (hz : (p, MO.lst ds) ∈ Z) (hz1 : (p, MO.lst es) ∈ Z1) (hl : es.length < 1000000) : Ev c (tBM c.K "list" rAppend ta (tCons te tNil)) Γ Z .non (putZ Z1 p (.lst (es ++ [d]))) := fun F G σ H Q ok en th k =>
  ha F G σ H _ ok en th fun v H1 ok1 s1 r1 => by
    cases r1.v_ptr
    obtain ⟨xs, hx, ra⟩ := ok1.lst hz
    refine ⟨ty_lst hx, he F G σ H1 _ ok1 (en.mono s1) th fun u H2 ok2 s2 r2 => ?_⟩
    obtain ⟨ys, hy, rb⟩ := ok2.lst hz1
    refine ⟨p, ys, u, rfl, rfl, hy, by rw [rb.length]; exact Nat.lt_of_lt_of_le hl (by decide), ?_⟩
    obtain ⟨ok3, e3⟩ := ok2.put (o := .lst (ys ++ [u])) (m := .lst (es ++ [d])) (List.mem_map.mpr ⟨_, hz1, rfl⟩) ⟨_, rfl, rb.append (.cons r2 .nil)⟩
    exact k _ _ ok3 (by rw [e3]; exact s1.trans s2) .non
/-- xs.pop(0) -/
theorem ev_pop0 {p : Addr} (ha : Ev c ta Γ Z (.ptr p) Z) (he : Ev c te Γ Z (.int 0) Z) (hz : (p, MO.lst (d :: ds)) ∈ Z) : Ev c (tBM c.K "list" rPopAt ta (tCons te tNil)) Γ Z d (putZ Z p (.lst ds)) := fun F G σ H Q ok en th k =>
  ha F G σ H _ ok en th fun v H1 ok1 s1 r1 => by
    cases r1.v_ptr
    obtain ⟨xs, hx, ra⟩ := ok1.lst hz
    refine ⟨ty_lst hx, he F G σ H1 _ ok1 (en.mono s1) th fun u H2 ok2 s2 r2 => ?_⟩
    cases r2.v_int
    obtain ⟨ys, hy, rb⟩ := ok2.lst hz
    cases rb with
    | @cons w ws _ _ rw_ rr =>
      have h0 : seqIndex? 0 (w :: ws).length = some 0 := by
        show seqIndex? 0 (ws.length + 1) = some 0
        unfold seqIndex?
        simp
      refine ⟨p, w :: ws, 0, 0, w, rfl, rfl, hy, by decide, by decide, h0, rfl, ?_⟩
      obtain ⟨ok3, e3⟩ := ok2.put (p := p) (o := .lst ws) (m := .lst ds) (List.mem_map.mpr ⟨_, hz, rfl⟩) ⟨_, rfl, rr⟩
      show Q w (upd H2 p (.lst ws))
      exact k w _ ok3 (by rw [e3]; exact s1.trans s2) (by rw [e3]; exact rw_)
/-! slices -/
def EvO (c : Cn) (to : TO) (Γ : Gam) (Z : Sto) (o : Option Int) : Prop := ∀ (F : List Addr) (G : Hp) (σ : L2.St) (H : Hp) (Q : Option Int → Hp → Prop), OkS c.K F G H Z → En c.K (im F H Z) σ Γ → Thr c F G →
  (∀ H', OkS c.K F G H' Z → Same (im F H Z) (im F H' Z) → Q o H') → to σ H Q
theorem eo_none : EvO c tNoPart Γ Z none := fun F G σ H Q ok en th k => k H ok (Same.refl _)
theorem eo_some (h : Ev c te Γ Z (.int i) Z) : EvO c (tPart te) Γ Z (some i) := fun F G σ H Q ok en th k => h F G σ H _ ok en th fun v H1 ok1 s1 r1 => by
  cases r1.v_int
  exact ⟨i, rfl, k H1 ok1 s1⟩
def cutD {α : Type} (xs : List α) (lo hi : Option Int) : List α := (xs.drop (HT.sIx xs.length 0 lo)).take (HT.sIx xs.length xs.length hi - HT.sIx xs.length 0 lo)
theorem rp_cut {K : PySem.W.Frag} {B : Hp} {vs : List V} (r : RpAll K B vs ds) (lo hi : Option Int) : RpAll K B (cutV vs lo hi) (cutD ds lo hi) := by
  unfold cutV cutD
  rw [r.length]
  exact (r.drop _).take _
/-- xs[lo:hi] of a list -/
theorem evN_slice {tl th : TO} {lo hi : Option Int} (ha : Ev c ta Γ Z x Z) (hx : x = .lst ds ∨ (∃ p, x = .ptr p ∧ (p, MO.lst ds) ∈ Z) ∨ x = .wl ds) (hl : EvO c tl Γ Z lo) (hh : EvO c th Γ Z hi) : EvN c (tSl (rSlL c.K) ta tl th) Γ Z (.lst (cutD ds lo hi)) Z := fun F G σ H Q ok en th k =>
  ha F G σ H _ ok en th fun v H1 ok1 s1 r1 => hl F G σ H1 _ ok1 (en.mono s1) th fun H2 ok2 s2 => hh F G σ H2 _ ok2 (en.mono (s1.trans s2)) th fun H3 ok3 s3 => by
    have r3 := (r1.mono s2).mono s3
    have hq : ∃ p xs, v = .ref p ∧ SqL c.K H3 p xs ∧ RpAll c.K (im F H3 Z) xs ds := by
      rcases hx with rfl | ⟨p, rfl, hz⟩ | rfl
      · obtain ⟨a, xs, rfl, hx, ra⟩ := r3.v_lst
        exact ⟨a, xs, rfl, SqL.of (cut_some hx).2, ra⟩
      · cases r3.v_ptr
        obtain ⟨xs, hx, ra⟩ := ok3.lst hz
        exact ⟨p, xs, rfl, SqL.of hx, ra⟩
      · obtain ⟨a, xs, rfl, hx, ra⟩ := r3.v_wl
        exact ⟨a, xs, rfl, same_l cut_same hx, ra⟩
    obtain ⟨p, xs, rfl, hs, ra⟩ := hq
    refine ⟨p, xs, rfl, hs, fun l hl => ?_⟩
    obtain ⟨a, b⟩ := new_lst ok3 (rp_cut ra lo hi) hl
    exact k l _ a (((s1.trans s2).trans s3).trans b)
/-! in a list of texts -/
theorem op_notInStr {z : Str} {zs : List Str} (h : SeqIs Z y (zs.map D.str)) : Op2 c (rIn c.K true) (.str z) y Z (.bl (!decide (z ∈ zs))) Z := fun F G H v w Q ok a b th k => by
  cases a.v_str
  obtain ⟨p, xs, rfl, hx, ra⟩ := h.at ok b
  cases ra.strs
  have e1 : (zs.map V.str).all flatV = true := by
    rw [List.all_eq_true]
    intro v hv
    obtain ⟨_, _, rfl⟩ := List.mem_map.mp hv
    rfl
  have e2 : inV (.str z) (zs.map V.str) = decide (z ∈ zs) := by
    unfold inV
    rw [List.any_map]
    by_cases m : z ∈ zs
    · rw [decide_eq_true m, List.any_eq_true]
      exact ⟨z, m, by show (z == z) = true; exact beq_self_eq_true z⟩
    · rw [decide_eq_false m, List.any_eq_false]
      intro y hy e
      have e' : (y == z) = true := e
      exact m ((beq_iff_eq.mp e') ▸ hy)
  refine ⟨p, _, rfl, hx, rfl, e1, ?_⟩
  show Q (.bl (!inV (.str z) (zs.map V.str))) H
  rw [e2]
  exact k _ H ok (Same.refl _) (.bl _)
end
end L3

/-! L3S: rules that serve lists and tuples alike; enumerate of a tuple; t * 1; sorted of a dict whose keys are tuples of ints. -/
namespace PySem
open Sem (wp)
/-- enumerate(t), t whatever begins -/
theorem enum_one {v : Value} {o : Obj} {P : Heap → Prop} (B : Begins v o P) : Meets (Builtin.«enumerate.__new__» ⟨[.type "enumerate", v], []⟩) (fun _ R s => P s.heap ∧
      R (.ok (.ret (.ref (s.heap.push o).objs.size))) { s with heap := (s.heap.push o).push { cls := .type "enumerate", data := .fields #[.none, .bool false, .ref s.heap.objs.size, rawInt 0, .none, .none] } }) :=
  .of_wp fun prog w A R s h => by
    obtain ⟨hp, g, d, tk, os⟩ := s
    obtain ⟨hP, h⟩ := h
    have sub := sub_enumerate
    have q1 : ∀ {A' : Around} {E : Value → Shared → Prop} {Q : Value → Shared → Prop}, Q (.ref hp.objs.size) ⟨hp.push o, g, d, tk, os⟩ → wpAny (model prog w) A' (pyIter v) Q E ⟨hp, g, d, tk, os⟩ := fun q => B.iter prog w _ _ ⟨hp, g, d, tk, os⟩ _ hP q
    wp_walk using q1
    refine wpAny_stack_any fun st => wpAny_pure ?_
    split
    · rename_i c _ _ _ _ _
      cases (c == Value.type "enumerate") <;> (wp_walk using q1; exact ⟨_, rfl, h⟩)
    · wp_walk using q1
      exact ⟨_, rfl, h⟩
section
variable {prog : Program} {w : World} {A : Around} {E : Value → Shared → Prop} {s : Shared}
theorem enum_one_begins {v : Value} {o : Obj} {P : Heap → Prop} {Q : Value → Shared → Prop} (B : Begins v o P) (hP : P s.heap)
    (h : ∀ h', IsEnum h' (s.heap.objs.size + 1) s.heap.objs.size 0 .none → h'.get? s.heap.objs.size = some o → (∀ b o, s.heap.get? b = some o → h'.get? b = some o) → Q (.ref (s.heap.objs.size + 1)) { s with heap := h' }) :
    wpAny (model prog w) A (call (.type "enumerate") [v]) Q E s := by
  refine callType_new F.called_enumerate (by decide) (F.typeCall_enumerate_1 _) (F.newCall_enumerate_1 _) (fun obj => F.args_object_init_2 obj _) F.entry_enumerate_new (enum_one B) ⟨hP, ?_⟩
  have sz : (s.heap.push o).objs.size = s.heap.objs.size + 1 := Heap.size_push ..
  show _ ∧ _
  rw [sz]
  have ie : IsEnum ((s.heap.push o).push { cls := .type "enumerate", data := .fields #[.none, .bool false, .ref s.heap.objs.size, rawInt 0, .none, .none] }) (s.heap.objs.size + 1) s.heap.objs.size 0 .none := by
    have z := Heap.get?_push_size (s.heap.push o) (o := { cls := .type "enumerate", data := .fields #[.none, .bool false, .ref s.heap.objs.size, rawInt 0, .none, .none] }) rfl
    rwa [sz] at z
  exact ⟨⟨_, ie, rfl⟩, h _ ie (Heap.get?_push_of_some _ (Heap.get?_push_size _ B.free)) fun b u e => Heap.get?_push_of_some _ (Heap.get?_push_of_some _ e)⟩
end
end PySem
namespace L3
open PySem PySem.Spec PyProof.Rows L2
/-- enumerate of a tuple -/
def IteT (K : PySem.W.Frag) (a : Addr) : It :=
  ⟨fun i H => ∃ (xs : List V) (x : V), SqT K H a xs ∧ xs[i]? = some x, fun i H v H' => ∃ T x, v = .ref T ∧ H T = none ∧ H' = upd H T (.tup [.int (i : Nat), x]) ∧ ∀ xs, SqT K H a xs → xs[i]? = some x, fun i H => ∃ xs : List V, SqT K H a xs ∧ xs.length = i⟩
theorem turn_enumT {P : Program} {w : World} {K : PySem.W.Frag} {elts : List Expr} {kk : Nat} {tpos : Pos} (a e it : Addr) :
    Turn P w K (.Tuple elts kk tpos) (IteT K a) [e, it] e (fun i h => (∃ old, IsEnum h e it ((i : Nat) : Int) old) ∧ h.IsTupleIter it a i ∧ e ≠ it ∧ e ≠ a ∧ it ≠ a) where
  mem := List.mem_cons_self
  obj := fun i h ⟨⟨old, he⟩, ⟨o, ho, hc, hd⟩, _⟩ b hb => by
    rcases List.mem_cons.mp hb with rfl | hb
    · exact ⟨_, he, fun v q => nomatch q⟩
    · rw [List.mem_singleton.mp hb]
      exact ⟨o, ho, fun v q => by rw [hd] at q; cases q⟩
  keep := fun i h h' ⟨⟨old, he⟩, hi, ne⟩ k => ⟨⟨old, k e List.mem_cons_self _ he⟩, hi.at fun o q => k it (List.mem_cons_of_mem _ List.mem_cons_self) o q, ne⟩
  item := fun X hP hw hK hc i pins s σ H E I hf ⟨⟨old, he⟩, hit, ne, nea, nia⟩ ⟨xs, x, hq, hx⟩ => by
    subst hP hw hK
    obtain ⟨its, rv, tp, hz⟩ := I.tuple hq
    obtain ⟨u, hu, ru⟩ := rv.get hx
    have lti : i < its.toArray.size := by rw [List.size_toArray]; exact (List.getElem?_eq_some_iff.mp hu).1
    refine wpAny_pyNext_enum_itemC (Draws.tuple (A := X.A.in1) (I.ok.hd hc) it a (Ne.symm nia) its.toArray) he ⟨hit, tp⟩ lti ne (fun z => by
      rcases List.mem_cons.mp z with z | z
      · exact ne z
      · exact nea (List.mem_singleton.mp z)) fun x' h' tk px ho hst hT hsz hk => ?_
    have ex : x' = u := by
      have px' : its.toArray[i]? = some x' := px
      rw [List.getElem?_toArray, hu] at px'
      exact (Option.some.inj px').symm
    subst ex
    have hel : e < s.heap.objs.size := Heap.lt_size he
    have hil : it < s.heap.objs.size := by obtain ⟨_, q, _⟩ := hit; exact Heap.lt_size q
    refine ⟨_, rfl, wpAny_letOwnedTupleGo_enum (s := { s with heap := h', toks := tk + 1 }) ho fun h2 he2 sb => ?_⟩
    have hT2 := (sb.2 _ (Nat.ne_of_gt hel)).trans hT
    have new : ObjOk X.prog X.w (upd H s.heap.objs.size (.tup [.int (i : Nat), x])) h2 s.heap.objs.size (.tup [.int (i : Nat), x]) := ⟨by show 2 ≤ sizeLine; decide, [.int i tk, x'], .cons ⟨_, rfl⟩ (.cons ru .nil), ⟨_, hT2, rfl, _, rfl⟩⟩
    refine ⟨.ref s.heap.objs.size, _, I.turnedNew (t' := tk + 1) (ch := [e, it]) (fun b ob hb q => (sb.2 b fun z => hb (by rw [z]; exact List.mem_cons_self)).trans (hk b ob (fun z => hb (by rw [z]; exact List.mem_cons_self)) (fun z => hb (by rw [z]; exact List.mem_cons_of_mem _ List.mem_cons_self)) q)) hf (Nat.le_refl _) new, rfl,
      ⟨_, x, rfl, I.hok.fresh (Nat.le_refl _), rfl, fun ys hy => by rw [I.tuple_inj hy hq]; exact hx⟩, ⟨⟨x', ?_⟩, hst.1.at fun o q => (sb.2 it (Ne.symm ne)).trans q, ne, nea, nia⟩, fun b hb => ?_⟩
    · have e1 : ((i + 1 : Nat) : Int) = (i : Int) + 1 := by omega
      rw [e1]
      exact he2
    · have lt : b < s.heap.objs.size := by
        rcases List.mem_cons.mp hb with rfl | hb
        · exact hel
        · rw [List.mem_singleton.mp hb]; exact hil
      rw [upd_ne (Nat.ne_of_lt lt)]
      exact (hf b hb).1
  done := fun X hP hw hK hc i pins s σ H E I hf ⟨⟨old, he⟩, hit, ne, nea, nia⟩ ⟨xs, hq, hx⟩ => by
    subst hP hw hK
    obtain ⟨its, rv, tp, hz⟩ := I.tuple hq
    obtain ⟨f0, f1, f2, f3, f4, f5⟩ := hf it (List.mem_cons_of_mem _ List.mem_cons_self)
    have en : i = its.toArray.size := by rw [List.size_toArray, ← rv.length, hx]
    subst en
    exact wpAny_pyNext_enum_endD (Draws.tuple (A := X.A.in1) (I.ok.hd hc) it a (Ne.symm nia) its.toArray) he ⟨hit, tp⟩ fun h' eb => ⟨rfl, I.turned (t' := s.toks) (fun b o hb q => eb b o hb q) f0 f1 f3 f4 f5⟩
  self := fun A i s Q E ⟨⟨_, he⟩, _⟩ h => wpAny_pyIter_enum he h
theorem walk_enumT {K : PySem.W.Frag} {a : Addr} {xs : List V} : Walk (IteT K a) xs.length (fun H => SqT K H a xs) (YPair (fun i => some (.int (i : Nat))) (fun i => xs[i]?)) :=
  ⟨fun i _ hi q => ⟨xs, xs[i], q, List.getElem?_eq_getElem hi⟩, fun _ q => ⟨xs, q, rfl⟩, fun i H v H' _ q ⟨T, x, h1, h2, h3, h4⟩ => ⟨T, .int (i : Nat), x, h1, h2, h3, rfl, h4 xs q⟩⟩
/-- enumerate of a list or a tuple -/
def iEnumS (K : PySem.W.Frag) (ta : TA) : TI := fun σ H R => ta σ H fun vs H1 => ∃ a xs, vs = [.ref a] ∧ ((SqL K H1 a xs ∧ R (Ite K a) H1) ∨ (SqT K H1 a xs ∧ R (IteT K a) H1))
theorem pi_enumS {X : Cx} {e : Expr} {ta : TA} {p pos tpos : Pos} {elts : List Expr} {kk : Nat} (hg : Gl X "enumerate") (hm : X.mg "enumerate" = none) (ha : PA X [e] ta) (hs : starEach [e] X.env = [(false, eval e X.env)] := by rfl) :
    PI X (.Tuple elts kk tpos) (.Call (.Name "enumerate" p) [e] [] pos) (iEnumS X.K ta) := ⟨fun pins s σ H R I h => by
  refine Call_ (ld_blt I hg hm boot_enumerate (PyProof.Rows.callWith_type1 (thn (ha.run pos pins s σ H _ I h) fun us s1 ⟨vs, H1, I1, r1, a, xs, ex, q⟩ => ?_) hs rfl))
  subst ex
  obtain ⟨u, rfl, ru⟩ := Vals.one r1
  cases ru
  have fps : ∀ {h' : Heap} {b : Addr}, Inv X pins σ H1 { s1 with heap := h' } → b ∈ [s1.heap.objs.size + 1, s1.heap.objs.size] → FpOk X pins H1 b := fun {h' b} I2 hb => by
    have hle : s1.heap.objs.size ≤ b := by
      rcases List.mem_cons.mp hb with e | e
      · rw [e]; exact Nat.le_succ _
      · rw [List.mem_singleton.mp e]; exact Nat.le_refl _
    exact I1.fpOk hle (I1.hok.fresh hle)
  rcases q with ⟨hq, q⟩ | ⟨hq, q⟩
  · obtain ⟨its, rv, pl, hz⟩ := I1.list hq
    refine call_enumerate_list pl.isList fun h' he hit hsz hk => wpAny_pyIter_enum he ?_
    have I2 : Inv X pins σ H1 { s1 with heap := h' } := I1.kept (t' := s1.toks) hk
    exact ⟨s1.heap.objs.size + 1, [s1.heap.objs.size + 1, s1.heap.objs.size], _, _, H1, rfl, I2, turn_enum a _ _, ⟨⟨.none, he⟩, hit, Nat.succ_ne_self _⟩, fun b hb => fps I2 hb, q⟩
  · obtain ⟨its, rv, tp, hz⟩ := I1.tuple hq
    have la : a < s1.heap.objs.size := tp.lt
    refine enum_one_begins (begins_tuple a its.toArray) tp fun h' he hit hk => wpAny_pyIter_enum he ?_
    have I2 : Inv X pins σ H1 { s1 with heap := h' } := I1.kept (t' := s1.toks) hk
    exact ⟨s1.heap.objs.size + 1, [s1.heap.objs.size + 1, s1.heap.objs.size], _, _, H1, rfl, I2, turn_enumT a _ _, ⟨⟨.none, he⟩, ⟨_, hit, rfl, rfl⟩, Nat.succ_ne_self _, Nat.ne_of_gt (Nat.lt_succ_of_lt la), Nat.ne_of_gt la⟩, fun b hb => fps I2 hb, q⟩⟩
/-- a list or a tuple that is walked -/
def iSeq (K : PySem.W.Frag) (tl : TE) : TI := fun σ H R => iList K tl σ H R ∨ iTup K tl σ H R
theorem pi_seq {X : Cx} {tg l : Expr} {tl : TE} (hl : PE X l tl) : PI X tg l (iSeq X.K tl) := ⟨fun pins s σ H R I h => h.elim ((pi_list hl).run pins s σ H R I) ((pi_tup hl).run pins s σ H R I)⟩
section
variable {X : Cx}
/-- an item of a list or a tuple -/
def rIxQ (K : PySem.W.Frag) : R2 := fun x y H Q => rIxL K x y H Q ∨ rIxT K x y H Q
theorem ix_q : IxR X (rIxQ X.K) := ix_list.or ix_tup
/-- + of ints, lists, tuples, texts -/
abbrev rCatS : R2 := fun x y H Q => ∃ i j, x = .str i ∧ y = .str j ∧ i.length + j.length ≤ sizeLine ∧ Q (.str (i ++ j)) H
def rAddA (K : PySem.W.Frag) : R2 := fun x y H Q => rI0 (fun i j => .int (i + j)) x y H Q ∨ rCat x y H Q ∨ rCatT K x y H Q ∨ rCatS x y H Q
theorem op_addA : OpR X (binaryOp .Add) (rAddA X.K) := op_add.or (op_cat.or (op_catT.or op_add_str))
def rEqA (K : PySem.W.Frag) : R2 := fun x y H Q => rEq x y H Q ∨ rEqD K x y H Q
theorem op_eqA (hu : X.A.units + 64 < cLine) : OpR X (compareOp .Eq) (rEqA X.K) := op_eq.or (op_eqD hu)
def rNeA (K : PySem.W.Frag) : R2 := fun x y H Q => rNe x y H Q ∨ rNeD K x y H Q
theorem op_neA (hu : X.A.units + 64 < cLine) : OpR X (compareOp .NotEq) (rNeA X.K) := op_ne.or (op_neD hu)
/-- sorted of a list of tuples of ints -/
def rSortX (K : PySem.W.Frag) : List V → Hp → VK → Prop := fun vs H Q => ∃ (d : Nat) (B : Int), 1 ≤ d ∧ rSortU K d B vs H Q
theorem cr_sortX : CallR X (.builtin "sorted") (rSortX X.K) := fun pins s σ H vs us Q I r ⟨d, B, hd, h⟩ => cr_sortT hd pins s σ H vs us Q I r h
end
end L3

/-! L3U: sorted of a dict whose keys are tuples of ints; t * 1. -/
namespace L3
open PySem PySem.Spec PyProof.Rows L2
section
variable {X : Cx}
/-- sorted(d), d's keys tuples of as many ints in [0, B): a new list of the key tuples, ascending by their codes -/
def rSortK (K : PySem.W.Frag) : List V → Hp → VK → Prop := fun vs H Q => ∃ (a : Addr) (kvs : List (List Key × V)) (d : Nat) (B : Int), vs = [.ref a] ∧ Rd H a (.dT kvs) ∧ kvs.length < 64 ∧ 1 ≤ d ∧
  (∀ kv ∈ kvs, ∃ ns : List Int, kv.1 = ns.map Sum.inl ∧ ns.length = d ∧ TS.Bd B ns) ∧
  ∀ (bs : List Addr) (ys : List V) (p : Addr), IsKeys H kvs bs → ys.Perm (bs.map V.ref) → ys.Pairwise (fun x y => ∀ n m, TupI K H x n → TupI K H y m → TS.code B n ≤ TS.code B m) → H p = none → Q (.ref p) (upd H p (.lst ys))
theorem keyV (ns : List Int) : ((ns.map Sum.inl : List Key)).map kV = ns.map V.int := by
  rw [List.map_map]
  rfl
theorem isKeys_at {H : Hp} : ∀ {kvs : List (List Key × V)} {bs : List Addr} {b : Addr}, IsKeys H kvs bs → b ∈ bs → ∃ kv ∈ kvs, H b = some (.tup (kv.1.map kV))
  | _, _, _, .nil, hb => nomatch hb
  | _, _, b, .cons (a := kv) h t, hb => by
    rcases List.mem_cons.mp hb with rfl | hb
    · exact ⟨kv, List.mem_cons_self, h⟩
    · obtain ⟨k2, m, e⟩ := isKeys_at t hb
      exact ⟨k2, List.mem_cons_of_mem _ m, e⟩
theorem cr_sortK (hc : X.calm = true) : CallR X (.builtin "sorted") (rSortK X.K) := by
  intro pins s σ H vs us Q I r h
  obtain ⟨a, kvs, d, B, rfl, hd, h64, h1, hk, q⟩ := h
  obtain ⟨u, rfl, rx⟩ := Vals.one r
  cases rx
  obtain ⟨z, low, ks, pr, o, es, ep, ho, hx, hdt, he, hn⟩ := (show ObjOk X.prog X.w H s.heap a (.dT kvs) from hd.ok I.hok)
  have l1 : es.size = ks.length := size_of_entries he
  have l2 : kvs.length = ks.length := Paired.length pr
  refine Calls.call_function_entry PyProof.Rows.kind_sorted PyProof.Rows.plain_sorted PyProof.Rows.entry_sorted (PyProof.Rows.args_sorted1 _) ?_
  unfold Builtin.«sorted»
  refine wpAny_bind (m := checkCount "sorted" 1 1 _) (wpAny_pure ?_)
  refine wpAny_bind (PySem.W.kdu_collect (A := X.A.in1) (kdl_raw low hx hdt) (I.ok.hd hc) ho (Nat.le_trans (show es.size ≤ 64 by omega) (by decide)) fun h' tk acc kept it => ?_)
  have ea : acc.toList = (ks.map fun x => x.2.1).map Value.ref := by
    have hl : acc.toList.length = ks.length := by rw [Array.length_toList, it.1]; exact l1
    refine List.ext_getElem? fun j => ?_
    rw [List.getElem?_map, List.getElem?_map]
    cases hj : acc.toList[j]? with
    | none =>
      have := List.getElem?_eq_none_iff.mp hj
      rw [List.getElem?_eq_none (by omega)]
      rfl
    | some v =>
      obtain ⟨en, hen, hv⟩ := it.2 j v (by rw [← Array.getElem?_toList]; exact hj)
      have qe := entry_at he j
      rw [hen] at qe
      cases hb : ks[j]? with
      | none =>
        rw [hb] at qe
        exact nomatch (show some en = none from qe)
      | some b =>
        rw [hb] at qe
        have e2 : en = entryOfKey (tupleKind (mixKind X.prog X.w)) b := Option.some.inj qe
        rw [hv, e2]
        rfl
  have I1 : Inv X pins σ H { s with heap := h', toks := tk } := I.kept kept
  have isk : IsKeys H kvs (ks.map fun x => x.2.1) := isKeys_of pr
  have la : acc.toList.length < 64 := by rw [ea, List.length_map, List.length_map]; omega
  have tup : ∀ b ∈ ks.map (fun x => x.2.1), ∃ ns : List Int, SqT X.K H b (ns.map V.int) ∧ ns.length = d ∧ TS.Bd B ns := fun b hb => by
    obtain ⟨kv, m, e⟩ := isKeys_at isk hb
    obtain ⟨ns, e2, e3, e4⟩ := hk kv m
    rw [e2, keyV] at e
    exact ⟨ns, SqT.of e, e3, e4⟩
  refine wpAny_bind (wpAny_newList ?_ (Nat.le_trans (Nat.le_of_lt la) (by decide)))
  have hoL : (h'.push (seqObj "list" acc.toList.toArray 0)).get? h'.objs.size = some (seqObj "list" acc.toList.toArray 0) := Heap.get?_push_size _ rfl
  have up : ∀ b u, h'.get? b = some u → (h'.push (seqObj "list" acc.toList.toArray 0)).get? b = some u := fun b u e => Heap.get?_push_of_some _ e
  have I2 : Inv X pins σ H { s with heap := h'.push (seqObj "list" acc.toList.toArray 0), toks := tk } := I1.kept up
  have tok : TS.TupsOk (h'.push (seqObj "list" acc.toList.toArray 0)) d B acc.toList := fun v hv => by
    rw [ea] at hv
    obtain ⟨b, hb, rfl⟩ := List.mem_map.mp hv
    obtain ⟨ns, e1, e2, e3⟩ := tup b hb
    exact ⟨ns, tupI_raw I2 e1, e2, e3⟩
  show wpAny _ _ _ _ _ { s with heap := h'.push (seqObj "list" acc.toList.toArray 0), toks := tk }
  refine wpAny_bind (wpAny_holding (wpAny_call_entry PyProof.Rows.slot_list_sort ⟨_, hoL, rfl⟩ PyProof.Rows.entry_list_sort
    (TS.sort_tups (s := { s with heap := h'.push (seqObj "list" acc.toList.toArray 0), toks := tk }) hoL la h1 tok (fun v => TS.code B (TS.intsOf (h'.push (seqObj "list" acc.toList.toArray 0)) v)) (fun v hv ns t => by
      show TS.code B (TS.intsOf _ v) = TS.code B ns
      rw [t.ints]) fun out g1 g2 => ⟨_, rfl, ?_⟩) (PyProof.Rows.args_list_sort _)))
  obtain ⟨e', he'⟩ := PyProof.Rows.sortedHeap_at (vs := acc.toList) (out := out) hoL
  have gr : ∀ v ∈ out.toList, ∃ b, v = Value.ref b := fun v hv => by
    have := g1.mem_iff.mp hv
    rw [ea] at this
    obtain ⟨b, _, e⟩ := List.mem_map.mp this
    exact ⟨b, e.symm⟩
  have pm : (out.toList.map bkV).Perm ((ks.map fun x => x.2.1).map V.ref) := by
    have p0 := g1.map bkV
    rw [ea, List.map_map] at p0
    exact p0
  have hlen : (out.toList.map bkV).length ≤ sizeLine := by
    rw [pm.length_eq, List.length_map, List.length_map]
    exact Nat.le_trans (show ks.length ≤ 64 by omega) (by decide)
  refine wpAny_pure ⟨_, rfl, .ref h'.objs.size, upd H h'.objs.size (.lst (out.toList.map bkV)), I1.laid (t' := tk) (fun b u e => ?_) (Nat.le_refl _)
    (show ObjOk X.prog X.w _ _ _ (.lst (out.toList.map bkV)) from ⟨hlen, out.toList, e', bkV_vals gr, by rw [Array.toArray_toList]; exact he'⟩), rfl, q _ _ _ isk pm ?_ (I1.hok.fresh (Nat.le_refl _))⟩
  · have hb : b < h'.objs.size := Heap.lt_size e
    rw [PyProof.Rows.sortedHeap_old (Nat.ne_of_lt hb) (by rw [size_push']; exact Nat.lt_succ_of_lt hb)]
    exact Heap.get?_push_of_some _ e
  · rw [List.pairwise_map]
    refine List.Pairwise.imp (fun {u v} huv n m hn hm => ?_) g2
    obtain ⟨t, et, ht⟩ := hn
    obtain ⟨t2, et2, ht2⟩ := hm
    have eu := bkV_ref et
    have ev := bkV_ref et2
    subst eu ev
    have i1 := (tupI_raw I2 ht).ints
    have i2 := (tupI_raw I2 ht2).ints
    rw [i1, i2] at huv
    exact huv
end
end L3

/-! L3V: t * 1 of a tuple. -/
namespace L3
open PySem PySem.Spec PyProof.Rows L2
open PySem.AutoSeq1 (wpAny_loadPart')
theorem tuple_once (l : Addr) (items : Array Value) (n : Nat) (dd : Option Addr) (sl : Array (Option Value)) (u : Tok) :
    Meets (Builtin.«tuple.__mul__» ⟨[.ref l, .int 1 u], []⟩) (fun _ R s => s.heap.get? l = some { cls := .type "tuple", dict := dd, data := .seq items n, slots := sl } ∧ R (.ok (.ret (Value.ref l))) s) :=
  .of_wp fun prog w A R s h => by
    obtain ⟨hp, g, d, tk, os⟩ := s
    obtain ⟨hl, h⟩ := h
    have f1 := AutoSeq1.idx_int
    wp_walk using wpAny_loadPart' hl
    exact ⟨_, rfl, h⟩
section
variable {X : Cx}
def rOnce (K : PySem.W.Frag) : R2 := fun x y H Q => ∃ l xs, x = .ref l ∧ y = .int 1 ∧ SqT K H l xs ∧ Q (.ref l) H
theorem op_once : OpR X (binaryOp .Mult) (rOnce X.K) := fun pins s σ H x y v u Q I rx ry h => by
  obtain ⟨l, xs, rfl, rfl, hT, q⟩ := h
  cases rx
  obtain ⟨t, rfl⟩ := ry
  obtain ⟨its, r, ⟨⟨cls, dd, data, sl⟩, ho, hc, n, hd⟩, hs⟩ := I.tuple hT
  simp only at hc hd
  subst hc hd
  exact wpAny_binaryOp_repeat_ref (T := "tuple") (U := "int") (by decide) ⟨_, ho, rfl⟩ (fun s' => typeIs_int s' 1 t) noFill_tuple_mul F.fills_int_mul F.slot_int_rmul repeat_tuple F.slot_int_index.lookup
    (call_meets F.slot_int_rmul (typeIs_int s 1 t) F.entry_int_rmul (F.args_int_rmul_2 _ _) (int_rmul_tuple 1 t l its.toArray n dd sl)
      ⟨ho, rfl, ⟨_, ho, rfl⟩, call_meets F.slot_tuple_mul ⟨_, ho, rfl⟩ F.entry_tuple_mul (F.args_tuple_mul_2 _ _) (tuple_once l its.toArray n dd sl t) ⟨ho, .ref l, H, I, rfl, q⟩⟩)
/-- * of ints, lists, tuples -/
def rMulA (K : PySem.W.Frag) : R2 := fun x y H Q => rI CMul (fun i j => .int (i * j)) x y H Q ∨ rRep x y H Q ∨ rRepT K x y H Q ∨ rOnce K x y H Q
theorem op_mulA : OpR X (binaryOp .Mult) (rMulA X.K) := op_mul.or (op_rep.or (op_repT.or op_once))
end
end L3

/-! L3T: try with several clauses, each with a name. -/
namespace L3
open PySem PySem.Spec PyProof.Rows L2
abbrev Clause := Value × Nat × (Addr → Value → Option Addr → TS)
/-- behind a suite its name is gone -/
abbrev gone (i : Nat) (e : Ends) : Ends := { nx := fun σ H => e.nx (σ.set i none) H, rt := e.rt, bk := fun σ H => e.bk (σ.set i none) H, ct := fun σ H => e.ct (σ.set i none) H }
/-- what the clauses wish, from the first on -/
def wCl (K : PySem.W.Frag) (W : WX) (e : Ends) : List Clause → WX
  | [] => W
  | (c, i, ts) :: r => fun cls d σ H => ∃ b, PySem.W.exmOne K cls c = some b ∧ (b = true → ∀ a, H a = none → ts a cls d (gone i e) (σ.set i (some (.ref a))) H) ∧ (b = false → wCl K W e r cls d σ H)
inductive Cls2 (X : Cx) : List ExceptHandler → List Clause → Prop
  | nil : Cls2 X [] []
  | cons {x n : Str} {c : Value} {i : Nat} {ts : Addr → Value → Option Addr → TS} {b₀ : Stmt} {suite : List Stmt} {np p2 : Pos} {hds : List ExceptHandler} {l : List Clause} (names : Names X x c) (hi : X.N[i]? = some n) (hl : X.env.kindOf n = some .local)
      (run : ∀ (a : Addr) (oe : Obj) (cls : Value) (d : Option Addr) (pn : List (Addr × Obj)), Zc cls d oe → (∃ vs, oe.data = .fields vs) → PSs (X.suite a ((a, oe) :: pn)) (b₀ :: suite) (ts a cls d)) (rest : Cls2 X hds l) :
      Cls2 X (.ExceptHandler (some (.Name x np)) (some n) (b₀ :: suite) p2 :: hds) ((c, i, ts) :: l)
section
variable {X : Cx} {body : List Stmt} {h₀ : ExceptHandler} {hds : List ExceptHandler} {l : List Clause} {pos : Pos} {tb : WX → TS} {W : WX}
theorem ps_tryC (sk : X.stack = X.env :: X.outer) (fr : X.env.frame = some X.env.locals) (nd : X.N.Nodup) (tk : Takes X W)
    (hb : ∀ (V : WX) (pn : List (Addr × Obj)) (xe : Value → Shared → Prop), Takes (X.tr pn xe) V → PassesOwn (model X.prog X.w) X.A X.env xe → PSs (X.tr pn xe) body (tb V)) (hc : Cls2 X (h₀ :: hds) l) :
    PS X (.Try body (h₀ :: hds) [] [] pos) (fun e σ H => tb (wCl X.K W e l) e σ H) := ⟨fun pins s σ H e I h => by
  have ok := I.ok
  have frames : X.A.frames = some (X.env :: X.outer) := by rw [ok.frames, sk]
  have catcher : Takes (X.tr (X.pn ++ pins) (fun u s₁ => wpAny (model X.prog X.w) X.A (noteFrame u X.env) (fun _ s₂ => wpAny (model X.prog X.w) X.A (setFlight u none) (fun _ s₃ => wpAny (model X.prog X.w) X.A (handleBy u X.env (h₀ :: hds)) (SP X pins e) X.xe s₃) X.xe s₂) X.xe s₁)) (wCl X.K W e l) := by
    rintro u s' ⟨a, B, sI, pins', σ', H', cls, d, rfl, J', base, up, sky0, free, os, bare, wish⟩
    have J : Inv X pins σ' H' sI := J'.ofTry ok
    have sky : Sky B (X.env :: X.outer) a (Zc cls d) X.env.locals s'.heap := by
      rw [← sk]
      exact sky0
    show wpAny (model X.prog X.w) X.A (noteFrame (.ref a) X.env) _ _ _
    refine Sky.land Zc.steady frames fr sky fun h3 fl up3 => ?_
    obtain ⟨o3, f3, get3, z3, data3⟩ := fl.there
    have J3 : Inv X pins σ' H' { s' with heap := h3 } := J.landed base fl.1 (up.trans up3) os bare
    have notFrame : a ∉ frs (X.env :: X.outer) := fun m => by
      obtain ⟨_, o, eo, no⟩ := fl.2.2.1.mem m
      rw [get3] at eo
      cases eo
      exact no _ data3
    have nLoc : a ≠ X.env.locals := fun z => notFrame (List.mem_filterMap.mpr ⟨X.env, List.mem_cons_self, by rw [fr, z]⟩)
    have nFs : a ∉ X.fs := fun m => by
      obtain ⟨v, hv, q⟩ := List.mem_filterMap.mp m
      exact notFrame (List.mem_filterMap.mpr ⟨v, List.mem_cons_of_mem _ hv, q⟩)
    have S3 := J3.suite get3 data3 free nLoc nFs
    have each : ∀ {hs2 : List ExceptHandler} {l2 : List Clause}, Cls2 X hs2 l2 → wCl X.K W e l2 cls d σ' H' → wpAny (model X.prog X.w) X.A (handleBy (.ref a) X.env hs2) (SP X pins e) X.xe { s' with heap := h3 } := by
      intro hs2 l2 cl
      induction cl with
      | nil =>
        intro w
        refine wpAny_handleBy_nil ?_
        obtain ⟨_, _, _, oe, vs, T, oT, _, he, _, hd, hv, _⟩ := id fl
        unfold PySem.passOn
        refine wpAny_bind (wpAny_field he hd hv ?_)
        rw [if_neg (show ¬ ((Value.ref T == Value.none) = true) from Bool.false_ne_true)]
        have out : wpAny (model X.prog X.w) X.A (setFlight (.ref a) X.env.frame) (fun _ s4 => wpAny (model X.prog X.w) X.A (throw (.ref a) : Sem Flow) (SP X pins e) X.xe s4) X.xe { s' with heap := h3 } := by
          rw [fr]
          refine HandSPX.setFlight_upZ fl fun h4 hh up4 => wpAny_throw (tk _ _ ?_)
          refine ⟨a, B, sI, pins, σ', H', cls, d, rfl, J, base, (up.trans up3).trans up4, .inr (.inr ?_), free, os, bare, w⟩
          rw [sk]
          exact hh
        first
          | exact wpAny_bind (wpAny_pure (wpAny_bind out))
          | exact wpAny_bind out
      | @cons x n c i ts b₀ suite np p2 hs3 l3 names hi hl run rest ih =>
        rintro ⟨b, known, yes, no⟩
        refine wpAny_handleBy_cons (codeAny_handlers_test ?_) fun q => by cases q
        have match_ := PySem.W.exm_one (M := model X.prog X.w) J3.kIn (show PySem.W.Looks (model X.prog X.w) h3 (typeOf (.ref a)) cls from fun A Q E s k q => wpAny_typeOf_ref (k _ _ get3) (by rw [z3.1]; exact q)) known
        have named : ∀ {Q : Value → Shared → Prop} {E : Value → Shared → Prop}, Q c { s' with heap := h3 } → wpAny (model X.prog X.w) (X.A.mark (some (.ref a))) (eval (.Name x np) X.env) Q E { s' with heap := h3 } := fun q => by
          obtain ⟨gl, dbg, mg | ⟨mg, bv, nn⟩⟩ := names
          · exact ld_glob (X := X.suite a ((a, o3) :: (X.pn ++ pins))) S3 gl mg q dbg
          · exact ld_blt (X := X.suite a ((a, o3) :: (X.pn ++ pins))) S3 gl mg bv q nn dbg
        refine named (match_.here ?_)
        cases b with
        | false =>
          show wpAny _ X.A (handleBy (.ref a) X.env hs3) _ _ _
          exact ih (no rfl)
        | true =>
          refine codeAny_handlers_suite_as ?_
          refine HandSPX.lands_againZ fl fun h4 fl4 up4 => ?_
          obtain ⟨o4, f4, get4, z4, data4⟩ := fl4.there
          have S4 := (J.landed base fl4.1 ((up.trans up3).trans up4) os bare : Inv X pins σ' H' { s' with heap := h4 }).suite get4 data4 free nLoc nFs
          refine store_ok (X := X.suite a ((a, o4) :: (X.pn ++ pins))) (v := .ref a) S4 nd hi (.inl hl) rfl (fun s5 S5 => ?_) (.inr hl)
          refine wpAny_mono ((run a o4 cls d (X.pn ++ pins) z4 ⟨_, data4⟩).run [] s5 _ H' _ S5 (yes rfl a free)) (fun f s6 end_ => ?_) fun _ _ z => z.elim
          have unname : ∀ {σ6 : L2.St} {H6 : Hp} {Q : Shared → Prop}, Inv (X.suite a ((a, o4) :: (X.pn ++ pins))) [] σ6 H6 s6 → (∀ s7, Inv X pins (σ6.set i none) H6 s7 → Q s7) →
              wpAny (model X.prog X.w) X.A (do bindName X.env n .none; unbindBehindTheSuite X.env n p2) (fun _ s7 => Q s7) X.xe s6 := fun S6 q => gone_ok (S6.unsuite ok) nd hi hl q
          cases f with
          | ret u =>
            obtain ⟨v6, σ6, H6, S6, r6, q6⟩ := end_
            exact unname S6 fun s7 J7 => ⟨_, _, _, J7, r6, q6⟩
          | next =>
            obtain ⟨σ6, H6, S6, q6⟩ := end_
            exact unname S6 fun s7 J7 => ⟨_, _, J7, q6⟩
          | brk =>
            obtain ⟨σ6, H6, S6, q6⟩ := end_
            exact unname S6 fun s7 J7 => ⟨_, _, J7, q6⟩
          | cont =>
            obtain ⟨σ6, H6, S6, q6⟩ := end_
            exact unname S6 fun s7 J7 => ⟨_, _, J7, q6⟩
    exact each hc wish
  refine wpAny_Try_except (wpAny_mono ((hb (wCl X.K W e l) (X.pn ++ pins) _ catcher PassesOwn.looking).run [] s σ H e (I.toTry _) h) (fun f s1 end_ => ?_) fun u s1 q => q)
  cases f with
  | next =>
    obtain ⟨σ', H', J', q⟩ := end_
    exact wpAny_execs_nil ⟨σ', H', J'.ofTry ok, q⟩
  | brk =>
    obtain ⟨σ', H', J', q⟩ := end_
    exact ⟨σ', H', J'.ofTry ok, q⟩
  | cont =>
    obtain ⟨σ', H', J', q⟩ := end_
    exact ⟨σ', H', J'.ofTry ok, q⟩
  | ret u =>
    obtain ⟨v, σ', H', J', r, q⟩ := end_
    exact ⟨v, σ', H', J'.ofTry ok, r, q⟩⟩
end
end L3

/-! L3F: the rules for lists and tuples alike, dicts, sorted, errors, objects, over data. -/
namespace L3
open PySem PySem.Spec PyProof.Rows L2
section
variable {c : Cn} {O : Out} {Γ : Gam} {Z Z1 Z2 Z3 Z' : Sto} {ta tb te : TE} {d x y : D} {i j : Int} {m : MO} {ds es : List D}
theorem op_ix (h : SeqIs Z x ds) (ha : atI ds i = some d) : Op2 c (rIxQ c.K) x (.int i) Z d Z := fun F G H v w Q ok a b th k => by
  cases b.v_int
  obtain ⟨p, xs, rfl, hx, ra⟩ := h.at ok a
  obtain ⟨u, e, q⟩ := at_rp ra ha
  exact hx.elim (fun hx => .inl ⟨p, xs, i, u, rfl, rfl, hx, e, k u H ok (Same.refl _) q⟩) fun hx => .inr ⟨p, xs, i, u, rfl, rfl, hx, e, k u H ok (Same.refl _) q⟩
theorem op_addI : Op2 c (rAddA c.K) (.int i) (.int j) Z (.int (i + j)) Z := fun F G H v w Q ok a b th k => .inl (op_II (g := fun i j => i + j) F G H v w Q ok a b th k)
theorem on_addL (hx : LstIs Z x ds) (hy : LstIs Z y es) (hl : ds.length + es.length ≤ 1000000) : OpN c (rAddA c.K) x y Z (.lst (ds ++ es)) Z := fun F G H v w Q ok a b th k => .inr (.inl (on_cat hx hy hl F G H v w Q ok a b th k))
theorem op_addT (h1 : ds ≠ []) (h2 : es ≠ []) (hl : ds.length + es.length ≤ 1000000) : Op2 c (rAddA c.K) (.tup ds) (.tup es) Z (.tup (ds ++ es)) Z := fun F G H v w Q ok a b th k => by
  obtain ⟨p, xs, rfl, hx, ra⟩ := a.v_tup
  obtain ⟨q, ys, rfl, hy, rb⟩ := b.v_tup
  refine .inr (.inr (.inl ⟨p, q, xs, ys, rfl, rfl, SqT.of (cut_some hx).2, SqT.of (cut_some hy).2, fun e => h1 ?_, ?_, fun e => absurd ?_ h2, fun _ l hl => ?_⟩))
  · subst e; cases ra; rfl
  · rw [ra.length, rb.length]; exact Nat.le_trans hl (by decide)
  · subst e; cases rb; rfl
  · obtain ⟨a, b, e⟩ := new_tup ok (ra.append rb) hl
    exact k _ _ a b e
theorem op_mulI (hc : CMul i j) : Op2 c (rMulA c.K) (.int i) (.int j) Z (.int (i * j)) Z := fun F G H v w Q ok a b th k => .inl (op_CI (g := fun i j => i * j) hc F G H v w Q ok a b th k)
theorem on_mulRep (h : LstIs Z x [d]) (hk : 0 ≤ i ∧ i ≤ 1000000) : OpN c (rMulA c.K) x (.int i) Z (.lst (List.replicate i.toNat d)) Z := fun F G H v w Q ok a b th k => .inr (.inl (on_rep1 h hk F G H v w Q ok a b th k))
/-- (x,) * n, n from 1 on -/
theorem op_mulRepT (hk : 1 ≤ i ∧ i ≤ 1000) : Op2 c (rMulA c.K) (.tup [d]) (.int i) Z (.tup (List.replicate i.toNat d)) Z := fun F G H v w Q ok a b th k => by
  cases b.v_int
  obtain ⟨p, xs, rfl, hx, ra⟩ := id a.v_tup
  have hs := SqT.of (K := c.K) (cut_some hx).2
  by_cases e : i = 1
  · subst e
    exact .inr (.inr (.inr ⟨p, xs, rfl, rfl, hs, k _ H ok (Same.refl _) a⟩))
  · refine .inr (.inr (.inl ⟨p, i, xs, rfl, rfl, hs, fun q => ?_, by omega, hk.2, ?_, fun l hl => ?_⟩))
    · subst q; cases ra
    · rw [ra.length]; exact (show (1 : Nat) ≤ 1000 by decide)
    · have r2 := rp_flat ra i.toNat
      rw [flat_one] at r2
      obtain ⟨a, b, e⟩ := new_tup ok r2 hl
      exact k _ _ a b e
theorem op_eqAI : Op2 c (rEqA c.K) (.int i) (.int j) Z (.bl (decide (i = j))) Z := fun F G H v w Q ok a b th k => .inl (op_eqI F G H v w Q ok a b th k)
theorem op_neAI : Op2 c (rNeA c.K) (.int i) (.int j) Z (.bl (!decide (i = j))) Z := fun F G H v w Q ok a b th k => .inl (op_neI F G H v w Q ok a b th k)
theorem op_eqAS {z w : Str} : Op2 c (rEqA c.K) (.str z) (.str w) Z (.bl (decide (z = w))) Z := fun F G H v u Q ok a b th k => .inl (op_eqStr F G H v u Q ok a b th k)
theorem op_neAS {z w : Str} : Op2 c (rNeA c.K) (.str z) (.str w) Z (.bl (!decide (z = w))) Z := fun F G H v u Q ok a b th k => .inl (op_neStr F G H v u Q ok a b th k)
theorem op_eqAD {a b : PyData} (ha : PyIs Z x a) (hb : PyIs Z y b) (sa : SeqAt.shaped a = true) (sb : SeqAt.shaped b = true) : Op2 c (rEqA c.K) x y Z (.bl (PyData.eqv a b)) Z := fun F G H v w Q ok p q th k => .inr (op_eqDD ha hb sa sb F G H v w Q ok p q th k)
theorem op_neAD {a b : PyData} (ha : PyIs Z x a) (hb : PyIs Z y b) (sa : SeqAt.shaped a = true) (sb : SeqAt.shaped b = true) : Op2 c (rNeA c.K) x y Z (.bl (!PyData.eqv a b)) Z := fun F G H v w Q ok p q th k => .inr (op_neDD ha hb sa sb F G H v w Q ok p q th k)
/-! what is walked -/
theorem wk_seqL (h : Ev c te Γ Z (.lst ds) Z1) : Wk c (iSeq c.K te) Γ Z ds.length (fun i => ds.getD i .non) Z1 := fun F G σ H R ok en th k => .inl (wk_list h F G σ H R ok en th k)
theorem wk_seqT (h : Ev c te Γ Z (.tup ds) Z1) : Wk c (iSeq c.K te) Γ Z ds.length (fun i => ds.getD i .non) Z1 := fun F G σ H R ok en th k => .inr (wk_tup h F G σ H R ok en th k)
theorem wk_enumS {ta : TA} (h : EvA c ta Γ Z [x] Z1) (hx : x = .lst ds ∨ x = .tup ds) : Wk c (iEnumS c.K ta) Γ Z ds.length (fun i => .tup [.int (i : Nat), ds.getD i .non]) Z1 := fun F G σ H R ok en th k => h F G σ H _ ok en th fun vs H1 ok1 s1 r1 => by
  obtain ⟨v, rfl, q⟩ := r1.one
  rcases hx with rfl | rfl
  · obtain ⟨a, xs, rfl, hx, ra⟩ := q.v_lst
    refine ⟨a, xs, rfl, .inl ⟨SqL.of (cut_some hx).2, k _ H1 _ _ ok1 s1 (ra.length ▸ walk_enum (xs := xs)) (fun F' G' H2 Z2 _ _ s => SqL.of (cut_some (s _ _ hx)).2) fun i x F' G' H2 Z2 H3 hi ok2 s2 _ hy => ?_⟩⟩
    obtain ⟨T, y1, y2, rfl, hT, rfl, e1, e2⟩ := hy
    cases e1
    obtain ⟨d, e3, q⟩ := ra.at e2
    show _ ∧ Rp c.K _ _ (.tup [.int (i : Nat), ds.getD i .non])
    rw [getD_of e3]
    exact pair_new ok2 hT (.int _) (q.mono s2)
  · obtain ⟨a, xs, rfl, hx, ra⟩ := q.v_tup
    refine ⟨a, xs, rfl, .inr ⟨SqT.of (cut_some hx).2, k _ H1 _ _ ok1 s1 (ra.length ▸ walk_enumT (xs := xs)) (fun F' G' H2 Z2 _ _ s => SqT.of (cut_some (s _ _ hx)).2) fun i x F' G' H2 Z2 H3 hi ok2 s2 _ hy => ?_⟩⟩
    obtain ⟨T, y1, y2, rfl, hT, rfl, e1, e2⟩ := hy
    cases e1
    obtain ⟨d, e3, q⟩ := ra.at e2
    show _ ∧ Rp c.K _ _ (.tup [.int (i : Nat), ds.getD i .non])
    rw [getD_of e3]
    exact pair_new ok2 hT (.int _) (q.mono s2)
/-! a reversed list -/
theorem evN_rev (h : Ev c te Γ Z x Z1) (hx : LstIs Z1 x ds) : EvN c (tRevL c.K te) Γ Z (.lst ds.reverse) Z1 := fun F G σ H Q ok en th k => h F G σ H _ ok en th fun v H1 ok1 s1 r1 => by
  obtain ⟨p, xs, rfl, hs, ra⟩ := hx.at ok1 r1
  refine ⟨p, xs, rfl, SqL.of hs, fun l hl => ?_⟩
  obtain ⟨a, b⟩ := new_lst ok1 ra.reverse hl
  exact k l _ a (s1.trans b)
/-- isinstance(t, tuple), a tuple -/
theorem oc_isTup : OpC c RZ.rIsTy [.tup ds, .ty "tuple"] Z (.bl true) Z := opc_pure fun F G H vs Q ok a k => by
  obtain ⟨v, w, rfl, q, q2⟩ := a.two
  cases q2.v_ty
  obtain ⟨p, xs, rfl, hx, ra⟩ := q.v_tup
  exact ⟨.ref p, "tuple", rfl, RZ.Ty4.tup (cut_some hx).2, k _ (.bl true)⟩
/-! ### dicts whose keys are tuples of ints and texts -/
def kD : Key → D
  | .inl i => .int i
  | .inr x => .str x
theorem rp_key {K : PySem.W.Frag} {B : Hp} : ∀ {ks : List Key} {vs : List V}, RpAll K B vs (ks.map kD) → vs = ks.map kV
  | [], _, .nil => rfl
  | .inl i :: ks, _, .cons h r => by
    cases h
    rw [rp_key (ks := ks) r]
    rfl
  | .inr x :: ks, _, .cons h r => by
    cases h
    rw [rp_key (ks := ks) r]
    rfl
theorem key_rp {K : PySem.W.Frag} {B : Hp} : ∀ (ks : List Key), RpAll K B (ks.map kV) (ks.map kD)
  | [] => .nil
  | .inl i :: ks => .cons (.int i) (key_rp ks)
  | .inr x :: ks => .cons (.str x) (key_rp ks)
def valD (kvs : List (List Key × D)) (k : List Key) : Option D := (kvs.find? fun kv => decide (kv.1 = k)).map (·.2)
def putD (kvs : List (List Key × D)) (k : List Key) (v : D) : List (List Key × D) := if (kvs.any fun kv => decide (kv.1 = k)) = true then kvs.map (fun kv => if kv.1 = k then (kv.1, v) else kv) else kvs ++ [(k, v)]
theorem KvOk.val {K : PySem.W.Frag} {B : Hp} {k : List Key} : ∀ {ws : List (List Key × V)} {kvs : List (List Key × D)}, KvOk K B ws kvs → (valV ws k = none ∧ valD kvs k = none) ∨ ∃ v d, valV ws k = some v ∧ valD kvs k = some d ∧ Rp K B v d
  | _, _, .nil => .inl ⟨rfl, rfl⟩
  | _, _, .cons (k := q) (v := v) (d := d) (vs := vs) (ds := ds) h r => by
    by_cases e : q = k
    · refine .inr ⟨v, d, valV_pos (p := (q, v)) e, ?_, h⟩
      unfold valD
      rw [List.find?_cons, decide_eq_true e]
      rfl
    · rw [valV_neg (p := (q, v)) e]
      have e2 : valD ((q, d) :: ds) k = valD ds k := by
        unfold valD
        rw [List.find?_cons, decide_eq_false e]
      rw [e2]
      exact r.val
theorem KvOk.any {K : PySem.W.Frag} {B : Hp} {k : List Key} : ∀ {ws : List (List Key × V)} {kvs : List (List Key × D)}, KvOk K B ws kvs → (ws.any fun kv => decide (kv.1 = k)) = kvs.any fun kv => decide (kv.1 = k)
  | _, _, .nil => rfl
  | _, _, .cons h r => by rw [List.any_cons, List.any_cons, r.any]
theorem KvOk.snoc {K : PySem.W.Frag} {B : Hp} {k : List Key} {v : V} {d : D} (q : Rp K B v d) : ∀ {ws : List (List Key × V)} {kvs : List (List Key × D)}, KvOk K B ws kvs → KvOk K B (ws ++ [(k, v)]) (kvs ++ [(k, d)])
  | _, _, .nil => .cons q .nil
  | _, _, .cons h r => .cons h (r.snoc q)
theorem KvOk.repl {K : PySem.W.Frag} {B : Hp} {k : List Key} {v : V} {d : D} (q : Rp K B v d) : ∀ {ws : List (List Key × V)} {kvs : List (List Key × D)}, KvOk K B ws kvs → KvOk K B (ws.map fun kv => if kv.1 = k then (kv.1, v) else kv) (kvs.map fun kv => if kv.1 = k then (kv.1, d) else kv)
  | _, _, .nil => .nil
  | _, _, .cons (k := p) h r => by
    rw [List.map_cons, List.map_cons]
    by_cases e : p = k
    · rw [if_pos e, if_pos e]
      exact .cons q (r.repl q)
    · rw [if_neg e, if_neg e]
      exact .cons h (r.repl q)
theorem KvOk.put {K : PySem.W.Frag} {B : Hp} {k : List Key} {v : V} {d : D} {ws : List (List Key × V)} {kvs : List (List Key × D)} (h : KvOk K B ws kvs) (q : Rp K B v d) : KvOk K B (putK ws k v) (putD kvs k d) := by
  unfold putK putD
  rw [h.any]
  split
  · exact h.repl q
  · exact h.snoc q
theorem KvOk.length {K : PySem.W.Frag} {B : Hp} : ∀ {ws : List (List Key × V)} {kvs : List (List Key × D)}, KvOk K B ws kvs → ws.length = kvs.length
  | _, _, .nil => rfl
  | _, _, .cons _ r => congrArg (· + 1) r.length
theorem evN_dnew : EvN c tDNewT Γ Z (.dT []) Z := fun F G σ H Q ok en th k p hp => by
  obtain ⟨a, b⟩ := ok.add (m := .dT []) hp (same_new hp) upd_same ⟨[], rfl, .nil⟩
  exact k p _ a b
/-- d.get(k, e) -/
theorem ev_dget2 {p : Addr} {kvs : List (List Key × D)} {k : List Key} (hd : Ev c ta Γ Z (.ptr p) Z) (hk : Ev c tb Γ Z (.tup (k.map kD)) Z) (he : Ev c te Γ Z x Z) (hz : (p, MO.dT kvs) ∈ Z) : Ev c (tDGet2 ta tb te) Γ Z ((valD kvs k).getD x) Z := fun F G σ H Q ok en th kk =>
  hd F G σ H _ ok en th fun v H1 ok1 s1 r1 => by
    cases r1.v_ptr
    obtain ⟨w1, e1, _⟩ := ok1.dT hz
    refine ⟨p, rfl, .inr ⟨w1, .inl e1⟩, hk F G σ H1 _ ok1 (en.mono s1) th fun kv H2 ok2 s2 r2 => he F G σ H2 _ ok2 (en.mono (s1.trans s2)) th fun u H3 ok3 s3 r3 => ?_⟩
    obtain ⟨b, xs, rfl, hb, rb⟩ := (r2.mono s3).v_tup
    cases rp_key rb
    obtain ⟨ws, e3, kv3⟩ := ok3.dT hz
    refine ⟨_, DGet.t e3 (cut_some hb).2, ?_⟩
    rcases kv3.val (k := k) with ⟨a1, a2⟩ | ⟨v', d', a1, a2, q⟩
    · rw [a1]
      exact kk _ H3 ok3 ((s1.trans s2).trans s3) (by rw [a2]; exact r3)
    · rw [a1]
      exact kk _ H3 ok3 ((s1.trans s2).trans s3) (by rw [a2]; exact q)
/-- d[k], it is there -/
theorem ev_dget {p : Addr} {kvs : List (List Key × D)} {k : List Key} (hd : Ev c ta Γ Z (.ptr p) Z) (hk : Ev c tb Γ Z (.tup (k.map kD)) Z) (hz : (p, MO.dT kvs) ∈ Z) (hv : valD kvs k = some d) : Ev c (tDGet ta tb) Γ Z d Z := fun F G σ H Q ok en th kk =>
  hd F G σ H _ ok en th fun v H1 ok1 s1 r1 => hk F G σ H1 _ ok1 (en.mono s1) th fun kv H2 ok2 s2 r2 => by
    cases r1.v_ptr
    obtain ⟨b, xs, rfl, hb, rb⟩ := r2.v_tup
    cases rp_key rb
    obtain ⟨ws, e3, kv3⟩ := ok2.dT hz
    rcases kv3.val (k := k) with ⟨a1, a2⟩ | ⟨v', d', a1, a2, q⟩
    · rw [hv] at a2; cases a2
    · rw [hv] at a2
      cases a2
      exact ⟨p, v', rfl, a1 ▸ DGet.t e3 (cut_some hb).2, kk v' H2 ok2 (s1.trans s2) q⟩
/-- d[k] = e -/
theorem run_dput {p : Addr} {kvs : List (List Key × D)} {k : List Key} (hv : Ev c te Γ Z d Z) (hd : Ev c ta Γ Z (.ptr p) Z) (hk : Ev c tb Γ Z (.tup (k.map kD)) Z) (hz : (p, MO.dT kvs) ∈ Z) (hl : kvs.length < 1000000) (kk : O.nx Γ (putZ Z p (.dT (putD kvs k d)))) : Run c (sDPut ta tb te) O Γ Z := fun F G σ H e ok en fin =>
  hv F G σ H _ ok en fin.th fun v H1 ok1 s1 r1 => hd F G σ H1 _ ok1 (en.mono s1) fin.th fun w H2 ok2 s2 r2 => hk F G σ H2 _ ok2 (en.mono (s1.trans s2)) fin.th fun kv H3 ok3 s3 r3 => by
    cases r2.v_ptr
    obtain ⟨b, xs, rfl, hb, rb⟩ := r3.v_tup
    cases rp_key rb
    obtain ⟨ws, e3, kv3⟩ := ok3.dT hz
    obtain ⟨ok4, e4⟩ := ok3.put (p := p) (o := .dT (putK ws k v)) (m := .dT (putD kvs k d)) (List.mem_map.mpr ⟨_, hz, rfl⟩) ⟨_, rfl, kv3.put ((r1.mono s2).mono s3)⟩
    refine ⟨p, _, rfl, DPut.t e3 (cut_some hb).2 (by rw [kv3.length]; exact Nat.lt_of_lt_of_le hl (by decide)), fin.nx _ _ _ _ kk ok4 ?_⟩
    rw [e4]
    exact en.mono ((s1.trans s2).trans s3)
/-- a dict of numbers -/
theorem kv_ints {K : PySem.W.Frag} {B : Hp} : ∀ {ws : List (List Key × V)} {kvs : List (List Key × Int)}, KvOk K B ws (kvs.map fun kv => (kv.1, D.int kv.2)) → ws = kvs.map fun kv => (kv.1, V.int kv.2)
  | _, [], .nil => rfl
  | _, (k, n) :: kvs, .cons h r => by
    cases h
    rw [kv_ints (kvs := kvs) r]
    rfl
abbrev ivs (kvs : List (List Key × Int)) : List (List Key × V) := kvs.map fun kv => (kv.1, V.int kv.2)
abbrev ids (kvs : List (List Key × Int)) : List (List Key × D) := kvs.map fun kv => (kv.1, D.int kv.2)
/-- [.. for k in d]: d is locked meanwhile -/
theorem evN_lock {p : Addr} {kvs : List (List Key × Int)} {Zr : Sto} (hz : Z = (p, .dT (ids kvs)) :: Zr) (h : ∀ od, EvN c te Γ ((p, .raw (.frz od (.dT (ivs kvs)))) :: Zr) (.lst ds) ((p, .raw (.frz od (.dT (ivs kvs)))) :: Zr)) : EvN c (tLockE te) Γ Z (.lst ds) Z := fun F G σ H Q ok en th k => by
  subst hz
  obtain ⟨o, e, ws, rfl, kv⟩ := ok.sto p _ List.mem_cons_self
  cases kv_ints kv
  refine ⟨p, .dT (ivs kvs), e, trivial, fun od => ?_⟩
  have swap : ∀ {H' : Hp} {Y : Sto} {m m' : MO} {o : HO}, OkS c.K F G H' (Y ++ (p, m) :: Zr) → (∀ B, MoOk c.K B m' o) → OkS c.K F G (upd H' p o) (Y ++ (p, m') :: Zr) ∧ im F (upd H' p o) (Y ++ (p, m') :: Zr) = im F H' (Y ++ (p, m) :: Zr) := fun {H' Y m m' o} q hm => by
    have hp : p ∈ adr (Y ++ (p, m) :: Zr) := List.mem_map.mpr ⟨(p, m), List.mem_append_right _ List.mem_cons_self, rfl⟩
    have a1 : adr (Y ++ (p, m') :: Zr) = adr (Y ++ (p, m) :: Zr) := by unfold adr; rw [List.map_append, List.map_append]; rfl
    have e1 : im F (upd H' p o) (Y ++ (p, m') :: Zr) = im F H' (Y ++ (p, m) :: Zr) := by
      show cut _ (F ++ adr _) = cut _ (F ++ adr _)
      rw [a1]
      exact cut_upd (List.mem_append_right _ hp)
    have nd : (adr (Y ++ (p, m) :: Zr)).Nodup := q.nd
    refine ⟨⟨fun a u z => ?_, q.fF, fun b hb => q.own b (by rw [← a1]; exact hb), by rw [a1]; exact nd, fun b k hb => ?_⟩, e1⟩
    · rw [upd_ne fun w => by rw [w, q.own p hp] at z; cases z]
      exact q.base a u z
    · rw [e1]
      have nd2 : (adr Y ++ p :: adr Zr).Nodup := by
        unfold adr at nd
        rw [List.map_append] at nd
        exact nd
      obtain ⟨n1, n2, n3⟩ := List.nodup_append.mp nd2
      rcases List.mem_append.mp hb with hb | hb
      · have ne : b ≠ p := n3 b (List.mem_map.mpr ⟨_, hb, rfl⟩) p List.mem_cons_self
        obtain ⟨u, z, r⟩ := q.sto b k (List.mem_append_left _ hb)
        exact ⟨u, by rw [upd_ne ne]; exact z, r⟩
      · rcases List.mem_cons.mp hb with hb | hb
        · cases hb
          exact ⟨o, upd_same, hm _⟩
        · have ne : b ≠ p := fun w => (List.nodup_cons.mp n2).1 (w ▸ List.mem_map.mpr ⟨_, hb, rfl⟩)
          obtain ⟨u, z, r⟩ := q.sto b k (List.mem_append_right _ (List.mem_cons_of_mem _ hb))
          exact ⟨u, by rw [upd_ne ne]; exact z, r⟩
  obtain ⟨ok1, e1⟩ := swap (Y := []) (m' := .raw (.frz od (.dT (ivs kvs)))) (o := .frz od (.dT (ivs kvs))) ok fun _ => ⟨rfl, fun _ z => by cases z⟩
  have e1' : im F (upd H p (.frz od (.dT (ivs kvs)))) ((p, .raw (.frz od (.dT (ivs kvs)))) :: Zr) = im F H ((p, .dT (ids kvs)) :: Zr) := e1
  refine h od F G σ _ _ ok1 (by rw [e1']; exact en) th fun q H' ok2 s2 => ⟨ok2.raw (List.mem_cons_of_mem _ List.mem_cons_self), ?_⟩
  have kvok : ∀ (l : List (List Key × Int)) (B : Hp), KvOk c.K B (ivs l) (ids l) := fun l B => by
    induction l with
    | nil => exact .nil
    | cons a l ih => exact .cons (.int _) ih
  obtain ⟨ok3, e3⟩ := swap (Y := [(q, .lst ds)]) (m' := .dT (ids kvs)) (o := .dT (ivs kvs)) ok2 fun B => ⟨_, rfl, kvok kvs B⟩
  have e3' : im F (upd H' p (.dT (ivs kvs))) ((q, .lst ds) :: (p, .dT (ids kvs)) :: Zr) = im F H' ((q, .lst ds) :: (p, .raw (.frz od (.dT (ivs kvs)))) :: Zr) := e3
  refine k q _ ok3 ?_
  rw [e3', ← e1']
  exact s2
/-- the keys of a locked dict -/
theorem wk_keys {p : Addr} {od : Obj} {kvs : List (List Key × Int)} (h : Ev c te Γ Z (.ptr p) Z) (hz : (p, MO.raw (.frz od (.dT (ivs kvs)))) ∈ Z) : WkK c (iKeys te) Γ Z kvs.length (fun i => .tup ((kvs.map (·.1)).getD i [] |>.map kD)) Z (fun Z2 => (p, MO.raw (.frz od (.dT (ivs kvs)))) ∈ Z2) := fun F G σ H R ok en th k => h F G σ H _ ok en th fun v H1 ok1 s1 r1 => by
  cases r1.v_ptr
  have hl : (ivs kvs).length = kvs.length := List.length_map _
  refine ⟨p, od, rfl, .inr ⟨ivs kvs, ok1.raw hz, k _ H1 _ _ ok1 s1 (hl ▸ walk_keysT (kvs := ivs kvs)) (fun F' G' H2 Z2 hm ok2 _ => ok2.raw hm) fun i x F' G' H2 Z2 H3 hi ok2 s2 g hy => ?_⟩⟩
  obtain ⟨rfl, q, w, b, e1, rfl, e2⟩ := hy
  refine ⟨Same.refl _, ?_⟩
  have e3 : (kvs.map (·.1))[i]? = some q := by
    have e1 : (kvs.map fun kv => (kv.1, V.int kv.2))[i]? = some (q, w) := e1
    rw [List.getElem?_map] at e1 ⊢
    cases z : kvs[i]? with
    | none => rw [z] at e1; cases e1
    | some kv =>
      rw [z] at e1
      have e4 : kv.1 = q := congrArg Prod.fst (Option.some.inj e1)
      show some kv.1 = some q
      rw [e4]
  show Rp c.K _ _ (.tup (((kvs.map (·.1)).getD i []).map kD))
  rw [getD_of e3]
  by_cases m : b ∈ F' ++ adr Z2
  · exfalso
    rcases List.mem_append.mp m with m | m
    · obtain ⟨u, z, t⟩ := ok2.fF b m
      rw [ok2.base b u z] at e2
      exact t _ (Option.some.inj e2)
    · obtain ⟨z, hz2, ez⟩ := List.mem_map.mp m
      obtain ⟨u, a, mo⟩ := ok2.sto z.1 z.2 hz2
      rw [ez, e2] at a
      exact mo.nt _ (Option.some.inj a).symm
  · exact .tup (by show cut _ _ b = _; rw [cut_out m]; exact e2) (key_rp q)
end
end L3

/-! L3G: sorted; errors raised and caught; objects: over data. -/
namespace L3
open PySem PySem.Spec PyProof.Rows L2
/-! ### a sorted list is the only one -/
theorem sorted_one {α : Type} (f : α → Int) : ∀ {xs ys : List α}, xs.Perm ys → xs.Pairwise (fun a b => f a ≤ f b) → ys.Pairwise (fun a b => f a ≤ f b) → (∀ a ∈ xs, ∀ b ∈ xs, f a = f b → a = b) → xs = ys
  | [], ys, p, _, _, _ => (List.nil_perm.mp p).symm
  | x :: xs, [], p, _, _, _ => absurd p.length_eq (by simp)
  | x :: xs, y :: ys, p, sx, sy, inj => by
    have e : x = y := by
      have h1 : y ∈ x :: xs := p.mem_iff.mpr List.mem_cons_self
      have h2 : x ∈ y :: ys := p.mem_iff.mp List.mem_cons_self
      refine inj x List.mem_cons_self y h1 ?_
      have a : f x ≤ f y := by
        rcases List.mem_cons.mp h1 with rfl | h
        · exact Int.le_refl _
        · exact (List.pairwise_cons.mp sx).1 y h
      have b : f y ≤ f x := by
        rcases List.mem_cons.mp h2 with rfl | h
        · exact Int.le_refl _
        · exact (List.pairwise_cons.mp sy).1 x h
      exact Int.le_antisymm a b
    subst e
    rw [sorted_one f p.cons_inv (List.pairwise_cons.mp sx).2 (List.pairwise_cons.mp sy).2 fun a ha b hb => inj a (List.mem_cons_of_mem _ ha) b (List.mem_cons_of_mem _ hb)]
/-- tuples of ints -/
abbrev iT (ns : List Int) : D := .tup (ns.map D.int)
theorem tupI_of {K : PySem.W.Frag} {B H : Hp} {v : V} {ns : List Int} (s : Same B H) (r : Rp K B v (iT ns)) : TupI K H v ns := by
  obtain ⟨a, xs, rfl, e, ra⟩ := r.v_tup
  cases ra.ints
  exact ⟨a, rfl, SqT.of (s _ _ e)⟩
/-- a tuple is neither others' nor among our changing things -/
theorem in_imT {K : PySem.W.Frag} {F : List Addr} {G H : Hp} {Z : Sto} (ok : OkS K F G H Z) {b : Addr} {xs : List V} (e : H b = some (.tup xs)) : im F H Z b = some (.tup xs) := by
  show cut _ _ b = _
  rw [cut_out ?_, e]
  intro m
  rcases List.mem_append.mp m with m | m
  · obtain ⟨u, z, t⟩ := ok.fF b m
    rw [ok.base b u z] at e
    exact t _ (Option.some.inj e)
  · obtain ⟨z, hz2, ez⟩ := List.mem_map.mp m
    obtain ⟨u, a, mo⟩ := ok.sto z.1 z.2 hz2
    rw [ez, e] at a
    exact mo.nt _ (Option.some.inj a).symm
section
variable {c : Cn} {O : Out} {Γ : Gam} {Z Z1 Z2 Z3 Z' : Sto} {ta tb te : TE} {d x y : D} {i j : Int} {m : MO} {ds es : List D}
/-- the perm of the values is one of the data -/
theorem rp_perm {K : PySem.W.Frag} {B : Hp} {vs ys : List V} (p : ys.Perm vs) : ∀ {ns : List (List Int)}, RpAll K B vs (ns.map iT) → ∃ ms : List (List Int), ms.Perm ns ∧ RpAll K B ys (ms.map iT) := by
  induction p with
  | nil => intro ns h; exact ⟨ns, List.Perm.refl _, h⟩
  | cons x p ih =>
    intro ns h
    cases ns with
    | nil => cases h
    | cons n ns =>
      cases h with
      | cons a r =>
        obtain ⟨ms, q, e⟩ := ih r
        exact ⟨n :: ms, q.cons n, .cons a e⟩
  | swap x y l =>
    intro ns h
    cases ns with
    | nil => cases h
    | cons n ns =>
      cases h with
      | cons a r =>
        cases ns with
        | nil => cases r
        | cons n2 ns =>
          cases r with
          | cons b r => exact ⟨n2 :: n :: ns, List.Perm.swap _ _ _, .cons b (.cons a r)⟩
  | trans p1 p2 ih1 ih2 =>
    intro ns h
    obtain ⟨ms, q, e⟩ := ih2 h
    obtain ⟨ms2, q2, e2⟩ := ih1 e
    exact ⟨ms2, q2.trans q, e2⟩
theorem pairs_of {K : PySem.W.Frag} {B H : Hp} {Bd : Int} (s : Same B H) : ∀ {ys : List V} {ms : List (List Int)}, RpAll K B ys (ms.map iT) → ys.Pairwise (fun x y => ∀ n m, TupI K H x n → TupI K H y m → TS.code Bd n ≤ TS.code Bd m) → ms.Pairwise (fun a b => TS.code Bd a ≤ TS.code Bd b)
  | _, [], _, _ => .nil
  | _, n :: ms, .cons a r, h => by
    obtain ⟨h1, h2⟩ := List.pairwise_cons.mp h
    refine List.pairwise_cons.mpr ⟨fun b hb => ?_, pairs_of s r h2⟩
    obtain ⟨k, e⟩ := List.mem_iff_getElem?.mp hb
    obtain ⟨v, e2, q⟩ := r.get (i := k) (d := iT b) (by rw [List.getElem?_map, e]; rfl)
    exact h1 v (List.mem_of_getElem? e2) n b (tupI_of s a) (tupI_of s q)
theorem code_inj {B : Int} : ∀ {a b : List Int}, a.length = b.length → TS.Bd B a → TS.Bd B b → TS.code B a = TS.code B b → a = b
  | [], [], _, _, _, _ => rfl
  | x :: a, y :: b, hl, ha, hb, e => by
    have hl' : a.length = b.length := by simpa using hl
    rcases Int.lt_trichotomy x y with h | h | h
    · have := TS.code_lt (B := B) hl' ha.tail hb.tail h
      omega
    · subst h
      have e2 : TS.code B a = TS.code B b := by
        rcases Int.lt_trichotomy (TS.code B a) (TS.code B b) with q | q | q
        · have := (TS.code_same (B := B) (d := x) hl').mpr q
          omega
        · exact q
        · have := (TS.code_same (B := B) (d := x) hl'.symm).mpr q
          omega
      rw [code_inj hl' ha.tail hb.tail e2]
    · have := TS.code_lt (B := B) hl'.symm hb.tail ha.tail h
      omega
/-- sorted of a list of int tuples: ms, ascending -/
theorem on_sortX {ns ms : List (List Int)} {n : Nat} {B : Int} (hx : LstIs Z x (ns.map iT)) (hn : 1 ≤ n) (h64 : ns.length < 64) (hb : ∀ a ∈ ns, a.length = n ∧ TS.Bd B a) (hp : ms.Perm ns) (hs : ms.Pairwise fun a b => TS.code B a ≤ TS.code B b) : OpCN c (rSortX c.K) [x] Z (.lst (ms.map iT)) Z := fun F G H vs Q ok a th k => by
  obtain ⟨v, rfl, r⟩ := a.one
  obtain ⟨p, xs, rfl, e, ra⟩ := hx.at ok r
  refine ⟨n, B, hn, p, xs, rfl, SqL.of e, by rw [ra.length, List.length_map]; exact h64, fun w hw => ?_, fun ys q hy hsy hq => ?_⟩
  · obtain ⟨j, e2⟩ := List.mem_iff_getElem?.mp hw
    obtain ⟨d, e3, rw'⟩ := ra.at e2
    rw [List.getElem?_map] at e3
    cases e4 : ns[j]? with
    | none => rw [e4] at e3; cases e3
    | some l =>
      rw [e4] at e3
      cases Option.some.inj e3
      exact ⟨l, tupI_of cut_same rw', hb l (List.mem_of_getElem? e4)⟩
  · obtain ⟨ms2, p2, r2⟩ := rp_perm hy ra
    have s2 := pairs_of cut_same r2 hsy
    have e : ms2 = ms := sorted_one (TS.code B) (p2.trans hp.symm) s2 hs fun a ha b hb' => code_inj ((hb a (p2.mem_iff.mp ha)).1.trans (hb b (p2.mem_iff.mp hb')).1.symm) (hb a (p2.mem_iff.mp ha)).2 (hb b (p2.mem_iff.mp hb')).2
    subst e
    obtain ⟨a, b⟩ := new_lst ok r2 hq
    exact k q _ a b
/-- sorted of a dict whose keys are int tuples -/
theorem on_sortK {p : Addr} {kvs : List (List Int × D)} {ms : List (List Int)} {n : Nat} {B : Int} (hz : (p, MO.dT (kvs.map fun kv => (kv.1.map Sum.inl, kv.2))) ∈ Z) (hn : 1 ≤ n) (h64 : kvs.length < 64) (hb : ∀ kv ∈ kvs, kv.1.length = n ∧ TS.Bd B kv.1)
    (hp : ms.Perm (kvs.map (·.1))) (hs : ms.Pairwise fun a b => TS.code B a ≤ TS.code B b) : OpCN c (rSortK c.K) [.ptr p] Z (.lst (ms.map iT)) Z := fun F G H vs Q ok a th k => by
  obtain ⟨v, rfl, r⟩ := a.one
  cases r.v_ptr
  obtain ⟨ws, e, kv⟩ := ok.dT hz
  have keys : ∀ {ws : List (List Key × V)} {kvs : List (List Int × D)} {B : Hp}, KvOk c.K B ws (kvs.map fun kv => (kv.1.map Sum.inl, kv.2)) → ws.map (·.1) = kvs.map fun kv => (kv.1.map Sum.inl : List Key) := by
    intro ws kvs B
    induction kvs generalizing ws with
    | nil => intro h; cases h; rfl
    | cons kv kvs ih =>
      intro h
      cases h with
      | cons a r =>
        show _ :: _ = _ :: _
        rw [ih r]
  have ek := keys kv
  refine ⟨p, ws, n, B, rfl, .inl e, by rw [kv.length, List.length_map]; exact h64, hn, fun w hw => ?_, fun bs ys q isk hy hsy hq => ?_⟩
  · have : w.1 ∈ kvs.map fun kv => (kv.1.map Sum.inl : List Key) := by rw [← ek]; exact List.mem_map.mpr ⟨w, hw, rfl⟩
    obtain ⟨z, hz', e2⟩ := List.mem_map.mp this
    exact ⟨z.1, e2.symm, hb z hz'⟩
  · have ra : ∀ {ws : List (List Key × V)} {kvs : List (List Int × D)} {bs : List Addr}, ws.map (·.1) = (kvs.map fun kv => (kv.1.map Sum.inl : List Key)) → IsKeys H ws bs → RpAll c.K (im F H Z) (bs.map V.ref) ((kvs.map (·.1)).map iT) := by
      intro ws kvs bs e isk
      induction isk generalizing kvs with
      | nil =>
        cases kvs with
        | nil => exact .nil
        | cons => cases e
      | @cons w b ws bs hb' r ih =>
        cases kvs with
        | nil => cases e
        | cons z kvs =>
          obtain ⟨e1, e2⟩ := List.cons.inj e
          refine .cons ?_ (ih e2)
          have e3 : w.1 = z.1.map Sum.inl := e1
          have hb2 : H b = some (.tup (w.1.map kV)) := hb'
          rw [e3, keyV] at hb2
          exact .tup (in_imT ok hb2) (rpInts _)
    obtain ⟨ms2, p2, r2⟩ := rp_perm hy (ra ek isk)
    have s2 := pairs_of cut_same r2 hsy
    have hb2 : ∀ a ∈ ms2, a.length = n ∧ TS.Bd B a := fun a ha => by
      obtain ⟨z, hz', rfl⟩ := List.mem_map.mp (p2.mem_iff.mp ha)
      exact hb z hz'
    have e : ms2 = ms := sorted_one (TS.code B) (p2.trans hp.symm) s2 hs fun a ha b hb' => code_inj ((hb2 a ha).1.trans (hb2 b hb').1.symm) (hb2 a ha).2 (hb2 b hb').2
    subst e
    obtain ⟨a, b⟩ := new_lst ok r2 hq
    exact k q _ a b
end
end L3

/-! L3H: errors raised and caught; objects made and their fields: over data. -/
namespace L3
open PySem PySem.Spec PyProof.Rows L2
section
variable {c : Cn} {O : Out} {Γ : Gam} {Z Z1 Z2 Z3 Z' : Sto} {ta tb te : TE} {d x y : D} {i j : Int} {m : MO} {ds es : List D}
/-! ### an error's __init__: self.f = the one argument -/
def spEx (K : PySem.W.Frag) (f : Str) : Sp := fun vs H Q _ => ∃ (e C : Addr) (v : V), vs = [.ref e, v] ∧ OexC K C ∧ PySem.W.findIn K (.ref C) f = some none ∧ H e = some (exo e C none) ∧
  ∀ dx, H dx = none → dx ≠ e → Q .non (upd (upd H dx (exd dx [(f, v)])) e (exo e C (some dx)))
/-- raise C(e) -/
def tRaise1 (K : PySem.W.Frag) (C : Addr) (f : Str) (ta : TA) (W : WX) : TS := fun _ σ H => tMkO C (spEx K f) [] ta σ H fun cls d H' => W cls d σ H'
theorem run_raise {C : Addr} {f : Str} {ta : TA} {W : WX} (ha : EvA c ta Γ Z [d] Z1) (hd : ∀ B v, Rp c.K B v d → Rp c.K (fun _ => none) v d) (T : OexC c.K C) (hf : PySem.W.findIn c.K (.ref C) f = some none) (hx : c.X C [(f, d)] Γ Z1) (hE : c.E = WE W) : Run c (tRaise1 c.K C f ta W) O Γ Z := fun F G σ H e ok en fin =>
  ha F G σ H _ ok en fin.th fun vs H1 ok1 s1 r1 => by
    obtain ⟨v, rfl, rv⟩ := r1.one
    refine ⟨by simp, fun a ha1 => ⟨a, C, v, rfl, T, hf, upd_same, fun dx hdx ne => ⟨rfl, dx, [(f, v)], upd_same, ?_, ?_, ?_⟩⟩⟩
    · rw [upd_ne ne, upd_same]
    · rwa [upd_ne ne] at hdx
    · have h1 : H1 dx = none := by rwa [upd_ne ne] at hdx
      have sm : Same H1 (upd (del (upd (upd (upd H1 a (exo a C none)) dx (exd dx [(f, v)])) a (exo a C (some dx))) a) dx (.xd [(f, v)])) := fun b o z => by
        have nb : b ≠ dx := fun w => by rw [w, h1] at z; cases z
        have na : b ≠ a := fun w => by rw [w, ha1] at z; cases z
        rw [upd_ne nb, del_ne na, upd_ne na, upd_ne nb, upd_ne na, z]
      have q := fin.th C [(f, d)] dx _ σ Γ Z1 hx (ok1.keep sm) ((en.mono s1).mono (cut_mono sm)) ⟨_, upd_same, .cons (hd _ _ rv) .nil⟩ (ok1.base.free h1)
      rw [hE] at q
      exact q
theorem sc_int {K : PySem.W.Frag} : ∀ B v, Rp K B v (.int i) → Rp K (fun _ => none) v (.int i) := fun B v r => by cases r; exact .int _
/-! ### try -/
/-- what the clauses do with an error of C that has the fields fs -/
def Cat (c : Cn) (W : WX) (l : List Clause) (O : Out) (C : Addr) (fs : List (Str × D)) (Γ : Gam) (Z : Sto) : Prop := ∀ (F : List Addr) (G : Hp) (σ : L2.St) (H : Hp) (e : Ends) (dx : Addr), OkS c.K F G H Z → En c.K (im F H Z) σ Γ → Fin c F G O e → XdOk c.K H dx fs → G dx = none → wCl c.K W e l (.ref C) (some dx) σ H
theorem cat_pass {W : WX} {C : Addr} {fs : List (Str × D)} (h : c.X C fs Γ Z) (hE : c.E = WE W) : Cat c W [] O C fs Γ Z := fun F G σ H e dx ok en fin xd g => by
  have q := fin.th C fs dx H σ Γ Z h ok en xd g
  rw [hE] at q
  exact q
theorem cat_no {W : WX} {C : Addr} {fs : List (Str × D)} {v : Value} {n : Nat} {ts : Addr → Value → Option Addr → TS} {l : List Clause} (h : PySem.W.exmOne c.K (.ref C) v = some false) (r : Cat c W l O C fs Γ Z) : Cat c W ((v, n, ts) :: l) O C fs Γ Z := fun F G σ H e dx ok en fin xd g =>
  ⟨false, h, fun z => (by cases z), fun _ => r F G σ H e dx ok en fin xd g⟩
theorem en_none {K : PySem.W.Frag} {B : Hp} {σ : L2.St} (h : En K B σ Γ) (n : Nat) : En K B (σ.set n none) (Γ.set n none) := by
  refine ⟨by rw [List.length_set, List.length_set]; exact h.1, fun k e q => ?_⟩
  by_cases hk : n = k
  · subst hk
    by_cases hl : n < Γ.length
    · rw [List.getElem?_set_self hl] at q; cases q
    · rw [List.getElem?_eq_none (by rw [List.length_set]; omega)] at q; cases q
  · rw [List.getElem?_set_ne hk] at q ⊢
    exact h.2 k e q
theorem rpFs_mono {K : PySem.W.Frag} {B : Hp} {vs : List (Str × V)} {fs : List (Str × D)} (h : RpFs K (fun _ => none) vs fs) : RpFs K B vs fs := h.mono fun a o z => by cases z
theorem cat_yes {W : WX} {C : Addr} {fs : List (Str × D)} {v : Value} {n : Nat} {ts : Addr → Value → Option Addr → TS} {l : List Clause} (h : PySem.W.exmOne c.K (.ref C) v = some true) (hz : ∀ p o, (p, MO.raw o) ∉ Z)
    (r : ∀ a dx, Run c.calm (ts a (.ref C) (some dx)) { nx := fun Γ' Z' => O.nx (Γ'.set n none) Z', rt := O.rt, bk := fun Γ' Z' => O.bk (Γ'.set n none) Z', ct := fun Γ' Z' => O.ct (Γ'.set n none) Z' } (Γ.set n (some (.err a dx fs))) Z) : Cat c W ((v, n, ts) :: l) O C fs Γ Z := fun F G σ H e dx ok en fin xd g =>
  ⟨true, h, fun _ a ha => by
    obtain ⟨vs, ex, rx⟩ := xd
    have hb : im F H Z dx = some (.xd vs) := by
      show cut _ _ dx = _
      rw [cut_out ?_, ex]
      intro q
      rcases List.mem_append.mp q with q | q
      · obtain ⟨u, z, _⟩ := ok.fF dx q
        rw [g] at z; cases z
      · obtain ⟨⟨p, mo⟩, hz2, ez⟩ := List.mem_map.mp q
        obtain ⟨u, a2, mok⟩ := ok.sto p mo hz2
        have ez : p = dx := ez
        rw [ez, ex] at a2
        cases a2
        cases mo with
        | lst => obtain ⟨_, z, _⟩ := mok; cases z
        | ins => obtain ⟨_, _, z, _⟩ := mok; cases z
        | dT => obtain ⟨_, z, _⟩ := mok; cases z
        | raw o => exact hz _ _ hz2
    have en2 := en.set (v := .ref a) (d := .err a dx fs) (.err hb (rpFs_mono rx)) n
    exact r a dx F G _ H _ ok en2 ⟨fun Γ' Z' σ' H' p ok' en' => fin.nx _ _ _ _ p ok' (en_none en' n), fin.rt, fun Γ' Z' σ' H' p ok' en' => fin.bk _ _ _ _ p ok' (en_none en' n), fun Γ' Z' σ' H' p ok' en' => fin.ct _ _ _ _ p ok' (en_none en' n), Thr.calm⟩, fun z => by cases z⟩
/-- try: tb, except l -/
theorem run_try {W : WX} {tb : WX → TS} {l : List Clause} {Xb : Addr → List (Str × D) → Gam → Sto → Prop} (hb : ∀ V : WX, Run ⟨c.K, WE V, Xb⟩ (tb V) O Γ Z) (hc : ∀ C fs Γ' Z', Xb C fs Γ' Z' → Cat c W l O C fs Γ' Z') : Run c (fun e σ H => tb (wCl c.K W e l) e σ H) O Γ Z := fun F G σ H e ok en fin =>
  hb (wCl c.K W e l) F G σ H e ok en ⟨fin.nx, fin.rt, fin.bk, fin.ct, fun C fs dx H' σ' Γ' Z' x ok' en' xd g => hc C fs Γ' Z' x F G σ' H' e dx ok' en' fin xd g⟩
/-- err.f -/
theorem ev_xf {C a dx : Addr} {fs : List (Str × D)} {f : Str} (h : Ev c te Γ Z (.err a dx fs) Z1) (hl : fs.lookup f = some d) : Ev c (tXf a (.ref C) (some dx) C f te) Γ Z d Z1 := fun F G σ H Q ok en th k => h F G σ H _ ok en th fun v H1 ok1 s1 r1 => by
  obtain ⟨rfl, vs, e, q⟩ := r1.v_err
  obtain ⟨u, e2, q2⟩ := q.look hl
  exact ⟨rfl, rfl, dx, vs, u, rfl, (cut_some e).2, e2, k u H1 ok1 s1 q2⟩
/-! ### objects -/
def putFD (f : Str) (d : D) : List (Str × D) → List (Str × D)
  | [] => [(f, d)]
  | (g, x) :: r => if g = f then (g, d) :: r else (g, x) :: putFD f d r
theorem rpFs_put {K : PySem.W.Frag} {B : Hp} {f : Str} {v : V} (q : Rp K B v d) : ∀ {vs : List (Str × V)} {fs : List (Str × D)}, RpFs K B vs fs → RpFs K B (putF f v vs) (putFD f d fs)
  | _, _, .nil => .cons q .nil
  | _, _, .cons (f := g) a r => by
    unfold putF putFD
    split
    · exact .cons q r
    · exact .cons a (rpFs_put q r)
theorem rpFs_len {K : PySem.W.Frag} {B : Hp} : ∀ {vs : List (Str × V)} {fs : List (Str × D)}, RpFs K B vs fs → vs.length = fs.length
  | _, _, .nil => rfl
  | _, _, .cons _ r => congrArg (· + 1) (rpFs_len r)
/-- o.f = e, o in the store -/
theorem run_fld {p C : Addr} {fs : List (Str × D)} {f : Str} (hv : Ev c tb Γ Z d Z1) (ha : Ev c ta Γ Z1 (.ptr p) Z1) (hz : (p, MO.ins C fs) ∈ Z1) (hc : Cls c.K C) (hn : NoAttr c.K C f) (hl : fs.length < 1000) (k : O.nx Γ (putZ Z1 p (.ins C (putFD f d fs)))) : Run c (sFld c.K ta tb f) O Γ Z := fun F G σ H e ok en fin =>
  hv F G σ H _ ok en fin.th fun v H1 ok1 s1 r1 => ha F G σ H1 _ ok1 (en.mono s1) fin.th fun w H2 ok2 s2 r2 => by
    cases r2.v_ptr
    obtain ⟨dx, vs, e2, q⟩ := ok2.ins hz
    obtain ⟨ok3, e3⟩ := ok2.put (p := p) (o := .ins C dx (putF f v vs)) (m := .ins C (putFD f d fs)) (List.mem_map.mpr ⟨_, hz, rfl⟩) ⟨_, _, rfl, rpFs_put (r1.mono s2) q⟩
    refine ⟨p, C, dx, vs, rfl, e2, hc, hn, by rw [rpFs_len q]; exact hl, fin.nx _ _ _ _ k ok3 ?_⟩
    rw [e3]
    exact en.mono (s1.trans s2)
/-- C(..), nothing is raised: __init__ gets the new instance in the store and leaves the fields fs -/
theorem ev_make {C : Addr} {S : SpD} {t : TA} {fs : List (Str × D)} (ha : EvA c t Γ Z ds Z1) (hS : ∀ p, S (.ptr p :: ds) [(p, .ins C [])] (fun e Z' => e = .non ∧ Z' = [(p, .ins C fs)]) (fun _ _ => False)) : Ev c (tMake C (Pr c.K S) [] E0 t) Γ Z (.obj C fs) Z1 := fun F G σ H Q ok en th k =>
  ha F G σ H _ ok en th fun vs H1 ok1 s1 r1 => fun x dx hx hdx ne => by
    have h1 : upd H1 dx (.own x) x = none := by rw [upd_ne (Ne.symm ne)]; exact hx
    obtain ⟨ok2, s2⟩ := (ok1.keep (same_new (o := .own x) hdx)).add (m := .ins C []) h1 (same_new (o := .ins C dx []) h1) upd_same ⟨dx, [], rfl, .nil⟩
    have s12 : Same (im F H1 Z1) (im F (upd (upd H1 dx (.own x)) x (.ins C dx [])) ((x, .ins C []) :: Z1)) := (cut_mono (same_new hdx)).trans s2
    rw [List.append_nil]
    refine pr_of (c := c.calm) (Γ := Γ) (σ := σ) (Za := [(x, MO.ins C [])]) (Zb := Z1) (ds := .ptr x :: ds) (P := fun e Z' => e = .non ∧ Z' = [(x, .ins C fs)]) (X := fun _ _ => False) ok2 (.cons (.ptr x) (r1.mono s12)) ((en.mono s1).mono s12) Thr.calm (hS x) (fun _ _ z => z.elim) fun d' Z' v H' p ok' s' r => ?_
    obtain ⟨rfl, rfl⟩ := p
    obtain ⟨d1, d2⟩ := OkS.drop ok'
    exact ⟨r.v_non, k _ H' d1 ((s1.trans s12).trans (s'.trans d2)) (OkS.frozenI ok')⟩
end
end L3

/-! L3K: short words for printed derivations. -/
namespace L3
open PySem PySem.Spec PyProof.Rows L2
abbrev rSubI : R2 := rI0 fun i j => .int (i - j)
abbrev rDivW : R2 := rI CDivW fun i j => .int (i / j)
abbrev rModI : R2 := rI (fun _ j => 0 < j) fun i j => .int (i % j)
abbrev rPowI : R2 := rI CPow fun i j => .int (i ^ j.toNat)
abbrev rNegI : V → Hp → VK → Prop := rU fun i => .int (-i)
abbrev rLtI : R2 := rI0 fun i j => .bl (decide (i < j))
abbrev rLeI : R2 := rI0 fun i j => .bl (decide (i ≤ j))
abbrev rGtI : R2 := rI0 fun i j => .bl (decide (j < i))
abbrev rGeI : R2 := rI0 fun i j => .bl (decide (j ≤ i))
theorem pe_gint {X : Cx} {x : Str} {n : Int} {pos : Pos} (hg : Gl X x) (hm : ∃ t, X.mg x = some (Value.int n t)) (hd : (x == ("__debug__" : Str)) = false := by decide) : PE X (.Name x pos) (tC (.int n)) := by
  obtain ⟨t, e⟩ := hm
  exact pe_glob hg e ⟨t, rfl⟩ hd
/-- an own error's class: C, whose __init__ (st) stores its one argument as the field f -/
structure OwnErr (K : PySem.W.Frag) (C : Addr) (f qual : Str) (st : Stmt) where
  fI : Addr
  gI : FuncData
  ox : OexC K C
  xf : XfC K C
  nf : PySem.W.findIn K (.ref C) f = some none
  ini : PySem.W.findIn K (.ref C) "__init__" = some (some (.ref fI))
  tin : PySem.W.typeIn K (.ref fI) = some (.type "function")
  fn : Fun K "__init__" qual st fI gI
  bd : Binds K gI ["self", f] []
/-- such an __init__ -/
theorem ex_init {P : Program} {w : World} {K : PySem.W.Frag} {mg : Str → Option Value} {base : Heap} {fI : Addr} {gI : FuncData} {f qual : Str} {st : Stmt} {p1 p2 p3 p4 : Pos} (F : Fun K "__init__" qual st fI gI) (S : FnScope ["self", f] ["self", f] (defScope st))
    (hb : defBody st = [.Assign [.Attribute (.Name "self" p1) f p2] (.Name f p3) p4]) (h1 : (defScope st).names.lookup f = some .local) (h0 : (defScope st).names.lookup ("self" : Str) = some .local) (hd : (f == ("__debug__" : Str)) = false) (hcd : (f == ("__classdict__" : Str)) = false) :
    FnOk P w K mg base (L2.CX P w) 1 fI gI ["self", f] (spEx K f) := by
  refine F.okX S (fun vs H Q E h => ?_) (fun cdv A outer s H vs Q E hr h => ?_)
  · obtain ⟨e, C, v, rfl, _⟩ := h
    rfl
  · refine ⟨tOst K f (tVar 0) (tVar 1), ?_, ?_⟩
    · rw [hb]
      exact pss_one (ps_ost (pe_var (i := 0) rfl (.inl h0) (by decide) (by decide)) (pe_var (i := 1) rfl (.inl h1) hd hcd))
    · obtain ⟨e, C, v, rfl, T, hf, he, q⟩ := h
      refine ⟨v, rfl, .ref e, rfl, e, C, rfl, T, hf, .inl ⟨he, fun dx hdx ne => ?_⟩⟩
      exact q dx hdx ne
theorem un_lt {k n : Nat} {A : Around} (hr : Room k A) (h : n ≤ 200) : A.units + n < cLine := by
  have := hr.un
  omega
end L3

/-! L3M: blocks statement by statement; steps found by the form of the goal. -/
namespace L3
open PySem PySem.Spec PyProof.Rows L2
section
variable {c : Cn} {O : Out} {Γ Γ' : Gam} {Z Z1 Z2 Z' : Sto} {t u : TS} {te ta tb : TE} {d x y : D} {m : MO} {ds es : List D} {tt : TT} {b : Bool} {g : TG}
theorem sq_asg {i : Nat} (h : Ev c te Γ Z d Z') (k : Run c u O (Γ.set i (some d)) Z') : Run c (tSeq (tAsg te (gName i)) u) O Γ Z := run_seq (run_asg h k)
theorem sq_asgT {vs : List Nat} (h : Ev c te Γ Z d Z') (hg : Tg c g Γ d Γ' vs) (k : Run c u O Γ' Z') : Run c (tSeq (tAsg te g) u) O Γ Z := run_seq (run_asgT h hg k)
theorem sq_asgN {i : Nat} (h : EvN c te Γ Z m Z') (k : ∀ p, p ∉ adr Z' → Run c u O (Γ.set i (some (.ptr p))) ((p, m) :: Z')) : Run c (tSeq (tAsg te (gName i)) u) O Γ Z := run_seq (run_asgN h k)
theorem sq_asgP {i : Nat} {P : D → Sto → Prop} (h : EvP c te Γ Z P) (k : ∀ d Z', P d Z' → Run c u O (Γ.set i (some d)) Z') : Run c (tSeq (tAsg te (gName i)) u) O Γ Z := run_seq (run_asgP h k)
theorem sq_drop (h : Ev c te Γ Z d Z') (k : Run c u O Γ Z') : Run c (tSeq (tDrop te) u) O Γ Z := run_seq (run_drop h k)
theorem sq_dropP {P : D → Sto → Prop} (h : EvP c te Γ Z P) (k : ∀ d Z', P d Z' → Run c u O Γ Z') : Run c (tSeq (tDrop te) u) O Γ Z := run_seq (run_dropP h k)
/-- if without else -/
theorem sq_if (h : EvT c tt Γ Z b Z') (h1 : b = true → Run c t { O with nx := fun Γ' Z' => Run c u O Γ' Z' } Γ Z') (h2 : b = false → Run c u O Γ Z') : Run c (tSeq (tIfS tt t tNext) u) O Γ Z :=
  run_seq (run_if h h1 fun e => run_next (h2 e))
/-- .. not taken -/
theorem sq_ifF (h : EvT c tt Γ Z false Z') (h2 : Run c u O Γ Z') : Run c (tSeq (tIfS tt t tNext) u) O Γ Z := sq_if h (fun e => nomatch e) fun _ => h2
theorem sq_ifT (h : EvT c tt Γ Z true Z') (h1 : Run c t { O with nx := fun Γ' Z' => Run c u O Γ' Z' } Γ Z') : Run c (tSeq (tIfS tt t tNext) u) O Γ Z := sq_if h (fun _ => h1) fun e => nomatch e
theorem run_ifF (h : EvT c tt Γ Z false Z') (h2 : Run c u O Γ Z') : Run c (tIfS tt t u) O Γ Z := run_if h (fun e => nomatch e) fun _ => h2
theorem run_ifT (h : EvT c tt Γ Z true Z') (h1 : Run c t O Γ Z') : Run c (tIfS tt t u) O Γ Z := run_if h (fun _ => h1) fun e => nomatch e
theorem sq_set {p : Addr} {k : Int} {j : Nat} {Z3 : Sto} (h : Ev c te Γ Z d Z1) (ho : Ev c ta Γ Z1 (.ptr p) Z2) (hi : Ev c tb Γ Z2 (.int k) Z3) (hz : (p, MO.lst ds) ∈ Z3) (hj : ixN ds.length k = some j) (kk : Run c u O Γ (putZ Z3 p (.lst (ds.set j d)))) : Run c (tSeq (tAsg te (gSub ta tb rSetL)) u) O Γ Z :=
  run_seq (run_set h ho hi hz hj kk)
/-- a for, then the rest: the word I turn by turn -/
theorem sq_for {wi : TI} {tl : TS} {n : Nat} {f : Nat → D} {Kp : Sto → Prop} (hw : WkK c wi Γ Z n f Z1 Kp) (I : Nat → Gam → Sto → Prop) (h0 : I 0 Γ Z1)
    (hs : ∀ i Γ' Z', i < n → I i Γ' Z' → ∃ Γ2 vs, Tg c g Γ' (f i) Γ2 vs ∧ Run c tl { nx := I (i + 1), rt := O.rt, bk := fun Γ' Z' => Run c u O Γ' Z', ct := I (i + 1) } Γ2 Z') (hd : ∀ Γ' Z', I n Γ' Z' → Run c u O Γ' Z') (hk : ∀ i Γ' Z', I i Γ' Z' → Kp Z' := by intros; trivial) : Run c (tSeq (tFor wi g tl) u) O Γ Z :=
  run_seq (run_for hw I h0 hs hd hk)
theorem sq_while {tt : TT} (I : Nat → Gam → Sto → Prop) (m0 : Nat) (h0 : I m0 Γ Z) (hs : ∀ m Γ' Z', I m Γ' Z' → ∃ b Z2, EvT c tt Γ' Z' b Z2 ∧
      (b = true → Run c t { nx := fun Γ Z => ∃ m', m' < m ∧ I m' Γ Z, rt := O.rt, bk := fun Γ' Z' => Run c u O Γ' Z', ct := fun Γ Z => ∃ m', m' < m ∧ I m' Γ Z } Γ' Z2) ∧ (b = false → Run c u O Γ' Z2)) : Run c (tSeq (tWhile tt t) u) O Γ Z :=
  run_seq (run_while I m0 h0 hs)
theorem ev_tup' {ta' : TA} (h : EvA c ta' Γ Z ds Z1) (hl : ds.length ≤ 1000000) : Ev c (tTup ta') Γ Z (.tup ds) Z1 := ev_tup h hl
theorem evN_lst' {ta' : TA} (h : EvA c ta' Γ Z ds Z1) (hl : ds.length ≤ 1000000) : EvN c (tLst ta') Γ Z (.lst ds) Z1 := evN_lst h hl
theorem len_le {n k : Nat} (h : Nat.ble n k = true) : n ≤ k := Nat.le_of_ble_eq_true h
theorem ev_lst {ta' : TA} (h : EvA c ta' Γ Z ds Z1) (hl : ds.length ≤ 1000000) : Ev c (tLst ta') Γ Z (.lst ds) Z1 := EvN.ev (evN_lst h hl)
theorem op_sub0 {i j : Int} : Op2 c rSubI (.int i) (.int j) Z (.int (i - j)) Z := op_II (g := fun i j => i - j)
theorem op_lt0 {i j : Int} : Op2 c rLtI (.int i) (.int j) Z (.bl (decide (i < j))) Z := op_IB (g := fun i j => decide (i < j))
theorem op_le0 {i j : Int} : Op2 c rLeI (.int i) (.int j) Z (.bl (decide (i ≤ j))) Z := op_IB (g := fun i j => decide (i ≤ j))
theorem op_gt0 {i j : Int} : Op2 c rGtI (.int i) (.int j) Z (.bl (decide (j < i))) Z := op_IB (g := fun i j => decide (j < i))
theorem op_ge0 {i j : Int} : Op2 c rGeI (.int i) (.int j) Z (.bl (decide (j ≤ i))) Z := op_IB (g := fun i j => decide (j ≤ i))
theorem op_mod0 {i j : Int} (h : 0 < j) : Op2 c rModI (.int i) (.int j) Z (.int (i % j)) Z := op_CI (C := fun _ j => 0 < j) (g := fun i j => i % j) h
theorem op_div0 {i j : Int} (h : CDivW i j) : Op2 c rDivW (.int i) (.int j) Z (.int (i / j)) Z := op_CI (C := CDivW) (g := fun i j => i / j) h
theorem op_pow0 {i j : Int} (h : CPow i j) : Op2 c rPowI (.int i) (.int j) Z (.int (i ^ j.toNat)) Z := op_CI (C := CPow) (g := fun i j => i ^ j.toNat) h
end
theorem Ev.dropZ {c : Cn} {te : TE} {Γ : Gam} {Z Z' : Sto} {d : D} {p : Addr} {m : MO} (h : Ev c te Γ Z d ((p, m) :: Z')) : Ev c te Γ Z d Z' := fun F G σ H Q ok en th k => h F G σ H Q ok en th fun v H' ok' s r => k v H' ok'.drop.1 (s.trans ok'.drop.2) (r.mono ok'.drop.2)
theorem EvP.dropZ {c : Cn} {te : TE} {Γ : Gam} {Z : Sto} {P P' : D → Sto → Prop} (h : EvP c te Γ Z P) (q : ∀ d Z', P d Z' → ∃ p m Z2, Z' = (p, m) :: Z2 ∧ P' d Z2) : EvP c te Γ Z P' := fun F G σ H Q ok en th k => h F G σ H Q ok en th fun d Z' v H' p ok' s r => by
  obtain ⟨a, m, Z2, rfl, p'⟩ := q d Z' p
  exact k d Z2 v H' p' ok'.drop.1 (s.trans ok'.drop.2) (r.mono ok'.drop.2)
theorem EvP.mono {c : Cn} {te : TE} {Γ : Gam} {Z : Sto} {P P' : D → Sto → Prop} (h : EvP c te Γ Z P) (q : ∀ d Z', P d Z' → P' d Z') : EvP c te Γ Z P' := fun F G σ H Q ok en th k => h F G σ H Q ok en th fun d Z' v H' p => k d Z' v H' (q d Z' p)
theorem Ev.frz {c : Cn} {te : TE} {Γ : Gam} {Z Z' : Sto} {ds : List D} {p : Addr} (h : Ev c te Γ Z (.ptr p) ((p, .lst ds) :: Z')) : Ev c te Γ Z (.lst ds) Z' := fun F G σ H Q ok en th k => h F G σ H Q ok en th fun v H' ok' s r => by
  cases r.v_ptr
  exact k _ H' ok'.drop.1 (s.trans ok'.drop.2) ok'.frozen
theorem rep_ints {n : Int} {z : Int} : List.replicate n.toNat (D.int z) = (List.replicate n.toNat z).map D.int := by rw [List.map_replicate]
theorem ev_dgetZ {c : Cn} {ta tb : TE} {Γ : Gam} {Z : Sto} {p : Addr} {od : Obj} {kvs : List (List Key × Int)} {k : List Key} {n : Int} (hd : Ev c ta Γ Z (.ptr p) Z) (hk : Ev c tb Γ Z (.tup (k.map kD)) Z) (hz : (p, MO.raw (.frz od (.dT (ivs kvs)))) ∈ Z) (hv : valD (ids kvs) k = some (.int n)) : Ev c (tDGet ta tb) Γ Z (.int n) Z := fun F G σ H Q ok en th kk =>
  hd F G σ H _ ok en th fun v H1 ok1 s1 r1 => hk F G σ H1 _ ok1 (en.mono s1) th fun kv H2 ok2 s2 r2 => by
    cases r1.v_ptr
    obtain ⟨b, xs, rfl, hb, rb⟩ := r2.v_tup
    cases rp_key rb
    have e3 := ok2.raw hz
    have kvok : ∀ (l : List (List Key × Int)) (B : Hp), KvOk c.K B (ivs l) (ids l) := fun l B => by
      induction l with
      | nil => exact .nil
      | cons a l ih => exact .cons (.int _) ih
    rcases (kvok kvs (im F H2 Z)).val (k := k) with ⟨a1, a2⟩ | ⟨v', d', a1, a2, q⟩
    · rw [hv] at a2; cases a2
    · rw [hv] at a2
      cases a2
      exact ⟨p, v', rfl, a1 ▸ .inr ⟨_, k, b, .inr ⟨od, e3⟩, rfl, (cut_some hb).2, rfl⟩, kk v' H2 ok2 (s1.trans s2) q⟩
theorem tg_more {c : Cn} {g : TG} {Γ Γ' : Gam} {d : D} {vs ws : List Nat} (h : Tg c g Γ d Γ' ws) (m : ∀ k ∈ ws, k ∈ vs) : Tg c g Γ d Γ' vs := fun F G σ H Z v Q ok en r k => h F G σ H Z v Q ok en r fun σ' e l q => k σ' e l fun j hj => q j fun z => hj (m j z)
/-! ### places in lists of ints; the store -/
theorem at0 {α : Type} {x : α} {r : List α} : atI (x :: r) 0 = some x := atI_nat (j := 0) rfl
theorem at1 {α : Type} {x y : α} {r : List α} : atI (x :: y :: r) 1 = some y := atI_nat (j := 1) rfl
theorem at_int {h : List Int} {j : Nat} (hj : j < h.length) : atI (h.map D.int) (j : Int) = some (.int (h.getD j 0)) := atI_nat (by
  rw [List.getElem?_map, List.getElem?_eq_getElem hj, List.getD_eq_getElem?_getD, List.getElem?_eq_getElem hj]
  rfl)
/-- None or a number -/
def oD : Option Nat → D
  | none => .non
  | some k => .int k
theorem at_opt {h : List (Option Nat)} {j : Nat} (hj : j < h.length) : atI (h.map oD) (j : Int) = some (oD (h.getD j none)) := atI_nat (by
  rw [List.getElem?_map, List.getElem?_eq_getElem hj, List.getD_eq_getElem?_getD, List.getElem?_eq_getElem hj]
  rfl)
theorem ix_nat {n j : Nat} (h : j < n) : ixN n (j : Int) = some j := by
  unfold ixN
  first
    | rw [if_pos ⟨by omega, by omega⟩]; rfl
    | simp [h]
theorem putZ_no {p : Addr} {m : MO} : ∀ {Z : Sto}, p ∉ adr Z → putZ Z p m = Z
  | [], _ => rfl
  | (q, a) :: Z, h => by
    have h1 : q ≠ p := fun e => h (by rw [← e]; exact List.mem_cons_self)
    show (if q = p then (p, m) else (q, a)) :: putZ Z p m = _
    rw [if_neg h1, putZ_no fun z => h (List.mem_cons_of_mem _ z)]
theorem putZ_hd {p : Addr} {a m : MO} {Z : Sto} (h : p ∉ adr Z) : putZ ((p, a) :: Z) p m = (p, m) :: Z := by
  show (if p = p then (p, m) else (p, a)) :: putZ Z p m = _
  rw [if_pos rfl, putZ_no h]
theorem putZ_tl {p q : Addr} {a m : MO} {Z : Sto} (h : q ≠ p) : putZ ((q, a) :: Z) p m = (q, a) :: putZ Z p m := by
  show (if q = p then (p, m) else (q, a)) :: putZ Z p m = _
  rw [if_neg h]
end L3

/-! L3N: what is small enough to be shown. -/
namespace L3
open PySem PySem.Spec PyProof.Rows L2
/-- d: flat to depth k, of weight w at most, its ints of 13 signs at most -/
structure Sm (k w : Nat) (d : PyData) : Prop where
  lay : d.canLay0 = true
  ish : d.intsShort 13 = true
  sh : d.showable = true
  nd : d.hasDict = false
  dp : d.depth ≤ k
  wt : d.weight ≤ w
def Num (i : Int) : Prop := i.natAbs < 10 ^ 12
theorem sm_int {i : Int} (h : Num i) : Sm 0 50 (.int i) := by
  have hl : i.natAbs.log2 < 40 := by
    by_cases h0 : i.natAbs = 0
    · rw [h0]; decide
    · rw [Nat.log2_lt h0]
      exact Nat.lt_trans h (by decide)
  refine ⟨rfl, ?_, ?_, rfl, by simp [PyData.depth], ?_⟩
  · simp only [PyData.intsShort, decide_eq_true_eq]
    have := int_text_length_le10 (a := i) (k := 12) (by decide) h
    show (Str.ofString (toString i)).length ≤ 13
    rw [PySem.ofString_length]
    exact this
  · simp only [PyData.showable, decide_eq_true_eq]
    omega
  · simp only [PyData.weight]
    split <;> omega
theorem sm_str {x : Str} (h : PyData.strOk x = true) : Sm 0 x.cps.size (.str x) := ⟨by simp [PyData.canLay0, h], by simp [PyData.intsShort], by simp [PyData.showable], rfl, by simp [PyData.depth], by simp [PyData.weight]⟩
theorem Sm.mono {k w k' w' : Nat} {d : PyData} (h : Sm k w d) (hk : k ≤ k') (hw : w ≤ w') : Sm k' w' d := ⟨h.lay, h.ish, h.sh, h.nd, Nat.le_trans h.dp hk, Nat.le_trans h.wt hw⟩
theorem sm_all {k w : Nat} : ∀ {ds : List PyData}, (∀ d ∈ ds, Sm k w d) → PyData.canLayAll0 ds = true ∧ PyData.intsShortAll 13 ds = true ∧ PyData.showableAll ds = true ∧ PyData.hasDictAll ds = false ∧ PyData.depthAll ds ≤ k ∧ PyData.weightAll ds ≤ ds.length * (w + 1)
  | [], _ => ⟨rfl, rfl, rfl, rfl, by simp [PyData.depthAll], by simp [PyData.weightAll]⟩
  | d :: ds, h => by
    have a := h d List.mem_cons_self
    obtain ⟨b1, b2, b3, b4, b5, b6⟩ := sm_all (ds := ds) fun e m => h e (List.mem_cons_of_mem _ m)
    refine ⟨by simp [PyData.canLayAll0, a.lay, b1], by simp [PyData.intsShortAll, a.ish, b2], by simp [PyData.showableAll, a.sh, b3], by simp [PyData.hasDictAll, a.nd, b4], ?_, ?_⟩
    · have := a.dp
      simp only [PyData.depthAll]
      omega
    · have := a.wt
      simp only [PyData.weightAll, List.length_cons]
      rw [Nat.succ_mul]
      omega
theorem sm_tup {k w : Nat} {ds : List PyData} (h : ∀ d ∈ ds, Sm k w d) : Sm (k + 1) (ds.length * (w + 1)) (.tuple ds) := by
  obtain ⟨b1, b2, b3, b4, b5, b6⟩ := sm_all h
  exact ⟨by simp [PyData.canLay0, b1], by simp [PyData.intsShort, b2], by simp [PyData.showable, b3], by simp [PyData.hasDict, b4], by simp only [PyData.depth]; omega, by simpa only [PyData.weight] using b6⟩
theorem sm_lst {k w : Nat} {ds : List PyData} (h : ∀ d ∈ ds, Sm k w d) : Sm (k + 1) (ds.length * (w + 1)) (.list ds) := by
  obtain ⟨b1, b2, b3, b4, b5, b6⟩ := sm_all h
  exact ⟨by simp [PyData.canLay0, b1], by simp [PyData.intsShort, b2], by simp [PyData.showable, b3], by simp [PyData.hasDict, b4], by simp only [PyData.depth]; omega, by simpa only [PyData.weight] using b6⟩
theorem Sm.shows {k w : Nat} {d : PyData} (h : Sm k w d) (hk : k ≤ 64) (hw : w ≤ 60000) : Shows d := by
  refine ⟨h.sh, h.nd, Nat.le_trans h.dp hk, ?_⟩
  have := PyData.shown_le 13 (by decide) d (PyData.leavesShort_of_canLay0 13 d h.lay h.ish)
  have := h.wt
  omega
theorem Sm.lays {k w : Nat} {d : PyData} (h : Sm k w d) : Lay k d := ⟨h.lay, h.dp⟩
theorem shown_ok (i : Int) : PyData.strOk (PyData.int i).shown = true := by
  unfold PyData.strOk
  rw [Array.all_eq_true_iff_forall_mem]
  intro c hc
  refine decide_eq_true ?_
  refine Nat.lt_of_not_le fun z => ?_
  exact shown_int_free' (k := c) ⟨by omega, .inr (by omega)⟩ i (Array.mem_toList_iff.mpr hc)
theorem py_tup (ds : List D) : py (.tup ds) = .tuple (ds.map py) := by simp only [py, pys_map]
theorem py_lst (ds : List D) : py (.lst ds) = .list (ds.map py) := by simp only [py, pys_map]
theorem sm_ints {ns : List Int} (h : ∀ i ∈ ns, Num i) : Sm 1 (ns.length * 51) (py (.tup (ns.map D.int))) := by
  rw [py_tup]
  have := sm_tup (k := 0) (w := 50) (ds := (ns.map D.int).map py) fun d hd => by
    obtain ⟨x, hx, rfl⟩ := List.mem_map.mp hd
    obtain ⟨i, hi, rfl⟩ := List.mem_map.mp hx
    simp only [py]
    exact sm_int (h i hi)
  simpa using this
theorem plain_ints (ns : List Int) : plain (.tup (ns.map D.int)) = true := by
  simp only [plain, plains_all]
  rw [List.all_eq_true]
  intro d hd
  obtain ⟨i, _, rfl⟩ := List.mem_map.mp hd
  rfl
theorem plain_intsL (ns : List Int) : plain (.lst (ns.map D.int)) = true := by
  simp only [plain, plains_all]
  rw [List.all_eq_true]
  intro d hd
  obtain ⟨i, _, rfl⟩ := List.mem_map.mp hd
  rfl
end L3

/-! L3Z: the law's end, for a promise that holds where no repr is under way. -/
namespace L3
open PySem PySem.Spec PyProof.Rows L2
section
variable {P : Program} {w : World} {K : PySem.W.Frag} {mg mb : Str → Option Value} {k : Nat} {f a : Addr} {fd : FuncData} {x : Str} {sp : Sp} {sh : Shared} {items : List Value} {nums : List Int}
/-- at one abstract heap V in which the script at most is told of -/
theorem end_at {V : Hp} (inK : K.In sh.heap) (glob : sh.heap.Ns mainGlobals mg) (blt : sh.heap.Ns builtinsNs mb) (eqb : ∀ y : Str, y ≠ "__name__" → mb y = bootBuiltins y) (nolim : sh.heap.NoLimit) (nogen : sh.gens = #[])
    (at_a : sh.heap.get? a = some { cls := .type "list", data := .seq items.toArray }) (room : Room k callerA) (pr : ∀ bs : Heap, K.In bs → bs.Ns mainGlobals mg → FnG P w K mg bs k f fd [x] sp) (bind1 : ∀ (s : Shared) (u : Value), BindsTo s fd ⟨[u], []⟩ [(x, u)])
    (wish : sp [.ref a] V (fun v _ => v = .bl true) fun _ _ _ => False) (only : Only V) (okV : HOk P w V sh.heap) (justA : ∀ b, V b ≠ none → b = a) (notK : V a ≠ none → K.lookup a = none) :
    codeAny (model P w) callerA (.call (.ref f) ⟨[.ref a], []⟩) (fun r s' => r = .ok (.ret (.bool true)) ∧ OldK sh.heap s'.heap ∧ s'.os = sh.os ∧ AllBare s'.gens) sh := by
  have free : ∀ {b : Addr} {o : Obj}, sh.heap.get? b = some o → (b = a → o.data ≠ .seq items.toArray) → V b = none := fun {b o} e ne => by
    refine Classical.byContradiction fun z => ?_
    have h := justA b z
    rw [h, at_a] at e
    have h2 := Option.some.inj e
    exact ne h (by rw [← h2])
  have stays : ∀ {b : Addr} {m : Str → Option Value}, sh.heap.Ns b m → (hidT sh.heap V).Ns b m := fun {b m} n => by
    obtain ⟨o, es, ep, e1, e2, e3⟩ := n
    refine ⟨o, es, ep, hidT_get e1 (free e1 fun _ z => ?_), e2, e3⟩
    rw [e2] at z
    cases z
  have inB : K.In (hidT sh.heap V) := fun b o e => by
    refine hidT_get (inK b o e) ?_
    refine Classical.byContradiction fun z => ?_
    have h := justA b z
    subst h
    rw [notK z] at e
    cases e
  obtain ⟨ml, nl1, nl2⟩ := nolim
  have modB : Mod K mg (hidT sh.heap V) := ⟨inB, stays glob, ⟨mb, stays blt, eqb⟩, ⟨ml, stays nl1, nl2⟩⟩
  have env : Env0 P w K mg (hidT sh.heap V) callerA [] sh V := { frames := rfl, mod := modB, bs := fun b o e => of_hidT e, bsz := Nat.le_of_eq (hidT_size _ _), funs := trivial, frf := fun b hb => (List.not_mem_nil hb).elim, hok := okV, bare := .of_eq nogen }
  have go := (pr _ inB (stays glob)).go callerA [] sh V ⟨[.ref a], []⟩ [.ref a] [.ref a] (fun v _ => v = .bl true) (fun _ _ _ => False) rfl room env (bind1 sh (.ref a)) (.cons rfl .nil) wish
  refine codeAny_mono go fun r s' h => ?_
  rcases r with e | fl
  · obtain ⟨_, _, _, _, _, _, _, _, _, _, _, _, z⟩ := (show L2.CX P w [] V sh (fun _ _ _ => False) e s' from h)
    exact z.elim
  · cases fl with
    | ret u =>
      obtain ⟨v, V', os, bare, un, ok', rv, ev⟩ := h
      have ev : v = .bl true := ev
      subst ev
      obtain rfl : u = Value.bool true := rv
      refine ⟨rfl, OldK.of_keep fun b o e => ?_, os, bare⟩
      by_cases z : V b = none
      · exact un.keep b o e z (fun m => (List.not_mem_nil m).elim) List.not_mem_nil
      · rcases only b with q | ⟨ob, xs, q⟩
        · exact absurd q z
        · have same1 := (okV b _ q).1
          have same2 := (ok' b _ (un.frzs b ob _ q)).1
          rw [same1] at e
          rw [same2, e]
    | next => exact (show False from h).elim
    | brk => exact (show False from h).elim
    | cont => exact (show False from h).elim
theorem end_call (inK : K.In sh.heap) (glob : sh.heap.Ns mainGlobals mg) (blt : sh.heap.Ns builtinsNs mb) (eqb : ∀ y : Str, y ≠ "__name__" → mb y = bootBuiltins y) (nolim : sh.heap.NoLimit) (nogen : sh.gens = #[])
    (at_a : sh.heap.get? a = some { cls := .type "list", data := .seq items.toArray }) (are : IntsAre items nums) (size : nums.length ≤ sizeLine) (room : Room k callerA) (pr : ∀ bs : Heap, K.In bs → bs.Ns mainGlobals mg → FnG P w K mg bs k f fd [x] sp)
    (bind1 : ∀ (s : Shared) (u : Value), BindsTo s fd ⟨[u], []⟩ [(x, u)]) (wish : ∀ h : Hp, Only h → SqL K h a (nums.map V.int) → sp [.ref a] h (fun v _ => v = .bl true) fun _ _ _ => False) :
    codeAny (model P w) callerA (.call (.ref f) ⟨[.ref a], []⟩) (fun r s' => r = .ok (.ret (.bool true)) ∧ OldK sh.heap s'.heap ∧ s'.os = sh.os ∧ AllBare s'.gens) sh := by
  have vs := vals_ints are
  have ln := are.length
  by_cases own : ∃ o, K.lookup a = some o
  · obtain ⟨o, lk⟩ := own
    have e := inK a o lk
    rw [at_a] at e
    cases e
    have none_ : Only (fun _ => none : Hp) := fun _ => .inl rfl
    have sq : SqL K (fun _ => none : Hp) a (nums.map V.int) := .inr ⟨_, items.toArray, _, lk, rfl, rfl, rfl, by rw [List.size_toArray, ln]; exact size, by simpa using vs⟩
    exact end_at inK glob blt eqb nolim nogen at_a room pr bind1 (wish _ none_ sq) none_ (fun b u z => by simp at z) (fun b z => absurd rfl z) fun z => absurd rfl z
  · have lk : K.lookup a = none := by
      cases e : K.lookup a with
      | none => rfl
      | some o => exact absurd ⟨o, e⟩ own
    let T : HO := .frz { cls := .type "list", data := .seq items.toArray } (.lst (nums.map V.int))
    let h : Hp := fun b => if b = a then some T else none
    have ha : h a = some T := if_pos rfl
    have hn : ∀ {b}, b ≠ a → h b = none := fun q => if_neg q
    have only : Only h := fun b => by
      by_cases q : b = a
      · subst q
        exact .inr ⟨_, _, ha⟩
      · exact .inl (hn q)
    have sq : SqL K h a (nums.map V.int) := .inl (.inr ⟨_, ha⟩)
    refine end_at inK glob blt eqb nolim nogen at_a room pr bind1 (wish h only sq) only (fun b u z => ?_) (fun b z => ?_) fun _ => lk
    · by_cases q : b = a
      · subst q
        rw [ha] at z
        cases z
        exact ⟨at_a, by rw [List.length_map]; exact size, items, _, vs, at_a⟩
      · rw [hn q] at z
        cases z
    · by_cases q : b = a
      · exact q
      · exact absurd (hn q) z
/-- what the head leaves, from such a promise -/
theorem walk_ofG {l : PySem.W.OpenLaw} {n k : Nat} {q : Program} {loose : List Str} {XP : (Str → Option Value) → Heap → Prop} {YP : World → Heap → Prop} {d : DefRec} {KW : Params → PySem.W.Frag} {spw : World → Sp} {x : Str} (most : l.most = some n) (few : n ≤ sizeLine) (plainD : d.params.defaults = []) (room : Room k callerA)
    (inY : ∀ (w : World) (h : Heap), YP w h → (KW w.params).In h)
    (pr : ∀ (w : World) (mg : Str → Option Value) (f : Addr) (h : Heap), (KW w.params).In h → h.Ns mainGlobals mg → mg d.name = some (.ref f) → ∃ fd : FuncData, (∀ (s : Shared) (u : Value), BindsTo s fd ⟨[u], []⟩ [(x, u)]) ∧ ∀ bs : Heap, (KW w.params).In bs → bs.Ns mainGlobals mg → FnG l.prog w (KW w.params) mg bs k f fd [x] (spw w))
    (wish : ∀ (w : World) (h : Hp) (a : Addr) (ns : List Int), ns.length ≤ n → Only h → SqL (KW w.params) h a (ns.map V.int) → spw w [.ref a] h (fun v _ => v = .bl true) fun _ _ _ => False) : PySem.W.WalkO q loose XP YP l.row.toRowW d [] (fun f vs => PySem.call f vs) :=
  Att.attach_call most plainD fun w s₀ s₁ mg mb f o pm cd doc a vs ns G Y ho hd hcd hmg hobj hints hlen hg => by
    have inK := inY w _ Y
    obtain ⟨fd, b1, p1⟩ := pr w mg f _ inK G.T.g hmg
    exact end_call inK G.T.g G.T.b G.T.builtins G.T.nolimit hg hobj hints (Nat.le_trans hlen few) room p1 b1 fun h o q => wish w h a ns hlen o q
end
end L3

namespace K57
open PySem PySem.Spec PyProof.Rows L2 L3

local macro_rules | `(tactic| walk_at "mem") => `(tactic| first | exact List.mem_cons_self | exact List.mem_cons_of_mem _ List.mem_cons_self | exact List.mem_cons_of_mem _ (List.mem_cons_of_mem _ List.mem_cons_self) | exact List.mem_cons_of_mem _ (List.mem_cons_of_mem _ (List.mem_cons_of_mem _ List.mem_cons_self)) | assumption)
local macro_rules | `(tactic| walk_at "seq") => `(tactic| first | assumption | exact Or.inl rfl | exact Or.inr (Or.inl rfl) | (apply seqIs_ptr; walk_at "mem"))
local macro_rules | `(tactic| walk_at "lst") => `(tactic| first | assumption | exact Or.inl rfl | (apply lstIs_ptr; walk_at "mem"))
local macro_rules | `(tactic| walk_at "at") => `(tactic| first | exact at0 | exact at1 | assumption | (apply at_int; first | assumption | omega) | (apply at_opt; first | assumption | omega))
local macro_rules | `(tactic| walk_at "ev1") => `(tactic| first
  | (refine (?_ : (_ : Prop)); assumption)
  | exact ev_var rfl | exact ev_int | exact ev_bl | exact ev_str | exact ev_non | exact ev_ty
  | exact ea_nil | apply ea_cons
  | apply ev_neg | (with_reducible apply ev_op) | apply ev_tup' | apply ev_fld | apply ev_cb
  | exact op_addI | exact op_sub0 | exact op_lt0 | exact op_le0 | exact op_gt0 | exact op_ge0 | exact op_eqAI | exact op_neAI | exact op_eqAS | exact op_neAS | exact op_isNon | exact op_notNon
  | apply op_mod0 | apply op_div0 | apply op_mulI
  | (apply op_ix; walk_at "seq"; walk_at "at")
  | apply et_not | apply et_and | apply et_or | apply et_test | apply et_B | apply ev_chain
  | (apply oc_len; walk_at "seq") | exact oc_max2 | exact oc_min2 | exact oc_abs | exact oc_int1
  | exact len_le rfl
  | exact rfl | (refine (?_ : _ = _ → EvT _ _ _ _ _ _); intro _) | (refine (?_ : _ = _ → Ev _ _ _ _ _ _); intro _) | (refine (?_ : _ = _ → Op2 _ _ _ _ _ _ _); intro _))
local macro_rules | `(tactic| walk_at "ev") => `(tactic| repeat' walk_at "ev1")

def topS (i : Nat) : Stmt := PySem.Challenge.pw_overlappedloops_k57_stages_for_slots.main.body.getD i (.Pass ⟨0, 0, 0, 0⟩)
abbrev s_BadNet : Stmt := inClass (topS 2) 0
abbrev N_BadNet : List Str := ["self", "at"]
abbrev P_BadNet : List Str := ["self", "at"]
theorem sc_BadNet : FnScope N_BadNet P_BadNet (defScope s_BadNet) := ⟨rfl, rfl, rfl, by decide +kernel, rfl, by decide +kernel, by decide +kernel⟩
abbrev s_BadSlots : Stmt := inClass (topS 3) 0
abbrev N_BadSlots : List Str := ["self", "row"]
abbrev P_BadSlots : List Str := ["self", "row"]
theorem sc_BadSlots : FnScope N_BadSlots P_BadSlots (defScope s_BadSlots) := ⟨rfl, rfl, rfl, by decide +kernel, rfl, by decide +kernel, by decide +kernel⟩
abbrev s_NoTick : Stmt := inClass (topS 4) 0
abbrev N_NoTick : List Str := ["self", "value"]
abbrev P_NoTick : List Str := ["self", "value"]
theorem sc_NoTick : FnScope N_NoTick P_NoTick (defScope s_NoTick) := ⟨rfl, rfl, rfl, by decide +kernel, rfl, by decide +kernel, by decide +kernel⟩
abbrev s_Net : Stmt := inClass (topS 10) 0
abbrev N_Net : List Str := ["self", "rows", "arcs", "at", "arc"]
abbrev P_Net : List Str := ["self", "rows", "arcs"]
theorem sc_Net : FnScope N_Net P_Net (defScope s_Net) := ⟨rfl, rfl, rfl, by decide +kernel, rfl, by decide +kernel, by decide +kernel⟩
abbrev s_arc_fits : Stmt := topS 11
abbrev N_arc_fits : List Str := ["rows", "arc", "u", "v", "dist", "lag"]
abbrev P_arc_fits : List Str := ["rows", "arc"]
theorem sc_arc_fits : FnScope N_arc_fits P_arc_fits (defScope s_arc_fits) := ⟨rfl, rfl, rfl, by decide +kernel, rfl, by decide +kernel, by decide +kernel⟩
abbrev s_kept_arcs : Stmt := topS 12
abbrev N_kept_arcs : List Str := ["arcs", "lags", "u", "v", "dist", "lag"]
abbrev P_kept_arcs : List Str := ["arcs"]
theorem sc_kept_arcs : FnScope N_kept_arcs P_kept_arcs (defScope s_kept_arcs) := ⟨rfl, rfl, rfl, by decide +kernel, rfl, by decide +kernel, by decide +kernel⟩
abbrev s_gain_ring : Stmt := topS 14
abbrev N_gain_ring : List Str := ["rows", "steps", "gains", "heights", "led_by", "row"]
abbrev P_gain_ring : List Str := ["rows", "steps", "gains"]
theorem sc_gain_ring : FnScope N_gain_ring P_gain_ring (defScope s_gain_ring) := ⟨rfl, rfl, rfl, by decide +kernel, rfl, by decide +kernel, by decide +kernel⟩
abbrev s_gain_heights : Stmt := topS 15
abbrev N_gain_heights : List Str := ["rows", "steps", "gains", "heights", "led_by", "_"]
abbrev P_gain_heights : List Str := ["rows", "steps", "gains"]
theorem sc_gain_heights : FnScope N_gain_heights P_gain_heights (defScope s_gain_heights) := ⟨rfl, rfl, rfl, by decide +kernel, rfl, by decide +kernel, by decide +kernel⟩
abbrev s_raise_once : Stmt := topS 16
abbrev N_raise_once : List Str := ["steps", "gains", "heights", "led_by", "rose", "at", "step", "height"]
abbrev P_raise_once : List Str := ["steps", "gains", "heights", "led_by"]
theorem sc_raise_once : FnScope N_raise_once P_raise_once (defScope s_raise_once) := ⟨rfl, rfl, rfl, by decide +kernel, rfl, by decide +kernel, by decide +kernel⟩
abbrev s_row_on_ring : Stmt := topS 17
abbrev N_row_on_ring : List Str := ["steps", "led_by", "seen_from", "start", "row"]
abbrev P_row_on_ring : List Str := ["steps", "led_by"]
theorem sc_row_on_ring : FnScope N_row_on_ring P_row_on_ring (defScope s_row_on_ring) := ⟨rfl, rfl, rfl, by decide +kernel, rfl, by decide +kernel, by decide +kernel⟩
abbrev s_ring_back : Stmt := topS 18
abbrev N_ring_back : List Str := ["steps", "led_by", "row", "ring"]
abbrev P_ring_back : List Str := ["steps", "led_by", "row"]
theorem sc_ring_back : FnScope N_ring_back P_ring_back (defScope s_ring_back) := ⟨rfl, rfl, rfl, by decide +kernel, rfl, by decide +kernel, by decide +kernel⟩
abbrev s_rounded_up : Stmt := topS 20
abbrev N_rounded_up : List Str := ["top", "bottom"]
abbrev P_rounded_up : List Str := ["top", "bottom"]
theorem sc_rounded_up : FnScope N_rounded_up P_rounded_up (defScope s_rounded_up) := ⟨rfl, rfl, rfl, by decide +kernel, rfl, by decide +kernel, by decide +kernel⟩
abbrev s_need_slots : Stmt := topS 24
abbrev N_need_slots : List Str := ["net", "ticks", "slots", "row", "slot"]
abbrev P_need_slots : List Str := ["net", "ticks", "slots"]
theorem sc_need_slots : FnScope N_need_slots P_need_slots (defScope s_need_slots) := ⟨rfl, rfl, rfl, by decide +kernel, rfl, by decide +kernel, by decide +kernel⟩
abbrev s_stage_gains : Stmt := topS 25
abbrev N_stage_gains : List Str := ["net", "ticks", "slots", "u", "v", "dist", "lag"]
abbrev P_stage_gains : List Str := ["net", "ticks", "slots"]
theorem sc_stage_gains : FnScope N_stage_gains P_stage_gains (defScope s_stage_gains) := ⟨rfl, rfl, rfl, by decide +kernel, rfl, by decide +kernel, by decide +kernel⟩
abbrev s_least_stages : Stmt := topS 26
abbrev N_least_stages : List Str := ["net", "ticks", "slots", "gains", "ring"]
abbrev P_least_stages : List Str := ["net", "ticks", "slots"]
theorem sc_least_stages : FnScope N_least_stages P_least_stages (defScope s_least_stages) := ⟨rfl, rfl, rfl, by decide +kernel, rfl, by decide +kernel, by decide +kernel⟩
abbrev s_greatest_stages : Stmt := topS 27
abbrev N_greatest_stages : List Str := ["net", "ticks", "slots", "most", "gains", "ring", "turned_back", "below", "u", "v", "_", "depth"]
abbrev P_greatest_stages : List Str := ["net", "ticks", "slots", "most"]
theorem sc_greatest_stages : FnScope N_greatest_stages P_greatest_stages (defScope s_greatest_stages) := ⟨rfl, rfl, rfl, by decide +kernel, rfl, by decide +kernel, by decide +kernel⟩
abbrev s__law_stock : Stmt := topS 29
abbrev N__law_stock : List Str := ["script", "digits", "cell", "left", "k", "many"]
abbrev P__law_stock : List Str := ["script"]
theorem sc__law_stock : FnScope N__law_stock P__law_stock (defScope s__law_stock) := ⟨rfl, rfl, rfl, by decide +kernel, rfl, by decide +kernel, by decide +kernel⟩
abbrev s__law_draw : Stmt := topS 30
abbrev N__law_draw : List Str := ["pool", "many"]
abbrev P__law_draw : List Str := ["pool", "many"]
theorem sc__law_draw : FnScope N__law_draw P__law_draw (defScope s__law_draw) := ⟨rfl, rfl, rfl, by decide +kernel, rfl, by decide +kernel, by decide +kernel⟩
abbrev s__law_kept_arcs : Stmt := topS 31
abbrev N__law_kept_arcs : List Str := ["arcs", "kept", "u", "v", "dist", "lag", "key"]
abbrev P__law_kept_arcs : List Str := ["arcs"]
theorem sc__law_kept_arcs : FnScope N__law_kept_arcs P__law_kept_arcs (defScope s__law_kept_arcs) := ⟨rfl, rfl, rfl, by decide +kernel, rfl, by decide +kernel, by decide +kernel⟩
abbrev s__law_gain : Stmt := topS 32
abbrev N__law_gain : List Str := ["step", "ticks", "slots", "u", "v", "dist", "lag"]
abbrev P__law_gain : List Str := ["step", "ticks", "slots"]
theorem sc__law_gain : FnScope N__law_gain P__law_gain (defScope s__law_gain) := ⟨rfl, rfl, rfl, by decide +kernel, rfl, by decide +kernel, by decide +kernel⟩
abbrev s__law_least : Stmt := topS 33
abbrev N__law_least : List Str := ["arcs", "many", "ticks", "slots", "stages", "sweep", "rose", "step", "low"]
abbrev P__law_least : List Str := ["arcs", "many", "ticks", "slots"]
theorem sc__law_least : FnScope N__law_least P__law_least (defScope s__law_least) := ⟨rfl, rfl, rfl, by decide +kernel, rfl, by decide +kernel, by decide +kernel⟩
abbrev s__law_greatest : Stmt := topS 34
abbrev N__law_greatest : List Str := ["arcs", "many", "ticks", "slots", "most", "stages", "sweep", "fell", "step", "high"]
abbrev P__law_greatest : List Str := ["arcs", "many", "ticks", "slots", "most"]
theorem sc__law_greatest : FnScope N__law_greatest P__law_greatest (defScope s__law_greatest) := ⟨rfl, rfl, rfl, by decide +kernel, rfl, by decide +kernel, by decide +kernel⟩
abbrev s__law_ring_right : Stmt := topS 35
abbrev N__law_ring_right : List Str := ["told", "arcs", "many", "ticks", "slots", "steps", "own", "names", "gain", "k", "v", "x"]
abbrev P__law_ring_right : List Str := ["told", "arcs", "many", "ticks", "slots"]
theorem sc__law_ring_right : FnScope N__law_ring_right P__law_ring_right (defScope s__law_ring_right) := ⟨rfl, rfl, rfl, by decide +kernel, rfl, by decide +kernel, by decide +kernel⟩
abbrev s__law_stages_hold : Stmt := topS 36
abbrev N__law_stages_hold : List Str := ["arcs", "stages", "ticks", "slots", "step", "rise"]
abbrev P__law_stages_hold : List Str := ["arcs", "stages", "ticks", "slots"]
theorem sc__law_stages_hold : FnScope N__law_stages_hold P__law_stages_hold (defScope s__law_stages_hold) := ⟨rfl, rfl, rfl, by decide +kernel, rfl, by decide +kernel, by decide +kernel⟩
abbrev s__law_both_hold : Stmt := topS 37
abbrev N__law_both_hold : List Str := ["rows", "arcs", "ticks", "slots", "most", "kept", "due", "net", "passed", "told", "other", "again", "ring", "low", "lesser", "greater", "stage", "v"]
abbrev P__law_both_hold : List Str := ["rows", "arcs", "ticks", "slots", "most"]
theorem sc__law_both_hold : FnScope N__law_both_hold P__law_both_hold (defScope s__law_both_hold) := ⟨rfl, rfl, rfl, by decide +kernel, rfl, by decide +kernel, by decide +kernel⟩
abbrev s__law_word : Stmt := topS 38
abbrev N__law_word : List Str := ["net", "ticks", "slots", "most", "least", "e"]
abbrev P__law_word : List Str := ["net", "ticks", "slots", "most", "least"]
theorem sc__law_word : FnScope N__law_word P__law_word (defScope s__law_word) := ⟨rfl, rfl, rfl, by decide +kernel, rfl, by decide +kernel, by decide +kernel⟩
abbrev s__law_refusals : Stmt := topS 39
abbrev N__law_refusals : List Str := ["rows", "arcs", "ticks", "slots", "at", "net", "v", "least", "value", "told", "spoilt", "k"]
abbrev P__law_refusals : List Str := ["rows", "arcs", "ticks", "slots", "at"]
theorem sc__law_refusals : FnScope N__law_refusals P__law_refusals (defScope s__law_refusals) := ⟨rfl, rfl, rfl, by decide +kernel, rfl, by decide +kernel, by decide +kernel⟩
abbrev s__law_made_holds : Stmt := topS 40
abbrev N__law_made_holds : List Str := ["rows", "ticks", "most", "lag", "slots", "net", "told", "k"]
abbrev P__law_made_holds : List Str := ["rows", "ticks", "most", "lag"]
theorem sc__law_made_holds : FnScope N__law_made_holds P__law_made_holds (defScope s__law_made_holds) := ⟨rfl, rfl, rfl, by decide +kernel, rfl, by decide +kernel, by decide +kernel⟩
abbrev s_law : Stmt := topS 41
abbrev N_law : List Str := ["script", "pool", "rows", "great", "arcs", "k", "u", "v", "dist", "lag", "ticks", "slots", "most", "at"]
abbrev P_law : List Str := ["script"]
theorem sc_law : FnScope N_law P_law (defScope s_law) := ⟨rfl, rfl, rfl, by decide +kernel, rfl, by decide +kernel, by decide +kernel⟩
def kUleast_stages : List Value → List Value → List Value
  | [], [x0, x1, x2] => [x2, x1, x0]
  | _, _ => []
def kVleast_stages : List V → List V → List V
  | [], [x0, x1, x2] => [x2, x1, x0]
  | _, _ => []
/-- what is known of the written part: builtins, constants, errors, classes, defs -/
structure Tx (K : PySem.W.Frag) (mg : Str → Option Value) where
  b_len : mg "len" = none
  b_enumerate : mg "enumerate" = none
  b_max : mg "max" = none
  b_tuple : mg "tuple" = none
  b_sorted : mg "sorted" = none
  b_range : mg "range" = none
  b_abs : mg "abs" = none
  b_int : mg "int" = none
  b_isinstance : mg "isinstance" = none
  b_repr : mg "repr" = none
  b_list : mg "list" = none
  b_min : mg "min" = none
  c_MOST_ROWS : ∃ t, mg "MOST_ROWS" = some (Value.int 8 t)
  c_MOST_ARCS : ∃ t, mg "MOST_ARCS" = some (Value.int 200 t)
  c_MOST_DIST : ∃ t, mg "MOST_DIST" = some (Value.int 40 t)
  c_MOST_LAG : ∃ t, mg "MOST_LAG" = some (Value.int 40 t)
  c_MOST_TICKS : ∃ t, mg "MOST_TICKS" = some (Value.int 200 t)
  c_MOST_STAGE : ∃ t, mg "MOST_STAGE" = some (Value.int 1000 t)
  a_BadNet : Addr
  m_BadNet : mg "BadNet" = some (.ref a_BadNet)
  o_BadNet : OwnErr K a_BadNet "at" "BadNet.__init__" s_BadNet
  a_BadSlots : Addr
  m_BadSlots : mg "BadSlots" = some (.ref a_BadSlots)
  o_BadSlots : OwnErr K a_BadSlots "row" "BadSlots.__init__" s_BadSlots
  a_NoTick : Addr
  m_NoTick : mg "NoTick" = some (.ref a_NoTick)
  o_NoTick : OwnErr K a_NoTick "value" "NoTick.__init__" s_NoTick
  a_Net : Addr
  f_Net : Addr
  g_Net : FuncData
  m_Net : mg "Net" = some (.ref a_Net)
  k_Net : Mk K a_Net f_Net
  cl_Net : Cls K a_Net
  n_Net_rows : NoAttr K a_Net "rows"
  n_Net_arcs : NoAttr K a_Net "arcs"
  t_Net : Fun K "__init__" "Net.__init__" s_Net f_Net g_Net
  i_Net : Binds K g_Net P_Net []
  f_arc_fits : Addr
  g_arc_fits : FuncData
  m_arc_fits : mg "arc_fits" = some (.ref f_arc_fits)
  t_arc_fits : Fun K "arc_fits" "arc_fits" s_arc_fits f_arc_fits g_arc_fits
  d_arc_fits : Binds K g_arc_fits P_arc_fits []
  f_kept_arcs : Addr
  g_kept_arcs : FuncData
  m_kept_arcs : mg "kept_arcs" = some (.ref f_kept_arcs)
  t_kept_arcs : Fun K "kept_arcs" "kept_arcs" s_kept_arcs f_kept_arcs g_kept_arcs
  d_kept_arcs : Binds K g_kept_arcs P_kept_arcs []
  f_gain_ring : Addr
  g_gain_ring : FuncData
  m_gain_ring : mg "gain_ring" = some (.ref f_gain_ring)
  t_gain_ring : Fun K "gain_ring" "gain_ring" s_gain_ring f_gain_ring g_gain_ring
  d_gain_ring : Binds K g_gain_ring P_gain_ring []
  f_gain_heights : Addr
  g_gain_heights : FuncData
  m_gain_heights : mg "gain_heights" = some (.ref f_gain_heights)
  t_gain_heights : Fun K "gain_heights" "gain_heights" s_gain_heights f_gain_heights g_gain_heights
  d_gain_heights : Binds K g_gain_heights P_gain_heights []
  f_raise_once : Addr
  g_raise_once : FuncData
  m_raise_once : mg "raise_once" = some (.ref f_raise_once)
  t_raise_once : Fun K "raise_once" "raise_once" s_raise_once f_raise_once g_raise_once
  d_raise_once : Binds K g_raise_once P_raise_once []
  f_row_on_ring : Addr
  g_row_on_ring : FuncData
  m_row_on_ring : mg "row_on_ring" = some (.ref f_row_on_ring)
  t_row_on_ring : Fun K "row_on_ring" "row_on_ring" s_row_on_ring f_row_on_ring g_row_on_ring
  d_row_on_ring : Binds K g_row_on_ring P_row_on_ring []
  f_ring_back : Addr
  g_ring_back : FuncData
  m_ring_back : mg "ring_back" = some (.ref f_ring_back)
  t_ring_back : Fun K "ring_back" "ring_back" s_ring_back f_ring_back g_ring_back
  d_ring_back : Binds K g_ring_back P_ring_back []
  f_rounded_up : Addr
  g_rounded_up : FuncData
  m_rounded_up : mg "rounded_up" = some (.ref f_rounded_up)
  t_rounded_up : Fun K "rounded_up" "rounded_up" s_rounded_up f_rounded_up g_rounded_up
  d_rounded_up : Binds K g_rounded_up P_rounded_up []
  f_need_slots : Addr
  g_need_slots : FuncData
  m_need_slots : mg "need_slots" = some (.ref f_need_slots)
  t_need_slots : Fun K "need_slots" "need_slots" s_need_slots f_need_slots g_need_slots
  d_need_slots : Binds K g_need_slots P_need_slots []
  f_stage_gains : Addr
  g_stage_gains : FuncData
  m_stage_gains : mg "stage_gains" = some (.ref f_stage_gains)
  t_stage_gains : Fun K "stage_gains" "stage_gains" s_stage_gains f_stage_gains g_stage_gains
  d_stage_gains : Binds K g_stage_gains P_stage_gains []
  f_least_stages : Addr
  g_least_stages : FuncData
  m_least_stages : mg "least_stages" = some (.ref f_least_stages)
  t_least_stages : Fun K "least_stages" "least_stages" s_least_stages f_least_stages g_least_stages
  d_least_stages : Binds K g_least_stages P_least_stages []
  f_greatest_stages : Addr
  g_greatest_stages : FuncData
  m_greatest_stages : mg "greatest_stages" = some (.ref f_greatest_stages)
  t_greatest_stages : Fun K "greatest_stages" "greatest_stages" s_greatest_stages f_greatest_stages g_greatest_stages
  d_greatest_stages : Binds K g_greatest_stages P_greatest_stages []
  f__law_stock : Addr
  g__law_stock : FuncData
  m__law_stock : mg "_law_stock" = some (.ref f__law_stock)
  t__law_stock : Fun K "_law_stock" "_law_stock" s__law_stock f__law_stock g__law_stock
  d__law_stock : Binds K g__law_stock P__law_stock []
  f__law_draw : Addr
  g__law_draw : FuncData
  m__law_draw : mg "_law_draw" = some (.ref f__law_draw)
  t__law_draw : Fun K "_law_draw" "_law_draw" s__law_draw f__law_draw g__law_draw
  d__law_draw : Binds K g__law_draw P__law_draw []
  f__law_kept_arcs : Addr
  g__law_kept_arcs : FuncData
  m__law_kept_arcs : mg "_law_kept_arcs" = some (.ref f__law_kept_arcs)
  t__law_kept_arcs : Fun K "_law_kept_arcs" "_law_kept_arcs" s__law_kept_arcs f__law_kept_arcs g__law_kept_arcs
  d__law_kept_arcs : Binds K g__law_kept_arcs P__law_kept_arcs []
  f__law_gain : Addr
  g__law_gain : FuncData
  m__law_gain : mg "_law_gain" = some (.ref f__law_gain)
  t__law_gain : Fun K "_law_gain" "_law_gain" s__law_gain f__law_gain g__law_gain
  d__law_gain : Binds K g__law_gain P__law_gain []
  f__law_least : Addr
  g__law_least : FuncData
  m__law_least : mg "_law_least" = some (.ref f__law_least)
  t__law_least : Fun K "_law_least" "_law_least" s__law_least f__law_least g__law_least
  d__law_least : Binds K g__law_least P__law_least []
  f__law_greatest : Addr
  g__law_greatest : FuncData
  m__law_greatest : mg "_law_greatest" = some (.ref f__law_greatest)
  t__law_greatest : Fun K "_law_greatest" "_law_greatest" s__law_greatest f__law_greatest g__law_greatest
  d__law_greatest : Binds K g__law_greatest P__law_greatest []
  f__law_ring_right : Addr
  g__law_ring_right : FuncData
  m__law_ring_right : mg "_law_ring_right" = some (.ref f__law_ring_right)
  t__law_ring_right : Fun K "_law_ring_right" "_law_ring_right" s__law_ring_right f__law_ring_right g__law_ring_right
  d__law_ring_right : Binds K g__law_ring_right P__law_ring_right []
  f__law_stages_hold : Addr
  g__law_stages_hold : FuncData
  m__law_stages_hold : mg "_law_stages_hold" = some (.ref f__law_stages_hold)
  t__law_stages_hold : Fun K "_law_stages_hold" "_law_stages_hold" s__law_stages_hold f__law_stages_hold g__law_stages_hold
  d__law_stages_hold : Binds K g__law_stages_hold P__law_stages_hold []
  f__law_both_hold : Addr
  g__law_both_hold : FuncData
  m__law_both_hold : mg "_law_both_hold" = some (.ref f__law_both_hold)
  t__law_both_hold : Fun K "_law_both_hold" "_law_both_hold" s__law_both_hold f__law_both_hold g__law_both_hold
  d__law_both_hold : Binds K g__law_both_hold P__law_both_hold []
  f__law_word : Addr
  g__law_word : FuncData
  m__law_word : mg "_law_word" = some (.ref f__law_word)
  t__law_word : Fun K "_law_word" "_law_word" s__law_word f__law_word g__law_word
  d__law_word : Binds K g__law_word P__law_word []
  f__law_refusals : Addr
  g__law_refusals : FuncData
  m__law_refusals : mg "_law_refusals" = some (.ref f__law_refusals)
  t__law_refusals : Fun K "_law_refusals" "_law_refusals" s__law_refusals f__law_refusals g__law_refusals
  d__law_refusals : Binds K g__law_refusals P__law_refusals []
  f__law_made_holds : Addr
  g__law_made_holds : FuncData
  m__law_made_holds : mg "_law_made_holds" = some (.ref f__law_made_holds)
  t__law_made_holds : Fun K "_law_made_holds" "_law_made_holds" s__law_made_holds f__law_made_holds g__law_made_holds
  d__law_made_holds : Binds K g__law_made_holds P__law_made_holds []
  f_law : Addr
  g_law : FuncData
  m_law : mg "law" = some (.ref f_law)
  t_law : Fun K "law" "law" s_law f_law g_law
  d_law : Binds K g_law P_law []
  kb_least_stages : KBinds K g_least_stages P_least_stages ["slots", "ticks", "net"] kUleast_stages kVleast_stages
/-! ### Net -/
def t_Net (K : PySem.W.Frag) (E : XK) (aBadNet : Addr) (parc_fits : Sp) (pkept_arcs : Sp) : TS :=
    (tSeq (tIfS (tOr (tNot (tTest (tChain rLeI rLeI (tC (.int 1)) (tVar 1) (tC (.int 8))))) (tTest (tOp rGtI (tCB (rLen1 K) (tCons (tVar 2) tNil)) (tC (.int 200))))) (tRaise1 K aBadNet "at" (tCons (tUn rNegI (tC (.int 1))) tNil) (fun cls d _ H => E cls d H)) tNext)
    (tSeq (tFor (iEnumS K (tCons (tVar 2) tNil)) (gTup K 2 (gCons (gName 3) (gCons (gName 4) gNil))) (tIfS (tNot (tB (tCallG parc_fits (fun _ => E) (tCons (tVar 1) (tCons (tVar 4) tNil))))) (tRaise1 K aBadNet "at" (tCons (tVar 3) tNil) (fun cls d _ H => E cls d H)) tNext))
    (tSeq (sFld K (tVar 0) (tVar 1) "rows")
    (sFld K (tVar 0) (tCallG pkept_arcs (fun _ => E) (tCons (tVar 2) tNil)) "arcs"))))
theorem dv_Net {P : Program} {w : World} {K : PySem.W.Frag} {mg : Str → Option Value} {base : Heap} (T : Tx K mg) {parc_fits : Sp} (harc_fits : FnOk P w K mg base (L2.CX P w) 1 T.f_arc_fits T.g_arc_fits P_arc_fits parc_fits) {pkept_arcs : Sp} (hkept_arcs : FnOk P w K mg base (L2.CX P w) 1 T.f_kept_arcs T.g_kept_arcs P_kept_arcs pkept_arcs) {f : Addr} {cdv : Value} {A : Around} {outer : List Env} {s : Shared} {H : Hp} {E : XK} (hr : Room 2 (A.deeper (envOfC "Net.__init__" (defScope s_Net) s.heap.objs.size f cdv))) :
    PSs (cxOf (L2.CX P w) P w K mg base N_Net "Net.__init__" (defScope s_Net) f cdv A outer s H E) (defBody s_Net) (t_Net K E T.a_BadNet parc_fits pkept_arcs) :=
    (pss_cons (ps_if (PW.pt (pw_or (pt_not (pt_chain op_le op_le pe_int (pv 1) (pe_gint (by rfl) T.c_MOST_ROWS))) (pw_or1 (pt_cmpR op_gt (pe_callB call_len_seq (by rfl) T.b_len (by decide +kernel) (pa_cons (pv 2) pa_nil)) (pe_gint (by rfl) T.c_MOST_ARCS) (nomark _))))) (pss_one (ps_raise rfl (takes_of rfl rfl rfl rfl) (pmk_oex T.o_BadNet.ox T.o_BadNet.ini T.o_BadNet.tin (ex_init T.o_BadNet.fn sc_BadNet rfl rfl rfl (by decide) (by decide)) (hr.mono (by decide)) T.o_BadNet.bd .nil passL (by rfl) T.m_BadNet (pa_cons (pe_un un_neg pe_int) pa_nil)))) pss_nil)
    (pss_cons (ps_for (passes_of rfl) rfl (pi_enumS (by rfl) T.b_enumerate (pa_cons (pv 2) pa_nil)) (pg_tup rfl (pgs_cons (pg_name (i := 3) sc_Net.nd rfl (by first | exact Or.inl rfl | exact Or.inr rfl)) (pgs_cons (pg_name (i := 4) sc_Net.nd rfl (by first | exact Or.inl rfl | exact Or.inr rfl)) pgs_nil))) (pss_one (ps_if (pt_not (pt_val (pe_callF harc_fits (hr.mono (by decide)) (by rfl) T.m_arc_fits T.t_arc_fits.kp T.d_arc_fits (pass_def (takes_of rfl rfl rfl rfl)) (pa_cons (pv 1) (pa_cons (pv 4) pa_nil))))) (pss_one (ps_raise rfl (takes_of rfl rfl rfl rfl) (pmk_oex T.o_BadNet.ox T.o_BadNet.ini T.o_BadNet.tin (ex_init T.o_BadNet.fn sc_BadNet rfl rfl rfl (by decide) (by decide)) (hr.mono (by decide)) T.o_BadNet.bd .nil passL (by rfl) T.m_BadNet (pa_cons (pv 3) pa_nil)))) pss_nil)))
    (pss_cons (ps_fld (pv 0) (pv 1) rfl)
    (pss_one (ps_fld (pv 0) (pe_callF hkept_arcs (hr.mono (by decide)) (by rfl) T.m_kept_arcs T.t_kept_arcs.kp T.d_kept_arcs (pass_def (takes_of rfl rfl rfl rfl)) (pa_cons (pv 2) pa_nil)) rfl)))))
/-! ### arc_fits -/
def t_arc_fits (K : PySem.W.Frag) (E : XK) : TS :=
    (tSeq (tIfS (tTest (tOp (rNeA K) (tCB (rLen1 K) (tCons (tVar 1) tNil)) (tC (.int 4)))) (tRet (tC (.bl false))) tNext)
    (tSeq (tAsg (tVar 1) (gTup K 4 (gCons (gName 2) (gCons (gName 3) (gCons (gName 4) (gCons (gName 5) gNil))))))
    (tSeq (tIfS (tNot (tAnd (tTest (tChain rLeI rLtI (tC (.int 0)) (tVar 2) (tVar 0))) (tTest (tChain rLeI rLtI (tC (.int 0)) (tVar 3) (tVar 0))))) (tRet (tC (.bl false))) tNext)
    (tSeq (tIfS (tNot (tAnd (tTest (tChain rLeI rLeI (tC (.int 0)) (tVar 4) (tC (.int 40)))) (tTest (tChain rLeI rLeI (tC (.int 0)) (tVar 5) (tC (.int 40)))))) (tRet (tC (.bl false))) tNext)
    (tRet (tOrV (tOp rGtI (tVar 4) (tC (.int 0))) (tOp rLtI (tVar 2) (tVar 3))))))))
theorem dv_arc_fits {P : Program} {w : World} {K : PySem.W.Frag} {mg : Str → Option Value} {base : Heap} (T : Tx K mg) {f : Addr} {cdv : Value} {A : Around} {outer : List Env} {s : Shared} {H : Hp} {E : XK} (hr : Room 0 (A.deeper (envOfC "arc_fits" (defScope s_arc_fits) s.heap.objs.size f cdv))) :
    PSs (cxOf (L2.CX P w) P w K mg base N_arc_fits "arc_fits" (defScope s_arc_fits) f cdv A outer s H E) (defBody s_arc_fits) (t_arc_fits K E) :=
    (pss_cons (ps_if (pt_cmpR (op_neA (un_lt hr (by decide))) (pe_callB call_len_seq (by rfl) T.b_len (by decide +kernel) (pa_cons (pv 1) pa_nil)) pe_int (nomark _)) (pss_one (ps_ret pe_bl)) pss_nil)
    (pss_cons (ps_asg (pv 1) (pg_tup rfl (pgs_cons (pg_name (i := 2) sc_arc_fits.nd rfl (by first | exact Or.inl rfl | exact Or.inr rfl)) (pgs_cons (pg_name (i := 3) sc_arc_fits.nd rfl (by first | exact Or.inl rfl | exact Or.inr rfl)) (pgs_cons (pg_name (i := 4) sc_arc_fits.nd rfl (by first | exact Or.inl rfl | exact Or.inr rfl)) (pgs_cons (pg_name (i := 5) sc_arc_fits.nd rfl (by first | exact Or.inl rfl | exact Or.inr rfl)) pgs_nil))))))
    (pss_cons (ps_if (pt_not (PW.pt (pw_and (pt_chain op_le op_lt pe_int (pv 2) (pv 0)) (pw_and1 (pt_chain op_le op_lt pe_int (pv 3) (pv 0)))))) (pss_one (ps_ret pe_bl)) pss_nil)
    (pss_cons (ps_if (pt_not (PW.pt (pw_and (pt_chain op_le op_le pe_int (pv 4) (pe_gint (by rfl) T.c_MOST_DIST)) (pw_and1 (pt_chain op_le op_le pe_int (pv 5) (pe_gint (by rfl) T.c_MOST_LAG)))))) (pss_one (ps_ret pe_bl)) pss_nil)
    (pss_one (ps_ret (pe_or (pe_cmpR op_gt (pv 4) pe_int (nomark _)) (pe_one (pe_cmpR op_lt (pv 2) (pv 3) (nomark _))))))))))
/-! ### kept_arcs -/
def t_kept_arcs (K : PySem.W.Frag) (E : XK) : TS :=
    (tSeq (tAsg tDNewT (gName 1))
    (tSeq (tFor (iSeq K (tVar 0)) (gTup K 4 (gCons (gName 2) (gCons (gName 3) (gCons (gName 4) (gCons (gName 5) gNil))))) (sDPut (tVar 1) (tTup (tCons (tVar 2) (tCons (tVar 3) (tCons (tVar 4) tNil)))) (tCB rMx2 (tCons (tVar 5) (tCons (tDGet2 (tVar 1) (tTup (tCons (tVar 2) (tCons (tVar 3) (tCons (tVar 4) tNil)))) (tC (.int 0))) tNil)))))
    (tRet (tCB (rTupOf K) (tCons (tLc (iSeq K (tCB (rSortK K) (tCons (tVar 1) tNil))) (gTup K 3 (gCons (gName 2) (gCons (gName 3) (gCons (gName 4) gNil)))) tYes (tTup (tCons (tVar 2) (tCons (tVar 3) (tCons (tVar 4) (tCons (tDGet (tVar 1) (tTup (tCons (tVar 2) (tCons (tVar 3) (tCons (tVar 4) tNil))))) tNil))))) [2, 3, 4]) tNil)))))
theorem dv_kept_arcs {P : Program} {w : World} {K : PySem.W.Frag} {mg : Str → Option Value} {base : Heap} (T : Tx K mg) {f : Addr} {cdv : Value} {A : Around} {outer : List Env} {s : Shared} {H : Hp} {E : XK} (hr : Room 0 (A.deeper (envOfC "kept_arcs" (defScope s_kept_arcs) s.heap.objs.size f cdv))) :
    PSs (cxOf (L2.CX P w) P w K mg base N_kept_arcs "kept_arcs" (defScope s_kept_arcs) f cdv A outer s H E) (defBody s_kept_arcs) (t_kept_arcs K E) :=
    (pss_cons (ps_set (i := 1) sc_kept_arcs.nd rfl (by first | exact Or.inl rfl | exact Or.inr rfl) pe_dnewT)
    (pss_cons (ps_for (passes_of rfl) rfl (pi_seq (pv 0)) (pg_tup rfl (pgs_cons (pg_name (i := 2) sc_kept_arcs.nd rfl (by first | exact Or.inl rfl | exact Or.inr rfl)) (pgs_cons (pg_name (i := 3) sc_kept_arcs.nd rfl (by first | exact Or.inl rfl | exact Or.inr rfl)) (pgs_cons (pg_name (i := 4) sc_kept_arcs.nd rfl (by first | exact Or.inl rfl | exact Or.inr rfl)) (pgs_cons (pg_name (i := 5) sc_kept_arcs.nd rfl (by first | exact Or.inl rfl | exact Or.inr rfl)) pgs_nil))))) (pss_one (ps_dput (un_lt hr (by decide)) (pv 1) (pe_tup (pa_cons (pv 2) (pa_cons (pv 3) (pa_cons (pv 4) pa_nil)))) (pe_callB (call_max2 rfl) (by rfl) T.b_max (by decide +kernel) (pa_cons (pv 5) (pa_cons (pe_dget2 (un_lt hr (by decide)) (pv 1) (pe_tup (pa_cons (pv 2) (pa_cons (pv 3) (pa_cons (pv 4) pa_nil)))) pe_int ⟨rfl, rfl, rfl, rfl⟩) pa_nil))) rfl)))
    (pss_one (ps_ret (pe_callTy call_tuple_of (by rfl) T.b_tuple (by decide +kernel) (pa_cons (pe_lc (own := [("u", 2), ("v", 3), ("dist", 4)]) (g := (gTup K 3 (gCons (gName 2) (gCons (gName 3) (gCons (gName 4) gNil))))) (tt := tYes) rfl sc_kept_arcs.nd (pi_seq (pe_callB (cr_sortK rfl) (by rfl) T.b_sorted (by decide +kernel) (pa_cons (pv 1) pa_nil))) (blkOk_by (own := [("u", 2), ("v", 3), ("dist", 4)]) (N := N_kept_arcs) (sc := defScope s_kept_arcs) (by decide +kernel)) (fun _ _ _ _ _ => (pg_tup rfl (pgs_cons (pg_name (i := 2) sc_kept_arcs.nd rfl (by first | exact Or.inl rfl | exact Or.inr rfl)) (pgs_cons (pg_name (i := 3) sc_kept_arcs.nd rfl (by first | exact Or.inl rfl | exact Or.inr rfl)) (pgs_cons (pg_name (i := 4) sc_kept_arcs.nd rfl (by first | exact Or.inl rfl | exact Or.inr rfl)) pgs_nil))))) (fun _ _ _ _ _ => pts_nil) (fun _ _ _ _ _ => (pe_tup (pa_cons (pv 2) (pa_cons (pv 3) (pa_cons (pv 4) (pa_cons (pe_dget (un_lt hr (by decide)) (pv 1) (pe_tup (pa_cons (pv 2) (pa_cons (pv 3) (pa_cons (pv 4) pa_nil)))) (fun _ _ => rfl)) pa_nil))))))) pa_nil))))))
/-! ### gain_ring -/
def t_gain_ring (K : PySem.W.Frag) (E : XK) (praise_once : Sp) (prow_on_ring : Sp) (pring_back : Sp) : TS :=
    (tSeq (tAsg (tOp (rMulA K) (tLst (tCons (tC (.int 0)) tNil)) (tVar 0)) (gName 3))
    (tSeq (tAsg (tOp (rMulA K) (tLst (tCons (tC .non) tNil)) (tVar 0)) (gName 4))
    (tSeq (tWhile (tB (tCallG praise_once (fun _ => E) (tCons (tVar 1) (tCons (tVar 2) (tCons (tVar 3) (tCons (tVar 4) tNil)))))) (tSeq (tAsg (tCallG prow_on_ring (fun _ => E) (tCons (tVar 1) (tCons (tVar 4) tNil))) (gName 5))
    (tIfS (tTest (tOp rNotN (tVar 5) (tC .non))) (tRet (tCallG pring_back (fun _ => E) (tCons (tVar 1) (tCons (tVar 4) (tCons (tVar 5) tNil))))) tNext)))
    (tRet (tC .non)))))
theorem dv_gain_ring {P : Program} {w : World} {K : PySem.W.Frag} {mg : Str → Option Value} {base : Heap} (T : Tx K mg) {praise_once : Sp} (hraise_once : FnG P w K mg base 1 T.f_raise_once T.g_raise_once P_raise_once praise_once) {prow_on_ring : Sp} (hrow_on_ring : FnG P w K mg base 1 T.f_row_on_ring T.g_row_on_ring P_row_on_ring prow_on_ring) {pring_back : Sp} (hring_back : FnG P w K mg base 1 T.f_ring_back T.g_ring_back P_ring_back pring_back) {f : Addr} {cdv : Value} {A : Around} {outer : List Env} {s : Shared} {H : Hp} {E : XK} (hg : A.guards = some []) (hr : Room 1 (A.deeper (envOfC "gain_ring" (defScope s_gain_ring) s.heap.objs.size f cdv))) :
    PSs (cxOf (L2.CX P w) P w K mg base N_gain_ring "gain_ring" (defScope s_gain_ring) f cdv A outer s H E) (defBody s_gain_ring) (t_gain_ring K E praise_once prow_on_ring pring_back) :=
    (pss_cons (ps_set (i := 3) sc_gain_ring.nd rfl (by first | exact Or.inl rfl | exact Or.inr rfl) (pe_op op_mulA (pe_lst (pa_cons pe_int pa_nil)) (pv 0)))
    (pss_cons (ps_set (i := 4) sc_gain_ring.nd rfl (by first | exact Or.inl rfl | exact Or.inr rfl) (pe_op op_mulA (pe_lst (pa_cons pe_non pa_nil)) (pv 0)))
    (pss_cons (ps_while (passes_of rfl) (pt_val (pe_callG hraise_once hg (hr.mono (by decide)) (by rfl) T.m_raise_once T.t_raise_once.kp T.d_raise_once (pass_def (takes_of rfl rfl rfl rfl)) (pa_cons (pv 1) (pa_cons (pv 2) (pa_cons (pv 3) (pa_cons (pv 4) pa_nil)))))) (pss_cons (ps_set (i := 5) sc_gain_ring.nd rfl (by first | exact Or.inl rfl | exact Or.inr rfl) (pe_callG hrow_on_ring hg (hr.mono (by decide)) (by rfl) T.m_row_on_ring T.t_row_on_ring.kp T.d_row_on_ring (pass_def (takes_of rfl rfl rfl rfl)) (pa_cons (pv 1) (pa_cons (pv 4) pa_nil))))
    (pss_one (ps_if (pt_cmpR op_notN (pv 5) pe_non (nomark _)) (pss_one (ps_ret (pe_callG hring_back hg (hr.mono (by decide)) (by rfl) T.m_ring_back T.t_ring_back.kp T.d_ring_back (pass_def (takes_of rfl rfl rfl rfl)) (pa_cons (pv 1) (pa_cons (pv 4) (pa_cons (pv 5) pa_nil)))))) pss_nil))))
    (pss_one (ps_ret pe_non)))))
/-! ### gain_heights -/
def t_gain_heights (K : PySem.W.Frag) (E : XK) (praise_once : Sp) : TS :=
    (tSeq (tAsg (tOp (rMulA K) (tLst (tCons (tC (.int 0)) tNil)) (tVar 0)) (gName 3))
    (tSeq (tAsg (tOp (rMulA K) (tLst (tCons (tC .non) tNil)) (tVar 0)) (gName 4))
    (tSeq (tFor (iRng1 (tCons (tVar 0) tNil)) (gName 5) (tIfS (tNot (tB (tCallG praise_once (fun _ => E) (tCons (tVar 1) (tCons (tVar 2) (tCons (tVar 3) (tCons (tVar 4) tNil))))))) tBreak tNext))
    (tRet (tVar 3)))))
theorem dv_gain_heights {P : Program} {w : World} {K : PySem.W.Frag} {mg : Str → Option Value} {base : Heap} (T : Tx K mg) {praise_once : Sp} (hraise_once : FnG P w K mg base 1 T.f_raise_once T.g_raise_once P_raise_once praise_once) {f : Addr} {cdv : Value} {A : Around} {outer : List Env} {s : Shared} {H : Hp} {E : XK} (hg : A.guards = some []) (hr : Room 1 (A.deeper (envOfC "gain_heights" (defScope s_gain_heights) s.heap.objs.size f cdv))) :
    PSs (cxOf (L2.CX P w) P w K mg base N_gain_heights "gain_heights" (defScope s_gain_heights) f cdv A outer s H E) (defBody s_gain_heights) (t_gain_heights K E praise_once) :=
    (pss_cons (ps_set (i := 3) sc_gain_heights.nd rfl (by first | exact Or.inl rfl | exact Or.inr rfl) (pe_op op_mulA (pe_lst (pa_cons pe_int pa_nil)) (pv 0)))
    (pss_cons (ps_set (i := 4) sc_gain_heights.nd rfl (by first | exact Or.inl rfl | exact Or.inr rfl) (pe_op op_mulA (pe_lst (pa_cons pe_non pa_nil)) (pv 0)))
    (pss_cons (ps_for (passes_of rfl) rfl (pi_range1 (by rfl) T.b_range (pa_cons (pv 0) pa_nil)) (pg_name (i := 5) sc_gain_heights.nd rfl (by first | exact Or.inl rfl | exact Or.inr rfl)) (pss_one (ps_if (pt_not (pt_val (pe_callG hraise_once hg (hr.mono (by decide)) (by rfl) T.m_raise_once T.t_raise_once.kp T.d_raise_once (pass_def (takes_of rfl rfl rfl rfl)) (pa_cons (pv 1) (pa_cons (pv 2) (pa_cons (pv 3) (pa_cons (pv 4) pa_nil))))))) (pss_one ps_break) pss_nil)))
    (pss_one (ps_ret (pv 3))))))
/-! ### raise_once -/
def t_raise_once (K : PySem.W.Frag) (E : XK) : TS :=
    (tSeq (tAsg (tC (.bl false)) (gName 4))
    (tSeq (tFor (iEnumS K (tCons (tVar 0) tNil)) (gTup K 2 (gCons (gName 5) (gCons (gName 6) gNil))) (tSeq (tAsg (tOp (rAddA K) (tOp (rIxQ K) (tVar 2) (tOp (rIxQ K) (tVar 6) (tC (.int 0)))) (tOp (rIxQ K) (tVar 1) (tVar 5))) (gName 7))
    (tIfS (tTest (tOp rGtI (tVar 7) (tOp (rIxQ K) (tVar 2) (tOp (rIxQ K) (tVar 6) (tC (.int 1)))))) (tSeq (tAsg (tVar 7) (gSub (tVar 2) (tOp (rIxQ K) (tVar 6) (tC (.int 1))) rSetL))
    (tSeq (tAsg (tVar 5) (gSub (tVar 3) (tOp (rIxQ K) (tVar 6) (tC (.int 1))) rSetL))
    (tAsg (tC (.bl true)) (gName 4)))) tNext)))
    (tRet (tVar 4))))
theorem dv_raise_once {P : Program} {w : World} {K : PySem.W.Frag} {mg : Str → Option Value} {base : Heap} (T : Tx K mg) {f : Addr} {cdv : Value} {A : Around} {outer : List Env} {s : Shared} {H : Hp} {E : XK} (hr : Room 0 (A.deeper (envOfC "raise_once" (defScope s_raise_once) s.heap.objs.size f cdv))) :
    PSs (cxOf (L2.CX P w) P w K mg base N_raise_once "raise_once" (defScope s_raise_once) f cdv A outer s H E) (defBody s_raise_once) (t_raise_once K E) :=
    (pss_cons (ps_set (i := 4) sc_raise_once.nd rfl (by first | exact Or.inl rfl | exact Or.inr rfl) pe_bl)
    (pss_cons (ps_for (passes_of rfl) rfl (pi_enumS (by rfl) T.b_enumerate (pa_cons (pv 0) pa_nil)) (pg_tup rfl (pgs_cons (pg_name (i := 5) sc_raise_once.nd rfl (by first | exact Or.inl rfl | exact Or.inr rfl)) (pgs_cons (pg_name (i := 6) sc_raise_once.nd rfl (by first | exact Or.inl rfl | exact Or.inr rfl)) pgs_nil))) (pss_cons (ps_set (i := 7) sc_raise_once.nd rfl (by first | exact Or.inl rfl | exact Or.inr rfl) (pe_op op_addA (pe_ix ix_q (pv 2) (pe_ix ix_q (pv 6) pe_int (fun _ _ => rfl)) (fun _ _ => rfl)) (pe_ix ix_q (pv 1) (pv 5) (fun _ _ => rfl))))
    (pss_one (ps_if (pt_cmpR op_gt (pv 7) (pe_ix ix_q (pv 2) (pe_ix ix_q (pv 6) pe_int (fun _ _ => rfl)) (fun _ _ => rfl)) (nomark _)) (pss_cons (ps_asg (pv 7) (pg_sub (pv 2) (pe_ix ix_q (pv 6) pe_int (fun _ _ => rfl)) set_list))
    (pss_cons (ps_asg (pv 5) (pg_sub (pv 3) (pe_ix ix_q (pv 6) pe_int (fun _ _ => rfl)) set_list))
    (pss_one (ps_set (i := 4) sc_raise_once.nd rfl (by first | exact Or.inl rfl | exact Or.inr rfl) pe_bl)))) pss_nil))))
    (pss_one (ps_ret (pv 4)))))
/-! ### row_on_ring -/
def t_row_on_ring (K : PySem.W.Frag) (E : XK) : TS :=
    (tSeq (tAsg (tOp (rMulA K) (tLst (tCons (tC .non) tNil)) (tCB (rLen1 K) (tCons (tVar 1) tNil))) (gName 2))
    (tSeq (tFor (iRng1 (tCons (tCB (rLen1 K) (tCons (tVar 1) tNil)) tNil)) (gName 3) (tSeq (tAsg (tVar 3) (gName 4))
    (tSeq (tWhile (tAnd (tTest (tOp rNotN (tOp (rIxQ K) (tVar 1) (tVar 4)) (tC .non))) (tTest (tOp rIsN (tOp (rIxQ K) (tVar 2) (tVar 4)) (tC .non)))) (tSeq (tAsg (tVar 3) (gSub (tVar 2) (tVar 4) rSetL))
    (tAsg (tOp (rIxQ K) (tOp (rIxQ K) (tVar 0) (tOp (rIxQ K) (tVar 1) (tVar 4))) (tC (.int 0))) (gName 4))))
    (tIfS (tAnd (tTest (tOp rNotN (tOp (rIxQ K) (tVar 1) (tVar 4)) (tC .non))) (tTest (tOp (rEqA K) (tOp (rIxQ K) (tVar 2) (tVar 4)) (tVar 3)))) (tRet (tVar 4)) tNext))))
    (tRet (tC .non))))
theorem dv_row_on_ring {P : Program} {w : World} {K : PySem.W.Frag} {mg : Str → Option Value} {base : Heap} (T : Tx K mg) {f : Addr} {cdv : Value} {A : Around} {outer : List Env} {s : Shared} {H : Hp} {E : XK} (hr : Room 0 (A.deeper (envOfC "row_on_ring" (defScope s_row_on_ring) s.heap.objs.size f cdv))) :
    PSs (cxOf (L2.CX P w) P w K mg base N_row_on_ring "row_on_ring" (defScope s_row_on_ring) f cdv A outer s H E) (defBody s_row_on_ring) (t_row_on_ring K E) :=
    (pss_cons (ps_set (i := 2) sc_row_on_ring.nd rfl (by first | exact Or.inl rfl | exact Or.inr rfl) (pe_op op_mulA (pe_lst (pa_cons pe_non pa_nil)) (pe_callB call_len_seq (by rfl) T.b_len (by decide +kernel) (pa_cons (pv 1) pa_nil))))
    (pss_cons (ps_for (passes_of rfl) rfl (pi_range1 (by rfl) T.b_range (pa_cons (pe_callB call_len_seq (by rfl) T.b_len (by decide +kernel) (pa_cons (pv 1) pa_nil)) pa_nil)) (pg_name (i := 3) sc_row_on_ring.nd rfl (by first | exact Or.inl rfl | exact Or.inr rfl)) (pss_cons (ps_set (i := 4) sc_row_on_ring.nd rfl (by first | exact Or.inl rfl | exact Or.inr rfl) (pv 3))
    (pss_cons (ps_while (passes_of rfl) (PW.pt (pw_and (pt_cmpR op_notN (pe_ix ix_q (pv 1) (pv 4) (fun _ _ => rfl)) pe_non (nomark _)) (pw_and1 (pt_cmpR op_isN (pe_ix ix_q (pv 2) (pv 4) (fun _ _ => rfl)) pe_non (nomark _))))) (pss_cons (ps_asg (pv 3) (pg_sub (pv 2) (pv 4) set_list))
    (pss_one (ps_set (i := 4) sc_row_on_ring.nd rfl (by first | exact Or.inl rfl | exact Or.inr rfl) (pe_ix ix_q (pe_ix ix_q (pv 0) (pe_ix ix_q (pv 1) (pv 4) (fun _ _ => rfl)) (fun _ _ => rfl)) pe_int (fun _ _ => rfl))))))
    (pss_one (ps_if (PW.pt (pw_and (pt_cmpR op_notN (pe_ix ix_q (pv 1) (pv 4) (fun _ _ => rfl)) pe_non (nomark _)) (pw_and1 (pt_cmpR (op_eqA (un_lt hr (by decide))) (pe_ix ix_q (pv 2) (pv 4) (fun _ _ => rfl)) (pv 3) (nomark _))))) (pss_one (ps_ret (pv 4))) pss_nil)))))
    (pss_one (ps_ret pe_non))))
/-! ### ring_back -/
def t_ring_back (K : PySem.W.Frag) (E : XK) : TS :=
    (tSeq (tAsg (tLst (tCons (tOp (rIxQ K) (tVar 0) (tOp (rIxQ K) (tVar 1) (tVar 2))) tNil)) (gName 3))
    (tSeq (tWhile (tTest (tOp (rNeA K) (tOp (rIxQ K) (tOp (rIxQ K) (tVar 3) (tUn rNegI (tC (.int 1)))) (tC (.int 0))) (tVar 2))) (tDrop (tBM K "list" rAppend (tVar 3) (tCons (tOp (rIxQ K) (tVar 0) (tOp (rIxQ K) (tVar 1) (tOp (rIxQ K) (tOp (rIxQ K) (tVar 3) (tUn rNegI (tC (.int 1)))) (tC (.int 0))))) tNil))))
    (tRet (tRevL K (tVar 3)))))
theorem dv_ring_back {P : Program} {w : World} {K : PySem.W.Frag} {mg : Str → Option Value} {base : Heap} (T : Tx K mg) {f : Addr} {cdv : Value} {A : Around} {outer : List Env} {s : Shared} {H : Hp} {E : XK} (hr : Room 0 (A.deeper (envOfC "ring_back" (defScope s_ring_back) s.heap.objs.size f cdv))) :
    PSs (cxOf (L2.CX P w) P w K mg base N_ring_back "ring_back" (defScope s_ring_back) f cdv A outer s H E) (defBody s_ring_back) (t_ring_back K E) :=
    (pss_cons (ps_set (i := 3) sc_ring_back.nd rfl (by first | exact Or.inl rfl | exact Or.inr rfl) (pe_lst (pa_cons (pe_ix ix_q (pv 0) (pe_ix ix_q (pv 1) (pv 2) (fun _ _ => rfl)) (fun _ _ => rfl)) pa_nil)))
    (pss_cons (ps_while (passes_of rfl) (pt_cmpR (op_neA (un_lt hr (by decide))) (pe_ix ix_q (pe_ix ix_q (pv 3) (pe_un un_neg pe_int) (fun _ _ => rfl)) pe_int (fun _ _ => rfl)) (pv 2) (nomark _)) (pss_one (ps_expr (pe_bm PySem.F.plainAttrs_list PySem.F.slot_list_append PySem.F.type_list_append mt_append (pv 3) (pa_cons (pe_ix ix_q (pv 0) (pe_ix ix_q (pv 1) (pe_ix ix_q (pe_ix ix_q (pv 3) (pe_un un_neg pe_int) (fun _ _ => rfl)) pe_int (fun _ _ => rfl)) (fun _ _ => rfl)) (fun _ _ => rfl)) pa_nil)))))
    (pss_one (ps_ret (pe_revL (pv 3))))))
/-! ### rounded_up -/
def t_rounded_up (K : PySem.W.Frag) (E : XK) : TS :=
    (tRet (tUn rNegI (tOp rDivW (tUn rNegI (tVar 0)) (tVar 1))))
theorem dv_rounded_up {P : Program} {w : World} {K : PySem.W.Frag} {mg : Str → Option Value} {base : Heap} (T : Tx K mg) {f : Addr} {cdv : Value} {A : Around} {outer : List Env} {s : Shared} {H : Hp} {E : XK} (hr : Room 0 (A.deeper (envOfC "rounded_up" (defScope s_rounded_up) s.heap.objs.size f cdv))) :
    PSs (cxOf (L2.CX P w) P w K mg base N_rounded_up "rounded_up" (defScope s_rounded_up) f cdv A outer s H E) (defBody s_rounded_up) (t_rounded_up K E) :=
    (pss_one (ps_ret (pe_un un_neg (pe_op op_fdivW (pe_un un_neg (pv 0)) (pv 1)))))
/-! ### need_slots -/
def t_need_slots (K : PySem.W.Frag) (E : XK) (aNoTick : Addr) (aBadSlots : Addr) : TS :=
    (tSeq (tIfS (tNot (tTest (tChain rLeI rLeI (tC (.int 1)) (tVar 1) (tC (.int 200))))) (tRaise1 K aNoTick "value" (tCons (tVar 1) tNil) (fun cls d _ H => E cls d H)) tNext)
    (tSeq (tIfS (tTest (tOp (rNeA K) (tCB (rLen1 K) (tCons (tVar 2) tNil)) (tFld K (tVar 0) "rows"))) (tRaise1 K aBadSlots "row" (tCons (tUn rNegI (tC (.int 1))) tNil) (fun cls d _ H => E cls d H)) tNext)
    (tFor (iEnumS K (tCons (tVar 2) tNil)) (gTup K 2 (gCons (gName 3) (gCons (gName 4) gNil))) (tIfS (tNot (tTest (tChain rLeI rLtI (tC (.int 0)) (tVar 4) (tVar 1)))) (tRaise1 K aBadSlots "row" (tCons (tVar 3) tNil) (fun cls d _ H => E cls d H)) tNext))))
theorem dv_need_slots {P : Program} {w : World} {K : PySem.W.Frag} {mg : Str → Option Value} {base : Heap} (T : Tx K mg) {f : Addr} {cdv : Value} {A : Around} {outer : List Env} {s : Shared} {H : Hp} {E : XK} (hr : Room 2 (A.deeper (envOfC "need_slots" (defScope s_need_slots) s.heap.objs.size f cdv))) :
    PSs (cxOf (L2.CX P w) P w K mg base N_need_slots "need_slots" (defScope s_need_slots) f cdv A outer s H E) (defBody s_need_slots) (t_need_slots K E T.a_NoTick T.a_BadSlots) :=
    (pss_cons (ps_if (pt_not (pt_chain op_le op_le pe_int (pv 1) (pe_gint (by rfl) T.c_MOST_TICKS))) (pss_one (ps_raise rfl (takes_of rfl rfl rfl rfl) (pmk_oex T.o_NoTick.ox T.o_NoTick.ini T.o_NoTick.tin (ex_init T.o_NoTick.fn sc_NoTick rfl rfl rfl (by decide) (by decide)) (hr.mono (by decide)) T.o_NoTick.bd .nil passL (by rfl) T.m_NoTick (pa_cons (pv 1) pa_nil)))) pss_nil)
    (pss_cons (ps_if (pt_cmpR (op_neA (un_lt hr (by decide))) (pe_callB call_len_seq (by rfl) T.b_len (by decide +kernel) (pa_cons (pv 2) pa_nil)) (pe_fld (pv 0) rfl) (nomark _)) (pss_one (ps_raise rfl (takes_of rfl rfl rfl rfl) (pmk_oex T.o_BadSlots.ox T.o_BadSlots.ini T.o_BadSlots.tin (ex_init T.o_BadSlots.fn sc_BadSlots rfl rfl rfl (by decide) (by decide)) (hr.mono (by decide)) T.o_BadSlots.bd .nil passL (by rfl) T.m_BadSlots (pa_cons (pe_un un_neg pe_int) pa_nil)))) pss_nil)
    (pss_one (ps_for (passes_of rfl) rfl (pi_enumS (by rfl) T.b_enumerate (pa_cons (pv 2) pa_nil)) (pg_tup rfl (pgs_cons (pg_name (i := 3) sc_need_slots.nd rfl (by first | exact Or.inl rfl | exact Or.inr rfl)) (pgs_cons (pg_name (i := 4) sc_need_slots.nd rfl (by first | exact Or.inl rfl | exact Or.inr rfl)) pgs_nil))) (pss_one (ps_if (pt_not (pt_chain op_le op_lt pe_int (pv 4) (pv 1))) (pss_one (ps_raise rfl (takes_of rfl rfl rfl rfl) (pmk_oex T.o_BadSlots.ox T.o_BadSlots.ini T.o_BadSlots.tin (ex_init T.o_BadSlots.fn sc_BadSlots rfl rfl rfl (by decide) (by decide)) (hr.mono (by decide)) T.o_BadSlots.bd .nil passL (by rfl) T.m_BadSlots (pa_cons (pv 3) pa_nil)))) pss_nil))))))
/-! ### stage_gains -/
def t_stage_gains (K : PySem.W.Frag) (E : XK) (prounded_up : Sp) : TS :=
    (tRet (tLc (iSeq K (tFld K (tVar 0) "arcs")) (gTup K 4 (gCons (gName 3) (gCons (gName 4) (gCons (gName 5) (gCons (gName 6) gNil))))) tYes (tOp rSubI (tCallG prounded_up (fun _ => E0) (tCons (tOp rSubI (tOp (rAddA K) (tVar 6) (tOp (rIxQ K) (tVar 2) (tVar 3))) (tOp (rIxQ K) (tVar 2) (tVar 4))) (tCons (tVar 1) tNil))) (tVar 5)) [3, 4, 5, 6]))
theorem dv_stage_gains {P : Program} {w : World} {K : PySem.W.Frag} {mg : Str → Option Value} {base : Heap} (T : Tx K mg) {prounded_up : Sp} (hrounded_up : FnG P w K mg base 1 T.f_rounded_up T.g_rounded_up P_rounded_up prounded_up) {f : Addr} {cdv : Value} {A : Around} {outer : List Env} {s : Shared} {H : Hp} {E : XK} (hg : A.guards = some []) (hr : Room 1 (A.deeper (envOfC "stage_gains" (defScope s_stage_gains) s.heap.objs.size f cdv))) :
    PSs (cxOf (L2.CX P w) P w K mg base N_stage_gains "stage_gains" (defScope s_stage_gains) f cdv A outer s H E) (defBody s_stage_gains) (t_stage_gains K E prounded_up) :=
    (pss_one (ps_ret (pe_lc (own := [("u", 3), ("v", 4), ("dist", 5), ("lag", 6)]) (g := (gTup K 4 (gCons (gName 3) (gCons (gName 4) (gCons (gName 5) (gCons (gName 6) gNil)))))) (tt := tYes) rfl sc_stage_gains.nd (pi_seq (pe_fld (pv 0) rfl)) (blkOk_by (own := [("u", 3), ("v", 4), ("dist", 5), ("lag", 6)]) (N := N_stage_gains) (sc := defScope s_stage_gains) (by decide +kernel)) (fun _ _ _ _ _ => (pg_tup rfl (pgs_cons (pg_name (i := 3) sc_stage_gains.nd rfl (by first | exact Or.inl rfl | exact Or.inr rfl)) (pgs_cons (pg_name (i := 4) sc_stage_gains.nd rfl (by first | exact Or.inl rfl | exact Or.inr rfl)) (pgs_cons (pg_name (i := 5) sc_stage_gains.nd rfl (by first | exact Or.inl rfl | exact Or.inr rfl)) (pgs_cons (pg_name (i := 6) sc_stage_gains.nd rfl (by first | exact Or.inl rfl | exact Or.inr rfl)) pgs_nil)))))) (fun _ _ _ _ _ => pts_nil) (fun _ _ _ _ _ => (pe_op op_sub (pe_callG hrounded_up hg (hr.mono (by decide)) (by rfl) T.m_rounded_up T.t_rounded_up.kp T.d_rounded_up pass_calm (pa_cons (pe_op op_sub (pe_op op_addA (pv 6) (pe_ix ix_q (pv 2) (pv 3) (fun _ _ => rfl))) (pe_ix ix_q (pv 2) (pv 4) (fun _ _ => rfl))) (pa_cons (pv 1) pa_nil))) (pv 5))))))
/-! ### least_stages -/
def t_least_stages (K : PySem.W.Frag) (E : XK) (pneed_slots : Sp) (pstage_gains : Sp) (pgain_ring : Sp) (pgain_heights : Sp) : TS :=
    (tSeq (tDrop (tCallG pneed_slots (fun _ => E) (tCons (tVar 0) (tCons (tVar 1) (tCons (tVar 2) tNil)))))
    (tSeq (tAsg (tCallG pstage_gains (fun _ => E) (tCons (tVar 0) (tCons (tVar 1) (tCons (tVar 2) tNil)))) (gName 3))
    (tSeq (tAsg (tCallG pgain_ring (fun _ => E) (tCons (tFld K (tVar 0) "rows") (tCons (tFld K (tVar 0) "arcs") (tCons (tVar 3) tNil)))) (gName 4))
    (tSeq (tIfS (tTest (tOp rNotN (tVar 4) (tC .non))) (tRet (tTup (tCons (tC (.str "ring")) (tCons (tCB (rTupOf K) (tCons (tVar 4) tNil)) tNil)))) tNext)
    (tRet (tTup (tCons (tC (.str "stages")) (tCons (tCB (rTupOf K) (tCons (tCallG pgain_heights (fun _ => E) (tCons (tFld K (tVar 0) "rows") (tCons (tFld K (tVar 0) "arcs") (tCons (tVar 3) tNil)))) tNil)) tNil))))))))
theorem dv_least_stages {P : Program} {w : World} {K : PySem.W.Frag} {mg : Str → Option Value} {base : Heap} (T : Tx K mg) {pneed_slots : Sp} (hneed_slots : FnG P w K mg base 3 T.f_need_slots T.g_need_slots P_need_slots pneed_slots) {pstage_gains : Sp} (hstage_gains : FnG P w K mg base 2 T.f_stage_gains T.g_stage_gains P_stage_gains pstage_gains) {pgain_ring : Sp} (hgain_ring : FnG P w K mg base 2 T.f_gain_ring T.g_gain_ring P_gain_ring pgain_ring) {pgain_heights : Sp} (hgain_heights : FnG P w K mg base 2 T.f_gain_heights T.g_gain_heights P_gain_heights pgain_heights) {f : Addr} {cdv : Value} {A : Around} {outer : List Env} {s : Shared} {H : Hp} {E : XK} (hg : A.guards = some []) (hr : Room 3 (A.deeper (envOfC "least_stages" (defScope s_least_stages) s.heap.objs.size f cdv))) :
    PSs (cxOf (L2.CX P w) P w K mg base N_least_stages "least_stages" (defScope s_least_stages) f cdv A outer s H E) (defBody s_least_stages) (t_least_stages K E pneed_slots pstage_gains pgain_ring pgain_heights) :=
    (pss_cons (ps_expr (pe_callG hneed_slots hg (hr.mono (by decide)) (by rfl) T.m_need_slots T.t_need_slots.kp T.d_need_slots (pass_def (takes_of rfl rfl rfl rfl)) (pa_cons (pv 0) (pa_cons (pv 1) (pa_cons (pv 2) pa_nil)))))
    (pss_cons (ps_set (i := 3) sc_least_stages.nd rfl (by first | exact Or.inl rfl | exact Or.inr rfl) (pe_callG hstage_gains hg (hr.mono (by decide)) (by rfl) T.m_stage_gains T.t_stage_gains.kp T.d_stage_gains (pass_def (takes_of rfl rfl rfl rfl)) (pa_cons (pv 0) (pa_cons (pv 1) (pa_cons (pv 2) pa_nil)))))
    (pss_cons (ps_set (i := 4) sc_least_stages.nd rfl (by first | exact Or.inl rfl | exact Or.inr rfl) (pe_callG hgain_ring hg (hr.mono (by decide)) (by rfl) T.m_gain_ring T.t_gain_ring.kp T.d_gain_ring (pass_def (takes_of rfl rfl rfl rfl)) (pa_cons (pe_fld (pv 0) rfl) (pa_cons (pe_fld (pv 0) rfl) (pa_cons (pv 3) pa_nil)))))
    (pss_cons (ps_if (pt_cmpR op_notN (pv 4) pe_non (nomark _)) (pss_one (ps_ret (pe_tup (pa_cons pe_str (pa_cons (pe_callTy call_tuple_of (by rfl) T.b_tuple (by decide +kernel) (pa_cons (pv 4) pa_nil)) pa_nil))))) pss_nil)
    (pss_one (ps_ret (pe_tup (pa_cons pe_str (pa_cons (pe_callTy call_tuple_of (by rfl) T.b_tuple (by decide +kernel) (pa_cons (pe_callG hgain_heights hg (hr.mono (by decide)) (by rfl) T.m_gain_heights T.t_gain_heights.kp T.d_gain_heights (pass_def (takes_of rfl rfl rfl rfl)) (pa_cons (pe_fld (pv 0) rfl) (pa_cons (pe_fld (pv 0) rfl) (pa_cons (pv 3) pa_nil)))) pa_nil)) pa_nil)))))))))
/-! ### greatest_stages -/
def t_greatest_stages (K : PySem.W.Frag) (E : XK) (aNoTick : Addr) (pneed_slots : Sp) (pstage_gains : Sp) (pgain_ring : Sp) (pgain_heights : Sp) : TS :=
    (tSeq (tDrop (tCallG pneed_slots (fun _ => E) (tCons (tVar 0) (tCons (tVar 1) (tCons (tVar 2) tNil)))))
    (tSeq (tIfS (tNot (tTest (tChain rLeI rLeI (tUn rNegI (tC (.int 1000))) (tVar 3) (tC (.int 1000))))) (tRaise1 K aNoTick "value" (tCons (tVar 3) tNil) (fun cls d _ H => E cls d H)) tNext)
    (tSeq (tAsg (tCallG pstage_gains (fun _ => E) (tCons (tVar 0) (tCons (tVar 1) (tCons (tVar 2) tNil)))) (gName 4))
    (tSeq (tAsg (tCallG pgain_ring (fun _ => E) (tCons (tFld K (tVar 0) "rows") (tCons (tFld K (tVar 0) "arcs") (tCons (tVar 4) tNil)))) (gName 5))
    (tSeq (tIfS (tTest (tOp rNotN (tVar 5) (tC .non))) (tRet (tTup (tCons (tC (.str "ring")) (tCons (tCB (rTupOf K) (tCons (tVar 5) tNil)) tNil)))) tNext)
    (tSeq (tAsg (tLc (iSeq K (tFld K (tVar 0) "arcs")) (gTup K 4 (gCons (gName 8) (gCons (gName 9) (gCons (gName 10) (gCons (gName 10) gNil))))) tYes (tTup (tCons (tVar 9) (tCons (tVar 8) tNil))) [8, 9, 10]) (gName 6))
    (tSeq (tAsg (tCallG pgain_heights (fun _ => E) (tCons (tFld K (tVar 0) "rows") (tCons (tVar 6) (tCons (tVar 4) tNil)))) (gName 7))
    (tRet (tTup (tCons (tC (.str "stages")) (tCons (tCB (rTupOf K) (tCons (tLc (iSeq K (tVar 7)) (gName 11) tYes (tOp rSubI (tVar 3) (tVar 11)) [11]) tNil)) tNil)))))))))))
theorem dv_greatest_stages {P : Program} {w : World} {K : PySem.W.Frag} {mg : Str → Option Value} {base : Heap} (T : Tx K mg) {pneed_slots : Sp} (hneed_slots : FnG P w K mg base 3 T.f_need_slots T.g_need_slots P_need_slots pneed_slots) {pstage_gains : Sp} (hstage_gains : FnG P w K mg base 2 T.f_stage_gains T.g_stage_gains P_stage_gains pstage_gains) {pgain_ring : Sp} (hgain_ring : FnG P w K mg base 2 T.f_gain_ring T.g_gain_ring P_gain_ring pgain_ring) {pgain_heights : Sp} (hgain_heights : FnG P w K mg base 2 T.f_gain_heights T.g_gain_heights P_gain_heights pgain_heights) {f : Addr} {cdv : Value} {A : Around} {outer : List Env} {s : Shared} {H : Hp} {E : XK} (hg : A.guards = some []) (hr : Room 3 (A.deeper (envOfC "greatest_stages" (defScope s_greatest_stages) s.heap.objs.size f cdv))) :
    PSs (cxOf (L2.CX P w) P w K mg base N_greatest_stages "greatest_stages" (defScope s_greatest_stages) f cdv A outer s H E) (defBody s_greatest_stages) (t_greatest_stages K E T.a_NoTick pneed_slots pstage_gains pgain_ring pgain_heights) :=
    (pss_cons (ps_expr (pe_callG hneed_slots hg (hr.mono (by decide)) (by rfl) T.m_need_slots T.t_need_slots.kp T.d_need_slots (pass_def (takes_of rfl rfl rfl rfl)) (pa_cons (pv 0) (pa_cons (pv 1) (pa_cons (pv 2) pa_nil)))))
    (pss_cons (ps_if (pt_not (pt_chain op_le op_le (pe_un un_neg (pe_gint (by rfl) T.c_MOST_STAGE)) (pv 3) (pe_gint (by rfl) T.c_MOST_STAGE))) (pss_one (ps_raise rfl (takes_of rfl rfl rfl rfl) (pmk_oex T.o_NoTick.ox T.o_NoTick.ini T.o_NoTick.tin (ex_init T.o_NoTick.fn sc_NoTick rfl rfl rfl (by decide) (by decide)) (hr.mono (by decide)) T.o_NoTick.bd .nil passL (by rfl) T.m_NoTick (pa_cons (pv 3) pa_nil)))) pss_nil)
    (pss_cons (ps_set (i := 4) sc_greatest_stages.nd rfl (by first | exact Or.inl rfl | exact Or.inr rfl) (pe_callG hstage_gains hg (hr.mono (by decide)) (by rfl) T.m_stage_gains T.t_stage_gains.kp T.d_stage_gains (pass_def (takes_of rfl rfl rfl rfl)) (pa_cons (pv 0) (pa_cons (pv 1) (pa_cons (pv 2) pa_nil)))))
    (pss_cons (ps_set (i := 5) sc_greatest_stages.nd rfl (by first | exact Or.inl rfl | exact Or.inr rfl) (pe_callG hgain_ring hg (hr.mono (by decide)) (by rfl) T.m_gain_ring T.t_gain_ring.kp T.d_gain_ring (pass_def (takes_of rfl rfl rfl rfl)) (pa_cons (pe_fld (pv 0) rfl) (pa_cons (pe_fld (pv 0) rfl) (pa_cons (pv 4) pa_nil)))))
    (pss_cons (ps_if (pt_cmpR op_notN (pv 5) pe_non (nomark _)) (pss_one (ps_ret (pe_tup (pa_cons pe_str (pa_cons (pe_callTy call_tuple_of (by rfl) T.b_tuple (by decide +kernel) (pa_cons (pv 5) pa_nil)) pa_nil))))) pss_nil)
    (pss_cons (ps_setLc (i := 6) (own := [("u", 8), ("v", 9), ("_", 10)]) (g := (gTup K 4 (gCons (gName 8) (gCons (gName 9) (gCons (gName 10) (gCons (gName 10) gNil)))))) (tt := tYes) rfl sc_greatest_stages.nd rfl rfl (sw_true rfl rfl rfl (by decide +kernel)) (pi_seq (pe_fld (pv 0) rfl)) (blkOk_by (own := [("u", 8), ("v", 9), ("_", 10)]) (N := N_greatest_stages) (sc := defScope s_greatest_stages) (by decide +kernel)) (fun _ _ _ _ _ => (pg_tup rfl (pgs_cons (pg_name (i := 8) sc_greatest_stages.nd rfl (by first | exact Or.inl rfl | exact Or.inr rfl)) (pgs_cons (pg_name (i := 9) sc_greatest_stages.nd rfl (by first | exact Or.inl rfl | exact Or.inr rfl)) (pgs_cons (pg_name (i := 10) sc_greatest_stages.nd rfl (by first | exact Or.inl rfl | exact Or.inr rfl)) (pgs_cons (pg_name (i := 10) sc_greatest_stages.nd rfl (by first | exact Or.inl rfl | exact Or.inr rfl)) pgs_nil)))))) (fun _ _ _ _ _ => pts_nil) (fun _ _ _ _ _ => (pe_tup (pa_cons (pv 9) (pa_cons (pv 8) pa_nil)))))
    (pss_cons (ps_set (i := 7) sc_greatest_stages.nd rfl (by first | exact Or.inl rfl | exact Or.inr rfl) (pe_callG hgain_heights hg (hr.mono (by decide)) (by rfl) T.m_gain_heights T.t_gain_heights.kp T.d_gain_heights (pass_def (takes_of rfl rfl rfl rfl)) (pa_cons (pe_fld (pv 0) rfl) (pa_cons (pv 6) (pa_cons (pv 4) pa_nil)))))
    (pss_one (ps_ret (pe_tup (pa_cons pe_str (pa_cons (pe_callTy call_tuple_of (by rfl) T.b_tuple (by decide +kernel) (pa_cons (pe_lc (own := [("depth", 11)]) (g := (gName 11)) (tt := tYes) rfl sc_greatest_stages.nd (pi_seq (pv 7)) (blkOk_by (own := [("depth", 11)]) (N := N_greatest_stages) (sc := defScope s_greatest_stages) (by decide +kernel)) (fun _ _ _ _ _ => (pg_name (i := 11) sc_greatest_stages.nd rfl (by first | exact Or.inl rfl | exact Or.inr rfl))) (fun _ _ _ _ _ => pts_nil) (fun _ _ _ _ _ => (pe_op op_sub (pv 3) (pv 11)))) pa_nil)) pa_nil))))))))))))
/-! ### _law_stock -/
def t__law_stock (K : PySem.W.Frag) (E : XK) : TS :=
    (tSeq (tAsg (tLst tNil) (gName 1))
    (tSeq (tFor (iSeq K (tSl (rSlL K) (tVar 0) tNoPart (tPart (tC (.int 63))))) (gName 2) (tSeq (tAsg (tOp rModI (tCB rAbs (tCons (tVar 2) tNil)) (tOp rPowI (tC (.int 10)) (tC (.int 60)))) (gName 3))
    (tSeq (tDrop (tBM K "list" rAppend (tVar 1) (tCons (tOp rModI (tCB rInt1 (tCons (tVar 3) tNil)) (tC (.int 10))) tNil)))
    (tFor (iRng1 (tCons (tC (.int 59)) tNil)) (gName 4) (tSeq (tAsg (tOp rDivW (tVar 3) (tC (.int 10))) (gName 3))
    (tIfS (tTest (tOp rGtI (tVar 3) (tC (.int 0)))) (tDrop (tBM K "list" rAppend (tVar 1) (tCons (tOp rModI (tCB rInt1 (tCons (tVar 3) tNil)) (tC (.int 10))) tNil))) tNext))))))
    (tSeq (tIfS (tTest (tOp (rEqA K) (tVar 1) (tLst tNil))) (tAsg (tLst (tCons (tC (.int 0)) tNil)) (gName 1)) tNext)
    (tSeq (tAsg (tCB (rLen1 K) (tCons (tVar 1) tNil)) (gName 5))
    (tRet (tLc (iRng1 (tCons (tC (.int 160)) tNil)) (gName 4) tYes (tOp (rAddA K) (tOp (rIxQ K) (tVar 1) (tOp rModI (tVar 4) (tVar 5))) (tOp rDivW (tVar 4) (tVar 5))) [4]))))))
theorem dv__law_stock {P : Program} {w : World} {K : PySem.W.Frag} {mg : Str → Option Value} {base : Heap} (T : Tx K mg) {f : Addr} {cdv : Value} {A : Around} {outer : List Env} {s : Shared} {H : Hp} {E : XK} (hr : Room 0 (A.deeper (envOfC "_law_stock" (defScope s__law_stock) s.heap.objs.size f cdv))) :
    PSs (cxOf (L2.CX P w) P w K mg base N__law_stock "_law_stock" (defScope s__law_stock) f cdv A outer s H E) (defBody s__law_stock) (t__law_stock K E) :=
    (pss_cons (ps_set (i := 1) sc__law_stock.nd rfl (by first | exact Or.inl rfl | exact Or.inr rfl) (pe_lst pa_nil))
    (pss_cons (ps_for (passes_of rfl) rfl (pi_seq (pe_slice sl_list (pv 0) po_none (po_some pe_int))) (pg_name (i := 2) sc__law_stock.nd rfl (by first | exact Or.inl rfl | exact Or.inr rfl)) (pss_cons (ps_set (i := 3) sc__law_stock.nd rfl (by first | exact Or.inl rfl | exact Or.inr rfl) (pe_op op_mod (pe_callB call_abs (by rfl) T.b_abs (by decide +kernel) (pa_cons (pv 2) pa_nil)) (pe_op op_pow pe_int pe_int)))
    (pss_cons (ps_expr (pe_bm PySem.F.plainAttrs_list PySem.F.slot_list_append PySem.F.type_list_append mt_append (pv 1) (pa_cons (pe_op op_mod (pe_callTy call_int1 (by rfl) T.b_int (by decide +kernel) (pa_cons (pv 3) pa_nil)) pe_int) pa_nil)))
    (pss_one (ps_for (passes_of rfl) rfl (pi_range1 (by rfl) T.b_range (pa_cons pe_int pa_nil)) (pg_name (i := 4) sc__law_stock.nd rfl (by first | exact Or.inl rfl | exact Or.inr rfl)) (pss_cons (ps_set (i := 3) sc__law_stock.nd rfl (by first | exact Or.inl rfl | exact Or.inr rfl) (pe_op op_fdivW (pv 3) pe_int))
    (pss_one (ps_if (pt_cmpR op_gt (pv 3) pe_int (nomark _)) (pss_one (ps_expr (pe_bm PySem.F.plainAttrs_list PySem.F.slot_list_append PySem.F.type_list_append mt_append (pv 1) (pa_cons (pe_op op_mod (pe_callTy call_int1 (by rfl) T.b_int (by decide +kernel) (pa_cons (pv 3) pa_nil)) pe_int) pa_nil)))) pss_nil))))))))
    (pss_cons (ps_if (pt_cmpR (op_eqA (un_lt hr (by decide))) (pv 1) (pe_lst pa_nil) (nomark _)) (pss_one (ps_set (i := 1) sc__law_stock.nd rfl (by first | exact Or.inl rfl | exact Or.inr rfl) (pe_lst (pa_cons pe_int pa_nil)))) pss_nil)
    (pss_cons (ps_set (i := 5) sc__law_stock.nd rfl (by first | exact Or.inl rfl | exact Or.inr rfl) (pe_callB call_len_seq (by rfl) T.b_len (by decide +kernel) (pa_cons (pv 1) pa_nil)))
    (pss_one (ps_ret (pe_lc (own := [("k", 4)]) (g := (gName 4)) (tt := tYes) rfl sc__law_stock.nd (pi_range1 (by rfl) T.b_range (pa_cons pe_int pa_nil)) (blkOk_by (own := [("k", 4)]) (N := N__law_stock) (sc := defScope s__law_stock) (by decide +kernel)) (fun _ _ _ _ _ => (pg_name (i := 4) sc__law_stock.nd rfl (by first | exact Or.inl rfl | exact Or.inr rfl))) (fun _ _ _ _ _ => pts_nil) (fun _ _ _ _ _ => (pe_op op_addA (pe_ix ix_q (pv 1) (pe_op op_mod (pv 4) (pv 5)) (fun _ _ => rfl)) (pe_op op_fdivW (pv 4) (pv 5)))))))))))
/-! ### _law_draw -/
def t__law_draw (K : PySem.W.Frag) (E : XK) : TS :=
    (tSeq (tIfS (tTest (tOp (rEqA K) (tVar 0) (tLst tNil))) (tRet (tC (.int 0))) tNext)
    (tRet (tOp rModI (tCB rInt1 (tCons (tBM K "list" rPopAt (tVar 0) (tCons (tC (.int 0)) tNil)) tNil)) (tVar 1))))
theorem dv__law_draw {P : Program} {w : World} {K : PySem.W.Frag} {mg : Str → Option Value} {base : Heap} (T : Tx K mg) {f : Addr} {cdv : Value} {A : Around} {outer : List Env} {s : Shared} {H : Hp} {E : XK} (hr : Room 0 (A.deeper (envOfC "_law_draw" (defScope s__law_draw) s.heap.objs.size f cdv))) :
    PSs (cxOf (L2.CX P w) P w K mg base N__law_draw "_law_draw" (defScope s__law_draw) f cdv A outer s H E) (defBody s__law_draw) (t__law_draw K E) :=
    (pss_cons (ps_if (pt_cmpR (op_eqA (un_lt hr (by decide))) (pv 0) (pe_lst pa_nil) (nomark _)) (pss_one (ps_ret pe_int)) pss_nil)
    (pss_one (ps_ret (pe_op op_mod (pe_callTy call_int1 (by rfl) T.b_int (by decide +kernel) (pa_cons (pe_bm PySem.F.plainAttrs_list PySem.F.slot_list_pop PySem.F.type_list_pop mt_popAt (pv 0) (pa_cons pe_int pa_nil)) pa_nil)) (pv 1)))))
/-! ### _law_kept_arcs -/
def t__law_kept_arcs (K : PySem.W.Frag) (E : XK) : TS :=
    (tSeq (tAsg tDNewT (gName 1))
    (tSeq (tFor (iSeq K (tVar 0)) (gTup K 4 (gCons (gName 2) (gCons (gName 3) (gCons (gName 4) (gCons (gName 5) gNil))))) (sDPut (tVar 1) (tTup (tCons (tVar 2) (tCons (tVar 3) (tCons (tVar 4) tNil)))) (tCB rMx2 (tCons (tVar 5) (tCons (tDGet2 (tVar 1) (tTup (tCons (tVar 2) (tCons (tVar 3) (tCons (tVar 4) tNil)))) (tC (.int 0))) tNil)))))
    (tRet (tCB (rSortX K) (tCons (tLockE (tLc (iKeys (tVar 1)) (gName 6) tYes (tOp (rAddA K) (tVar 6) (tTup (tCons (tDGet (tVar 1) (tVar 6)) tNil))) [6])) tNil)))))
theorem dv__law_kept_arcs {P : Program} {w : World} {K : PySem.W.Frag} {mg : Str → Option Value} {base : Heap} (T : Tx K mg) {f : Addr} {cdv : Value} {A : Around} {outer : List Env} {s : Shared} {H : Hp} {E : XK} (hr : Room 0 (A.deeper (envOfC "_law_kept_arcs" (defScope s__law_kept_arcs) s.heap.objs.size f cdv))) :
    PSs (cxOf (L2.CX P w) P w K mg base N__law_kept_arcs "_law_kept_arcs" (defScope s__law_kept_arcs) f cdv A outer s H E) (defBody s__law_kept_arcs) (t__law_kept_arcs K E) :=
    (pss_cons (ps_set (i := 1) sc__law_kept_arcs.nd rfl (by first | exact Or.inl rfl | exact Or.inr rfl) pe_dnewT)
    (pss_cons (ps_for (passes_of rfl) rfl (pi_seq (pv 0)) (pg_tup rfl (pgs_cons (pg_name (i := 2) sc__law_kept_arcs.nd rfl (by first | exact Or.inl rfl | exact Or.inr rfl)) (pgs_cons (pg_name (i := 3) sc__law_kept_arcs.nd rfl (by first | exact Or.inl rfl | exact Or.inr rfl)) (pgs_cons (pg_name (i := 4) sc__law_kept_arcs.nd rfl (by first | exact Or.inl rfl | exact Or.inr rfl)) (pgs_cons (pg_name (i := 5) sc__law_kept_arcs.nd rfl (by first | exact Or.inl rfl | exact Or.inr rfl)) pgs_nil))))) (pss_one (ps_dput (un_lt hr (by decide)) (pv 1) (pe_tup (pa_cons (pv 2) (pa_cons (pv 3) (pa_cons (pv 4) pa_nil)))) (pe_callB (call_max2 rfl) (by rfl) T.b_max (by decide +kernel) (pa_cons (pv 5) (pa_cons (pe_dget2 (un_lt hr (by decide)) (pv 1) (pe_tup (pa_cons (pv 2) (pa_cons (pv 3) (pa_cons (pv 4) pa_nil)))) pe_int ⟨rfl, rfl, rfl, rfl⟩) pa_nil))) rfl)))
    (pss_one (ps_ret (pe_callB cr_sortX (by rfl) T.b_sorted (by decide +kernel) (pa_cons (pe_lock (pe_lc (own := [("key", 6)]) (g := (gName 6)) (tt := tYes) rfl sc__law_kept_arcs.nd (pi_keys (pv 1)) (blkOk_by (own := [("key", 6)]) (N := N__law_kept_arcs) (sc := defScope s__law_kept_arcs) (by decide +kernel)) (fun _ _ _ _ _ => (pg_name (i := 6) sc__law_kept_arcs.nd rfl (by first | exact Or.inl rfl | exact Or.inr rfl))) (fun _ _ _ _ _ => pts_nil) (fun _ _ _ _ _ => (pe_op op_addA (pv 6) (pe_tup (pa_cons (pe_dget (un_lt hr (by decide)) (pv 1) (pv 6) (fun _ _ => rfl)) pa_nil)))))) pa_nil))))))
/-! ### _law_gain -/
def t__law_gain (K : PySem.W.Frag) (E : XK) : TS :=
    (tSeq (tAsg (tVar 0) (gTup K 4 (gCons (gName 3) (gCons (gName 4) (gCons (gName 5) (gCons (gName 6) gNil))))))
    (tRet (tOp rSubI (tUn rNegI (tOp rDivW (tOp rSubI (tOp rSubI (tOp (rIxQ K) (tVar 2) (tVar 4)) (tOp (rIxQ K) (tVar 2) (tVar 3))) (tVar 6)) (tVar 1))) (tVar 5))))
theorem dv__law_gain {P : Program} {w : World} {K : PySem.W.Frag} {mg : Str → Option Value} {base : Heap} (T : Tx K mg) {f : Addr} {cdv : Value} {A : Around} {outer : List Env} {s : Shared} {H : Hp} {E : XK} (hr : Room 0 (A.deeper (envOfC "_law_gain" (defScope s__law_gain) s.heap.objs.size f cdv))) :
    PSs (cxOf (L2.CX P w) P w K mg base N__law_gain "_law_gain" (defScope s__law_gain) f cdv A outer s H E) (defBody s__law_gain) (t__law_gain K E) :=
    (pss_cons (ps_asg (pv 0) (pg_tup rfl (pgs_cons (pg_name (i := 3) sc__law_gain.nd rfl (by first | exact Or.inl rfl | exact Or.inr rfl)) (pgs_cons (pg_name (i := 4) sc__law_gain.nd rfl (by first | exact Or.inl rfl | exact Or.inr rfl)) (pgs_cons (pg_name (i := 5) sc__law_gain.nd rfl (by first | exact Or.inl rfl | exact Or.inr rfl)) (pgs_cons (pg_name (i := 6) sc__law_gain.nd rfl (by first | exact Or.inl rfl | exact Or.inr rfl)) pgs_nil))))))
    (pss_one (ps_ret (pe_op op_sub (pe_un un_neg (pe_op op_fdivW (pe_op op_sub (pe_op op_sub (pe_ix ix_q (pv 2) (pv 4) (fun _ _ => rfl)) (pe_ix ix_q (pv 2) (pv 3) (fun _ _ => rfl))) (pv 6)) (pv 1))) (pv 5)))))
/-! ### _law_least -/
def t__law_least (K : PySem.W.Frag) (E : XK) (p_law_gain : Sp) : TS :=
    (tSeq (tAsg (tOp (rMulA K) (tLst (tCons (tC (.int 0)) tNil)) (tVar 1)) (gName 4))
    (tSeq (tFor (iRng1 (tCons (tOp (rAddA K) (tVar 1) (tC (.int 1))) tNil)) (gName 5) (tSeq (tAsg (tC (.bl false)) (gName 6))
    (tSeq (tFor (iSeq K (tVar 0)) (gName 7) (tSeq (tAsg (tOp (rAddA K) (tOp (rIxQ K) (tVar 4) (tOp (rIxQ K) (tVar 7) (tC (.int 0)))) (tCallG p_law_gain (fun _ => E) (tCons (tVar 7) (tCons (tVar 2) (tCons (tVar 3) tNil))))) (gName 8))
    (tIfS (tTest (tOp rGtI (tVar 8) (tOp (rIxQ K) (tVar 4) (tOp (rIxQ K) (tVar 7) (tC (.int 1)))))) (tSeq (tAsg (tVar 8) (gSub (tVar 4) (tOp (rIxQ K) (tVar 7) (tC (.int 1))) rSetL))
    (tAsg (tC (.bl true)) (gName 6))) tNext)))
    (tIfS (tNot (tB (tVar 6))) (tRet (tCB (rTupOf K) (tCons (tVar 4) tNil))) tNext))))
    (tRet (tC .non))))
theorem dv__law_least {P : Program} {w : World} {K : PySem.W.Frag} {mg : Str → Option Value} {base : Heap} (T : Tx K mg) {p_law_gain : Sp} (h_law_gain : FnG P w K mg base 1 T.f__law_gain T.g__law_gain P__law_gain p_law_gain) {f : Addr} {cdv : Value} {A : Around} {outer : List Env} {s : Shared} {H : Hp} {E : XK} (hg : A.guards = some []) (hr : Room 1 (A.deeper (envOfC "_law_least" (defScope s__law_least) s.heap.objs.size f cdv))) :
    PSs (cxOf (L2.CX P w) P w K mg base N__law_least "_law_least" (defScope s__law_least) f cdv A outer s H E) (defBody s__law_least) (t__law_least K E p_law_gain) :=
    (pss_cons (ps_set (i := 4) sc__law_least.nd rfl (by first | exact Or.inl rfl | exact Or.inr rfl) (pe_op op_mulA (pe_lst (pa_cons pe_int pa_nil)) (pv 1)))
    (pss_cons (ps_for (passes_of rfl) rfl (pi_range1 (by rfl) T.b_range (pa_cons (pe_op op_addA (pv 1) pe_int) pa_nil)) (pg_name (i := 5) sc__law_least.nd rfl (by first | exact Or.inl rfl | exact Or.inr rfl)) (pss_cons (ps_set (i := 6) sc__law_least.nd rfl (by first | exact Or.inl rfl | exact Or.inr rfl) pe_bl)
    (pss_cons (ps_for (passes_of rfl) rfl (pi_seq (pv 0)) (pg_name (i := 7) sc__law_least.nd rfl (by first | exact Or.inl rfl | exact Or.inr rfl)) (pss_cons (ps_set (i := 8) sc__law_least.nd rfl (by first | exact Or.inl rfl | exact Or.inr rfl) (pe_op op_addA (pe_ix ix_q (pv 4) (pe_ix ix_q (pv 7) pe_int (fun _ _ => rfl)) (fun _ _ => rfl)) (pe_callG h_law_gain hg (hr.mono (by decide)) (by rfl) T.m__law_gain T.t__law_gain.kp T.d__law_gain (pass_def (takes_of rfl rfl rfl rfl)) (pa_cons (pv 7) (pa_cons (pv 2) (pa_cons (pv 3) pa_nil))))))
    (pss_one (ps_if (pt_cmpR op_gt (pv 8) (pe_ix ix_q (pv 4) (pe_ix ix_q (pv 7) pe_int (fun _ _ => rfl)) (fun _ _ => rfl)) (nomark _)) (pss_cons (ps_asg (pv 8) (pg_sub (pv 4) (pe_ix ix_q (pv 7) pe_int (fun _ _ => rfl)) set_list))
    (pss_one (ps_set (i := 6) sc__law_least.nd rfl (by first | exact Or.inl rfl | exact Or.inr rfl) pe_bl))) pss_nil))))
    (pss_one (ps_if (pt_not (pt_val (pv 6))) (pss_one (ps_ret (pe_callTy call_tuple_of (by rfl) T.b_tuple (by decide +kernel) (pa_cons (pv 4) pa_nil)))) pss_nil)))))
    (pss_one (ps_ret pe_non))))
/-! ### _law_greatest -/
def t__law_greatest (K : PySem.W.Frag) (E : XK) (p_law_gain : Sp) : TS :=
    (tSeq (tAsg (tOp (rMulA K) (tLst (tCons (tVar 4) tNil)) (tVar 1)) (gName 5))
    (tSeq (tFor (iRng1 (tCons (tOp (rAddA K) (tVar 1) (tC (.int 1))) tNil)) (gName 6) (tSeq (tAsg (tC (.bl false)) (gName 7))
    (tSeq (tFor (iSeq K (tVar 0)) (gName 8) (tSeq (tAsg (tOp rSubI (tOp (rIxQ K) (tVar 5) (tOp (rIxQ K) (tVar 8) (tC (.int 1)))) (tCallG p_law_gain (fun _ => E) (tCons (tVar 8) (tCons (tVar 2) (tCons (tVar 3) tNil))))) (gName 9))
    (tIfS (tTest (tOp rLtI (tVar 9) (tOp (rIxQ K) (tVar 5) (tOp (rIxQ K) (tVar 8) (tC (.int 0)))))) (tSeq (tAsg (tVar 9) (gSub (tVar 5) (tOp (rIxQ K) (tVar 8) (tC (.int 0))) rSetL))
    (tAsg (tC (.bl true)) (gName 7))) tNext)))
    (tIfS (tNot (tB (tVar 7))) (tRet (tCB (rTupOf K) (tCons (tVar 5) tNil))) tNext))))
    (tRet (tC .non))))
theorem dv__law_greatest {P : Program} {w : World} {K : PySem.W.Frag} {mg : Str → Option Value} {base : Heap} (T : Tx K mg) {p_law_gain : Sp} (h_law_gain : FnG P w K mg base 1 T.f__law_gain T.g__law_gain P__law_gain p_law_gain) {f : Addr} {cdv : Value} {A : Around} {outer : List Env} {s : Shared} {H : Hp} {E : XK} (hg : A.guards = some []) (hr : Room 1 (A.deeper (envOfC "_law_greatest" (defScope s__law_greatest) s.heap.objs.size f cdv))) :
    PSs (cxOf (L2.CX P w) P w K mg base N__law_greatest "_law_greatest" (defScope s__law_greatest) f cdv A outer s H E) (defBody s__law_greatest) (t__law_greatest K E p_law_gain) :=
    (pss_cons (ps_set (i := 5) sc__law_greatest.nd rfl (by first | exact Or.inl rfl | exact Or.inr rfl) (pe_op op_mulA (pe_lst (pa_cons (pv 4) pa_nil)) (pv 1)))
    (pss_cons (ps_for (passes_of rfl) rfl (pi_range1 (by rfl) T.b_range (pa_cons (pe_op op_addA (pv 1) pe_int) pa_nil)) (pg_name (i := 6) sc__law_greatest.nd rfl (by first | exact Or.inl rfl | exact Or.inr rfl)) (pss_cons (ps_set (i := 7) sc__law_greatest.nd rfl (by first | exact Or.inl rfl | exact Or.inr rfl) pe_bl)
    (pss_cons (ps_for (passes_of rfl) rfl (pi_seq (pv 0)) (pg_name (i := 8) sc__law_greatest.nd rfl (by first | exact Or.inl rfl | exact Or.inr rfl)) (pss_cons (ps_set (i := 9) sc__law_greatest.nd rfl (by first | exact Or.inl rfl | exact Or.inr rfl) (pe_op op_sub (pe_ix ix_q (pv 5) (pe_ix ix_q (pv 8) pe_int (fun _ _ => rfl)) (fun _ _ => rfl)) (pe_callG h_law_gain hg (hr.mono (by decide)) (by rfl) T.m__law_gain T.t__law_gain.kp T.d__law_gain (pass_def (takes_of rfl rfl rfl rfl)) (pa_cons (pv 8) (pa_cons (pv 2) (pa_cons (pv 3) pa_nil))))))
    (pss_one (ps_if (pt_cmpR op_lt (pv 9) (pe_ix ix_q (pv 5) (pe_ix ix_q (pv 8) pe_int (fun _ _ => rfl)) (fun _ _ => rfl)) (nomark _)) (pss_cons (ps_asg (pv 9) (pg_sub (pv 5) (pe_ix ix_q (pv 8) pe_int (fun _ _ => rfl)) set_list))
    (pss_one (ps_set (i := 7) sc__law_greatest.nd rfl (by first | exact Or.inl rfl | exact Or.inr rfl) pe_bl))) pss_nil))))
    (pss_one (ps_if (pt_not (pt_val (pv 7))) (pss_one (ps_ret (pe_callTy call_tuple_of (by rfl) T.b_tuple (by decide +kernel) (pa_cons (pv 5) pa_nil)))) pss_nil)))))
    (pss_one (ps_ret pe_non))))
/-! ### _law_ring_right -/
def t__law_ring_right (K : PySem.W.Frag) (E : XK) (p_law_gain : Sp) : TS :=
    (tSeq (tIfS (tOr (tNot (tB (tCB RZ.rIsTy (tCons (tVar 0) (tCons (tC (.ty "tuple")) tNil))))) (tOr (tTest (tOp (rNeA K) (tCB (rLen1 K) (tCons (tVar 0) tNil)) (tC (.int 2)))) (tTest (tOp (rNeA K) (tOp (rIxQ K) (tVar 0) (tC (.int 0))) (tC (.str "ring")))))) (tRet (tC (.bl false))) tNext)
    (tSeq (tAsg (tOp (rIxQ K) (tVar 0) (tC (.int 1))) (gName 5))
    (tSeq (tIfS (tOr (tNot (tB (tCB RZ.rIsTy (tCons (tVar 5) (tCons (tC (.ty "tuple")) tNil))))) (tTest (tOp (rEqA K) (tCB (rLen1 K) (tCons (tVar 5) tNil)) (tC (.int 0))))) (tRet (tC (.bl false))) tNext)
    (tSeq (tAsg (tOp (rAddA K) (tVar 1) (tLc (iRng1 (tCons (tVar 2) tNil)) (gName 10) tYes (tTup (tCons (tVar 10) (tCons (tVar 10) (tCons (tC (.int 1)) (tCons (tC (.int 0)) tNil))))) [10])) (gName 6))
    (tSeq (tAsg (tLc (iSeq K (tVar 6)) (gName 11) tYes (tCB (rRepr K) (tCons (tVar 11) tNil)) [11]) (gName 7))
    (tSeq (tAsg (tC (.int 0)) (gName 8))
    (tSeq (tFor (iRng1 (tCons (tCB (rLen1 K) (tCons (tVar 5) tNil)) tNil)) (gName 9) (tSeq (tIfS (tTest (tOp (rIn K true) (tCB (rRepr K) (tCons (tOp (rIxQ K) (tVar 5) (tVar 9)) tNil)) (tVar 7))) (tRet (tC (.bl false))) tNext)
    (tSeq (tIfS (tTest (tOp (rNeA K) (tOp (rIxQ K) (tOp (rIxQ K) (tVar 5) (tVar 9)) (tC (.int 0))) (tOp (rIxQ K) (tOp (rIxQ K) (tVar 5) (tOp rSubI (tVar 9) (tC (.int 1)))) (tC (.int 1))))) (tRet (tC (.bl false))) tNext)
    (tAsg (tOp (rAddA K) (tVar 8) (tCallG p_law_gain (fun _ => E) (tCons (tOp (rIxQ K) (tVar 5) (tVar 9)) (tCons (tVar 3) (tCons (tVar 4) tNil))))) (gName 8)))))
    (tRet (tOp rGtI (tVar 8) (tC (.int 0)))))))))))
theorem dv__law_ring_right {P : Program} {w : World} {K : PySem.W.Frag} {mg : Str → Option Value} {base : Heap} (T : Tx K mg) {p_law_gain : Sp} (h_law_gain : FnG P w K mg base 1 T.f__law_gain T.g__law_gain P__law_gain p_law_gain) {f : Addr} {cdv : Value} {A : Around} {outer : List Env} {s : Shared} {H : Hp} {E : XK} (hg : A.guards = some []) (hr : Room 1 (A.deeper (envOfC "_law_ring_right" (defScope s__law_ring_right) s.heap.objs.size f cdv))) :
    PSs (cxOf (L2.CX P w) P w K mg base N__law_ring_right "_law_ring_right" (defScope s__law_ring_right) f cdv A outer s H E) (defBody s__law_ring_right) (t__law_ring_right K E p_law_gain) :=
    (pss_cons (ps_if (PW.pt (pw_or (pt_not (pt_val (pe_callB RZ.call_isTy (by rfl) T.b_isinstance (by decide +kernel) (pa_cons (pv 0) (pa_cons (pe_bltn (by rfl) T.b_tuple (by decide +kernel) rfl) pa_nil))))) (pw_or (pt_cmpR (op_neA (un_lt hr (by decide))) (pe_callB call_len_seq (by rfl) T.b_len (by decide +kernel) (pa_cons (pv 0) pa_nil)) pe_int (nomark _)) (pw_or1 (pt_cmpR (op_neA (un_lt hr (by decide))) (pe_ix ix_q (pv 0) pe_int (fun _ _ => rfl)) pe_str (nomark _)))))) (pss_one (ps_ret pe_bl)) pss_nil)
    (pss_cons (ps_set (i := 5) sc__law_ring_right.nd rfl (by first | exact Or.inl rfl | exact Or.inr rfl) (pe_ix ix_q (pv 0) pe_int (fun _ _ => rfl)))
    (pss_cons (ps_if (PW.pt (pw_or (pt_not (pt_val (pe_callB RZ.call_isTy (by rfl) T.b_isinstance (by decide +kernel) (pa_cons (pv 5) (pa_cons (pe_bltn (by rfl) T.b_tuple (by decide +kernel) rfl) pa_nil))))) (pw_or1 (pt_cmpR (op_eqA (un_lt hr (by decide))) (pe_callB call_len_seq (by rfl) T.b_len (by decide +kernel) (pa_cons (pv 5) pa_nil)) pe_int (nomark _))))) (pss_one (ps_ret pe_bl)) pss_nil)
    (pss_cons (ps_set (i := 6) sc__law_ring_right.nd rfl (by first | exact Or.inl rfl | exact Or.inr rfl) (pe_op op_addA (pv 1) (pe_lc (own := [("v", 10)]) (g := (gName 10)) (tt := tYes) rfl sc__law_ring_right.nd (pi_range1 (by rfl) T.b_range (pa_cons (pv 2) pa_nil)) (blkOk_by (own := [("v", 10)]) (N := N__law_ring_right) (sc := defScope s__law_ring_right) (by decide +kernel)) (fun _ _ _ _ _ => (pg_name (i := 10) sc__law_ring_right.nd rfl (by first | exact Or.inl rfl | exact Or.inr rfl))) (fun _ _ _ _ _ => pts_nil) (fun _ _ _ _ _ => (pe_tup (pa_cons (pv 10) (pa_cons (pv 10) (pa_cons pe_int (pa_cons pe_int pa_nil)))))))))
    (pss_cons (ps_setLc (i := 7) (own := [("x", 11)]) (g := (gName 11)) (tt := tYes) rfl sc__law_ring_right.nd rfl rfl (sw_true rfl rfl rfl (by decide +kernel)) (pi_seq (pv 6)) (blkOk_by (own := [("x", 11)]) (N := N__law_ring_right) (sc := defScope s__law_ring_right) (by decide +kernel)) (fun _ _ _ _ _ => (pg_name (i := 11) sc__law_ring_right.nd rfl (by first | exact Or.inl rfl | exact Or.inr rfl))) (fun _ _ _ _ _ => pts_nil) (fun _ _ _ _ _ => (pe_callB (cr_repr hg (un_lt hr (by decide))) (by rfl) T.b_repr (by decide +kernel) (pa_cons (pv 11) pa_nil))))
    (pss_cons (ps_set (i := 8) sc__law_ring_right.nd rfl (by first | exact Or.inl rfl | exact Or.inr rfl) pe_int)
    (pss_cons (ps_for (passes_of rfl) rfl (pi_range1 (by rfl) T.b_range (pa_cons (pe_callB call_len_seq (by rfl) T.b_len (by decide +kernel) (pa_cons (pv 5) pa_nil)) pa_nil)) (pg_name (i := 9) sc__law_ring_right.nd rfl (by first | exact Or.inl rfl | exact Or.inr rfl)) (pss_cons (ps_if (pt_cmpR op_notIn_seq (pe_callB (cr_repr hg (un_lt hr (by decide))) (by rfl) T.b_repr (by decide +kernel) (pa_cons (pe_ix ix_q (pv 5) (pv 9) (fun _ _ => rfl)) pa_nil)) (pv 7) rfl) (pss_one (ps_ret pe_bl)) pss_nil)
    (pss_cons (ps_if (pt_cmpR (op_neA (un_lt hr (by decide))) (pe_ix ix_q (pe_ix ix_q (pv 5) (pv 9) (fun _ _ => rfl)) pe_int (fun _ _ => rfl)) (pe_ix ix_q (pe_ix ix_q (pv 5) (pe_op op_sub (pv 9) pe_int) (fun _ _ => rfl)) pe_int (fun _ _ => rfl)) (nomark _)) (pss_one (ps_ret pe_bl)) pss_nil)
    (pss_one (ps_set (i := 8) sc__law_ring_right.nd rfl (by first | exact Or.inl rfl | exact Or.inr rfl) (pe_op op_addA (pv 8) (pe_callG h_law_gain hg (hr.mono (by decide)) (by rfl) T.m__law_gain T.t__law_gain.kp T.d__law_gain (pass_def (takes_of rfl rfl rfl rfl)) (pa_cons (pe_ix ix_q (pv 5) (pv 9) (fun _ _ => rfl)) (pa_cons (pv 3) (pa_cons (pv 4) pa_nil))))))))))
    (pss_one (ps_ret (pe_cmpR op_gt (pv 8) pe_int (nomark _)))))))))))
/-! ### _law_stages_hold -/
def t__law_stages_hold (K : PySem.W.Frag) (E : XK) (p_law_gain : Sp) : TS :=
    (tSeq (tFor (iSeq K (tVar 0)) (gName 4) (tSeq (tAsg (tOp rSubI (tOp (rIxQ K) (tVar 1) (tOp (rIxQ K) (tVar 4) (tC (.int 1)))) (tOp (rIxQ K) (tVar 1) (tOp (rIxQ K) (tVar 4) (tC (.int 0))))) (gName 5))
    (tIfS (tTest (tOp rLtI (tVar 5) (tCallG p_law_gain (fun _ => E) (tCons (tVar 4) (tCons (tVar 2) (tCons (tVar 3) tNil)))))) (tRet (tC (.bl false))) tNext)))
    (tRet (tC (.bl true))))
theorem dv__law_stages_hold {P : Program} {w : World} {K : PySem.W.Frag} {mg : Str → Option Value} {base : Heap} (T : Tx K mg) {p_law_gain : Sp} (h_law_gain : FnG P w K mg base 1 T.f__law_gain T.g__law_gain P__law_gain p_law_gain) {f : Addr} {cdv : Value} {A : Around} {outer : List Env} {s : Shared} {H : Hp} {E : XK} (hg : A.guards = some []) (hr : Room 1 (A.deeper (envOfC "_law_stages_hold" (defScope s__law_stages_hold) s.heap.objs.size f cdv))) :
    PSs (cxOf (L2.CX P w) P w K mg base N__law_stages_hold "_law_stages_hold" (defScope s__law_stages_hold) f cdv A outer s H E) (defBody s__law_stages_hold) (t__law_stages_hold K E p_law_gain) :=
    (pss_cons (ps_for (passes_of rfl) rfl (pi_seq (pv 0)) (pg_name (i := 4) sc__law_stages_hold.nd rfl (by first | exact Or.inl rfl | exact Or.inr rfl)) (pss_cons (ps_set (i := 5) sc__law_stages_hold.nd rfl (by first | exact Or.inl rfl | exact Or.inr rfl) (pe_op op_sub (pe_ix ix_q (pv 1) (pe_ix ix_q (pv 4) pe_int (fun _ _ => rfl)) (fun _ _ => rfl)) (pe_ix ix_q (pv 1) (pe_ix ix_q (pv 4) pe_int (fun _ _ => rfl)) (fun _ _ => rfl))))
    (pss_one (ps_if (pt_cmpR op_lt (pv 5) (pe_callG h_law_gain hg (hr.mono (by decide)) (by rfl) T.m__law_gain T.t__law_gain.kp T.d__law_gain (pass_def (takes_of rfl rfl rfl rfl)) (pa_cons (pv 4) (pa_cons (pv 2) (pa_cons (pv 3) pa_nil)))) (nomark _)) (pss_one (ps_ret pe_bl)) pss_nil))))
    (pss_one (ps_ret pe_bl)))
/-! ### _law_both_hold -/
def t__law_both_hold (K : PySem.W.Frag) (E : XK) (aNet : Addr) (pNet : Sp) (p_law_kept_arcs : Sp) (p_law_least : Sp) (pleast_stages : Sp) (pgreatest_stages : Sp) (p_law_ring_right : Sp) (p_law_greatest : Sp) (p_law_stages_hold : Sp) : TS :=
    (tSeq (tAsg (tCallG p_law_kept_arcs (fun _ => E) (tCons (tVar 1) tNil)) (gName 5))
    (tSeq (tAsg (tCallG p_law_least (fun _ => E) (tCons (tVar 5) (tCons (tVar 0) (tCons (tVar 2) (tCons (tVar 3) tNil))))) (gName 6))
    (tSeq (tAsg (tMake aNet pNet [] E0 (tCons (tVar 0) (tCons (tCB (rListOf K) (tCons (tVar 1) tNil)) tNil))) (gName 7))
    (tSeq (tAsg (tCB (rListOf K) (tCons (tVar 3) tNil)) (gName 8))
    (tSeq (tAsg (tCallG pleast_stages (fun _ => E) (tCons (tVar 7) (tCons (tVar 2) (tCons (tVar 8) tNil)))) (gName 9))
    (tSeq (tAsg (tCallG pgreatest_stages (fun _ => E) (tCons (tVar 7) (tCons (tVar 2) (tCons (tCB (rTupOf K) (tCons (tVar 3) tNil)) (tCons (tVar 4) tNil))))) (gName 10))
    (tSeq (tAsg (tCallGK pleast_stages kVleast_stages (fun _ => E) (tCons (tCB (rListOf K) (tCons (tVar 3) tNil)) (tCons (tVar 2) (tCons (tVar 7) tNil)))) (gName 11))
    (tSeq (tIfS (tOr (tTest (tOp (rNeA K) (tVar 8) (tVar 3))) (tTest (tOp (rNeA K) (tFld K (tVar 7) "arcs") (tCB (rTupOf K) (tCons (tVar 5) tNil))))) (tRet (tC (.bl false))) tNext)
    (tSeq (tIfS (tTest (tOp rIsN (tVar 6) (tC .non))) (tSeq (tFor (iSeq K (tLst (tCons (tVar 9) (tCons (tVar 10) (tCons (tVar 11) tNil))))) (gName 12) (tIfS (tNot (tB (tCallG p_law_ring_right (fun _ => E) (tCons (tVar 12) (tCons (tVar 5) (tCons (tVar 0) (tCons (tVar 2) (tCons (tVar 3) tNil)))))))) (tRet (tC (.bl false))) tNext))
    (tRet (tC (.bl true)))) tNext)
    (tSeq (tIfS (tOr (tTest (tOp (rNeA K) (tCB (rRepr K) (tCons (tVar 9) tNil)) (tCB (rRepr K) (tCons (tTup (tCons (tC (.str "stages")) (tCons (tVar 6) tNil))) tNil)))) (tTest (tOp (rNeA K) (tCB (rRepr K) (tCons (tVar 11) tNil)) (tCB (rRepr K) (tCons (tTup (tCons (tC (.str "stages")) (tCons (tVar 6) tNil))) tNil))))) (tRet (tC (.bl false))) tNext)
    (tSeq (tAsg (tCallG p_law_greatest (fun _ => E) (tCons (tVar 5) (tCons (tVar 0) (tCons (tVar 2) (tCons (tVar 3) (tCons (tVar 4) tNil)))))) (gName 6))
    (tSeq (tIfS (tTest (tOp (rNeA K) (tCB (rRepr K) (tCons (tVar 10) tNil)) (tCB (rRepr K) (tCons (tTup (tCons (tC (.str "stages")) (tCons (tVar 6) tNil))) tNil)))) (tRet (tC (.bl false))) tNext)
    (tSeq (tAsg (tLc (iSeq K (tOp (rIxQ K) (tVar 9) (tC (.int 1)))) (gName 16) tYes (tOp (rAddA K) (tVar 16) (tC (.int 3))) [16]) (gName 13))
    (tSeq (tAsg (tLc (iRng1 (tCons (tVar 0) tNil)) (gName 17) tYes (tCB rMn2 (tCons (tOp (rIxQ K) (tVar 13) (tVar 17)) (tCons (tOp (rIxQ K) (tVar 6) (tVar 17)) tNil))) [17]) (gName 14))
    (tSeq (tAsg (tLc (iRng1 (tCons (tVar 0) tNil)) (gName 17) tYes (tCB rMx2 (tCons (tOp (rIxQ K) (tVar 13) (tVar 17)) (tCons (tOp (rIxQ K) (tVar 6) (tVar 17)) tNil))) [17]) (gName 15))
    (tSeq (tIfS (tNot (tB (tCallG p_law_stages_hold (fun _ => E) (tCons (tVar 5) (tCons (tVar 14) (tCons (tVar 2) (tCons (tVar 3) tNil))))))) (tRet (tC (.bl false))) tNext)
    (tRet (tCallG p_law_stages_hold (fun _ => E) (tCons (tVar 5) (tCons (tVar 15) (tCons (tVar 2) (tCons (tVar 3) tNil))))))))))))))))))))))
theorem dv__law_both_hold {P : Program} {w : World} {K : PySem.W.Frag} {mg : Str → Option Value} {base : Heap} (T : Tx K mg) {pNet : Sp} (hNet : FnOk P w K mg base (L2.CX P w) 3 T.f_Net T.g_Net P_Net pNet) {p_law_kept_arcs : Sp} (h_law_kept_arcs : FnG P w K mg base 1 T.f__law_kept_arcs T.g__law_kept_arcs P__law_kept_arcs p_law_kept_arcs) {p_law_least : Sp} (h_law_least : FnG P w K mg base 2 T.f__law_least T.g__law_least P__law_least p_law_least) {pleast_stages : Sp} (hleast_stages : FnG P w K mg base 4 T.f_least_stages T.g_least_stages P_least_stages pleast_stages) {pgreatest_stages : Sp} (hgreatest_stages : FnG P w K mg base 4 T.f_greatest_stages T.g_greatest_stages P_greatest_stages pgreatest_stages) {p_law_ring_right : Sp} (h_law_ring_right : FnG P w K mg base 2 T.f__law_ring_right T.g__law_ring_right P__law_ring_right p_law_ring_right) {p_law_greatest : Sp} (h_law_greatest : FnG P w K mg base 2 T.f__law_greatest T.g__law_greatest P__law_greatest p_law_greatest) {p_law_stages_hold : Sp} (h_law_stages_hold : FnG P w K mg base 2 T.f__law_stages_hold T.g__law_stages_hold P__law_stages_hold p_law_stages_hold) {f : Addr} {cdv : Value} {A : Around} {outer : List Env} {s : Shared} {H : Hp} {E : XK} (hg : A.guards = some []) (hr : Room 4 (A.deeper (envOfC "_law_both_hold" (defScope s__law_both_hold) s.heap.objs.size f cdv))) :
    PSs (cxOf (L2.CX P w) P w K mg base N__law_both_hold "_law_both_hold" (defScope s__law_both_hold) f cdv A outer s H E) (defBody s__law_both_hold) (t__law_both_hold K E T.a_Net pNet p_law_kept_arcs p_law_least pleast_stages pgreatest_stages p_law_ring_right p_law_greatest p_law_stages_hold) :=
    (pss_cons (ps_set (i := 5) sc__law_both_hold.nd rfl (by first | exact Or.inl rfl | exact Or.inr rfl) (pe_callG h_law_kept_arcs hg (hr.mono (by decide)) (by rfl) T.m__law_kept_arcs T.t__law_kept_arcs.kp T.d__law_kept_arcs (pass_def (takes_of rfl rfl rfl rfl)) (pa_cons (pv 1) pa_nil)))
    (pss_cons (ps_set (i := 6) sc__law_both_hold.nd rfl (by first | exact Or.inl rfl | exact Or.inr rfl) (pe_callG h_law_least hg (hr.mono (by decide)) (by rfl) T.m__law_least T.t__law_least.kp T.d__law_least (pass_def (takes_of rfl rfl rfl rfl)) (pa_cons (pv 5) (pa_cons (pv 0) (pa_cons (pv 2) (pa_cons (pv 3) pa_nil))))))
    (pss_cons (ps_set (i := 7) sc__law_both_hold.nd rfl (by first | exact Or.inl rfl | exact Or.inr rfl) (pe_make T.k_Net hNet (hr.mono (by decide)) (by rfl) T.m_Net T.i_Net .nil passL (pa_cons (pv 0) (pa_cons (pe_callTy call_list_of (by rfl) T.b_list (by decide +kernel) (pa_cons (pv 1) pa_nil)) pa_nil))))
    (pss_cons (ps_set (i := 8) sc__law_both_hold.nd rfl (by first | exact Or.inl rfl | exact Or.inr rfl) (pe_callTy call_list_of (by rfl) T.b_list (by decide +kernel) (pa_cons (pv 3) pa_nil)))
    (pss_cons (ps_set (i := 9) sc__law_both_hold.nd rfl (by first | exact Or.inl rfl | exact Or.inr rfl) (pe_callG hleast_stages hg (hr.mono (by decide)) (by rfl) T.m_least_stages T.t_least_stages.kp T.d_least_stages (pass_def (takes_of rfl rfl rfl rfl)) (pa_cons (pv 7) (pa_cons (pv 2) (pa_cons (pv 8) pa_nil)))))
    (pss_cons (ps_set (i := 10) sc__law_both_hold.nd rfl (by first | exact Or.inl rfl | exact Or.inr rfl) (pe_callG hgreatest_stages hg (hr.mono (by decide)) (by rfl) T.m_greatest_stages T.t_greatest_stages.kp T.d_greatest_stages (pass_def (takes_of rfl rfl rfl rfl)) (pa_cons (pv 7) (pa_cons (pv 2) (pa_cons (pe_callTy call_tuple_of (by rfl) T.b_tuple (by decide +kernel) (pa_cons (pv 3) pa_nil)) (pa_cons (pv 4) pa_nil))))))
    (pss_cons (ps_set (i := 11) sc__law_both_hold.nd rfl (by first | exact Or.inl rfl | exact Or.inr rfl) (pe_callGK0 hleast_stages hg (hr.mono (by decide)) (by rfl) T.m_least_stages T.t_least_stages.kp T.kb_least_stages (pass_def (takes_of rfl rfl rfl rfl)) (pk_cons (pe_callTy call_list_of (by rfl) T.b_list (by decide +kernel) (pa_cons (pv 3) pa_nil)) (pk_cons (pv 2) (pk_cons (pv 7) pk_nil)))))
    (pss_cons (ps_if (PW.pt (pw_or (pt_cmpR (op_neA (un_lt hr (by decide))) (pv 8) (pv 3) (nomark _)) (pw_or1 (pt_cmpR (op_neA (un_lt hr (by decide))) (pe_fld (pv 7) rfl) (pe_callTy call_tuple_of (by rfl) T.b_tuple (by decide +kernel) (pa_cons (pv 5) pa_nil)) (nomark _))))) (pss_one (ps_ret pe_bl)) pss_nil)
    (pss_cons (ps_if (pt_cmpR op_isN (pv 6) pe_non (nomark _)) (pss_cons (ps_for (passes_of rfl) rfl (pi_seq (pe_lst (pa_cons (pv 9) (pa_cons (pv 10) (pa_cons (pv 11) pa_nil))))) (pg_name (i := 12) sc__law_both_hold.nd rfl (by first | exact Or.inl rfl | exact Or.inr rfl)) (pss_one (ps_if (pt_not (pt_val (pe_callG h_law_ring_right hg (hr.mono (by decide)) (by rfl) T.m__law_ring_right T.t__law_ring_right.kp T.d__law_ring_right (pass_def (takes_of rfl rfl rfl rfl)) (pa_cons (pv 12) (pa_cons (pv 5) (pa_cons (pv 0) (pa_cons (pv 2) (pa_cons (pv 3) pa_nil)))))))) (pss_one (ps_ret pe_bl)) pss_nil)))
    (pss_one (ps_ret pe_bl))) pss_nil)
    (pss_cons (ps_if (PW.pt (pw_or (pt_cmpR (op_neA (un_lt hr (by decide))) (pe_callB (cr_repr hg (un_lt hr (by decide))) (by rfl) T.b_repr (by decide +kernel) (pa_cons (pv 9) pa_nil)) (pe_callB (cr_repr hg (un_lt hr (by decide))) (by rfl) T.b_repr (by decide +kernel) (pa_cons (pe_tup (pa_cons pe_str (pa_cons (pv 6) pa_nil))) pa_nil)) (nomark _)) (pw_or1 (pt_cmpR (op_neA (un_lt hr (by decide))) (pe_callB (cr_repr hg (un_lt hr (by decide))) (by rfl) T.b_repr (by decide +kernel) (pa_cons (pv 11) pa_nil)) (pe_callB (cr_repr hg (un_lt hr (by decide))) (by rfl) T.b_repr (by decide +kernel) (pa_cons (pe_tup (pa_cons pe_str (pa_cons (pv 6) pa_nil))) pa_nil)) (nomark _))))) (pss_one (ps_ret pe_bl)) pss_nil)
    (pss_cons (ps_set (i := 6) sc__law_both_hold.nd rfl (by first | exact Or.inl rfl | exact Or.inr rfl) (pe_callG h_law_greatest hg (hr.mono (by decide)) (by rfl) T.m__law_greatest T.t__law_greatest.kp T.d__law_greatest (pass_def (takes_of rfl rfl rfl rfl)) (pa_cons (pv 5) (pa_cons (pv 0) (pa_cons (pv 2) (pa_cons (pv 3) (pa_cons (pv 4) pa_nil)))))))
    (pss_cons (ps_if (pt_cmpR (op_neA (un_lt hr (by decide))) (pe_callB (cr_repr hg (un_lt hr (by decide))) (by rfl) T.b_repr (by decide +kernel) (pa_cons (pv 10) pa_nil)) (pe_callB (cr_repr hg (un_lt hr (by decide))) (by rfl) T.b_repr (by decide +kernel) (pa_cons (pe_tup (pa_cons pe_str (pa_cons (pv 6) pa_nil))) pa_nil)) (nomark _)) (pss_one (ps_ret pe_bl)) pss_nil)
    (pss_cons (ps_set (i := 13) sc__law_both_hold.nd rfl (by first | exact Or.inl rfl | exact Or.inr rfl) (pe_lc (own := [("stage", 16)]) (g := (gName 16)) (tt := tYes) rfl sc__law_both_hold.nd (pi_seq (pe_ix ix_q (pv 9) pe_int (fun _ _ => rfl))) (blkOk_by (own := [("stage", 16)]) (N := N__law_both_hold) (sc := defScope s__law_both_hold) (by decide +kernel)) (fun _ _ _ _ _ => (pg_name (i := 16) sc__law_both_hold.nd rfl (by first | exact Or.inl rfl | exact Or.inr rfl))) (fun _ _ _ _ _ => pts_nil) (fun _ _ _ _ _ => (pe_op op_addA (pv 16) pe_int))))
    (pss_cons (ps_setLc (i := 14) (own := [("v", 17)]) (g := (gName 17)) (tt := tYes) rfl sc__law_both_hold.nd rfl rfl (sw_true rfl rfl rfl (by decide +kernel)) (pi_range1 (by rfl) T.b_range (pa_cons (pv 0) pa_nil)) (blkOk_by (own := [("v", 17)]) (N := N__law_both_hold) (sc := defScope s__law_both_hold) (by decide +kernel)) (fun _ _ _ _ _ => (pg_name (i := 17) sc__law_both_hold.nd rfl (by first | exact Or.inl rfl | exact Or.inr rfl))) (fun _ _ _ _ _ => pts_nil) (fun _ _ _ _ _ => (pe_callB (call_min2 rfl) (by rfl) T.b_min (by decide +kernel) (pa_cons (pe_ix ix_q (pv 13) (pv 17) (fun _ _ => rfl)) (pa_cons (pe_ix ix_q (pv 6) (pv 17) (fun _ _ => rfl)) pa_nil)))))
    (pss_cons (ps_setLc (i := 15) (own := [("v", 17)]) (g := (gName 17)) (tt := tYes) rfl sc__law_both_hold.nd rfl rfl (sw_true rfl rfl rfl (by decide +kernel)) (pi_range1 (by rfl) T.b_range (pa_cons (pv 0) pa_nil)) (blkOk_by (own := [("v", 17)]) (N := N__law_both_hold) (sc := defScope s__law_both_hold) (by decide +kernel)) (fun _ _ _ _ _ => (pg_name (i := 17) sc__law_both_hold.nd rfl (by first | exact Or.inl rfl | exact Or.inr rfl))) (fun _ _ _ _ _ => pts_nil) (fun _ _ _ _ _ => (pe_callB (call_max2 rfl) (by rfl) T.b_max (by decide +kernel) (pa_cons (pe_ix ix_q (pv 13) (pv 17) (fun _ _ => rfl)) (pa_cons (pe_ix ix_q (pv 6) (pv 17) (fun _ _ => rfl)) pa_nil)))))
    (pss_cons (ps_if (pt_not (pt_val (pe_callG h_law_stages_hold hg (hr.mono (by decide)) (by rfl) T.m__law_stages_hold T.t__law_stages_hold.kp T.d__law_stages_hold (pass_def (takes_of rfl rfl rfl rfl)) (pa_cons (pv 5) (pa_cons (pv 14) (pa_cons (pv 2) (pa_cons (pv 3) pa_nil))))))) (pss_one (ps_ret pe_bl)) pss_nil)
    (pss_one (ps_ret (pe_callG h_law_stages_hold hg (hr.mono (by decide)) (by rfl) T.m__law_stages_hold T.t__law_stages_hold.kp T.d__law_stages_hold (pass_def (takes_of rfl rfl rfl rfl)) (pa_cons (pv 5) (pa_cons (pv 15) (pa_cons (pv 2) (pa_cons (pv 3) pa_nil)))))))))))))))))))))))
/-! ### _law_word -/
def t__law_word (K : PySem.W.Frag) (E : XK) (aBadSlots : Addr) (aNoTick : Addr) (pleast_stages : Sp) (pgreatest_stages : Sp) : TS :=
    (tSeq (fun e σ H => (fun V : WX => (tIfS (tB (tVar 4)) (tDrop (tCallG pleast_stages (WE V) (tCons (tVar 0) (tCons (tVar 1) (tCons (tVar 2) tNil))))) (tDrop (tCallG pgreatest_stages (WE V) (tCons (tVar 0) (tCons (tVar 1) (tCons (tVar 2) (tCons (tVar 3) tNil)))))))) (wCl K (fun cls d _ H => E cls d H) e ((.ref aNoTick, 5, fun a cls d => (tRet (tTup (tCons (tC (.str "tick")) (tCons (tCB (rRepr K) (tCons (tXf a cls d aNoTick "value" (tVar 5)) tNil)) tNil))))) :: ((.ref aBadSlots, 5, fun a cls d => (tRet (tTup (tCons (tC (.str "slots")) (tCons (tCB (rRepr K) (tCons (tXf a cls d aBadSlots "row" (tVar 5)) tNil)) tNil))))) :: []))) e σ H)
    (tRet (tTup (tCons (tC (.str "none")) (tCons (tC (.str "")) tNil)))))
theorem dv__law_word {P : Program} {w : World} {K : PySem.W.Frag} {mg : Str → Option Value} {base : Heap} (T : Tx K mg) {pleast_stages : Sp} (hleast_stages : FnG P w K mg base 4 T.f_least_stages T.g_least_stages P_least_stages pleast_stages) {pgreatest_stages : Sp} (hgreatest_stages : FnG P w K mg base 4 T.f_greatest_stages T.g_greatest_stages P_greatest_stages pgreatest_stages) {f : Addr} {cdv : Value} {A : Around} {outer : List Env} {s : Shared} {H : Hp} {E : XK} (hg : A.guards = some []) (hr : Room 4 (A.deeper (envOfC "_law_word" (defScope s__law_word) s.heap.objs.size f cdv))) :
    PSs (cxOf (L2.CX P w) P w K mg base N__law_word "_law_word" (defScope s__law_word) f cdv A outer s H E) (defBody s__law_word) (t__law_word K E T.a_BadSlots T.a_NoTick pleast_stages pgreatest_stages) :=
    (pss_cons (ps_tryC rfl rfl sc__law_word.nd (takes_of rfl rfl rfl rfl) (fun V pn xe tk po => (pss_one (ps_if (pt_val (pv 4)) (pss_one (ps_expr (pe_callG hleast_stages hg (hr.mono (by decide)) (by rfl) T.m_least_stages T.t_least_stages.kp T.d_least_stages (pass_try tk) (pa_cons (pv 0) (pa_cons (pv 1) (pa_cons (pv 2) pa_nil)))))) (pss_one (ps_expr (pe_callG hgreatest_stages hg (hr.mono (by decide)) (by rfl) T.m_greatest_stages T.t_greatest_stages.kp T.d_greatest_stages (pass_try tk) (pa_cons (pv 0) (pa_cons (pv 1) (pa_cons (pv 2) (pa_cons (pv 3) pa_nil)))))))))) (.cons ⟨by rfl, by decide, .inl T.m_NoTick⟩ rfl rfl (fun a oe cls d pn hz hf => (pss_one (ps_ret (pe_tup (pa_cons pe_str (pa_cons (pe_callB (cr_repr hg (by have h := un_lt (n := 100) hr (by decide); exact h)) (by rfl) T.b_repr (by decide +kernel) (pa_cons (pe_xf T.o_NoTick.xf T.o_NoTick.nf hz hf (pv 5)) pa_nil)) pa_nil)))))) (.cons ⟨by rfl, by decide, .inl T.m_BadSlots⟩ rfl rfl (fun a oe cls d pn hz hf => (pss_one (ps_ret (pe_tup (pa_cons pe_str (pa_cons (pe_callB (cr_repr hg (by have h := un_lt (n := 100) hr (by decide); exact h)) (by rfl) T.b_repr (by decide +kernel) (pa_cons (pe_xf T.o_BadSlots.xf T.o_BadSlots.nf hz hf (pv 5)) pa_nil)) pa_nil)))))) .nil)))
    (pss_one (ps_ret (pe_tup (pa_cons pe_str (pa_cons pe_str pa_nil))))))
/-! ### _law_refusals -/
def t__law_refusals (K : PySem.W.Frag) (E : XK) (aNet : Addr) (pNet : Sp) (p_law_word : Sp) : TS :=
    (tSeq (tAsg (tMake aNet pNet [] E0 (tCons (tVar 0) (tCons (tCB (rListOf K) (tCons (tVar 1) tNil)) tNil))) (gName 5))
    (tSeq (tAsg (tOp rModI (tCB rInt1 (tCons (tVar 4) tNil)) (tVar 0)) (gName 6))
    (tSeq (tFor (iSeq K (tLst (tCons (tC (.bl true)) (tCons (tC (.bl false)) tNil)))) (gName 7) (tSeq (tFor (iSeq K (tLst (tCons (tC (.int 0)) (tCons (tC (.int 201)) (tCons (tUn rNegI (tC (.int 1))) tNil))))) (gName 8) (tIfS (tTest (tOp (rNeA K) (tCallG p_law_word (fun _ => E) (tCons (tVar 5) (tCons (tVar 8) (tCons (tLst tNil) (tCons (tC (.int 1001)) (tCons (tVar 7) tNil)))))) (tTup (tCons (tC (.str "tick")) (tCons (tCB (rRepr K) (tCons (tVar 8) tNil)) tNil))))) (tRet (tC (.bl false))) tNext))
    (tSeq (tFor (iSeq K (tLst (tCons (tSl (rSlL K) (tVar 3) (tPart (tC (.int 1))) tNoPart) (tCons (tOp (rAddA K) (tVar 3) (tLst (tCons (tC (.int 0)) tNil))) tNil)))) (gName 9) (tIfS (tTest (tOp (rNeA K) (tCallG p_law_word (fun _ => E) (tCons (tVar 5) (tCons (tVar 2) (tCons (tVar 9) (tCons (tC (.int 1001)) (tCons (tVar 7) tNil)))))) (tTup (tCons (tC (.str "slots")) (tCons (tC (.str "-1")) tNil))))) (tRet (tC (.bl false))) tNext))
    (tFor (iSeq K (tLst (tCons (tVar 2) (tCons (tUn rNegI (tC (.int 1))) (tCons (tC (.int 1000000)) tNil))))) (gName 8) (tSeq (tAsg (tCB (rListOf K) (tCons (tVar 3) tNil)) (gName 10))
    (tSeq (tAsg (tVar 8) (gSub (tVar 10) (tVar 6) rSetL))
    (tSeq (tFor (iRng2 (tCons (tOp (rAddA K) (tVar 6) (tC (.int 1))) (tCons (tVar 0) tNil))) (gName 11) (tAsg (tUn rNegI (tC (.int 1))) (gSub (tVar 10) (tVar 11) rSetL)))
    (tIfS (tTest (tOp (rNeA K) (tCallG p_law_word (fun _ => E) (tCons (tVar 5) (tCons (tVar 2) (tCons (tVar 10) (tCons (tC (.int 1001)) (tCons (tVar 7) tNil)))))) (tTup (tCons (tC (.str "slots")) (tCons (tCB (rRepr K) (tCons (tVar 6) tNil)) tNil))))) (tRet (tC (.bl false))) tNext))))))))
    (tSeq (tFor (iSeq K (tLst (tCons (tC (.int 1001)) (tCons (tUn rNegI (tC (.int 1001))) tNil)))) (gName 8) (tIfS (tTest (tOp (rNeA K) (tCallG p_law_word (fun _ => E) (tCons (tVar 5) (tCons (tVar 2) (tCons (tCB (rListOf K) (tCons (tVar 3) tNil)) (tCons (tVar 8) (tCons (tC (.bl false)) tNil)))))) (tTup (tCons (tC (.str "tick")) (tCons (tCB (rRepr K) (tCons (tVar 8) tNil)) tNil))))) (tRet (tC (.bl false))) tNext))
    (tRet (tC (.bl true)))))))
theorem dv__law_refusals {P : Program} {w : World} {K : PySem.W.Frag} {mg : Str → Option Value} {base : Heap} (T : Tx K mg) {pNet : Sp} (hNet : FnOk P w K mg base (L2.CX P w) 3 T.f_Net T.g_Net P_Net pNet) {p_law_word : Sp} (h_law_word : FnG P w K mg base 5 T.f__law_word T.g__law_word P__law_word p_law_word) {f : Addr} {cdv : Value} {A : Around} {outer : List Env} {s : Shared} {H : Hp} {E : XK} (hg : A.guards = some []) (hr : Room 5 (A.deeper (envOfC "_law_refusals" (defScope s__law_refusals) s.heap.objs.size f cdv))) :
    PSs (cxOf (L2.CX P w) P w K mg base N__law_refusals "_law_refusals" (defScope s__law_refusals) f cdv A outer s H E) (defBody s__law_refusals) (t__law_refusals K E T.a_Net pNet p_law_word) :=
    (pss_cons (ps_set (i := 5) sc__law_refusals.nd rfl (by first | exact Or.inl rfl | exact Or.inr rfl) (pe_make T.k_Net hNet (hr.mono (by decide)) (by rfl) T.m_Net T.i_Net .nil passL (pa_cons (pv 0) (pa_cons (pe_callTy call_list_of (by rfl) T.b_list (by decide +kernel) (pa_cons (pv 1) pa_nil)) pa_nil))))
    (pss_cons (ps_set (i := 6) sc__law_refusals.nd rfl (by first | exact Or.inl rfl | exact Or.inr rfl) (pe_op op_mod (pe_callTy call_int1 (by rfl) T.b_int (by decide +kernel) (pa_cons (pv 4) pa_nil)) (pv 0)))
    (pss_cons (ps_for (passes_of rfl) rfl (pi_seq (pe_lst (pa_cons pe_bl (pa_cons pe_bl pa_nil)))) (pg_name (i := 7) sc__law_refusals.nd rfl (by first | exact Or.inl rfl | exact Or.inr rfl)) (pss_cons (ps_for (passes_of rfl) rfl (pi_seq (pe_lst (pa_cons pe_int (pa_cons pe_int (pa_cons (pe_un un_neg pe_int) pa_nil))))) (pg_name (i := 8) sc__law_refusals.nd rfl (by first | exact Or.inl rfl | exact Or.inr rfl)) (pss_one (ps_if (pt_cmpR (op_neA (un_lt hr (by decide))) (pe_callG h_law_word hg (hr.mono (by decide)) (by rfl) T.m__law_word T.t__law_word.kp T.d__law_word (pass_def (takes_of rfl rfl rfl rfl)) (pa_cons (pv 5) (pa_cons (pv 8) (pa_cons (pe_lst pa_nil) (pa_cons pe_int (pa_cons (pv 7) pa_nil)))))) (pe_tup (pa_cons pe_str (pa_cons (pe_callB (cr_repr hg (un_lt hr (by decide))) (by rfl) T.b_repr (by decide +kernel) (pa_cons (pv 8) pa_nil)) pa_nil))) (nomark _)) (pss_one (ps_ret pe_bl)) pss_nil)))
    (pss_cons (ps_for (passes_of rfl) rfl (pi_seq (pe_lst (pa_cons (pe_slice sl_list (pv 3) (po_some pe_int) po_none) (pa_cons (pe_op op_addA (pv 3) (pe_lst (pa_cons pe_int pa_nil))) pa_nil)))) (pg_name (i := 9) sc__law_refusals.nd rfl (by first | exact Or.inl rfl | exact Or.inr rfl)) (pss_one (ps_if (pt_cmpR (op_neA (un_lt hr (by decide))) (pe_callG h_law_word hg (hr.mono (by decide)) (by rfl) T.m__law_word T.t__law_word.kp T.d__law_word (pass_def (takes_of rfl rfl rfl rfl)) (pa_cons (pv 5) (pa_cons (pv 2) (pa_cons (pv 9) (pa_cons pe_int (pa_cons (pv 7) pa_nil)))))) (pe_tup (pa_cons pe_str (pa_cons pe_str pa_nil))) (nomark _)) (pss_one (ps_ret pe_bl)) pss_nil)))
    (pss_one (ps_for (passes_of rfl) rfl (pi_seq (pe_lst (pa_cons (pv 2) (pa_cons (pe_un un_neg pe_int) (pa_cons pe_int pa_nil))))) (pg_name (i := 8) sc__law_refusals.nd rfl (by first | exact Or.inl rfl | exact Or.inr rfl)) (pss_cons (ps_set (i := 10) sc__law_refusals.nd rfl (by first | exact Or.inl rfl | exact Or.inr rfl) (pe_callTy call_list_of (by rfl) T.b_list (by decide +kernel) (pa_cons (pv 3) pa_nil)))
    (pss_cons (ps_asg (pv 8) (pg_sub (pv 10) (pv 6) set_list))
    (pss_cons (ps_for (passes_of rfl) rfl (pi_range2 (by rfl) T.b_range (pa_cons (pe_op op_addA (pv 6) pe_int) (pa_cons (pv 0) pa_nil))) (pg_name (i := 11) sc__law_refusals.nd rfl (by first | exact Or.inl rfl | exact Or.inr rfl)) (pss_one (ps_asg (pe_un un_neg pe_int) (pg_sub (pv 10) (pv 11) set_list))))
    (pss_one (ps_if (pt_cmpR (op_neA (un_lt hr (by decide))) (pe_callG h_law_word hg (hr.mono (by decide)) (by rfl) T.m__law_word T.t__law_word.kp T.d__law_word (pass_def (takes_of rfl rfl rfl rfl)) (pa_cons (pv 5) (pa_cons (pv 2) (pa_cons (pv 10) (pa_cons pe_int (pa_cons (pv 7) pa_nil)))))) (pe_tup (pa_cons pe_str (pa_cons (pe_callB (cr_repr hg (un_lt hr (by decide))) (by rfl) T.b_repr (by decide +kernel) (pa_cons (pv 6) pa_nil)) pa_nil))) (nomark _)) (pss_one (ps_ret pe_bl)) pss_nil))))))))))
    (pss_cons (ps_for (passes_of rfl) rfl (pi_seq (pe_lst (pa_cons pe_int (pa_cons (pe_un un_neg pe_int) pa_nil)))) (pg_name (i := 8) sc__law_refusals.nd rfl (by first | exact Or.inl rfl | exact Or.inr rfl)) (pss_one (ps_if (pt_cmpR (op_neA (un_lt hr (by decide))) (pe_callG h_law_word hg (hr.mono (by decide)) (by rfl) T.m__law_word T.t__law_word.kp T.d__law_word (pass_def (takes_of rfl rfl rfl rfl)) (pa_cons (pv 5) (pa_cons (pv 2) (pa_cons (pe_callTy call_list_of (by rfl) T.b_list (by decide +kernel) (pa_cons (pv 3) pa_nil)) (pa_cons (pv 8) (pa_cons pe_bl pa_nil)))))) (pe_tup (pa_cons pe_str (pa_cons (pe_callB (cr_repr hg (un_lt hr (by decide))) (by rfl) T.b_repr (by decide +kernel) (pa_cons (pv 8) pa_nil)) pa_nil))) (nomark _)) (pss_one (ps_ret pe_bl)) pss_nil)))
    (pss_one (ps_ret pe_bl))))))
/-! ### _law_made_holds -/
def t__law_made_holds (K : PySem.W.Frag) (E : XK) (aNet : Addr) (pNet : Sp) (pleast_stages : Sp) (pgreatest_stages : Sp) (p_law_both_hold : Sp) : TS :=
    (tSeq (tAsg (tLc (iRng1 (tCons (tVar 0) tNil)) (gName 7) tYes (tOp rModI (tCB rInt1 (tCons (tVar 7) tNil)) (tVar 1)) [7]) (gName 4))
    (tSeq (tAsg (tMake aNet pNet [] E0 (tCons (tVar 0) (tCons (tLst tNil) tNil))) (gName 5))
    (tSeq (tAsg (tCallG pleast_stages (fun _ => E) (tCons (tVar 5) (tCons (tVar 1) (tCons (tCB (rListOf K) (tCons (tVar 4) tNil)) tNil)))) (gName 6))
    (tSeq (tIfS (tTest (tOp (rNeA K) (tCB (rRepr K) (tCons (tVar 6) tNil)) (tCB (rRepr K) (tCons (tTup (tCons (tC (.str "stages")) (tCons (tOp (rMulA K) (tTup (tCons (tC (.int 0)) tNil)) (tVar 0)) tNil))) tNil)))) (tRet (tC (.bl false))) tNext)
    (tSeq (tAsg (tCallG pgreatest_stages (fun _ => E) (tCons (tVar 5) (tCons (tVar 1) (tCons (tCB (rListOf K) (tCons (tVar 4) tNil)) (tCons (tVar 2) tNil))))) (gName 6))
    (tSeq (tIfS (tTest (tOp (rNeA K) (tCB (rRepr K) (tCons (tVar 6) tNil)) (tCB (rRepr K) (tCons (tTup (tCons (tC (.str "stages")) (tCons (tOp (rMulA K) (tTup (tCons (tVar 2) tNil)) (tVar 0)) tNil))) tNil)))) (tRet (tC (.bl false))) tNext)
    (tSeq (tFor (iSeq K (tLst (tCons (tOp rSubI (tVar 3) (tC (.int 1))) (tCons (tVar 3) tNil)))) (gName 6) (tIfS (tNot (tB (tCallG p_law_both_hold (fun _ => E) (tCons (tC (.int 1)) (tCons (tLst (tCons (tTup (tCons (tC (.int 0)) (tCons (tC (.int 0)) (tCons (tC (.int 1)) (tCons (tVar 3) tNil))))) tNil)) (tCons (tVar 6) (tCons (tLst (tCons (tC (.int 0)) tNil)) (tCons (tVar 2) tNil)))))))) (tRet (tC (.bl false))) tNext))
    (tSeq (tAsg (tMake aNet pNet [] E0 (tCons (tC (.int 1)) (tCons (tLst (tCons (tTup (tCons (tC (.int 0)) (tCons (tC (.int 0)) (tCons (tC (.int 1)) (tCons (tVar 3) tNil))))) tNil)) tNil))) (gName 5))
    (tSeq (tIfS (tTest (tOp (rNeA K) (tOp (rIxQ K) (tCallG pleast_stages (fun _ => E) (tCons (tVar 5) (tCons (tVar 3) (tCons (tLst (tCons (tC (.int 0)) tNil)) tNil)))) (tC (.int 0))) (tC (.str "stages")))) (tRet (tC (.bl false))) tNext)
    (tRet (tOp (rEqA K) (tOp (rIxQ K) (tCallG pleast_stages (fun _ => E) (tCons (tVar 5) (tCons (tOp rSubI (tVar 3) (tC (.int 1))) (tCons (tLst (tCons (tC (.int 0)) tNil)) tNil)))) (tC (.int 0))) (tC (.str "ring")))))))))))))
theorem dv__law_made_holds {P : Program} {w : World} {K : PySem.W.Frag} {mg : Str → Option Value} {base : Heap} (T : Tx K mg) {pNet : Sp} (hNet : FnOk P w K mg base (L2.CX P w) 3 T.f_Net T.g_Net P_Net pNet) {pleast_stages : Sp} (hleast_stages : FnG P w K mg base 4 T.f_least_stages T.g_least_stages P_least_stages pleast_stages) {pgreatest_stages : Sp} (hgreatest_stages : FnG P w K mg base 4 T.f_greatest_stages T.g_greatest_stages P_greatest_stages pgreatest_stages) {p_law_both_hold : Sp} (h_law_both_hold : FnG P w K mg base 5 T.f__law_both_hold T.g__law_both_hold P__law_both_hold p_law_both_hold) {f : Addr} {cdv : Value} {A : Around} {outer : List Env} {s : Shared} {H : Hp} {E : XK} (hg : A.guards = some []) (hr : Room 5 (A.deeper (envOfC "_law_made_holds" (defScope s__law_made_holds) s.heap.objs.size f cdv))) :
    PSs (cxOf (L2.CX P w) P w K mg base N__law_made_holds "_law_made_holds" (defScope s__law_made_holds) f cdv A outer s H E) (defBody s__law_made_holds) (t__law_made_holds K E T.a_Net pNet pleast_stages pgreatest_stages p_law_both_hold) :=
    (pss_cons (ps_setLc (i := 4) (own := [("k", 7)]) (g := (gName 7)) (tt := tYes) rfl sc__law_made_holds.nd rfl rfl (sw_true rfl rfl rfl (by decide +kernel)) (pi_range1 (by rfl) T.b_range (pa_cons (pv 0) pa_nil)) (blkOk_by (own := [("k", 7)]) (N := N__law_made_holds) (sc := defScope s__law_made_holds) (by decide +kernel)) (fun _ _ _ _ _ => (pg_name (i := 7) sc__law_made_holds.nd rfl (by first | exact Or.inl rfl | exact Or.inr rfl))) (fun _ _ _ _ _ => pts_nil) (fun _ _ _ _ _ => (pe_op op_mod (pe_callTy call_int1 (by rfl) T.b_int (by decide +kernel) (pa_cons (pv 7) pa_nil)) (pv 1))))
    (pss_cons (ps_set (i := 5) sc__law_made_holds.nd rfl (by first | exact Or.inl rfl | exact Or.inr rfl) (pe_make T.k_Net hNet (hr.mono (by decide)) (by rfl) T.m_Net T.i_Net .nil passL (pa_cons (pv 0) (pa_cons (pe_lst pa_nil) pa_nil))))
    (pss_cons (ps_set (i := 6) sc__law_made_holds.nd rfl (by first | exact Or.inl rfl | exact Or.inr rfl) (pe_callG hleast_stages hg (hr.mono (by decide)) (by rfl) T.m_least_stages T.t_least_stages.kp T.d_least_stages (pass_def (takes_of rfl rfl rfl rfl)) (pa_cons (pv 5) (pa_cons (pv 1) (pa_cons (pe_callTy call_list_of (by rfl) T.b_list (by decide +kernel) (pa_cons (pv 4) pa_nil)) pa_nil)))))
    (pss_cons (ps_if (pt_cmpR (op_neA (un_lt hr (by decide))) (pe_callB (cr_repr hg (un_lt hr (by decide))) (by rfl) T.b_repr (by decide +kernel) (pa_cons (pv 6) pa_nil)) (pe_callB (cr_repr hg (un_lt hr (by decide))) (by rfl) T.b_repr (by decide +kernel) (pa_cons (pe_tup (pa_cons pe_str (pa_cons (pe_op op_mulA (pe_tup (pa_cons pe_int pa_nil)) (pv 0)) pa_nil))) pa_nil)) (nomark _)) (pss_one (ps_ret pe_bl)) pss_nil)
    (pss_cons (ps_set (i := 6) sc__law_made_holds.nd rfl (by first | exact Or.inl rfl | exact Or.inr rfl) (pe_callG hgreatest_stages hg (hr.mono (by decide)) (by rfl) T.m_greatest_stages T.t_greatest_stages.kp T.d_greatest_stages (pass_def (takes_of rfl rfl rfl rfl)) (pa_cons (pv 5) (pa_cons (pv 1) (pa_cons (pe_callTy call_list_of (by rfl) T.b_list (by decide +kernel) (pa_cons (pv 4) pa_nil)) (pa_cons (pv 2) pa_nil))))))
    (pss_cons (ps_if (pt_cmpR (op_neA (un_lt hr (by decide))) (pe_callB (cr_repr hg (un_lt hr (by decide))) (by rfl) T.b_repr (by decide +kernel) (pa_cons (pv 6) pa_nil)) (pe_callB (cr_repr hg (un_lt hr (by decide))) (by rfl) T.b_repr (by decide +kernel) (pa_cons (pe_tup (pa_cons pe_str (pa_cons (pe_op op_mulA (pe_tup (pa_cons (pv 2) pa_nil)) (pv 0)) pa_nil))) pa_nil)) (nomark _)) (pss_one (ps_ret pe_bl)) pss_nil)
    (pss_cons (ps_for (passes_of rfl) rfl (pi_seq (pe_lst (pa_cons (pe_op op_sub (pv 3) pe_int) (pa_cons (pv 3) pa_nil)))) (pg_name (i := 6) sc__law_made_holds.nd rfl (by first | exact Or.inl rfl | exact Or.inr rfl)) (pss_one (ps_if (pt_not (pt_val (pe_callG h_law_both_hold hg (hr.mono (by decide)) (by rfl) T.m__law_both_hold T.t__law_both_hold.kp T.d__law_both_hold (pass_def (takes_of rfl rfl rfl rfl)) (pa_cons pe_int (pa_cons (pe_lst (pa_cons (pe_tup (pa_cons pe_int (pa_cons pe_int (pa_cons pe_int (pa_cons (pv 3) pa_nil))))) pa_nil)) (pa_cons (pv 6) (pa_cons (pe_lst (pa_cons pe_int pa_nil)) (pa_cons (pv 2) pa_nil)))))))) (pss_one (ps_ret pe_bl)) pss_nil)))
    (pss_cons (ps_set (i := 5) sc__law_made_holds.nd rfl (by first | exact Or.inl rfl | exact Or.inr rfl) (pe_make T.k_Net hNet (hr.mono (by decide)) (by rfl) T.m_Net T.i_Net .nil passL (pa_cons pe_int (pa_cons (pe_lst (pa_cons (pe_tup (pa_cons pe_int (pa_cons pe_int (pa_cons pe_int (pa_cons (pv 3) pa_nil))))) pa_nil)) pa_nil))))
    (pss_cons (ps_if (pt_cmpR (op_neA (un_lt hr (by decide))) (pe_ix ix_q (pe_callG hleast_stages hg (hr.mono (by decide)) (by rfl) T.m_least_stages T.t_least_stages.kp T.d_least_stages (pass_def (takes_of rfl rfl rfl rfl)) (pa_cons (pv 5) (pa_cons (pv 3) (pa_cons (pe_lst (pa_cons pe_int pa_nil)) pa_nil)))) pe_int (fun _ _ => rfl)) pe_str (nomark _)) (pss_one (ps_ret pe_bl)) pss_nil)
    (pss_one (ps_ret (pe_cmpR (op_eqA (un_lt hr (by decide))) (pe_ix ix_q (pe_callG hleast_stages hg (hr.mono (by decide)) (by rfl) T.m_least_stages T.t_least_stages.kp T.d_least_stages (pass_def (takes_of rfl rfl rfl rfl)) (pa_cons (pv 5) (pa_cons (pe_op op_sub (pv 3) pe_int) (pa_cons (pe_lst (pa_cons pe_int pa_nil)) pa_nil)))) pe_int (fun _ _ => rfl)) pe_str (nomark _)))))))))))))
/-! ### law -/
def t_law (K : PySem.W.Frag) (E : XK) (p_law_stock : Sp) (p_law_draw : Sp) (p_law_both_hold : Sp) (p_law_made_holds : Sp) (p_law_refusals : Sp) : TS :=
    (tSeq (tAsg (tCallG p_law_stock (fun _ => E) (tCons (tVar 0) tNil)) (gName 1))
    (tSeq (tAsg (tOp (rAddA K) (tC (.int 1)) (tCallG p_law_draw (fun _ => E) (tCons (tVar 1) (tCons (tC (.int 8)) tNil)))) (gName 2))
    (tSeq (tAsg (tOp (rEqA K) (tCallG p_law_draw (fun _ => E) (tCons (tVar 1) (tCons (tC (.int 5)) tNil))) (tC (.int 4))) (gName 3))
    (tSeq (tAsg (tLst tNil) (gName 4))
    (tSeq (tFor (iRng1 (tCons (tOp (rAddA K) (tOp (rAddA K) (tC (.int 2)) (tCallG p_law_draw (fun _ => E) (tCons (tVar 1) (tCons (tC (.int 10)) tNil)))) (tCallG p_law_draw (fun _ => E) (tCons (tVar 1) (tCons (tC (.int 10)) tNil)))) tNil)) (gName 5) (tSeq (tAsg (tCallG p_law_draw (fun _ => E) (tCons (tVar 1) (tCons (tVar 2) tNil))) (gName 6))
    (tSeq (tAsg (tCallG p_law_draw (fun _ => E) (tCons (tVar 1) (tCons (tVar 2) tNil))) (gName 7))
    (tSeq (tAsg (tCallG p_law_draw (fun _ => E) (tCons (tVar 1) (tCons (tC (.int 4)) tNil))) (gName 8))
    (tSeq (tAsg (tCallG p_law_draw (fun _ => E) (tCons (tVar 1) (tCons (tC (.int 10)) tNil))) (gName 9))
    (tSeq (tIfS (tB (tVar 3)) (tSeq (tAsg (tOp (rMulA K) (tC (.int 13)) (tVar 8)) (gName 8))
    (tAsg (tOp (rAddA K) (tOp (rMulA K) (tC (.int 4)) (tVar 9)) (tC (.int 4))) (gName 9))) tNext)
    (tSeq (tIfS (tAnd (tTest (tOp (rEqA K) (tVar 8) (tC (.int 0)))) (tTest (tOp rGeI (tVar 6) (tVar 7)))) (tAsg (tC (.int 1)) (gName 8)) tNext)
    (tDrop (tBM K "list" rAppend (tVar 4) (tCons (tTup (tCons (tVar 6) (tCons (tVar 7) (tCons (tVar 8) (tCons (tVar 9) tNil))))) tNil))))))))))
    (tSeq (tAsg (tOp (rAddA K) (tOp (rAddA K) (tC (.int 1)) (tCallG p_law_draw (fun _ => E) (tCons (tVar 1) (tCons (tC (.int 10)) tNil)))) (tCallG p_law_draw (fun _ => E) (tCons (tVar 1) (tCons (tC (.int 10)) tNil)))) (gName 10))
    (tSeq (tIfS (tTest (tOp (rEqA K) (tCallG p_law_draw (fun _ => E) (tCons (tVar 1) (tCons (tC (.int 4)) tNil))) (tC (.int 3)))) (tAsg (tC (.int 200)) (gName 10)) tNext)
    (tSeq (tAsg (tOp (rMulA K) (tLst (tCons (tC (.int 0)) tNil)) (tVar 2)) (gName 11))
    (tSeq (tIfS (tTest (tOp (rNeA K) (tCallG p_law_draw (fun _ => E) (tCons (tVar 1) (tCons (tC (.int 4)) tNil))) (tC (.int 2)))) (tAsg (tLc (iRng1 (tCons (tVar 2) tNil)) (gName 5) tYes (tOp rModI (tCB rInt1 (tCons (tOp (rMulA K) (tCallG p_law_draw (fun _ => E0) (tCons (tVar 1) (tCons (tC (.int 10)) tNil))) (tC (.int 23))) tNil)) (tVar 10)) [5]) (gName 11)) tNext)
    (tSeq (tAsg (tOp (rIxQ K) (tLst (tCons (tC (.int 1000)) (tCons (tC (.int 0)) (tCons (tUn rNegI (tC (.int 1000))) (tCons (tCallG p_law_draw (fun _ => E) (tCons (tVar 1) (tCons (tC (.int 10)) tNil))) tNil))))) (tCallG p_law_draw (fun _ => E) (tCons (tVar 1) (tCons (tC (.int 4)) tNil)))) (gName 12))
    (tSeq (tAsg (tCallG p_law_draw (fun _ => E) (tCons (tVar 1) (tCons (tC (.int 10)) tNil))) (gName 13))
    (tSeq (tIfS (tNot (tB (tCallG p_law_both_hold (fun _ => E) (tCons (tVar 2) (tCons (tVar 4) (tCons (tVar 10) (tCons (tVar 11) (tCons (tVar 12) tNil)))))))) (tRet (tC (.bl false))) tNext)
    (tSeq (tIfS (tNot (tB (tCallG p_law_both_hold (fun _ => E) (tCons (tVar 2) (tCons (tVar 4) (tCons (tC (.int 200)) (tCons (tVar 11) (tCons (tVar 12) tNil)))))))) (tRet (tC (.bl false))) tNext)
    (tSeq (tIfS (tNot (tB (tCallG p_law_made_holds (fun _ => E) (tCons (tVar 2) (tCons (tVar 10) (tCons (tVar 12) (tCons (tOp (rAddA K) (tC (.int 2)) (tOp (rMulA K) (tC (.int 4)) (tVar 13))) tNil))))))) (tRet (tC (.bl false))) tNext)
    (tRet (tCallG p_law_refusals (fun _ => E) (tCons (tVar 2) (tCons (tVar 4) (tCons (tVar 10) (tCons (tVar 11) (tCons (tVar 13) tNil)))))))))))))))))))))
theorem dv_law {P : Program} {w : World} {K : PySem.W.Frag} {mg : Str → Option Value} {base : Heap} (T : Tx K mg) {p_law_stock : Sp} (h_law_stock : FnG P w K mg base 1 T.f__law_stock T.g__law_stock P__law_stock p_law_stock) {p_law_draw : Sp} (h_law_draw : FnG P w K mg base 1 T.f__law_draw T.g__law_draw P__law_draw p_law_draw) {p_law_both_hold : Sp} (h_law_both_hold : FnG P w K mg base 5 T.f__law_both_hold T.g__law_both_hold P__law_both_hold p_law_both_hold) {p_law_made_holds : Sp} (h_law_made_holds : FnG P w K mg base 6 T.f__law_made_holds T.g__law_made_holds P__law_made_holds p_law_made_holds) {p_law_refusals : Sp} (h_law_refusals : FnG P w K mg base 6 T.f__law_refusals T.g__law_refusals P__law_refusals p_law_refusals) {f : Addr} {cdv : Value} {A : Around} {outer : List Env} {s : Shared} {H : Hp} {E : XK} (hg : A.guards = some []) (hr : Room 6 (A.deeper (envOfC "law" (defScope s_law) s.heap.objs.size f cdv))) :
    PSs (cxOf (L2.CX P w) P w K mg base N_law "law" (defScope s_law) f cdv A outer s H E) (defBody s_law) (t_law K E p_law_stock p_law_draw p_law_both_hold p_law_made_holds p_law_refusals) :=
    (pss_cons (ps_set (i := 1) sc_law.nd rfl (by first | exact Or.inl rfl | exact Or.inr rfl) (pe_callG h_law_stock hg (hr.mono (by decide)) (by rfl) T.m__law_stock T.t__law_stock.kp T.d__law_stock (pass_def (takes_of rfl rfl rfl rfl)) (pa_cons (pv 0) pa_nil)))
    (pss_cons (ps_set (i := 2) sc_law.nd rfl (by first | exact Or.inl rfl | exact Or.inr rfl) (pe_op op_addA pe_int (pe_callG h_law_draw hg (hr.mono (by decide)) (by rfl) T.m__law_draw T.t__law_draw.kp T.d__law_draw (pass_def (takes_of rfl rfl rfl rfl)) (pa_cons (pv 1) (pa_cons pe_int pa_nil)))))
    (pss_cons (ps_set (i := 3) sc_law.nd rfl (by first | exact Or.inl rfl | exact Or.inr rfl) (pe_cmpR (op_eqA (un_lt hr (by decide))) (pe_callG h_law_draw hg (hr.mono (by decide)) (by rfl) T.m__law_draw T.t__law_draw.kp T.d__law_draw (pass_def (takes_of rfl rfl rfl rfl)) (pa_cons (pv 1) (pa_cons pe_int pa_nil))) pe_int (nomark _)))
    (pss_cons (ps_set (i := 4) sc_law.nd rfl (by first | exact Or.inl rfl | exact Or.inr rfl) (pe_lst pa_nil))
    (pss_cons (ps_for (passes_of rfl) rfl (pi_range1 (by rfl) T.b_range (pa_cons (pe_op op_addA (pe_op op_addA pe_int (pe_callG h_law_draw hg (hr.mono (by decide)) (by rfl) T.m__law_draw T.t__law_draw.kp T.d__law_draw (pass_def (takes_of rfl rfl rfl rfl)) (pa_cons (pv 1) (pa_cons pe_int pa_nil)))) (pe_callG h_law_draw hg (hr.mono (by decide)) (by rfl) T.m__law_draw T.t__law_draw.kp T.d__law_draw (pass_def (takes_of rfl rfl rfl rfl)) (pa_cons (pv 1) (pa_cons pe_int pa_nil)))) pa_nil)) (pg_name (i := 5) sc_law.nd rfl (by first | exact Or.inl rfl | exact Or.inr rfl)) (pss_cons (ps_set (i := 6) sc_law.nd rfl (by first | exact Or.inl rfl | exact Or.inr rfl) (pe_callG h_law_draw hg (hr.mono (by decide)) (by rfl) T.m__law_draw T.t__law_draw.kp T.d__law_draw (pass_def (takes_of rfl rfl rfl rfl)) (pa_cons (pv 1) (pa_cons (pv 2) pa_nil))))
    (pss_cons (ps_set (i := 7) sc_law.nd rfl (by first | exact Or.inl rfl | exact Or.inr rfl) (pe_callG h_law_draw hg (hr.mono (by decide)) (by rfl) T.m__law_draw T.t__law_draw.kp T.d__law_draw (pass_def (takes_of rfl rfl rfl rfl)) (pa_cons (pv 1) (pa_cons (pv 2) pa_nil))))
    (pss_cons (ps_set (i := 8) sc_law.nd rfl (by first | exact Or.inl rfl | exact Or.inr rfl) (pe_callG h_law_draw hg (hr.mono (by decide)) (by rfl) T.m__law_draw T.t__law_draw.kp T.d__law_draw (pass_def (takes_of rfl rfl rfl rfl)) (pa_cons (pv 1) (pa_cons pe_int pa_nil))))
    (pss_cons (ps_set (i := 9) sc_law.nd rfl (by first | exact Or.inl rfl | exact Or.inr rfl) (pe_callG h_law_draw hg (hr.mono (by decide)) (by rfl) T.m__law_draw T.t__law_draw.kp T.d__law_draw (pass_def (takes_of rfl rfl rfl rfl)) (pa_cons (pv 1) (pa_cons pe_int pa_nil))))
    (pss_cons (ps_if (pt_val (pv 3)) (pss_cons (ps_set (i := 8) sc_law.nd rfl (by first | exact Or.inl rfl | exact Or.inr rfl) (pe_op op_mulA pe_int (pv 8)))
    (pss_one (ps_set (i := 9) sc_law.nd rfl (by first | exact Or.inl rfl | exact Or.inr rfl) (pe_op op_addA (pe_op op_mulA pe_int (pv 9)) pe_int)))) pss_nil)
    (pss_cons (ps_if (PW.pt (pw_and (pt_cmpR (op_eqA (un_lt hr (by decide))) (pv 8) pe_int (nomark _)) (pw_and1 (pt_cmpR op_ge (pv 6) (pv 7) (nomark _))))) (pss_one (ps_set (i := 8) sc_law.nd rfl (by first | exact Or.inl rfl | exact Or.inr rfl) pe_int)) pss_nil)
    (pss_one (ps_expr (pe_bm PySem.F.plainAttrs_list PySem.F.slot_list_append PySem.F.type_list_append mt_append (pv 4) (pa_cons (pe_tup (pa_cons (pv 6) (pa_cons (pv 7) (pa_cons (pv 8) (pa_cons (pv 9) pa_nil))))) pa_nil)))))))))))
    (pss_cons (ps_set (i := 10) sc_law.nd rfl (by first | exact Or.inl rfl | exact Or.inr rfl) (pe_op op_addA (pe_op op_addA pe_int (pe_callG h_law_draw hg (hr.mono (by decide)) (by rfl) T.m__law_draw T.t__law_draw.kp T.d__law_draw (pass_def (takes_of rfl rfl rfl rfl)) (pa_cons (pv 1) (pa_cons pe_int pa_nil)))) (pe_callG h_law_draw hg (hr.mono (by decide)) (by rfl) T.m__law_draw T.t__law_draw.kp T.d__law_draw (pass_def (takes_of rfl rfl rfl rfl)) (pa_cons (pv 1) (pa_cons pe_int pa_nil)))))
    (pss_cons (ps_if (pt_cmpR (op_eqA (un_lt hr (by decide))) (pe_callG h_law_draw hg (hr.mono (by decide)) (by rfl) T.m__law_draw T.t__law_draw.kp T.d__law_draw (pass_def (takes_of rfl rfl rfl rfl)) (pa_cons (pv 1) (pa_cons pe_int pa_nil))) pe_int (nomark _)) (pss_one (ps_set (i := 10) sc_law.nd rfl (by first | exact Or.inl rfl | exact Or.inr rfl) pe_int)) pss_nil)
    (pss_cons (ps_set (i := 11) sc_law.nd rfl (by first | exact Or.inl rfl | exact Or.inr rfl) (pe_op op_mulA (pe_lst (pa_cons pe_int pa_nil)) (pv 2)))
    (pss_cons (ps_if (pt_cmpR (op_neA (un_lt hr (by decide))) (pe_callG h_law_draw hg (hr.mono (by decide)) (by rfl) T.m__law_draw T.t__law_draw.kp T.d__law_draw (pass_def (takes_of rfl rfl rfl rfl)) (pa_cons (pv 1) (pa_cons pe_int pa_nil))) pe_int (nomark _)) (pss_one (ps_setLc (i := 11) (own := [("k", 5)]) (g := (gName 5)) (tt := tYes) rfl sc_law.nd rfl rfl (sw_true rfl rfl rfl (by decide +kernel)) (pi_range1 (by rfl) T.b_range (pa_cons (pv 2) pa_nil)) (blkOk_by (own := [("k", 5)]) (N := N_law) (sc := defScope s_law) (by decide +kernel)) (fun _ _ _ _ _ => (pg_name (i := 5) sc_law.nd rfl (by first | exact Or.inl rfl | exact Or.inr rfl))) (fun _ _ _ _ _ => pts_nil) (fun _ _ _ _ _ => (pe_op op_mod (pe_callTy call_int1 (by rfl) T.b_int (by decide +kernel) (pa_cons (pe_op op_mulA (pe_callG h_law_draw hg (hr.mono (by decide)) (by rfl) T.m__law_draw T.t__law_draw.kp T.d__law_draw pass_calm (pa_cons (pv 1) (pa_cons pe_int pa_nil))) pe_int) pa_nil)) (pv 10))))) pss_nil)
    (pss_cons (ps_set (i := 12) sc_law.nd rfl (by first | exact Or.inl rfl | exact Or.inr rfl) (pe_ix ix_q (pe_lst (pa_cons pe_int (pa_cons pe_int (pa_cons (pe_un un_neg pe_int) (pa_cons (pe_callG h_law_draw hg (hr.mono (by decide)) (by rfl) T.m__law_draw T.t__law_draw.kp T.d__law_draw (pass_def (takes_of rfl rfl rfl rfl)) (pa_cons (pv 1) (pa_cons pe_int pa_nil))) pa_nil))))) (pe_callG h_law_draw hg (hr.mono (by decide)) (by rfl) T.m__law_draw T.t__law_draw.kp T.d__law_draw (pass_def (takes_of rfl rfl rfl rfl)) (pa_cons (pv 1) (pa_cons pe_int pa_nil))) (fun _ _ => rfl)))
    (pss_cons (ps_set (i := 13) sc_law.nd rfl (by first | exact Or.inl rfl | exact Or.inr rfl) (pe_callG h_law_draw hg (hr.mono (by decide)) (by rfl) T.m__law_draw T.t__law_draw.kp T.d__law_draw (pass_def (takes_of rfl rfl rfl rfl)) (pa_cons (pv 1) (pa_cons pe_int pa_nil))))
    (pss_cons (ps_if (pt_not (pt_val (pe_callG h_law_both_hold hg (hr.mono (by decide)) (by rfl) T.m__law_both_hold T.t__law_both_hold.kp T.d__law_both_hold (pass_def (takes_of rfl rfl rfl rfl)) (pa_cons (pv 2) (pa_cons (pv 4) (pa_cons (pv 10) (pa_cons (pv 11) (pa_cons (pv 12) pa_nil)))))))) (pss_one (ps_ret pe_bl)) pss_nil)
    (pss_cons (ps_if (pt_not (pt_val (pe_callG h_law_both_hold hg (hr.mono (by decide)) (by rfl) T.m__law_both_hold T.t__law_both_hold.kp T.d__law_both_hold (pass_def (takes_of rfl rfl rfl rfl)) (pa_cons (pv 2) (pa_cons (pv 4) (pa_cons pe_int (pa_cons (pv 11) (pa_cons (pv 12) pa_nil)))))))) (pss_one (ps_ret pe_bl)) pss_nil)
    (pss_cons (ps_if (pt_not (pt_val (pe_callG h_law_made_holds hg (hr.mono (by decide)) (by rfl) T.m__law_made_holds T.t__law_made_holds.kp T.d__law_made_holds (pass_def (takes_of rfl rfl rfl rfl)) (pa_cons (pv 2) (pa_cons (pv 10) (pa_cons (pv 12) (pa_cons (pe_op op_addA pe_int (pe_op op_mulA pe_int (pv 13))) pa_nil))))))) (pss_one (ps_ret pe_bl)) pss_nil)
    (pss_one (ps_ret (pe_callG h_law_refusals hg (hr.mono (by decide)) (by rfl) T.m__law_refusals T.t__law_refusals.kp T.d__law_refusals (pass_def (takes_of rfl rfl rfl rfl)) (pa_cons (pv 2) (pa_cons (pv 4) (pa_cons (pv 10) (pa_cons (pv 11) (pa_cons (pv 13) pa_nil))))))))))))))))))))))

/-- an arc: from, to, how many rounds behind, how long -/
structure A4 where
  u : Nat
  v : Nat
  dist : Int
  lag : Int
abbrev A4.d (a : A4) : D := .tup [.int a.u, .int a.v, .int a.dist, .int a.lag]
structure A4.Ok (rows : Nat) (a : A4) : Prop where
  hu : a.u < rows
  hv : a.v < rows
  d0 : 0 ≤ a.dist
  d1 : a.dist ≤ 40
  l0 : 0 ≤ a.lag
  l1 : a.lag ≤ 40
  up : 0 < a.dist ∨ a.u < a.v
section
variable {c : Cn} {O : Out} {Z : Sto} {E : XK}
theorem run_arc_fits {rows : Nat} {a : A4} (ok : a.Ok rows) (k : O.rt (.bl true) Z) : Run c (t_arc_fits c.K E) O [some (.int rows), some a.d, none, none, none, none] Z := by
  have h := ok.hu
  have h1 := ok.hv
  unfold t_arc_fits
  refine' sq_ifF (EvT.is ?e1 ?q1) ?_
  case e1 => walk_at "ev"
  case q1 => rfl
  refine' sq_asgT ?e2 (tg_tup (tgs_cons tg_name (tgs_cons tg_name (tgs_cons tg_name (tgs_cons tg_name tgs_nil))))) ?_
  case e2 => walk_at "ev"
  refine' sq_ifF (EvT.is ?e3 ?q3) ?_
  case e3 => walk_at "ev"
  case q3 => simp; omega
  refine' sq_ifF (EvT.is ?e4 ?q4) ?_
  case e4 => walk_at "ev"
  case q4 => simp [ok.d0, ok.d1, ok.l0, ok.l1]
  refine' run_ret (ev_orV ?e5 ?e6) ?_
  case e5 => walk_at "ev"
  case e6 => walk_at "ev"
  have e : (decide (0 < a.dist) || decide ((a.u : Int) < a.v)) = true := by
    have := ok.up
    simp
    omega
  rw [e]
  exact k
end

/-- an edge's gain, at t ticks and the slots sl -/
def gn (t : Int) (sl : List Int) (a : A4) : Int := -((sl.getD a.v 0 - sl.getD a.u 0 - a.lag) / t) - a.dist
abbrev A4.e (t : Int) (sl : List Int) (a : A4) : Edge := (a.u, a.v, gn t sl a)
abbrev iD (l : List Int) : List D := l.map D.int
abbrev arcsD (l : List A4) : List D := l.map A4.d
/-- slots that fit -/
def Tk (t : Int) : Prop := 0 < t ∧ t ≤ 1000
theorem Tk.div {t i : Int} (h : Tk t) : CDivW i t := wide_div (b := 10) h.1 (by have := h.2; have := h.1; show _ < 1024; omega) (by decide) (by decide)
def S_rounded_up : SpD := fun ds Z P _ => ∃ i t : Int, ds = [.int i, .int t] ∧ Z = [] ∧ Tk t ∧ P (.int (-(-i / t))) []
def S_law_gain : SpD := fun ds Z P _ => ∃ (a : A4) (t : Int) (sl : List Int) (sd : D), ds = [a.d, .int t, sd] ∧ Z = [] ∧ SeqIs [] sd (iD sl) ∧ Tk t ∧ a.u < sl.length ∧ a.v < sl.length ∧ P (.int (gn t sl a)) []
section
variable {c : Cn} {O : Out} {Z : Sto} {E : XK}
theorem run_rounded_up {i t : Int} (ht : Tk t) (k : O.rt (.int (-(-i / t))) Z) : Run c (t_rounded_up c.K E) O [some (.int i), some (.int t)] Z := by
  have hd := ht.div (i := -i)
  unfold t_rounded_up
  refine' run_ret ?e1 k
  case e1 => walk_at "ev"
theorem run_law_gain {a : A4} {t : Int} {sl : List Int} {sd : D} (hs : SeqIs Z sd (iD sl)) (ht : Tk t) (hu : a.u < sl.length) (hv : a.v < sl.length) (k : O.rt (.int (gn t sl a)) Z) : Run c (t__law_gain c.K E) O [some a.d, some (.int t), some sd, none, none, none, none] Z := by
  have hd := ht.div (i := sl.getD a.v 0 - sl.getD a.u 0 - a.lag)
  unfold t__law_gain
  refine' sq_asgT ?e2 (tg_tup (tgs_cons tg_name (tgs_cons tg_name (tgs_cons tg_name (tgs_cons tg_name tgs_nil))))) ?_
  case e2 => walk_at "ev"
  refine' run_ret ?e1 k
  case e1 => walk_at "ev"
theorem ps_gain (a : A4) (t : Int) (sl : List Int) : -(-(a.lag + sl.getD a.u 0 - sl.getD a.v 0) / t) - a.dist = gn t sl a := by
  unfold gn
  rw [show -(a.lag + sl.getD a.u 0 - sl.getD a.v 0) = sl.getD a.v 0 - sl.getD a.u 0 - a.lag by omega]
end

theorem rfold_app : ∀ (A B : List Edge) (s : S) (k : Nat), rfold s (A ++ B) k = rfold (rfold s A k) B (k + A.length)
  | [], B, s, k => rfl
  | e :: A, B, s, k => by
    show rfold (rstep s e k) (A ++ B) (k + 1) = rfold (rfold (rstep s e k) A (k + 1)) B (k + (A.length + 1))
    rw [rfold_app A B, show k + 1 + A.length = k + (A.length + 1) by omega]
theorem rfold_one {E : List Edge} {i : Nat} {e : Edge} (s : S) (h : E[i]? = some e) : rfold s (E.take (i + 1)) 0 = rstep (rfold s (E.take i) 0) e i := by
  have hi := (List.getElem?_eq_some_iff.mp h).1
  rw [List.take_add_one, h, rfold_app]
  show rstep _ e (0 + (E.take i).length) = _
  rw [List.length_take, Nat.min_eq_left (by omega), Nat.zero_add]
/-- the steps' ends are those of the edges -/
structure Steps (E : List Edge) (ss : List D) : Prop where
  len : ss.length = E.length
  at' : ∀ (i : Nat) (e : Edge), E[i]? = some e → ∃ r, ss[i]? = some (.tup (.int e.1 :: .int e.2.1 :: r))
abbrev gsD (E : List Edge) : D := .lst (iD (E.map (·.2.2)))
abbrev oDs (l : List (Option Nat)) : List D := l.map oD
theorem at_gs {E : List Edge} {i : Nat} {e : Edge} (h : E[i]? = some e) : atI (iD (E.map (·.2.2))) (i : Int) = some (.int e.2.2) := atI_nat (by
  rw [List.getElem?_map, List.getElem?_map, h]
  rfl)
theorem iD_set (h : List Int) (i : Nat) (z : Int) : (iD h).set i (.int z) = iD (h.set i z) := (List.map_set).symm
theorem oDs_set (h : List (Option Nat)) (i : Nat) (z : Nat) : (oDs h).set i (.int z) = oDs (h.set i (some z)) := (List.map_set (f := oD) (a := some z)).symm
def S_raise_once : SpD := fun ds Z P _ => ∃ (x : D) (ss : List D) (E : List Edge) (h : List Int) (led : List (Option Nat)) (p q : Addr), ds = [x, gsD E, .ptr p, .ptr q] ∧ Z = [(p, .lst (iD h)), (q, .lst (oDs led))] ∧ (x = .lst ss ∨ x = .tup ss) ∧ Steps E ss ∧ Fits h.length E ∧ led.length = h.length ∧
  P (.bl (rfold ⟨h, led, false⟩ E 0).rose) [(p, .lst (iD (rfold ⟨h, led, false⟩ E 0).h)), (q, .lst (oDs (rfold ⟨h, led, false⟩ E 0).led))]
section
variable {c : Cn} {O : Out} {Z : Sto} {EX : XK}
theorem run_raise_once {x : D} {ss : List D} {E : List Edge} {h : List Int} {led : List (Option Nat)} {p q : Addr} (hx : x = .lst ss ∨ x = .tup ss) (hS : Steps E ss) (hF : Fits h.length E) (hl : led.length = h.length)
    (k : O.rt (.bl (rfold ⟨h, led, false⟩ E 0).rose) [(p, .lst (iD (rfold ⟨h, led, false⟩ E 0).h)), (q, .lst (oDs (rfold ⟨h, led, false⟩ E 0).led))]) :
    Run c (t_raise_once c.K EX) O [some x, some (gsD E), some (.ptr p), some (.ptr q), none, none, none, none] [(p, .lst (iD h)), (q, .lst (oDs led))] := by
  refine run_nd fun nd => ?_
  have npq : p ≠ q := fun e => by
    subst e
    exact (List.nodup_cons.mp nd).1 List.mem_cons_self
  unfold t_raise_once
  refine' sq_asg ?e1 ?_
  case e1 => walk_at "ev"
  refine sq_for (wk_enumS (c := c) (ds := ss) (ea_cons (ev_var rfl) ea_nil) hx) (fun i Γ Z => ∃ o5 o6 o7, Γ = [some x, some (gsD E), some (.ptr p), some (.ptr q), some (.bl (rfold ⟨h, led, false⟩ (E.take i) 0).rose), o5, o6, o7] ∧
    Z = [(p, .lst (iD (rfold ⟨h, led, false⟩ (E.take i) 0).h)), (q, .lst (oDs (rfold ⟨h, led, false⟩ (E.take i) 0).led))]) ⟨none, none, none, rfl, rfl⟩ ?_ ?_
  · rintro i _ _ hi ⟨o5, o6, o7, rfl, rfl⟩
    rw [hS.len] at hi
    have he : E[i]? = some E[i] := List.getElem?_eq_getElem hi
    obtain ⟨r, hr⟩ := hS.at' i _ he
    have e1 : ss.getD i .non = _ := getD_of hr
    have g1 := at_gs he
    have h1 : (rfold ⟨h, led, false⟩ (E.take i) 0).h.length = h.length := by rw [rfold_h, sweep_len]
    have h2 : (rfold ⟨h, led, false⟩ (E.take i) 0).led.length = h.length := by rw [rfold_led_len]; exact hl
    rw [rfold_one _ he]
    revert h1 h2
    generalize rfold ⟨h, led, false⟩ (E.take i) 0 = s
    obtain ⟨sh, sl, sr⟩ := s
    intro h1 h2
    have h1 : sh.length = h.length := h1
    have h2 : sl.length = h.length := h2
    have hu : E[i].1 < sh.length := by rw [h1]; exact (hF _ (List.mem_of_getElem? he)).1
    have hv : E[i].2.1 < sh.length := by rw [h1]; exact (hF _ (List.mem_of_getElem? he)).2
    generalize E[i] = e at he hr e1 g1 hu hv
    show ∃ Γ2 vs, Tg c _ _ (.tup [.int (i : Nat), ss.getD i .non]) Γ2 vs ∧ _
    rw [e1]
    refine ⟨_, _, tg_tup (tgs_cons tg_name (tgs_cons tg_name tgs_nil)), ?_⟩
    dsimp only
    refine' sq_asg ?e2 ?_
    case e2 => walk_at "ev"
    by_cases cd : sh.getD e.2.1 0 < sh.getD e.1 0 + e.2.2
    · have st : rstep ⟨sh, sl, sr⟩ e i = ⟨sh.set e.2.1 (hA sh e.1 + e.2.2), sl.set e.2.1 (some i), true⟩ := by
        unfold rstep
        exact if_pos (show hA sh e.2.1 < hA sh e.1 + e.2.2 from cd)
      refine' run_ifT (EvT.is ?e3 ?q3) ?_
      case e3 => walk_at "ev"
      case q3 => exact decide_eq_true cd
      apply sq_set (j := e.2.1)
      case h => walk_at "ev"
      case ho => walk_at "ev"
      case hi => walk_at "ev"
      case hz => walk_at "mem"
      case hj => exact ix_nat (by rw [List.length_map]; exact hv)
      rw [putZ_hd (fun z => npq (List.mem_singleton.mp z)), iD_set]
      apply sq_set (j := e.2.1)
      case h => walk_at "ev"
      case ho => walk_at "ev"
      case hi => walk_at "ev"
      case hz => walk_at "mem"
      case hj => exact ix_nat (by rw [List.length_map]; omega)
      rw [putZ_tl npq, putZ_hd List.not_mem_nil, oDs_set]
      refine' run_asg ?e7 ?_
      case e7 => walk_at "ev"
      rw [st]
      exact ⟨_, _, _, rfl, rfl⟩
    · have st : rstep ⟨sh, sl, sr⟩ e i = ⟨sh, sl, sr⟩ := by
        unfold rstep
        exact if_neg (show ¬ hA sh e.2.1 < hA sh e.1 + e.2.2 from cd)
      refine' run_ifF (EvT.is ?e3 ?q3) (run_next ?_)
      case e3 => walk_at "ev"
      case q3 => exact decide_eq_false cd
      rw [st]
      exact ⟨_, _, _, rfl, rfl⟩
  · rintro _ _ ⟨o5, o6, o7, rfl, rfl⟩
    rw [hS.len, List.take_length]
    refine' run_ret ?e8 k
    case e8 => walk_at "ev"
end

/-! ### chains of ones before -/
def itq (q : Nat → Option Nat) : Nat → Nat → Option Nat
  | 0, v => some v
  | k + 1, v => (q v).bind (itq q k)
theorem itq_add (q : Nat → Option Nat) : ∀ (a b v : Nat), itq q (a + b) v = (itq q a v).bind (itq q b)
  | 0, b, v => by rw [Nat.zero_add]; rfl
  | a + 1, b, v => by
    rw [show a + 1 + b = (a + b) + 1 by omega]
    show (q v).bind (itq q (a + b)) = ((q v).bind (itq q a)).bind (itq q b)
    cases q v with
    | none => rfl
    | some u => exact itq_add q a b u
theorem itq_one (q : Nat → Option Nat) (v : Nat) : itq q 1 v = q v := by
  show (q v).bind (fun w => some w) = q v
  cases q v <;> rfl
theorem itq_snoc (q : Nat → Option Nat) {k v w : Nat} (h : itq q k v = some w) : itq q (k + 1) v = q w := by
  rw [itq_add, h]
  exact itq_one q w
def Dies (q : Nat → Option Nat) (v : Nat) : Prop := ∃ k, itq q k v = none
theorem itq_none {q : Nat → Option Nat} {k v : Nat} (h : itq q k v = none) (j : Nat) (hj : k ≤ j) : itq q j v = none := by
  obtain ⟨d, rfl⟩ : ∃ d, j = k + d := ⟨j - k, by omega⟩
  rw [itq_add, h]
  rfl
theorem dies_of {q : Nat → Option Nat} {k v w : Nat} (h : itq q k v = some w) (d : Dies q w) : Dies q v := by
  obtain ⟨j, e⟩ := d
  exact ⟨k + j, by rw [itq_add, h]; exact e⟩
theorem dies_on {q : Nat → Option Nat} {k v w : Nat} (h : itq q k v = some w) (d : Dies q v) : Dies q w := by
  obtain ⟨j, e⟩ := d
  refine ⟨j, ?_⟩
  have e2 := itq_none e (k + j) (by omega)
  rw [itq_add, h] at e2
  exact e2
theorem ring_lives {q : Nat → Option Nat} {d v : Nat} (hd : 1 ≤ d) (h : itq q d v = some v) : ¬ Dies q v := by
  rintro ⟨k, e⟩
  have all : ∀ m, itq q (m * d) v = some v := fun m => by
    induction m with
    | zero => rw [Nat.zero_mul]; rfl
    | succ m ih => rw [Nat.succ_mul, itq_add, ih]; exact h
  have e2 := itq_none e (k * d) (Nat.le_mul_of_pos_right k hd)
  rw [all k] at e2
  cases e2
/-- n turns back among n rows meet one twice -/
theorem meets {q : Nat → Option Nat} {n v w : Nat} (hq : ∀ v u, v < n → q v = some u → u < n) (hv : v < n) (h : itq q n v = some w) : ∃ r d, r < n ∧ 1 ≤ d ∧ itq q d r = some r := by
  have all : ∀ k, k ≤ n → ∃ u, u < n ∧ itq q k v = some u := fun k hk => by
    cases e : itq q k v with
    | none => rw [itq_none e n hk] at h; cases h
    | some u =>
      refine ⟨u, ?_, rfl⟩
      clear hk h
      induction k generalizing u with
      | zero => cases e; exact hv
      | succ k ih =>
        cases e2 : itq q k v with
        | none => rw [itq_none e2 (k + 1) (by omega)] at e; cases e
        | some x =>
          rw [itq_snoc q e2] at e
          exact hq x u (ih x e2) e
  let f : Nat → Nat := fun k => ((itq q k v).getD 0)
  have hf : ∀ k, k ≤ n → itq q k v = some (f k) ∧ f k < n := fun k hk => by
    obtain ⟨u, h1, h2⟩ := all k hk
    show itq q k v = some ((itq q k v).getD 0) ∧ (itq q k v).getD 0 < n
    rw [h2]
    exact ⟨rfl, h1⟩
  have nd : ¬ ((List.range (n + 1)).map f).Nodup := fun z => by
    have := L2.nat_nodup_len _ (List.range n) z (fun x hx => by
      obtain ⟨k, hk, e⟩ := List.mem_map.mp hx
      rw [← e]
      exact List.mem_range.mpr (hf k (by have := List.mem_range.mp hk; omega)).2)
    rw [List.length_map, List.length_range, List.length_range] at this
    omega
  have : ∃ i j, i < j ∧ j ≤ n ∧ f i = f j := by
    refine Classical.byContradiction fun z => nd ?_
    have z2 : ∀ i j, i < j → j ≤ n → f i ≠ f j := fun i j a b c => z ⟨i, j, a, b, c⟩
    show List.Pairwise _ _
    rw [List.pairwise_map]
    refine List.Pairwise.imp_of_mem (fun {a b} ha hb hab => z2 a b hab (by have := List.mem_range.mp hb; omega)) (List.pairwise_lt_range (n := n + 1))
  obtain ⟨i, j, h1, h2, h3⟩ := this
  obtain ⟨a1, a2⟩ := hf i (by omega)
  obtain ⟨b1, b2⟩ := hf j h2
  refine ⟨f i, j - i, a2, by omega, ?_⟩
  have e := itq_add q i (j - i) v
  rw [show i + (j - i) = j by omega, b1, a1] at e
  rw [h3] at e ⊢
  exact e.symm
/-- who led v -/
def pr (E : List Edge) (led : List (Option Nat)) (v : Nat) : Option Nat := (led.getD v none).bind fun k => (E[k]?).map (·.1)
theorem pr_led {E : List Edge} {h : List Int} {led : List (Option Nat)} (g : Good E h led) {v u : Nat} (q : pr E led v = some u) : ∃ e k : _, led[v]? = some (some k) ∧ E[k]? = some e ∧ e.1 = u ∧ e.2.1 = v ∧ Led E led e := by
  unfold pr at q
  cases e1 : led.getD v none with
  | none => rw [e1] at q; cases q
  | some k =>
    rw [e1] at q
    have q : (E[k]?).map (·.1) = some u := q
    have l : led[v]? = some (some k) := by
      rw [List.getD_eq_getElem?_getD] at e1
      cases e2 : led[v]? with
      | none => rw [e2] at e1; cases e1
      | some x => rw [e2] at e1; rw [show x = some k from e1]
    obtain ⟨e, e3, e4⟩ := g.to v k l
    rw [e3] at q
    exact ⟨e, k, l, e3, Option.some.inj q, e4, k, by rw [e4]; exact l, e3⟩
/-- back d times: a chain of what led -/
theorem back_chain {E : List Edge} {h : List Int} {led : List (Option Nat)} (g : Good E h led) : ∀ {d v w : Nat}, itq (pr E led) d v = some w → ∃ L, Chain w L v ∧ L.length = d ∧ ∀ e ∈ L, Led E led e
  | 0, v, w, q => ⟨[], (Option.some.inj q).symm, rfl, fun _ m => nomatch m⟩
  | d + 1, v, w, q => by
    cases e1 : pr E led v with
    | none =>
      have q : (pr E led v).bind _ = some w := q
      rw [e1] at q; cases q
    | some u =>
      have q : (pr E led v).bind _ = some w := q
      rw [e1] at q
      obtain ⟨L, c, l, a⟩ := back_chain g (d := d) (v := u) (w := w) q
      obtain ⟨e, k, _, _, h1, h2, h3⟩ := pr_led g e1
      refine ⟨L ++ [e], chain_append c ⟨h1, h2⟩, by rw [List.length_append, l]; rfl, fun x m => ?_⟩
      rcases List.mem_append.mp m with m | m
      · exact a x m
      · rw [List.mem_singleton.mp m]; exact h3
/-- a closed chain that gains -/
def Gains (E : List Edge) : Prop := ∃ a L, L ≠ [] ∧ Chain a L a ∧ (∀ e ∈ L, e ∈ E) ∧ 0 < gsum L
theorem ring_gains {E : List Edge} {h : List Int} {led : List (Option Nat)} (g : Good E h led) {r d : Nat} (hd : 1 ≤ d) (q : itq (pr E led) d r = some r) : Gains E := by
  obtain ⟨L, c, l, a⟩ := back_chain g q
  have ne : L ≠ [] := fun z => by rw [z] at l; simp at l; omega
  exact ⟨r, L, ne, c, fun e m => by
    obtain ⟨k, _, x⟩ := a e m
    exact List.mem_of_getElem? x, g.pos ne c a⟩
/-! ### when each was raised last -/
structure Wt (E : List Edge) (n : Nat) (s : S) (t : Nat → Nat) (j i : Nat) : Prop where
  lh : s.h.length = n
  ll : s.led.length = n
  led : ∀ v k, s.led[v]? = some (some k) → ∃ e : Edge, E[k]? = some e ∧ t v ≤ t e.1 + 1
  has : ∀ v, v < n → 1 ≤ t v → ∃ k, s.led[v]? = some (some k)
  pro : ∀ (m : Nat) (e : Edge), E[m]? = some e → m < i → hA s.h e.1 + e.2.2 ≤ hA s.h e.2.1 ∨ j + 1 ≤ t e.1
  unp : ∀ (m : Nat) (e : Edge), E[m]? = some e → i ≤ m → hA s.h e.1 + e.2.2 ≤ hA s.h e.2.1 ∨ j ≤ t e.1
  ros : s.rose = true → ∃ v, v < n ∧ j + 1 ≤ t v
  top : ∀ v, t v ≤ j + 1
theorem Wt.step {E : List Edge} {n : Nat} {s : S} {t : Nat → Nat} {j i : Nat} {e : Edge} (w : Wt E n s t j i) (hf : Fits n E) (he : E[i]? = some e) : ∃ t', Wt E n (rstep s e i) t' j (i + 1) := by
  by_cases c : hA s.h e.2.1 < hA s.h e.1 + e.2.2
  · have e1 : rstep s e i = ⟨s.h.set e.2.1 (hA s.h e.1 + e.2.2), s.led.set e.2.1 (some i), true⟩ := by
      unfold rstep
      rw [if_pos c]
    rw [e1]
    obtain ⟨f1, f2⟩ := hf e (List.mem_of_getElem? he)
    have hv : e.2.1 < s.h.length := by rw [w.lh]; exact f2
    have hv2 : e.2.1 < s.led.length := by rw [w.ll]; exact f2
    have tu : j ≤ t e.1 := (w.unp i e he (Nat.le_refl _)).resolve_left (by omega)
    have up : ∀ u, hA s.h u ≤ hA (s.h.set e.2.1 (hA s.h e.1 + e.2.2)) u := fun u => by
      by_cases z : e.2.1 = u
      · rw [← z, hA_set_eq hv]
        omega
      · rw [hA_set_ne z]
        exact Int.le_refl _
    let t' : Nat → Nat := fun v => if v = e.2.1 then j + 1 else t v
    have tv : t' e.2.1 = j + 1 := if_pos rfl
    have tn : ∀ v, v ≠ e.2.1 → t' v = t v := fun v h => if_neg h
    have tle : ∀ v, t v ≤ t' v := fun v => by
      by_cases h : v = e.2.1
      · rw [h, tv]; exact w.top _
      · rw [tn v h]; exact Nat.le_refl _
    have keep : ∀ (d : Edge) (b : Nat), b ≤ j + 1 → (hA s.h d.1 + d.2.2 ≤ hA s.h d.2.1 ∨ b ≤ t d.1) → hA (s.h.set e.2.1 (hA s.h e.1 + e.2.2)) d.1 + d.2.2 ≤ hA (s.h.set e.2.1 (hA s.h e.1 + e.2.2)) d.2.1 ∨ b ≤ t' d.1 := fun d b hb q => by
      by_cases h : d.1 = e.2.1
      · right; rw [h, tv]; exact hb
      · rcases q with q | q
        · left
          rw [hA_set_ne (Ne.symm h)]
          exact Int.le_trans q (up _)
        · right; rw [tn _ h]; exact q
    refine ⟨t', by show (s.h.set _ _).length = n; rw [List.length_set]; exact w.lh, by show (s.led.set _ _).length = n; rw [List.length_set]; exact w.ll, fun v k q => ?_, fun v hvn h1 => ?_, fun m d q hm => ?_, fun m d q hm => ?_, fun _ => ⟨e.2.1, f2, by rw [tv]; exact Nat.le_refl _⟩, fun v => ?_⟩
    · have q : (s.led.set e.2.1 (some i))[v]? = some (some k) := q
      by_cases z : e.2.1 = v
      · subst z
        rw [List.getElem?_set_self hv2] at q
        have q3 : i = k := Option.some.inj (Option.some.inj q)
        subst q3
        refine ⟨e, he, ?_⟩
        rw [tv]
        have := tle e.1
        omega
      · rw [List.getElem?_set_ne z] at q
        obtain ⟨d, a, b⟩ := w.led v k q
        refine ⟨d, a, ?_⟩
        rw [tn v (Ne.symm z)]
        have := tle d.1
        omega
    · show ∃ k, (s.led.set e.2.1 (some i))[v]? = some (some k)
      by_cases z : e.2.1 = v
      · subst z
        exact ⟨i, List.getElem?_set_self hv2⟩
      · rw [tn v (Ne.symm z)] at h1
        obtain ⟨k, a⟩ := w.has v hvn h1
        exact ⟨k, by rw [List.getElem?_set_ne z]; exact a⟩
    · rcases Nat.lt_or_ge m i with h | h
      · exact keep d (j + 1) (Nat.le_refl _) (w.pro m d q h)
      · have e3 : m = i := by omega
        subst e3
        rw [he] at q
        cases q
        by_cases z : e.1 = e.2.1
        · right; rw [z, tv]; exact Nat.le_refl _
        · left
          show hA (s.h.set _ _) _ + _ ≤ hA (s.h.set _ _) _
          rw [hA_set_ne (Ne.symm z), hA_set_eq hv]
          exact Int.le_refl _
    · exact keep d j (Nat.le_succ _) (w.unp m d q (by omega))
    · by_cases z : v = e.2.1
      · rw [z, tv]; exact Nat.le_refl _
      · rw [tn v z]; exact w.top v
  · have e1 : rstep s e i = s := by
      unfold rstep
      rw [if_neg c]
    rw [e1]
    refine ⟨t, w.lh, w.ll, w.led, w.has, fun m d q hm => ?_, fun m d q hm => w.unp m d q (by omega), w.ros, w.top⟩
    rcases Nat.lt_or_ge m i with h | h
    · exact w.pro m d q h
    · have e3 : m = i := by omega
      subst e3
      rw [he] at q
      cases q
      left
      omega
theorem Wt.fold {E : List Edge} {n : Nat} {j : Nat} (hf : Fits n E) : ∀ (F : List Edge) (s : S) (t : Nat → Nat) (k : Nat), Wt E n s t j k → (∀ i, E[k + i]? = F[i]?) → ∃ t', Wt E n (rfold s F k) t' j E.length
  | [], s, t, k, w, he => by
    have : E.length ≤ k := by
      have := he 0
      rw [Nat.add_zero] at this
      exact List.getElem?_eq_none_iff.mp this
    exact ⟨t, w.lh, w.ll, w.led, w.has, fun m e q _ => w.pro m e q (by have := (List.getElem?_eq_some_iff.mp q).1; omega), fun m e q h => absurd (List.getElem?_eq_some_iff.mp q).1 (by omega), w.ros, w.top⟩
  | e :: r, s, t, k, w, he => by
    obtain ⟨t', w'⟩ := w.step hf (by have := he 0; simpa using this)
    exact Wt.fold hf r _ t' (k + 1) w' fun i => by
      have := he (i + 1)
      rw [show k + 1 + i = k + (i + 1) by omega, this]
      rfl
/-- behind j sweeps -/
structure Aft (E : List Edge) (n : Nat) (h : List Int) (led : List (Option Nat)) (j : Nat) : Prop where
  good : Good E h led
  lh : h.length = n
  ll : led.length = n
  ti : ∃ t : Nat → Nat, (∀ v k, led[v]? = some (some k) → ∃ e : Edge, E[k]? = some e ∧ t v ≤ t e.1 + 1) ∧ (∀ v, v < n → 1 ≤ t v → ∃ k, led[v]? = some (some k)) ∧ (∀ e ∈ E, hA h e.1 + e.2.2 ≤ hA h e.2.1 ∨ j ≤ t e.1) ∧ (∀ v, t v ≤ j) ∧ (j = 0 ∨ ∃ v, v < n ∧ j ≤ t v)
theorem aft0 (E : List Edge) (n : Nat) : Aft E n (List.replicate n 0) (List.replicate n none) 0 :=
  ⟨good_start E _ n, List.length_replicate, List.length_replicate, fun _ => 0, (fun v k q => by
    have := List.mem_of_getElem? q
    rw [List.mem_replicate] at this
    cases this.2), (fun v _ h => absurd (show 1 ≤ 0 from h) (by decide)), (fun _ _ => .inr (Nat.le_refl _)), (fun _ => Nat.le_refl _), .inl rfl⟩
theorem Aft.next {E : List Edge} {n : Nat} {h : List Int} {led : List (Option Nat)} {j : Nat} (a : Aft E n h led j) (hf : Fits n E) (hr : (rfold ⟨h, led, false⟩ E 0).rose = true) : Aft E n (rfold ⟨h, led, false⟩ E 0).h (rfold ⟨h, led, false⟩ E 0).led (j + 1) := by
  obtain ⟨t, t1, t2, t3, t4, t5⟩ := a.ti
  obtain ⟨t', w⟩ := Wt.fold (E := E) (n := n) (j := j) hf E ⟨h, led, false⟩ t 0 ⟨a.lh, a.ll, t1, t2, (fun m e _ q => absurd q (by omega)), (fun m e q _ => t3 e (List.mem_of_getElem? q)), (fun z => by cases z), (fun v => Nat.le_succ_of_le (t4 v))⟩ (fun i => by rw [Nat.zero_add])
  refine ⟨Good.fold E ⟨h, led, false⟩ 0 a.good (fun i => by rw [Nat.zero_add]) (by show led.length = h.length; rw [a.ll, a.lh]) (by show Fits h.length E; rw [a.lh]; exact hf), w.lh, w.ll, t', w.led, w.has, fun e m => ?_, w.top, .inr (w.ros hr)⟩
  obtain ⟨i, q⟩ := List.mem_iff_getElem?.mp m
  exact w.pro i e q (List.getElem?_eq_some_iff.mp q).1
/-- j sweeps raised: a chain back of j turns -/
theorem Aft.chain {E : List Edge} {n : Nat} {h : List Int} {led : List (Option Nat)} {j : Nat} (a : Aft E n h led j) (hf : Fits n E) (h0 : j ≠ 0) : ∃ v w, v < n ∧ itq (pr E led) j v = some w := by
  obtain ⟨t, t1, t2, _, _, t5⟩ := a.ti
  obtain ⟨v, hv, tv⟩ := t5.resolve_left h0
  have go : ∀ k v, v < n → k ≤ t v → ∃ w, itq (pr E led) k v = some w := fun k => by
    induction k with
    | zero => exact fun v _ _ => ⟨v, rfl⟩
    | succ k ih =>
      intro v hv tv
      obtain ⟨m, q⟩ := t2 v hv (by omega)
      obtain ⟨e, e1, e2⟩ := t1 v m q
      have p : pr E led v = some e.1 := by
        unfold pr
        rw [List.getD_eq_getElem?_getD, q]
        show (E[m]?).map (·.1) = _
        rw [e1]
        rfl
      obtain ⟨w, hw⟩ := ih e.1 (hf e (List.mem_of_getElem? e1)).1 (by omega)
      exact ⟨w, by show (pr E led v).bind _ = _; rw [p]; exact hw⟩
  obtain ⟨w, hw⟩ := go j v hv tv
  exact ⟨v, w, hv, hw⟩
theorem pr_lt {E : List Edge} {led : List (Option Nat)} {n : Nat} (hf : Fits n E) (v u : Nat) (_ : v < n) (q : pr E led v = some u) : u < n := by
  unfold pr at q
  cases e1 : led.getD v none with
  | none => rw [e1] at q; cases q
  | some k =>
    rw [e1] at q
    have q : (E[k]?).map (·.1) = some u := q
    cases e2 : E[k]? with
    | none => rw [e2] at q; cases q
    | some e =>
      rw [e2] at q
      rw [← Option.some.inj q]
      exact (hf e (List.mem_of_getElem? e2)).1
/-- n sweeps that raise: something gains -/
theorem Aft.ring {E : List Edge} {n : Nat} {h : List Int} {led : List (Option Nat)} {j : Nat} (a : Aft E n h led j) (hf : Fits n E) (hj : n ≤ j) (h1 : 1 ≤ n) : ∃ r d, r < n ∧ 1 ≤ d ∧ itq (pr E led) d r = some r := by
  obtain ⟨v, w, hv, e⟩ := a.chain hf (by omega)
  have : ∃ w', itq (pr E led) n v = some w' := by
    cases e2 : itq (pr E led) n v with
    | none => rw [itq_none e2 j hj] at e; cases e
    | some w' => exact ⟨w', rfl⟩
  obtain ⟨w', e'⟩ := this
  exact meets (pr_lt hf) hv e'
/-! ### sweep after sweep -/
def hsw (E : List Edge) (h : List Int) : Nat → List Int
  | 0 => h
  | j + 1 => sweep E (hsw E h j)
theorem hsw_len (E : List Edge) (h : List Int) : ∀ j, (hsw E h j).length = h.length
  | 0 => rfl
  | j + 1 => (sweep_len E _).trans (hsw_len E h j)
theorem hsw_stay {E : List Edge} {h : List Int} {j : Nat} (s : stable E (hsw E h j)) : ∀ k, j ≤ k → hsw E h k = hsw E h j := fun k hk => by
  induction k with
  | zero => rw [show j = 0 by omega]
  | succ k ih =>
    rcases Nat.lt_or_ge k j with h1 | h1
    · rw [show j = k + 1 by omega]
    · show sweep E (hsw E h k) = _
      rw [ih h1, sweep_stable s]
abbrev zs (n : Nat) : List Int := List.replicate n 0
/-- either the heights stand still within n - 1 sweeps, or something gains -/
theorem aft_all {E : List Edge} {n : Nat} (hf : Fits n E) : ∀ j, (∀ i, i < j → ¬ stable E (hsw E (zs n) i)) → ∃ led, Aft E n (hsw E (zs n) j) led j
  | 0, _ => ⟨_, aft0 E n⟩
  | j + 1, h => by
    obtain ⟨led, a⟩ := aft_all hf j fun i hi => h i (by omega)
    have hr : (rfold ⟨hsw E (zs n) j, led, false⟩ E 0).rose = true := by
      cases q : (rfold ⟨hsw E (zs n) j, led, false⟩ E 0).rose with
      | true => rfl
      | false => exact absurd (rfold_not E _ 0 q).2 (h j (by omega))
    have := a.next hf hr
    rw [rfold_h] at this
    exact ⟨_, this⟩
theorem still {E : List Edge} {n : Nat} (hf : Fits n E) (h1 : 1 ≤ n) (no : ¬ Gains E) : ∃ i, i < n ∧ stable E (hsw E (zs n) i) := by
  refine Classical.byContradiction fun z => no ?_
  obtain ⟨led, a⟩ := aft_all hf n fun i hi s => z ⟨i, hi, s⟩
  obtain ⟨r, d, _, hd, e⟩ := a.ring hf (Nat.le_refl _) h1
  exact ring_gains a.good hd e
theorem gains_not {E : List Edge} {h : List Int} (s : stable E h) : ¬ Gains E := fun ⟨_, _, _, c, m, g⟩ => by
  have := no_gain s c m
  omega
theorem gains_rev {E : List Edge} : Gains (E.map rev) → Gains E := fun ⟨a, L, ne, c, m, g⟩ => by
  refine ⟨a, L.reverse.map rev, fun z => ne (by simpa using z), chain_rev c, fun e he => ?_, by rw [gsum_rev]; exact g⟩
  obtain ⟨d, hd, rfl⟩ := List.mem_map.mp he
  obtain ⟨x, hx, e2⟩ := List.mem_map.mp (m d (List.mem_reverse.mp hd))
  rw [← e2]
  exact hx
theorem fits_rev {n : Nat} {E : List Edge} (h : Fits n E) : Fits n (E.map rev) := fun e he => by
  obtain ⟨d, hd, rfl⟩ := List.mem_map.mp he
  exact ⟨(h d hd).2, (h d hd).1⟩

/-- how many are none -/
def nn : List (Option Nat) → Nat
  | [] => 0
  | none :: r => nn r + 1
  | some _ :: r => nn r
theorem nn_set : ∀ {l : List (Option Nat)} {i s : Nat}, l[i]? = some none → nn (l.set i (some s)) + 1 = nn l
  | [], _, _, h => by simp at h
  | x :: l, 0, s, h => by
    have e : x = none := Option.some.inj h
    subst e
    rfl
  | x :: l, i + 1, s, h => by
    have ih := nn_set (l := l) (i := i) (s := s) h
    cases x with
    | none =>
      show nn (l.set i (some s)) + 1 + 1 = nn l + 1
      omega
    | some y => exact ih
theorem nn_le : ∀ l : List (Option Nat), nn l ≤ l.length
  | [] => Nat.le_refl _
  | none :: r => Nat.succ_le_succ (nn_le r)
  | some _ :: r => Nat.le_succ_of_le (nn_le r)
theorem getD_set_eq {l : List (Option Nat)} {i : Nat} {x : Option Nat} (h : i < l.length) : (l.set i x).getD i none = x := by
  rw [List.getD_eq_getElem?_getD, List.getElem?_set_self h]; rfl
theorem getD_set_ne {l : List (Option Nat)} {i j : Nat} {x : Option Nat} (h : i ≠ j) : (l.set i x).getD j none = l.getD j none := by
  rw [List.getD_eq_getElem?_getD, List.getElem?_set_ne h, List.getD_eq_getElem?_getD]
theorem get_of_getD {l : List (Option Nat)} {i k : Nat} (h : l.getD i none = some k) : l[i]? = some (some k) := by
  rw [List.getD_eq_getElem?_getD] at h
  cases e : l[i]? with
  | none => rw [e] at h; cases h
  | some x => rw [e] at h; rw [show x = some k from h]
abbrev edges (t : Int) (sl : List Int) (arcs : List A4) : List Edge := arcs.map (A4.e t sl)
abbrev OnRing (E : List Edge) (led : List (Option Nat)) (r : Nat) : Prop := ∃ d, 1 ≤ d ∧ d ≤ led.length ∧ itq (pr E led) d r = some r
def S_row_on_ring : SpD := fun ds Z P _ => ∃ (arcs : List A4) (t : Int) (sl : List Int) (led : List (Option Nat)) (q : Addr), ds = [.tup (arcsD arcs), .ptr q] ∧ Z = [(q, .lst (oDs led))] ∧ Fits led.length (edges t sl arcs) ∧ led.length ≤ 8 ∧ (∀ v k : Nat, led[v]? = some (some k) → k < arcs.length) ∧
  (∀ r : Nat, r < led.length → OnRing (edges t sl arcs) led r → P (.int r) [(q, .lst (oDs led))]) ∧ ((∀ v, v < led.length → Dies (pr (edges t sl arcs) led) v) → P .non [(q, .lst (oDs led))])
section
variable {c : Cn} {O : Out} {Z : Sto} {EX : XK}
theorem isN_oD (x : Option Nat) : isN (oD x) = x.isNone := by cases x <;> rfl
theorem run_row_on_ring {arcs : List A4} {t : Int} {sl : List Int} {led : List (Option Nat)} {q : Addr} (hF : Fits led.length (edges t sl arcs)) (h8 : led.length ≤ 8) (hk : ∀ v k : Nat, led[v]? = some (some k) → k < arcs.length)
    (kR : ∀ r : Nat, r < led.length → OnRing (edges t sl arcs) led r → O.rt (.int r) [(q, .lst (oDs led))]) (kN : (∀ v, v < led.length → Dies (pr (edges t sl arcs) led) v) → O.rt .non [(q, .lst (oDs led))]) :
    Run c (t_row_on_ring c.K EX) O [some (.tup (arcsD arcs)), some (.ptr q), none, none, none] [(q, .lst (oDs led))] := by
  unfold t_row_on_ring
  apply sq_asgN
  case h =>
    apply evN_op
    case ha => exact ev_lst (ea_cons ev_non ea_nil) (len_le rfl)
    case hb => walk_at "ev"
    case hr => exact on_mulRep (.inl rfl) ⟨by omega, by rw [List.length_map]; omega⟩
  intro s hs
  refine run_nd fun nd => ?_
  have nsq : s ≠ q := fun e => by
    subst e
    exact (List.nodup_cons.mp nd).1 List.mem_cons_self
  have e0 : List.replicate (((oDs led).length : Int)).toNat D.non = oDs (List.replicate led.length none) := by
    rw [List.length_map, Int.toNat_natCast]
    show _ = List.map oD _
    rw [List.map_replicate]
    rfl
  rw [e0]
  refine sq_for (wk_rng1 (ea_cons (ev_cb (ea_cons (ev_var rfl) ea_nil) (oc_len (seqIs_ptr (List.mem_cons_of_mem _ List.mem_cons_self)))) ea_nil) ⟨by rw [List.length_map]; omega, by rw [List.length_map]; omega⟩)
    (fun i Γ Z => ∃ o3 o4 sn, Γ = [some (.tup (arcsD arcs)), some (.ptr q), some (.ptr s), o3, o4] ∧ Z = [(s, .lst (oDs sn)), (q, .lst (oDs led))] ∧ sn.length = led.length ∧ (∀ v m, sn.getD v none = some m → m < i ∧ Dies (pr (edges t sl arcs) led) v) ∧ ∀ v, v < i → Dies (pr (edges t sl arcs) led) v)
    ⟨none, none, _, rfl, rfl, List.length_replicate, (fun v m h => by
      have := List.mem_of_getElem? (get_of_getD h)
      rw [List.mem_replicate] at this
      cases this.2), fun v h => absurd h (Nat.not_lt_zero _)⟩ ?_ ?_
  · rintro i _ _ hi ⟨o3, o4, sn, rfl, rfl, hl, hm, hd⟩
    rw [List.length_map, Int.toNat_natCast] at hi
    refine ⟨_, _, tg_name, ?_⟩
    apply sq_asg
    case h => walk_at "ev"
    apply sq_while (fun m Γ Z => ∃ r sn a, Γ = [some (.tup (arcsD arcs)), some (.ptr q), some (.ptr s), some (.int (i : Nat)), some (.int (r : Nat))] ∧ Z = [(s, .lst (oDs sn)), (q, .lst (oDs led))] ∧ sn.length = led.length ∧ m = nn sn ∧ r < led.length ∧ itq (pr (edges t sl arcs) led) a i = some r ∧
      (∀ v, sn.getD v none = some i → ∃ b, 1 ≤ b ∧ b + nn sn ≤ led.length ∧ itq (pr (edges t sl arcs) led) b v = some r) ∧ (∀ v m, sn.getD v none = some m → m ≤ i ∧ (m ≠ i → Dies (pr (edges t sl arcs) led) v))) (nn sn)
    case h0 => exact ⟨i, sn, 0, rfl, rfl, hl, rfl, hi, rfl, fun v h => absurd (hm v i h).1 (Nat.lt_irrefl _), fun v m h => ⟨Nat.le_of_lt (hm v m h).1, fun _ => (hm v m h).2⟩⟩
    rintro m _ _ ⟨r, sn, a, rfl, rfl, hl, rfl, hr, ha, h1, h2⟩
    have hr2 : r < sn.length := by omega
    have fin : Dies (pr (edges t sl arcs) led) r → ∃ o3 o4 sn', [some (D.tup (arcsD arcs)), some (.ptr q), some (.ptr s), some (.int (i : Nat)), some (.int (r : Nat))] = [some (.tup (arcsD arcs)), some (.ptr q), some (.ptr s), o3, o4] ∧ [(s, MO.lst (oDs sn)), (q, .lst (oDs led))] = [(s, .lst (oDs sn')), (q, .lst (oDs led))] ∧ sn'.length = led.length ∧ (∀ v m, sn'.getD v none = some m → m < i + 1 ∧ Dies (pr (edges t sl arcs) led) v) ∧ ∀ v, v < i + 1 → Dies (pr (edges t sl arcs) led) v := fun hd' => by
      refine ⟨_, _, sn, rfl, rfl, hl, fun v m h => ?_, fun v hv => ?_⟩
      · obtain ⟨x, y⟩ := h2 v m h
        refine ⟨by omega, ?_⟩
        by_cases e : m = i
        · subst e
          obtain ⟨b, _, _, hb⟩ := h1 v h
          exact dies_of hb hd'
        · exact y e
      · rcases Nat.lt_or_ge v i with h | h
        · exact hd v h
        · rw [show v = i by omega]
          exact dies_of ha hd'
    have rd : EvT c (tAnd (tTest (tOp rNotN (tOp (rIxQ c.K) (tVar 1) (tVar 4)) (tC .non))) (tTest (tOp rIsN (tOp (rIxQ c.K) (tVar 2) (tVar 4)) (tC .non)))) [some (.tup (arcsD arcs)), some (.ptr q), some (.ptr s), some (.int (i : Nat)), some (.int (r : Nat))] [(s, .lst (oDs sn)), (q, .lst (oDs led))] ((!isN (oD (led.getD r none))) && isN (oD (sn.getD r none))) [(s, .lst (oDs sn)), (q, .lst (oDs led))] := by
      walk_at "ev"
    refine ⟨_, _, rd, fun hb => ?_, fun hb => ?_⟩
    · rw [isN_oD, isN_oD] at hb
      cases eL : led.getD r none with
      | none => rw [eL] at hb; cases hb
      | some k =>
        cases eS : sn.getD r none with
        | some _ => rw [eL, eS] at hb; cases hb
        | none =>
          have hk' := hk r k (get_of_getD eL)
          have ek : arcs[k]? = some arcs[k] := List.getElem?_eq_getElem hk'
          have ep : pr (edges t sl arcs) led r = some arcs[k].u := by
            unfold pr
            rw [eL]
            show ((edges t sl arcs)[k]?).map (·.1) = _
            rw [List.getElem?_map, ek]
            rfl
          have hu := (hF (arcs[k].e t sl) (List.mem_map.mpr ⟨_, List.mem_of_getElem? ek, rfl⟩)).1
          generalize arcs[k] = ak at ek ep hu
          have i1 : atI (oDs led) (r : Int) = some (.int (k : Nat)) := by
            have := at_opt hr
            rwa [eL] at this
          have i2 : atI (arcsD arcs) (k : Int) = some ak.d := atI_nat (by rw [List.getElem?_map, ek]; rfl)
          apply sq_set (j := r)
          case h => walk_at "ev"
          case ho => walk_at "ev"
          case hi => walk_at "ev"
          case hz => walk_at "mem"
          case hj => exact ix_nat (by rw [List.length_map]; exact hr2)
          rw [putZ_hd (fun z => nsq (List.mem_singleton.mp z)), oDs_set]
          apply run_asg
          case h => walk_at "ev"
          have snr : sn[r]? = some none := by
            rw [List.getD_eq_getElem?_getD, List.getElem?_eq_getElem hr2] at eS
            rw [List.getElem?_eq_getElem hr2]
            exact congrArg some eS
          refine ⟨nn (sn.set r (some i)), by have := nn_set (s := i) snr; omega, ak.u, sn.set r (some i), a + 1, rfl, rfl, by rw [List.length_set]; exact hl, rfl, hu, by rw [itq_snoc _ ha]; exact ep, fun v h => ?_, fun v m h => ?_⟩
          · by_cases e : r = v
            · subst e
              exact ⟨1, Nat.le_refl _, by have := nn_set (s := i) snr; have := nn_le sn; omega, by rw [itq_one]; exact ep⟩
            · rw [getD_set_ne e] at h
              obtain ⟨b, hb1, hb3, hb2⟩ := h1 v h
              exact ⟨b + 1, by omega, by have := nn_set (s := i) snr; omega, by rw [itq_snoc _ hb2]; exact ep⟩
          · by_cases e : r = v
            · subst e
              rw [getD_set_eq hr2] at h
              cases h
              exact ⟨Nat.le_refl _, fun z => absurd rfl z⟩
            · rw [getD_set_ne e] at h
              exact h2 v m h
    · rw [isN_oD, isN_oD] at hb
      cases eL : led.getD r none with
      | none =>
        have hd' : Dies (pr (edges t sl arcs) led) r := ⟨1, by rw [itq_one]; unfold pr; rw [eL]; rfl⟩
        have i1 : atI (oDs led) (r : Int) = some .non := by
          have := at_opt hr
          rwa [eL] at this
        exact run_ifF (et_and (a := false) (b := true) (EvT.is (a := !isN .non) (et_test (ev_op (ev_op (ev_var rfl) (ev_var rfl) (op_ix (seqIs_ptr (List.mem_cons_of_mem _ List.mem_cons_self)) i1)) ev_non op_notNon)) rfl) (fun e => nomatch e)) (run_next (fin hd'))
      | some k =>
        cases eS : sn.getD r none with
        | none => rw [eL, eS] at hb; cases hb
        | some m =>
          have i1 : atI (oDs led) (r : Int) = some (.int (k : Nat)) := by
            have := at_opt hr
            rwa [eL] at this
          have i2 : atI (oDs sn) (r : Int) = some (.int (m : Nat)) := by
            have := at_opt hr2
            rwa [eS] at this
          have ev2 : EvT c (tAnd (tTest (tOp rNotN (tOp (rIxQ c.K) (tVar 1) (tVar 4)) (tC .non))) (tTest (tOp (rEqA c.K) (tOp (rIxQ c.K) (tVar 2) (tVar 4)) (tVar 3)))) [some (.tup (arcsD arcs)), some (.ptr q), some (.ptr s), some (.int (i : Nat)), some (.int (r : Nat))] [(s, .lst (oDs sn)), (q, .lst (oDs led))] (true && decide ((m : Int) = (i : Int))) [(s, .lst (oDs sn)), (q, .lst (oDs led))] := by
            walk_at "ev"
          obtain ⟨y1, y2⟩ := h2 r m eS
          by_cases e : m = i
          · subst e
            obtain ⟨b, hb1, hb3, hb2⟩ := h1 r eS
            exact run_ifT (EvT.is ev2 (by simp)) (run_dropZ (run_ret (d := .int (r : Nat)) (ev_var rfl) (kR r hr ⟨b, hb1, by omega, hb2⟩)))
          · exact run_ifF (EvT.is ev2 (by simp; omega)) (run_next (fin (y2 e)))
  · rintro _ _ ⟨o3, o4, sn, rfl, rfl, hl, hm, hd⟩
    rw [List.length_map, Int.toNat_natCast] at hd
    exact run_dropZ (run_ret ev_non (kN hd))
end

structure RingOk (t : Int) (sl : List Int) (arcs ring : List A4) : Prop where
  ne : ring ≠ []
  len : ring.length ≤ 8
  ch : ∃ a, Chain a (edges t sl ring) a
  mem : ∀ x ∈ ring, x ∈ arcs
  pos : 0 < gsum (edges t sl ring)
theorem pr_arc {t : Int} {sl : List Int} {arcs : List A4} {h : List Int} {led : List (Option Nat)} (g : Good (edges t sl arcs) h led) {v u : Nat} (q : pr (edges t sl arcs) led v = some u) :
    ∃ k a, led.getD v none = some k ∧ arcs[k]? = some a ∧ a.u = u ∧ a.v = v ∧ Led (edges t sl arcs) led (a.e t sl) := by
  obtain ⟨e, k, h1, h2, h3, h4, h5⟩ := pr_led g q
  rw [List.getElem?_map] at h2
  cases ea : arcs[k]? with
  | none => rw [ea] at h2; cases h2
  | some a =>
    rw [ea] at h2
    have e2 : a.e t sl = e := Option.some.inj h2
    subst e2
    exact ⟨k, a, by rw [List.getD_eq_getElem?_getD, h1]; rfl, ea, h3, h4, h5⟩
def S_ring_back : SpD := fun ds Z P _ => ∃ (arcs : List A4) (t : Int) (sl : List Int) (h : List Int) (led : List (Option Nat)) (q : Addr) (r : Nat), ds = [.tup (arcsD arcs), .ptr q, .int r] ∧ Z = [(q, .lst (oDs led))] ∧ Good (edges t sl arcs) h led ∧ Fits led.length (edges t sl arcs) ∧ led.length ≤ 8 ∧ r < led.length ∧
  OnRing (edges t sl arcs) led r ∧ ∀ ring, RingOk t sl arcs ring → P (.lst (arcsD ring)) [(q, .lst (oDs led))]
section
variable {c : Cn} {O : Out} {Z : Sto} {EX : XK}
theorem run_ring_back {arcs : List A4} {t : Int} {sl : List Int} {h : List Int} {led : List (Option Nat)} {q : Addr} {r : Nat} (g : Good (edges t sl arcs) h led) (hF : Fits led.length (edges t sl arcs)) (h8 : led.length ≤ 8) (hr : r < led.length) (on : OnRing (edges t sl arcs) led r)
    (kk : ∀ ring, RingOk t sl arcs ring → O.rt (.lst (arcsD ring)) [(q, .lst (oDs led))]) : Run c (t_ring_back c.K EX) O [some (.tup (arcsD arcs)), some (.ptr q), some (.int (r : Nat)), none] [(q, .lst (oDs led))] := by
  obtain ⟨d, hd1, hd8, hd⟩ := on
  have step : ∀ v u, v < led.length → pr (edges t sl arcs) led v = some u → ∃ k a, atI (oDs led) (v : Int) = some (.int (k : Nat)) ∧ atI (arcsD arcs) (k : Int) = some a.d ∧ a ∈ arcs ∧ a.u = u ∧ a.v = v ∧ Led (edges t sl arcs) led (a.e t sl) := fun v u hv e => by
    obtain ⟨k, a, h1, h2, h3, h4, h5⟩ := pr_arc g e
    refine ⟨k, a, ?_, atI_nat (by rw [List.getElem?_map, h2]; rfl), List.mem_of_getElem? h2, h3, h4, h5⟩
    have := at_opt hv
    rwa [h1] at this
  unfold t_ring_back
  cases e1 : pr (edges t sl arcs) led r with
  | none =>
    exfalso
    rw [itq_none (k := 1) (by rw [itq_one]; exact e1) d hd1] at hd
    cases hd
  | some u =>
    obtain ⟨k, a, i1, i2, ma, au, av, la⟩ := step r u hr e1
    apply sq_asgN
    case h =>
      apply evN_lst'
      case h => walk_at "ev"
      case hl => exact len_le rfl
    intro p hp
    refine run_nd fun nd => ?_
    have npq : p ≠ q := fun e => by
      subst e
      exact (List.nodup_cons.mp nd).1 List.mem_cons_self
    apply sq_while (fun m Γ Z => ∃ (R : List A4) (b : A4), Γ = [some (.tup (arcsD arcs)), some (.ptr q), some (.int (r : Nat)), some (.ptr p)] ∧ Z = [(p, .lst (arcsD (R ++ [b]))), (q, .lst (oDs led))] ∧ m + (R.length + 1) = d ∧ b.u < led.length ∧ itq (pr (edges t sl arcs) led) (R.length + 1) r = some b.u ∧
      Chain b.u (edges t sl (R ++ [b]).reverse) r ∧ ∀ x ∈ R ++ [b], x ∈ arcs ∧ Led (edges t sl arcs) led (x.e t sl)) (d - 1)
    case h0 =>
      refine ⟨[], a, rfl, rfl, by show d - 1 + 1 = d; omega, by rw [au]; exact pr_lt hF r u hr e1, by rw [au]; exact (itq_one _ _).trans e1, ⟨rfl, av⟩, fun x m => ?_⟩
      rw [List.mem_singleton.mp m]
      exact ⟨ma, la⟩
    rintro m _ _ ⟨R, b, rfl, rfl, hm, hb, hi, hc, ha⟩
    have eD : arcsD (R ++ [b]) = arcsD R ++ [b.d] := by show List.map _ _ = _; rw [List.map_append]; rfl
    have il : atI (arcsD (R ++ [b])) (-1) = some b.d := by rw [eD]; exact atI_last _ _
    have tst : EvT c (tTest (tOp (rNeA c.K) (tOp (rIxQ c.K) (tOp (rIxQ c.K) (tVar 3) (tUn rNegI (tC (.int 1)))) (tC (.int 0))) (tVar 2))) [some (.tup (arcsD arcs)), some (.ptr q), some (.int (r : Nat)), some (.ptr p)] [(p, .lst (arcsD (R ++ [b]))), (q, .lst (oDs led))] (!decide ((b.u : Int) = (r : Int))) [(p, .lst (arcsD (R ++ [b]))), (q, .lst (oDs led))] := by
      walk_at "ev"
    refine ⟨_, _, tst, fun hb2 => ?_, fun hb2 => ?_⟩
    · have ne : b.u ≠ r := fun e => by rw [e] at hb2; simp at hb2
      have lt : R.length + 1 < d := by
        rcases Nat.lt_or_ge (R.length + 1) d with h | h
        · exact h
        · have : R.length + 1 = d := by omega
          rw [this, hd] at hi
          exact absurd (Option.some.inj hi).symm ne
      cases e2 : pr (edges t sl arcs) led b.u with
      | none =>
        exfalso
        have e3 := itq_snoc _ hi
        rw [e2] at e3
        rw [itq_none e3 d (by omega)] at hd
        cases hd
      | some u2 =>
        obtain ⟨k2, a2, j1, j2, ma2, au2, av2, la2⟩ := step b.u u2 hb e2
        apply run_drop
        case h =>
          apply ev_app (ds := arcsD (R ++ [b])) (es := arcsD (R ++ [b]))
          case ha => walk_at "ev"
          case he => walk_at "ev"
          case hz => walk_at "mem"
          case hz1 => walk_at "mem"
          case hl =>
            rw [List.length_map, List.length_append]
            show R.length + 1 < _
            omega
        rw [putZ_hd (fun z => npq (List.mem_singleton.mp z))]
        refine ⟨m - 1, by omega, R ++ [b], a2, rfl, by show _ = [(p, MO.lst (arcsD (R ++ [b] ++ [a2]))), _]; unfold arcsD; rw [List.map_append (l₁ := R ++ [b])]; rfl, by rw [List.length_append]; show m - 1 + (R.length + 1 + 1) = d; omega, by rw [au2]; exact pr_lt hF _ _ hb e2, ?_, ?_, fun x mx => ?_⟩
        · rw [List.length_append]
          show itq _ (R.length + 1 + 1) r = _
          rw [itq_snoc _ hi, e2, au2]
        · rw [List.reverse_append]
          exact ⟨rfl, by show Chain a2.v _ r; rw [av2]; exact hc⟩
        · rcases List.mem_append.mp mx with mx | mx
          · exact ha x mx
          · rw [List.mem_singleton.mp mx]
            exact ⟨ma2, la2⟩
    · have e : b.u = r := by
        have := of_decide_eq_true (p := ((b.u : Int) = (r : Int))) (by simpa using hb2)
        omega
      have evr : Ev c (tRevL c.K (tVar 3)) [some (.tup (arcsD arcs)), some (.ptr q), some (.int (r : Nat)), some (.ptr p)] [(p, .lst (arcsD (R ++ [b]))), (q, .lst (oDs led))] (.lst (arcsD (R ++ [b]).reverse)) [(p, .lst (arcsD (R ++ [b]))), (q, .lst (oDs led))] := by
        have := EvN.ev (evN_rev (ev_var (c := c) (Γ := [some (.tup (arcsD arcs)), some (.ptr q), some (.int (r : Nat)), some (.ptr p)]) (i := 3) (d := .ptr p) rfl) (lstIs_ptr (Z := [(p, .lst (arcsD (R ++ [b]))), (q, .lst (oDs led))]) (p := p) (ds := arcsD (R ++ [b])) List.mem_cons_self))
        rwa [show (arcsD (R ++ [b])).reverse = arcsD (R ++ [b]).reverse from List.map_reverse.symm] at this
      have lr : ∀ x ∈ edges t sl (R ++ [b]).reverse, Led (edges t sl arcs) led x := fun x mx => by
        obtain ⟨y, my, rfl⟩ := List.mem_map.mp mx
        exact (ha y (List.mem_reverse.mp my)).2
      rw [e] at hc
      refine run_ret (Ev.dropZ evr) (kk _ ⟨by simp, ?_, ⟨r, hc⟩, fun x mx => (ha x (List.mem_reverse.mp mx)).1, g.pos (by simp) hc lr⟩)
      rw [List.length_reverse, List.length_append]
      show R.length + 1 ≤ 8
      omega
end

theorem steps_arcs (t : Int) (sl : List Int) (arcs : List A4) : Steps (edges t sl arcs) (arcsD arcs) := ⟨by rw [List.length_map, List.length_map], fun i e h => by
  rw [List.getElem?_map] at h
  cases ea : arcs[i]? with
  | none => rw [ea] at h; cases h
  | some a =>
    rw [ea] at h
    have e2 : a.e t sl = e := Option.some.inj h
    subst e2
    exact ⟨[.int a.dist, .int a.lag], by rw [List.getElem?_map, ea]; rfl⟩⟩
theorem rep_zs (n : Nat) : List.replicate ((n : Int)).toNat (D.int 0) = iD (zs n) := by rw [Int.toNat_natCast]; show _ = List.map _ _; rw [List.map_replicate]
theorem rep_no (n : Nat) : List.replicate ((n : Int)).toNat D.non = oDs (List.replicate n none) := by rw [Int.toNat_natCast]; show _ = List.map _ _; rw [List.map_replicate]; rfl
def S_gain_ring : SpD := fun ds Z P _ => ∃ (n : Nat) (arcs : List A4) (t : Int) (sl : List Int), ds = [.int n, .tup (arcsD arcs), gsD (edges t sl arcs)] ∧ Z = [] ∧ 1 ≤ n ∧ n ≤ 8 ∧ Fits n (edges t sl arcs) ∧
  (∀ j, j < n → stable (edges t sl arcs) (hsw (edges t sl arcs) (zs n) j) → P .non []) ∧ ∀ ring, RingOk t sl arcs ring → P (.lst (arcsD ring)) []
def S_gain_heights : SpD := fun ds Z P _ => ∃ (n : Nat) (x : D) (ss : List D) (E : List Edge), ds = [.int n, x, gsD E] ∧ Z = [] ∧ 1 ≤ n ∧ n ≤ 8 ∧ (x = .lst ss ∨ x = .tup ss) ∧ Steps E ss ∧ Fits n E ∧ P (.lst (iD (hsw E (zs n) n))) []
section
variable {c : Cn} {O : Out} {Z : Sto} {E : XK}
theorem call_raise {p q : Addr} {x : D} {ss : List D} {ED : List Edge} {h : List Int} {led : List (Option Nat)} {Γ : Gam} {ta : TA} {Z1 : Sto} (ha : EvA c ta Γ Z1 [x, gsD ED, .ptr p, .ptr q] [(p, .lst (iD h)), (q, .lst (oDs led))]) (hx : x = .lst ss ∨ x = .tup ss) (hS : Steps ED ss) (hF : Fits h.length ED) (hl : led.length = h.length) :
    Ev c (tCallG (Pr c.K S_raise_once) c.E ta) Γ Z1 (.bl (rfold ⟨h, led, false⟩ ED 0).rose) [(p, .lst (iD (rfold ⟨h, led, false⟩ ED 0).h)), (q, .lst (oDs (rfold ⟨h, led, false⟩ ED 0).led))] :=
  ev_callD (Za := [(p, .lst (iD h)), (q, .lst (oDs led))]) (Zb := []) (Zc := [(p, .lst (iD (rfold ⟨h, led, false⟩ ED 0).h)), (q, .lst (oDs (rfold ⟨h, led, false⟩ ED 0).led))]) (X := fun _ _ => False) ha (List.Perm.refl _) ⟨x, ss, ED, h, led, p, q, rfl, rfl, hx, hS, hF, hl, rfl, rfl⟩ fun _ _ z => z.elim
theorem run_gain_heights {n : Nat} {x : D} {ss : List D} {ED : List Edge} (h1 : 1 ≤ n) (h8 : n ≤ 8) (hx : x = .lst ss ∨ x = .tup ss) (hS : Steps ED ss) (hF : Fits n ED) (hE : c.E = fun _ => E) (k : O.rt (.lst (iD (hsw ED (zs n) n))) []) :
    Run c (t_gain_heights c.K E (Pr c.K S_raise_once)) O [some (.int n), some x, some (gsD ED), none, none, none] [] := by
  unfold t_gain_heights
  rw [← hE]
  apply sq_asgN
  case h =>
    apply evN_op
    case ha => exact ev_lst (ea_cons ev_int ea_nil) (len_le rfl)
    case hb => walk_at "ev"
    case hr => exact on_mulRep (.inl rfl) ⟨by omega, by omega⟩
  intro p hp
  apply sq_asgN
  case h =>
    apply evN_op
    case ha => exact ev_lst (ea_cons ev_non ea_nil) (len_le rfl)
    case hb => walk_at "ev"
    case hr => exact on_mulRep (.inl rfl) ⟨by omega, by omega⟩
  intro q hq
  rw [rep_zs, rep_no]
  refine run_perm (List.Perm.swap _ _ _) ?_
  have fin : ∀ (i : Nat) (o5 : Option D) (led : List (Option Nat)), hsw ED (zs n) i = hsw ED (zs n) n → Run c (tRet (tVar 3)) O [some (.int n), some x, some (gsD ED), some (.ptr p), some (.ptr q), o5] [(p, .lst (iD (hsw ED (zs n) i))), (q, .lst (oDs led))] := fun i o5 led e => by
    rw [e]
    refine run_perm (List.Perm.swap _ _ _) (run_dropZ (run_ret (Ev.frz (ev_var rfl)) k))
  refine sq_for (wk_rng1 (ea_cons (ev_var rfl) ea_nil) ⟨by omega, by omega⟩) (fun i Γ Z => ∃ o5 led, Γ = [some (.int n), some x, some (gsD ED), some (.ptr p), some (.ptr q), o5] ∧ Z = [(p, .lst (iD (hsw ED (zs n) i))), (q, .lst (oDs led))] ∧ led.length = n) ⟨none, _, rfl, rfl, List.length_replicate⟩ ?_ ?_
  · rintro i _ _ hi ⟨o5, led, rfl, rfl, hl⟩
    have lh : (hsw ED (zs n) i).length = n := by rw [hsw_len, List.length_replicate]
    refine ⟨_, _, tg_name, ?_⟩
    have tst := et_not (et_B (call_raise (c := c) (p := p) (q := q) (x := x) (ss := ss) (ED := ED) (h := hsw ED (zs n) i) (led := led) (Γ := [some (.int n), some x, some (gsD ED), some (.ptr p), some (.ptr q), some (.int (i : Nat))]) (ea_cons (ev_var (i := 1) rfl) (ea_cons (ev_var (i := 2) rfl) (ea_cons (ev_var (i := 3) rfl) (ea_cons (ev_var (i := 4) rfl) ea_nil)))) hx hS (by rw [lh]; exact hF) (by rw [lh]; exact hl)))
    refine run_if tst (fun hb => run_break ?_) (fun hb => run_next ?_)
    · have hb : (rfold ⟨hsw ED (zs n) i, led, false⟩ ED 0).rose = false := by simpa using hb
      obtain ⟨e1, e2⟩ := rfold_not _ _ _ hb
      rw [e1]
      rw [Int.toNat_natCast] at hi
      exact fin i _ led (hsw_stay e2 n (Nat.le_of_lt hi)).symm
    · refine ⟨_, (rfold ⟨hsw ED (zs n) i, led, false⟩ ED 0).led, rfl, ?_, ?_⟩
      · rw [rfold_h]; rfl
      · rw [rfold_led_len]; exact hl
  · rintro _ _ ⟨o5, led, rfl, rfl, hl⟩
    rw [Int.toNat_natCast]
    exact fin n _ led rfl
theorem run_gain_ring {n : Nat} {arcs : List A4} {t : Int} {sl : List Int} (h1 : 1 ≤ n) (h8 : n ≤ 8) (hF : Fits n (edges t sl arcs)) (hE : c.E = fun _ => E) (kN : ∀ j, j < n → stable (edges t sl arcs) (hsw (edges t sl arcs) (zs n) j) → O.rt .non []) (kR : ∀ ring, RingOk t sl arcs ring → O.rt (.lst (arcsD ring)) []) :
    Run c (t_gain_ring c.K E (Pr c.K S_raise_once) (Pr c.K S_row_on_ring) (Pr c.K S_ring_back)) O [some (.int n), some (.tup (arcsD arcs)), some (gsD (edges t sl arcs)), none, none, none] [] := by
  unfold t_gain_ring
  rw [← hE]
  apply sq_asgN
  case h =>
    apply evN_op
    case ha => exact ev_lst (ea_cons ev_int ea_nil) (len_le rfl)
    case hb => walk_at "ev"
    case hr => exact on_mulRep (.inl rfl) ⟨by omega, by omega⟩
  intro p hp
  apply sq_asgN
  case h =>
    apply evN_op
    case ha => exact ev_lst (ea_cons ev_non ea_nil) (len_le rfl)
    case hb => walk_at "ev"
    case hr => exact on_mulRep (.inl rfl) ⟨by omega, by omega⟩
  intro q hq
  rw [rep_zs, rep_no]
  refine run_perm (List.Perm.swap _ _ _) ?_
  refine sq_while (fun m Γ Z => ∃ o5 led j, Γ = [some (.int n), some (.tup (arcsD arcs)), some (gsD (edges t sl arcs)), some (.ptr p), some (.ptr q), o5] ∧ Z = [(p, .lst (iD (hsw (edges t sl arcs) (zs n) j))), (q, .lst (oDs led))] ∧ m + j = n ∧ j < n ∧ Aft (edges t sl arcs) n (hsw (edges t sl arcs) (zs n) j) led j) n ⟨none, _, 0, rfl, rfl, rfl, h1, aft0 _ _⟩ ?_
  rintro m _ _ ⟨o5, led, j, rfl, rfl, hm, hj, aft⟩
  have tst := et_B (call_raise (c := c) (p := p) (q := q) (ED := edges t sl arcs) (h := hsw (edges t sl arcs) (zs n) j) (led := led) (Γ := [some (.int n), some (.tup (arcsD arcs)), some (gsD (edges t sl arcs)), some (.ptr p), some (.ptr q), o5]) (ea_cons (ev_var (i := 1) rfl) (ea_cons (ev_var (i := 2) rfl) (ea_cons (ev_var (i := 3) rfl) (ea_cons (ev_var (i := 4) rfl) ea_nil)))) (.inr rfl) (steps_arcs t sl arcs) (by rw [aft.lh]; exact hF) (by rw [aft.lh]; exact aft.ll))
  refine ⟨_, _, tst, fun hb => ?_, fun hb => ?_⟩
  · have aft2 := aft.next hF hb
    rw [rfold_h] at aft2 ⊢
    generalize (rfold ⟨hsw (edges t sl arcs) (zs n) j, led, false⟩ (edges t sl arcs) 0).led = led2 at aft2 ⊢
    have aft2 : Aft (edges t sl arcs) n (hsw (edges t sl arcs) (zs n) (j + 1)) led2 (j + 1) := aft2
    have hl := aft2.ll
    apply sq_asgP
    case h =>
      refine evP_call (c := c) (S := S_row_on_ring) (Za := [(q, .lst (oDs led2))]) (Zb := [(p, .lst (iD (sweep (edges t sl arcs) (hsw (edges t sl arcs) (zs n) j))))]) (X := fun _ _ => False) (P := fun d Z' => Z' = [(q, .lst (oDs led2))] ∧ ((∃ r : Nat, d = .int r ∧ r < n ∧ OnRing (edges t sl arcs) led2 r) ∨ (d = .non ∧ ∀ v, v < n → Dies (pr (edges t sl arcs) led2) v))) (ea_cons (ev_var (i := 1) rfl) (ea_cons (ev_var (i := 4) rfl) ea_nil)) (List.Perm.swap _ _ _) ⟨arcs, t, sl, led2, q, rfl, rfl, by rw [hl]; exact hF, by omega, fun v k hv => ?_, fun r hr on => ⟨rfl, .inl ⟨r, rfl, by omega, on⟩⟩, fun hd => ⟨rfl, .inr ⟨rfl, fun v hv => hd v (by omega)⟩⟩⟩ fun _ _ z => z.elim
      obtain ⟨e, he, _⟩ := aft2.good.to v k hv
      have := (List.getElem?_eq_some_iff.mp he).1
      rwa [List.length_map] at this
    rintro _ _ ⟨Zc, ⟨rfl, ⟨r, rfl, hr, on⟩ | ⟨rfl, hd⟩⟩, rfl⟩
    · refine run_ifT (EvT.is (a := !isN (.int (r : Nat))) (et_test (ev_op (ev_var rfl) ev_non op_notNon)) rfl) ?_
      refine run_retP (EvP.dropZ (EvP.dropZ (evP_call (c := c) (S := S_ring_back) (Za := [(q, .lst (oDs led2))]) (Zb := [(p, .lst (iD (sweep (edges t sl arcs) (hsw (edges t sl arcs) (zs n) j))))]) (X := fun _ _ => False) (P := fun d Z' => Z' = [(q, .lst (oDs led2))] ∧ ∃ ring, d = .lst (arcsD ring) ∧ RingOk t sl arcs ring) (ea_cons (ev_var (i := 1) rfl) (ea_cons (ev_var (i := 4) rfl) (ea_cons (ev_var (i := 5) rfl) ea_nil))) (List.Perm.refl _) ⟨arcs, t, sl, _, led2, q, r, rfl, rfl, aft2.good, by rw [hl]; exact hF, by omega, by omega, on, fun ring ok => ⟨rfl, ring, rfl, ok⟩⟩ fun _ _ z => z.elim) (P' := fun d Z' => Z' = [(p, .lst (iD (sweep (edges t sl arcs) (hsw (edges t sl arcs) (zs n) j))))] ∧ ∃ ring, d = .lst (arcsD ring) ∧ RingOk t sl arcs ring) ?_)
        (P' := fun d Z' => Z' = [] ∧ ∃ ring, d = .lst (arcsD ring) ∧ RingOk t sl arcs ring) ?_) ?_
      · rintro d _ ⟨Zc, ⟨rfl, z⟩, rfl⟩
        exact ⟨_, _, _, rfl, rfl, z⟩
      · rintro d _ ⟨rfl, z⟩
        exact ⟨_, _, _, rfl, rfl, z⟩
      · rintro d _ ⟨rfl, ring, rfl, ok⟩
        exact kR ring ok
    · have lt : j + 1 < n := by
        rcases Nat.lt_or_ge (j + 1) n with h | h
        · exact h
        · obtain ⟨r, d, hr, hd1, e⟩ := aft2.ring hF h h1
          exact absurd (hd r hr) (ring_lives hd1 e)
      refine run_ifF (EvT.is (a := !isN .non) (et_test (ev_op (ev_var rfl) ev_non op_notNon)) rfl) (run_perm (List.Perm.swap _ _ _) (run_next ?_))
      exact ⟨m - 1, by omega, _, led2, j + 1, rfl, rfl, by omega, lt, aft2⟩
  · obtain ⟨e1, e2⟩ := rfold_not _ _ _ hb
    exact run_dropZ (run_dropZ (run_ret ev_non (kN j hj e2)))
end

/-! ### the arcs that are kept -/
abbrev A4.key (a : A4) : List Int := [a.u, a.v, a.dist]
abbrev A4.l (a : A4) : List Int := [a.u, a.v, a.dist, a.lag]
def same (b a : A4) : Bool := decide (b.u = a.u) && (decide (b.v = a.v) && decide (b.dist = a.dist))
theorem same_iff {b a : A4} : same b a = true ↔ b.u = a.u ∧ b.v = a.v ∧ b.dist = a.dist := by
  unfold same
  simp
def lagOf (l : List A4) (a : A4) : Int := ((l.find? fun b => same b a).map (·.lag)).getD 0
def addA (l : List A4) (a : A4) : List A4 :=
  if (l.any fun b => same b a) = true then l.map fun b => if same b a then { b with lag := if lagOf l a > a.lag then lagOf l a else a.lag } else b else l ++ [{ a with lag := if lagOf l a > a.lag then lagOf l a else a.lag }]
def kvI (l : List A4) : List (List Int × D) := l.map fun a => (a.key, .int a.lag)
def kvL (l : List A4) : List (List Key × Int) := l.map fun a => (a.key.map Sum.inl, a.lag)
theorem kv_eq (l : List A4) : ids (kvL l) = (kvI l).map fun kv => (kv.1.map Sum.inl, kv.2) := by
  unfold ids kvL kvI
  rw [List.map_map, List.map_map]
  rfl
theorem key_eq {b a : A4} : (decide ((b.key.map Sum.inl : List Key) = a.key.map Sum.inl)) = same b a := by
  rw [Bool.eq_iff_iff, decide_eq_true_iff, same_iff]
  constructor
  · intro h
    have h : [Sum.inl (b.u : Int), Sum.inl (b.v : Int), Sum.inl b.dist] = ([Sum.inl (a.u : Int), Sum.inl (a.v : Int), Sum.inl a.dist] : List Key) := h
    injection h with h1 h2
    injection h2 with h2 h3
    injection h3 with h3 _
    injection h1 with h1
    injection h2 with h2
    injection h3 with h3
    exact ⟨Int.ofNat.inj h1, Int.ofNat.inj h2, h3⟩
  · rintro ⟨h1, h2, h3⟩
    unfold A4.key
    rw [h1, h2, h3]
theorem val_kv (l : List A4) (a : A4) : valD (ids (kvL l)) (a.key.map Sum.inl) = (l.find? fun b => same b a).map fun b => D.int b.lag := by
  induction l with
  | nil => rfl
  | cons b l ih =>
    have e : ∀ K : List Key, valD (ids (kvL (b :: l))) K = if decide ((b.key.map Sum.inl : List Key) = K) = true then some (D.int b.lag) else valD (ids (kvL l)) K := fun K => by
      show Option.map _ (List.find? (fun kv : List Key × D => decide (kv.1 = K)) (((b.key.map Sum.inl : List Key), D.int b.lag) :: ids (kvL l))) = _
      rw [List.find?_cons]
      show Option.map _ (match decide ((b.key.map Sum.inl : List Key) = K) with | true => _ | false => _) = _
      cases decide ((b.key.map Sum.inl : List Key) = K) <;> rfl
    rw [e, key_eq, ih, List.find?_cons]
    cases same b a <;> rfl
theorem lag_kv (l : List A4) (a : A4) : (valD (ids (kvL l)) (a.key.map Sum.inl)).getD (.int 0) = .int (lagOf l a) := by
  rw [val_kv]
  unfold lagOf
  cases l.find? fun b => same b a <;> rfl
theorem put_kv (l : List A4) (a : A4) : putD (ids (kvL l)) (a.key.map Sum.inl) (.int (if lagOf l a > a.lag then lagOf l a else a.lag)) = ids (kvL (addA l a)) := by
  have hany : ((ids (kvL l)).any fun kv => decide (kv.1 = a.key.map Sum.inl)) = l.any fun b => same b a := by
    unfold ids kvL
    rw [List.any_map, List.any_map]
    congr 1
    funext b
    exact key_eq
  unfold putD addA
  rw [hany]
  split
  · unfold ids kvL
    rw [List.map_map, List.map_map, List.map_map, List.map_map]
    refine List.map_congr_left fun b _ => ?_
    show (if (b.key.map Sum.inl : List Key) = a.key.map Sum.inl then _ else _) = _
    have k := key_eq (b := b) (a := a)
    by_cases h : (b.key.map Sum.inl : List Key) = a.key.map Sum.inl
    · rw [decide_eq_true h] at k
      rw [if_pos h]
      show _ = (fun kv : List Key × Int => (kv.1, D.int kv.2)) ((fun a : A4 => ((a.key.map Sum.inl : List Key), a.lag)) (if same b a = true then _ else b))
      rw [if_pos k.symm]
    · rw [decide_eq_false h] at k
      rw [if_neg h]
      show _ = (fun kv : List Key × Int => (kv.1, D.int kv.2)) ((fun a : A4 => ((a.key.map Sum.inl : List Key), a.lag)) (if same b a = true then _ else b))
      rw [if_neg (by rw [← k]; simp)]
  · unfold ids kvL
    rw [List.map_append, List.map_append]
    rfl
/-- keys differ, each arc fits -/
structure Kept (rows : Nat) (l : List A4) : Prop where
  ok : ∀ a ∈ l, a.Ok rows
  nd : l.Pairwise fun a b => same a b = false
theorem lagOf_bd {rows : Nat} {l : List A4} {a : A4} (k : Kept rows l) : 0 ≤ lagOf l a ∧ lagOf l a ≤ 40 := by
  unfold lagOf
  cases e : l.find? fun b => same b a with
  | none => exact ⟨Int.le_refl _, by decide⟩
  | some b =>
    have := k.ok b (List.mem_of_find?_eq_some e)
    exact ⟨this.l0, this.l1⟩
theorem same_symm {a b : A4} : same a b = same b a := by
  rw [Bool.eq_iff_iff, same_iff, same_iff]
  constructor <;> rintro ⟨h1, h2, h3⟩ <;> exact ⟨h1.symm, h2.symm, h3.symm⟩
theorem kept_add {rows : Nat} {l : List A4} {a : A4} (k : Kept rows l) (ok : a.Ok rows) : Kept rows (addA l a) := by
  obtain ⟨g0, g1⟩ := lagOf_bd (a := a) k
  have m0 : 0 ≤ (if lagOf l a > a.lag then lagOf l a else a.lag) ∧ (if lagOf l a > a.lag then lagOf l a else a.lag) ≤ 40 := by
    have := ok.l0
    have := ok.l1
    split <;> omega
  unfold addA
  split
  · refine ⟨fun b hb => ?_, ?_⟩
    · obtain ⟨x, hx, rfl⟩ := List.mem_map.mp hb
      have o := k.ok x hx
      split
      · exact ⟨o.hu, o.hv, o.d0, o.d1, m0.1, m0.2, o.up⟩
      · exact o
    · rw [List.pairwise_map]
      refine k.nd.imp fun {x y} h => ?_
      have h : same x y = false := h
      have e : ∀ z : A4, ∀ m : Int, (if same z a = true then ({ z with lag := m } : A4) else z).u = z.u ∧ (if same z a = true then ({ z with lag := m } : A4) else z).v = z.v ∧ (if same z a = true then ({ z with lag := m } : A4) else z).dist = z.dist := fun z m => by split <;> exact ⟨rfl, rfl, rfl⟩
      rw [Bool.eq_false_iff] at h ⊢
      intro q
      rw [Ne, same_iff] at h
      obtain ⟨q1, q2, q3⟩ := same_iff.mp q
      rw [(e x _).1, (e y _).1] at q1
      rw [(e x _).2.1, (e y _).2.1] at q2
      rw [(e x _).2.2, (e y _).2.2] at q3
      exact h ⟨q1, q2, q3⟩
  · rename_i hn
    refine ⟨fun b hb => ?_, ?_⟩
    · rcases List.mem_append.mp hb with hb | hb
      · exact k.ok b hb
      · rw [List.mem_singleton.mp hb]
        exact ⟨ok.hu, ok.hv, ok.d0, ok.d1, m0.1, m0.2, ok.up⟩
    · refine List.pairwise_append.mpr ⟨k.nd, List.pairwise_singleton _ _, fun x hx y hy => ?_⟩
      rw [List.mem_singleton.mp hy]
      rw [Bool.eq_false_iff]
      intro q
      exact hn (List.any_eq_true.mpr ⟨x, hx, q⟩)
theorem add_len (l : List A4) (a : A4) : (addA l a).length ≤ l.length + 1 := by
  unfold addA
  split
  · rw [List.length_map]; omega
  · rw [List.length_append]; exact Nat.le_refl _
/-! ### in order -/
abbrev c4 (a : A4) : Int := TS.code 64 a.l
abbrev k3 (a : A4) : Int := TS.code 64 a.key
theorem c4_eq (a : A4) : c4 a = k3 a * 64 + a.lag := by
  show (a.u : Int) * 64 ^ 3 + ((a.v : Int) * 64 ^ 2 + (a.dist * 64 ^ 1 + (a.lag * 64 ^ 0 + 0))) = ((a.u : Int) * 64 ^ 2 + ((a.v : Int) * 64 ^ 1 + (a.dist * 64 ^ 0 + 0))) * 64 + a.lag
  omega
def insA (a : A4) : List A4 → List A4
  | [] => [a]
  | b :: r => if c4 a ≤ c4 b then a :: b :: r else b :: insA a r
def srtA : List A4 → List A4
  | [] => []
  | a :: r => insA a (srtA r)
theorem ins_perm (a : A4) : ∀ l : List A4, (insA a l).Perm (a :: l)
  | [] => List.Perm.refl _
  | b :: r => by
    unfold insA
    split
    · exact List.Perm.refl _
    · exact ((ins_perm a r).cons b).trans (List.Perm.swap a b r)
theorem srt_perm : ∀ l : List A4, (srtA l).Perm l
  | [] => List.Perm.refl _
  | a :: r => (ins_perm a _).trans ((srt_perm r).cons a)
theorem ins_srt (a : A4) : ∀ {l : List A4}, l.Pairwise (fun x y => c4 x ≤ c4 y) → (insA a l).Pairwise fun x y => c4 x ≤ c4 y
  | [], _ => List.pairwise_singleton _ _
  | b :: r, h => by
    obtain ⟨h1, h2⟩ := List.pairwise_cons.mp h
    unfold insA
    split
    · rename_i c
      refine List.pairwise_cons.mpr ⟨fun y hy => ?_, h⟩
      rcases List.mem_cons.mp hy with rfl | hy
      · exact c
      · exact Int.le_trans c (h1 y hy)
    · rename_i c
      refine List.pairwise_cons.mpr ⟨fun y hy => ?_, ins_srt a h2⟩
      rcases List.mem_cons.mp ((ins_perm a r).mem_iff.mp hy) with rfl | hy
      · omega
      · exact h1 y hy
theorem srt_srt : ∀ l : List A4, (srtA l).Pairwise fun x y => c4 x ≤ c4 y
  | [] => .nil
  | a :: r => ins_srt a (srt_srt r)
/-- the arcs that are kept, in order -/
def keep (arcs : List A4) : List A4 := srtA (arcs.foldl addA [])
theorem kept_fold {rows : Nat} : ∀ {arcs l : List A4}, (∀ a ∈ arcs, a.Ok rows) → Kept rows l → Kept rows (arcs.foldl addA l)
  | [], _, _, k => k
  | a :: r, l, h, k => kept_fold (arcs := r) (l := addA l a) (fun x m => h x (List.mem_cons_of_mem _ m)) (kept_add k (h a List.mem_cons_self))
theorem kept_nil (rows : Nat) : Kept rows [] := ⟨(fun _ m => nomatch m), List.Pairwise.nil⟩
theorem fold_len : ∀ (arcs l : List A4), (arcs.foldl addA l).length ≤ l.length + arcs.length
  | [], l => Nat.le_refl _
  | a :: r, l => by
    have h1 := fold_len r (addA l a)
    have h2 := add_len l a
    show (r.foldl addA (addA l a)).length ≤ l.length + (r.length + 1)
    omega
theorem keep_ok {rows : Nat} {arcs : List A4} (h : ∀ a ∈ arcs, a.Ok rows) : ∀ a ∈ keep arcs, a.Ok rows := fun a m => (kept_fold h (kept_nil rows)).ok a ((srt_perm _).mem_iff.mp m)
theorem keep_len (arcs : List A4) : (keep arcs).length ≤ arcs.length := by
  unfold keep
  rw [(srt_perm _).length_eq]
  have := fold_len arcs []
  simpa using this
theorem find_self {rows : Nat} {l : List A4} (k : Kept rows l) : ∀ {a : A4}, a ∈ l → l.find? (fun b => same b a) = some a := by
  intro a m
  have nd := k.nd
  clear k
  induction l with
  | nil => cases m
  | cons b r ih =>
    obtain ⟨h1, h2⟩ := List.pairwise_cons.mp nd
    rw [List.find?_cons]
    rcases List.mem_cons.mp m with rfl | m
    · rw [show same a a = true from same_iff.mpr ⟨rfl, rfl, rfl⟩]
    · rw [h1 a m]
      exact ih m h2
theorem bd_l {rows : Nat} {a : A4} (ok : a.Ok rows) (h8 : rows ≤ 8) : TS.Bd 64 a.l := fun m hm => by
  have := ok.hu; have := ok.hv; have := ok.d0; have := ok.d1; have := ok.l0; have := ok.l1
  simp only [A4.l, List.mem_cons, List.not_mem_nil, or_false] at hm
  omega
theorem bd_key {rows : Nat} {a : A4} (ok : a.Ok rows) (h8 : rows ≤ 8) : TS.Bd 64 a.key := fun m hm => by
  have := ok.hu; have := ok.hv; have := ok.d0; have := ok.d1
  simp only [A4.key, List.mem_cons, List.not_mem_nil, or_false] at hm
  omega
theorem srt_key {rows : Nat} {l : List A4} (k : ∀ a ∈ l, a.Ok rows) : ((srtA l).map A4.key).Pairwise fun a b => TS.code 64 a ≤ TS.code 64 b := by
  rw [List.pairwise_map]
  refine (srt_srt l).imp_of_mem fun {x y} hx hy h => ?_
  have ox := k x ((srt_perm l).mem_iff.mp hx)
  have oy := k y ((srt_perm l).mem_iff.mp hy)
  have h : c4 x ≤ c4 y := h
  rw [c4_eq, c4_eq] at h
  have := ox.l0; have := ox.l1; have := oy.l0; have := oy.l1
  show k3 x ≤ k3 y
  omega

def S_kept_arcs : SpD := fun ds Z P _ => ∃ (rows : Nat) (arcs : List A4), ds = [.lst (arcsD arcs)] ∧ Z = [] ∧ rows ≤ 8 ∧ arcs.length < 64 ∧ (∀ a ∈ arcs, a.Ok rows) ∧ P (.tup (arcsD (keep arcs))) []
def S_law_kept : SpD := fun ds Z P _ => ∃ (rows : Nat) (arcs : List A4), ds = [.lst (arcsD arcs)] ∧ Z = [] ∧ rows ≤ 8 ∧ arcs.length < 64 ∧ (∀ a ∈ arcs, a.Ok rows) ∧ P (.lst (arcsD (keep arcs))) []
def S_arc_fits : SpD := fun ds Z P _ => ∃ (rows : Nat) (a : A4), ds = [.int rows, a.d] ∧ Z = [] ∧ a.Ok rows ∧ P (.bl true) []
def S_stage_gains (aNet : Addr) : SpD := fun ds Z P _ => ∃ (n : Nat) (arcs : List A4) (t : Int) (sl : List Int) (sd : D), ds = [.obj aNet [("rows", .int n), ("arcs", .tup (arcsD arcs))], .int t, sd] ∧ Z = [] ∧ SeqIs [] sd (iD sl) ∧ Tk t ∧ arcs.length ≤ 1000 ∧ (∀ a ∈ arcs, a.u < sl.length ∧ a.v < sl.length) ∧ P (gsD (edges t sl arcs)) []
abbrev netD (aNet : Addr) (n : Nat) (arcs : List A4) : D := .obj aNet [("rows", .int n), ("arcs", .tup (arcsD arcs))]
theorem getD_arcs {l : List A4} {i : Nat} {a : A4} (h : l[i]? = some a) : (arcsD l).getD i .non = a.d := getD_of (by rw [List.getElem?_map, h]; rfl)
theorem take_fold {l : List A4} {i : Nat} {a : A4} (h : l[i]? = some a) : (l.take (i + 1)).foldl addA [] = addA ((l.take i).foldl addA []) a := by
  rw [List.take_add_one, h]
  show ((l.take i) ++ [a]).foldl addA [] = _
  rw [List.foldl_append]
  rfl
section
variable {c : Cn} {O : Out} {Z : Sto} {E : XK}
theorem kept_turn {p : Addr} {a : A4} {l : List A4} {d : D} {rest : List (Option D)} (hl : l.length < 64) (k : O.nx (some d :: some (.ptr p) :: some (.int a.u) :: some (.int a.v) :: some (.int a.dist) :: some (.int a.lag) :: rest) [(p, .dT (ids (kvL (addA l a))))]) :
    Run c (sDPut (tVar 1) (tTup (tCons (tVar 2) (tCons (tVar 3) (tCons (tVar 4) tNil)))) (tCB rMx2 (tCons (tVar 5) (tCons (tDGet2 (tVar 1) (tTup (tCons (tVar 2) (tCons (tVar 3) (tCons (tVar 4) tNil)))) (tC (.int 0))) tNil)))) O (some d :: some (.ptr p) :: some (.int a.u) :: some (.int a.v) :: some (.int a.dist) :: some (.int a.lag) :: rest) [(p, .dT (ids (kvL l)))] := by
  have hkey : Ev c (tTup (tCons (tVar 2) (tCons (tVar 3) (tCons (tVar 4) tNil)))) (some d :: some (.ptr p) :: some (.int a.u) :: some (.int a.v) :: some (.int a.dist) :: some (.int a.lag) :: rest) [(p, .dT (ids (kvL l)))] (.tup ((a.key.map Sum.inl : List Key).map kD)) [(p, .dT (ids (kvL l)))] := by
    apply ev_tup'
    case h => exact ea_cons (ev_var rfl) (ea_cons (ev_var rfl) (ea_cons (ev_var rfl) ea_nil))
    case hl => exact len_le rfl
  refine run_dput (d := .int (if lagOf l a > a.lag then lagOf l a else a.lag)) (kvs := ids (kvL l)) (k := a.key.map Sum.inl) ?_ (ev_var rfl) hkey List.mem_cons_self (by rw [List.length_map]; unfold kvL; rw [List.length_map]; omega) ?_
  · refine ev_cb (ea_cons (ev_var rfl) (ea_cons (ev_dget2 (x := .int 0) (ev_var rfl) hkey ev_int List.mem_cons_self) ea_nil)) ?_
    rw [lag_kv]
    exact oc_max2
  · rw [putZ_hd List.not_mem_nil, put_kv]
    exact k
theorem run_kept_arcs {rows : Nat} {arcs : List A4} (h8 : rows ≤ 8) (h64 : arcs.length < 64) (hk : ∀ a ∈ arcs, a.Ok rows) (k : O.rt (.tup (arcsD (keep arcs))) []) : Run c (t_kept_arcs c.K E) O [some (.lst (arcsD arcs)), none, none, none, none, none] [] := by
  unfold t_kept_arcs
  refine sq_asgN evN_dnew fun p hp => ?_
  refine sq_for (wk_seqL (ev_var rfl)) (fun i Γ Z => ∃ x y z w, Γ = [some (.lst (arcsD arcs)), some (.ptr p), x, y, z, w] ∧ Z = [(p, .dT (ids (kvL ((arcs.take i).foldl addA []))))]) ⟨none, none, none, none, rfl, rfl⟩ ?_ ?_
  · rintro i _ _ hi ⟨x, y, z, w, rfl, rfl⟩
    rw [List.length_map] at hi
    have ha : arcs[i]? = some arcs[i] := List.getElem?_eq_getElem hi
    rw [getD_arcs ha, take_fold ha]
    refine ⟨_, _, tg_tup (tgs_cons tg_name (tgs_cons tg_name (tgs_cons tg_name (tgs_cons tg_name tgs_nil)))), ?_⟩
    refine kept_turn (rest := []) ?_ ⟨_, _, _, _, rfl, rfl⟩
    have := fold_len (arcs.take i) []
    rw [List.length_take] at this
    simp at this
    omega
  · rintro _ _ ⟨x, y, z, w, rfl, rfl⟩
    rw [List.length_map, List.take_length]
    have kp := kept_fold (arcs := arcs) hk (kept_nil rows)
    have kl := keep_len arcs
    have ko := keep_ok hk
    have hsrt : Ev c (tCB (rSortK c.K) (tCons (tVar 1) tNil)) [some (.lst (arcsD arcs)), some (.ptr p), x, y, z, w] [(p, .dT (ids (kvL (arcs.foldl addA []))))] (.lst (((keep arcs).map A4.key).map iT)) [(p, .dT (ids (kvL (arcs.foldl addA []))))] := by
      refine EvN.ev (evN_cb (ea_cons (ev_var rfl) ea_nil) (on_sortK (kvs := kvI (arcs.foldl addA [])) (n := 3) (B := 64) ?_ (by decide) ?_ ?_ ?_ (srt_key kp.ok)))
      · rw [← kv_eq]; exact List.mem_cons_self
      · unfold kvI
        rw [List.length_map]
        have := fold_len arcs []
        simp at this
        omega
      · intro kv hkv
        obtain ⟨a, ma, rfl⟩ := List.mem_map.mp hkv
        exact ⟨rfl, bd_key (kp.ok a ma) h8⟩
      · unfold kvI keep
        rw [List.map_map]
        exact (srt_perm _).map _
    have hlc := evN_lc (c := c) (te := tTup (tCons (tVar 2) (tCons (tVar 3) (tCons (tVar 4) (tCons (tDGet (tVar 1) (tTup (tCons (tVar 2) (tCons (tVar 3) (tCons (tVar 4) tNil))))) tNil))))) (g := gTup c.K 3 (gCons (gName 2) (gCons (gName 3) (gCons (gName 4) gNil)))) (vs := [2, 3, 4]) (wk_seqL hsrt) (arcsD (keep arcs)) (fun _ => [(p, .dT (ids (kvL (arcs.foldl addA []))))]) rfl (by simp only [List.length_map]) (by simp only [List.length_map]; omega) (fun i hi => by
      simp only [List.length_map] at hi
      have ha : (keep arcs)[i]? = some (keep arcs)[i] := List.getElem?_eq_getElem hi
      have mem := List.mem_of_getElem? ha
      generalize (keep arcs)[i] = a at ha mem
      have e : (((keep arcs).map A4.key).map iT).getD i .non = iT a.key := getD_of (by rw [List.getElem?_map, List.getElem?_map, ha]; rfl)
      rw [e]
      have hkey : Ev c.calm (tTup (tCons (tVar 2) (tCons (tVar 3) (tCons (tVar 4) tNil)))) [some (.lst (arcsD arcs)), some (.ptr p), some (.int a.u), some (.int a.v), some (.int a.dist), w] [(p, .dT (ids (kvL (arcs.foldl addA []))))] (.tup ((a.key.map Sum.inl : List Key).map kD)) [(p, .dT (ids (kvL (arcs.foldl addA []))))] := by
        apply ev_tup'
        case h => exact ea_cons (ev_var rfl) (ea_cons (ev_var rfl) (ea_cons (ev_var rfl) ea_nil))
        case hl => exact len_le rfl
      refine ⟨[some (.lst (arcsD arcs)), some (.ptr p), some (.int a.u), some (.int a.v), some (.int a.dist), w], a.d, tg_tup (tgs_cons tg_name (tgs_cons tg_name (tgs_cons tg_name tgs_nil))), by rw [List.getElem?_map, ha]; rfl, ?_⟩
      apply ev_tup'
      case h => exact ea_cons (ev_var rfl) (ea_cons (ev_var rfl) (ea_cons (ev_var rfl) (ea_cons (ev_dget (k := a.key.map Sum.inl) (ev_var rfl) hkey List.mem_cons_self (by rw [val_kv, find_self kp ((srt_perm _).mem_iff.mp mem)]; rfl)) ea_nil)))
      case hl => exact len_le rfl)
    exact run_ret (Ev.dropZ (ev_cb (ea_cons (EvN.ev hlc) ea_nil) (oc_tupOf (.inl rfl)))) k
end

theorem arcs_iT (l : List A4) : arcsD l = (l.map A4.l).map iT := by rw [List.map_map]; rfl
/-- the first row whose slot doesn't fit -/
def badAt (t : Int) : List Int → Nat → Option Nat
  | [], _ => none
  | s :: r, k => if 0 ≤ s ∧ s < t then badAt t r (k + 1) else some k
theorem badAt_at (t : Int) : ∀ (l : List Int) (k i : Nat) (s : Int), l[i]? = some s → ¬ (0 ≤ s ∧ s < t) → (∀ j x, j < i → l[j]? = some x → 0 ≤ x ∧ x < t) → badAt t l k = some (k + i)
  | [], k, i, s, h, _, _ => by simp at h
  | x :: r, k, 0, s, h, n, _ => by
    have e : x = s := Option.some.inj h
    subst e
    unfold badAt
    rw [if_neg n]
    rfl
  | x :: r, k, i + 1, s, h, n, a => by
    unfold badAt
    rw [if_pos (a 0 x (Nat.succ_pos _) rfl), badAt_at t r (k + 1) i s h n fun j y hj hy => a (j + 1) y (by omega) hy, show k + 1 + i = k + (i + 1) by omega]
theorem badAt_all (t : Int) : ∀ (l : List Int) (k : Nat), (∀ x ∈ l, 0 ≤ x ∧ x < t) → badAt t l k = none
  | [], k, _ => rfl
  | x :: r, k, a => by
    unfold badAt
    rw [if_pos (a x List.mem_cons_self), badAt_all t r (k + 1) fun y hy => a y (List.mem_cons_of_mem _ hy)]
/-- what the checks of ticks and slots say: true, the ticks; false, a row -/
def need (t : Int) (n : Nat) (sl : List Int) : Option (Bool × Int) :=
  if 1 ≤ t ∧ t ≤ 200 then (if sl.length = n then (badAt t sl 0).map fun i => (false, (i : Int)) else some (false, -1)) else some (true, t)
theorem need_ok {t : Int} {n : Nat} {sl : List Int} (h : need t n sl = none) : (1 ≤ t ∧ t ≤ 200) ∧ sl.length = n := by
  unfold need at h
  split at h
  · rename_i a
    split at h
    · rename_i b
      exact ⟨a, b⟩
    · cases h
  · cases h
/-- what a check that fails raises -/
def NeedX (aT aS : Addr) (r : Bool × Int) (X : XP) : Prop := match r with
  | (true, z) => X aT [("value", .int z)]
  | (false, z) => X aS [("row", .int z)]
def S_need_slots (aNet aT aS : Addr) : SpD := fun ds Z P X => ∃ (n : Nat) (arcs : List A4) (t : Int) (sl : List Int) (sd : D), ds = [netD aNet n arcs, .int t, sd] ∧ Z = [] ∧ (sd = .lst (iD sl) ∨ sd = .tup (iD sl)) ∧ (need t n sl = none → P .non []) ∧ ∀ r, need t n sl = some r → NeedX aT aS r X
section
variable {c : Cn} {O : Out} {Z : Sto} {E : XK}
theorem run_law_kept {rows : Nat} {arcs : List A4} (h8 : rows ≤ 8) (h64 : arcs.length < 64) (hk : ∀ a ∈ arcs, a.Ok rows) (k : O.rt (.lst (arcsD (keep arcs))) []) : Run c (t__law_kept_arcs c.K E) O [some (.lst (arcsD arcs)), none, none, none, none, none, none] [] := by
  unfold t__law_kept_arcs
  refine sq_asgN evN_dnew fun p hp => ?_
  refine sq_for (wk_seqL (ev_var rfl)) (fun i Γ Z => ∃ x y z w, Γ = [some (.lst (arcsD arcs)), some (.ptr p), x, y, z, w, none] ∧ Z = [(p, .dT (ids (kvL ((arcs.take i).foldl addA []))))]) ⟨none, none, none, none, rfl, rfl⟩ ?_ ?_
  · rintro i _ _ hi ⟨x, y, z, w, rfl, rfl⟩
    rw [List.length_map] at hi
    have ha : arcs[i]? = some arcs[i] := List.getElem?_eq_getElem hi
    rw [getD_arcs ha, take_fold ha]
    refine ⟨_, _, tg_tup (tgs_cons tg_name (tgs_cons tg_name (tgs_cons tg_name (tgs_cons tg_name tgs_nil)))), ?_⟩
    refine kept_turn (rest := [none]) ?_ ⟨_, _, _, _, rfl, rfl⟩
    have := fold_len (arcs.take i) []
    rw [List.length_take] at this
    simp at this
    omega
  · rintro _ _ ⟨x, y, z, w, rfl, rfl⟩
    rw [List.length_map, List.take_length]
    have kp := kept_fold (arcs := arcs) hk (kept_nil rows)
    have fl := fold_len arcs []
    simp at fl
    have hlc : Ev c (tLockE (tLc (iKeys (tVar 1)) (gName 6) tYes (tOp (rAddA c.K) (tVar 6) (tTup (tCons (tDGet (tVar 1) (tVar 6)) tNil))) [6])) [some (.lst (arcsD arcs)), some (.ptr p), x, y, z, w, none] [(p, .dT (ids (kvL (arcs.foldl addA []))))] (.lst (arcsD (arcs.foldl addA []))) [(p, .dT (ids (kvL (arcs.foldl addA []))))] := by
      refine EvN.ev (evN_lock rfl fun od => ?_)
      refine evN_lc (c := c) (vs := [6]) (wk_keys (od := od) (kvs := kvL (arcs.foldl addA [])) (ev_var rfl) List.mem_cons_self) (arcsD (arcs.foldl addA [])) (fun _ => [(p, .raw (.frz od (.dT (ivs (kvL (arcs.foldl addA []))))))]) rfl (by unfold kvL; simp only [List.length_map]) (by unfold kvL; rw [List.length_map]; omega) (fun i hi => ?_) fun _ => List.mem_cons_self
      unfold kvL at hi
      rw [List.length_map] at hi
      have ha : (arcs.foldl addA [])[i]? = some (arcs.foldl addA [])[i] := List.getElem?_eq_getElem hi
      have mem := List.mem_of_getElem? ha
      generalize (arcs.foldl addA [])[i] = a at ha mem
      have e : ((kvL (arcs.foldl addA [])).map (·.1)).getD i [] = a.key.map Sum.inl := getD_of (by unfold kvL; rw [List.getElem?_map, List.getElem?_map, ha]; rfl)
      rw [e]
      refine ⟨_, a.d, tg_name, by rw [List.getElem?_map, ha]; rfl, ?_⟩
      refine ev_op (x := .tup [.int a.u, .int a.v, .int a.dist]) (ev_var rfl) (ev_tup' (ea_cons (ev_dgetZ (n := a.lag) (ev_var rfl) (ev_var (d := .tup ((a.key.map Sum.inl : List Key).map kD)) rfl) List.mem_cons_self (by rw [val_kv, find_self kp mem]; rfl)) ea_nil) (len_le rfl)) (op_addT (by simp) (by simp) (by simp))
    have hso : OpCN c (rSortX c.K) [.lst (arcsD (arcs.foldl addA []))] [(p, .dT (ids (kvL (arcs.foldl addA []))))] (.lst (arcsD (keep arcs))) [(p, .dT (ids (kvL (arcs.foldl addA []))))] := by
      rw [arcs_iT (keep arcs), arcs_iT (arcs.foldl addA [])]
      refine on_sortX (n := 4) (B := 64) (.inl rfl) (by decide) (by rw [List.length_map]; omega) (fun ns hns => ?_) ((srt_perm _).map _) ?_
      · obtain ⟨a, ma, rfl⟩ := List.mem_map.mp hns
        exact ⟨rfl, bd_l (kp.ok a ma) h8⟩
      · rw [List.pairwise_map]
        exact srt_srt _
    exact run_ret (Ev.dropZ (EvN.ev (evN_cb (ea_cons hlc ea_nil) hso))) k
theorem run_stage_gains {aNet : Addr} {n : Nat} {arcs : List A4} {t : Int} {sl : List Int} {sd : D} (hc : Cls c.K aNet) (hA : NoAttr c.K aNet "arcs") (hs : SeqIs Z sd (iD sl)) (ht : Tk t) (h64 : arcs.length ≤ 1000) (hk : ∀ a ∈ arcs, a.u < sl.length ∧ a.v < sl.length) (k : O.rt (gsD (edges t sl arcs)) Z) :
    Run c (t_stage_gains c.K E (Pr c.K S_rounded_up)) O [some (netD aNet n arcs), some (.int t), some sd, none, none, none, none] Z := by
  unfold t_stage_gains
  refine run_ret (EvN.ev (evN_lc (c := c) (vs := [3, 4, 5, 6]) (wk_seqT (ds := arcsD arcs) ?_) (iD ((edges t sl arcs).map (·.2.2))) (fun _ => Z) rfl (by simp only [List.length_map]) (by simp only [List.length_map]; omega) (fun i hi => ?_))) k
  · exact ev_fld (ev_var rfl) hc hA rfl
  · rw [List.length_map] at hi
    have ha : arcs[i]? = some arcs[i] := List.getElem?_eq_getElem hi
    have mem := List.mem_of_getElem? ha
    generalize arcs[i] = a at ha mem
    rw [getD_arcs ha]
    obtain ⟨hu, hv⟩ := hk a mem
    refine ⟨[some (netD aNet n arcs), some (.int t), some sd, some (.int a.u), some (.int a.v), some (.int a.dist), some (.int a.lag)], .int (gn t sl a), tg_tup (tgs_cons tg_name (tgs_cons tg_name (tgs_cons tg_name (tgs_cons tg_name tgs_nil)))), by rw [List.getElem?_map, List.getElem?_map, List.getElem?_map, ha]; rfl, ?_⟩
    rw [← ps_gain]
    have harg : Ev c.calm (tOp rSubI (tOp (rAddA c.K) (tVar 6) (tOp (rIxQ c.K) (tVar 2) (tVar 3))) (tOp (rIxQ c.K) (tVar 2) (tVar 4))) [some (netD aNet n arcs), some (.int t), some sd, some (.int a.u), some (.int a.v), some (.int a.dist), some (.int a.lag)] Z (.int (a.lag + sl.getD a.u 0 - sl.getD a.v 0)) Z := ev_op (ev_op (ev_var rfl) (ev_op (ev_var rfl) (ev_var rfl) (op_ix (c := c.calm) hs (at_int hu))) op_addI) (ev_op (ev_var rfl) (ev_var rfl) (op_ix (c := c.calm) hs (at_int hv))) op_sub0
    exact ev_op (ev_call0 (c := c.calm) (X := fun _ _ => False) (ea_cons harg (ea_cons (ev_var rfl) ea_nil)) ⟨_, t, rfl, rfl, ht, rfl, rfl⟩ fun _ _ z => z) (ev_var rfl) op_sub0
theorem run_Net {aNet aB : Addr} {p : Addr} {n : Nat} {arcs : List A4} (hc : Cls c.K aNet) (hR : NoAttr c.K aNet "rows") (hA : NoAttr c.K aNet "arcs") (h1 : 1 ≤ n) (h8 : n ≤ 8) (h64 : arcs.length < 64) (hk : ∀ a ∈ arcs, a.Ok n) (hE : c.E = fun _ => E)
    (kk : ∀ Γ, O.nx Γ [(p, .ins aNet [("rows", .int n), ("arcs", .tup (arcsD (keep arcs)))])]) :
    Run c (t_Net c.K E aB (Pr c.K S_arc_fits) (Pr c.K S_kept_arcs)) O [some (.ptr p), some (.int n), some (.lst (arcsD arcs)), none, none] [(p, .ins aNet [])] := by
  unfold t_Net
  rw [← hE]
  refine sq_ifF (EvT.is (et_or (a := false) (b := false) (EvT.is (et_not (et_test (ev_chain (a := true) (b := true) ev_int (ev_var rfl) ?_ (fun _ => ev_int) (fun _ => ?_)))) rfl) (fun _ => EvT.is (et_test (ev_op (ev_cb (ea_cons (ev_var rfl) ea_nil) (oc_len (.inl rfl))) ev_int op_gt0)) ?_)) rfl) ?_
  · rw [← decide_eq_true (show (1 : Int) ≤ n by omega)]; exact op_le0
  · rw [← decide_eq_true (show (n : Int) ≤ 8 by omega)]; exact op_le0
  · rw [List.length_map]; exact decide_eq_false (by omega)
  refine sq_for (wk_enumS (ea_cons (ev_var rfl) ea_nil) (.inl rfl)) (fun i Γ Z => ∃ x y, Γ = [some (.ptr p), some (.int n), some (.lst (arcsD arcs)), x, y] ∧ Z = [(p, .ins aNet [])]) ⟨none, none, rfl, rfl⟩ ?_ ?_
  · rintro i _ _ hi ⟨x, y, rfl, rfl⟩
    rw [List.length_map] at hi
    have ha : arcs[i]? = some arcs[i] := List.getElem?_eq_getElem hi
    have mem := List.mem_of_getElem? ha
    generalize arcs[i] = a at ha mem
    rw [getD_arcs ha]
    refine ⟨_, _, tg_tup (tgs_cons tg_name (tgs_cons tg_name tgs_nil)), ?_⟩
    refine run_ifF (EvT.is (et_not (et_B (ev_call0 (d := .bl true) (X := fun _ _ => False) (ea_cons (ev_var rfl) (ea_cons (ev_var rfl) ea_nil)) ⟨n, a, rfl, rfl, hk a mem, rfl, rfl⟩ fun _ _ z => z.elim))) rfl) (run_next ⟨_, _, rfl, rfl⟩)
  · rintro _ _ ⟨x, y, rfl, rfl⟩
    refine run_seq (run_fld (C := aNet) (fs := []) (ev_var rfl) (ev_var rfl) List.mem_cons_self hc hR (by decide) ?_)
    rw [putZ_hd List.not_mem_nil]
    refine run_fld (C := aNet) (fs := [("rows", .int n)]) (d := .tup (arcsD (keep arcs))) (Z1 := [(p, .ins aNet [("rows", .int n)])]) (ev_call0 (X := fun _ _ => False) (ea_cons (ev_var rfl) ea_nil) ⟨n, arcs, rfl, rfl, h8, h64, hk, rfl, rfl⟩ fun _ _ z => z.elim) (ev_var rfl) List.mem_cons_self hc hA (show 1 < 1000 by decide) ?_
    rw [putZ_hd List.not_mem_nil]
    exact kk _
end

structure NetOk (n : Nat) (arcs : List A4) : Prop where
  h1 : 1 ≤ n
  h8 : n ≤ 8
  len : arcs.length ≤ 64
  ok : ∀ a ∈ arcs, a.Ok n
theorem NetOk.fits {n : Nat} {arcs : List A4} (k : NetOk n arcs) (t : Int) (sl : List Int) : Fits n (edges t sl arcs) := fun e he => by
  obtain ⟨a, ma, rfl⟩ := List.mem_map.mp he
  exact ⟨(k.ok a ma).hu, (k.ok a ma).hv⟩
theorem gs_rev (E : List Edge) : gsD (E.map rev) = gsD E := by
  show D.lst (iD ((E.map rev).map (·.2.2))) = _
  rw [List.map_map]
  rfl
/-- what least_stages tells -/
def LRes (n : Nat) (arcs : List A4) (t : Int) (sl : List Int) (d : D) : Prop := (∃ j, j < n ∧ stable (edges t sl arcs) (hsw (edges t sl arcs) (zs n) j) ∧ d = .tup [.str "stages", .tup (iD (hsw (edges t sl arcs) (zs n) n))]) ∨ ∃ ring, RingOk t sl arcs ring ∧ d = .tup [.str "ring", .tup (arcsD ring)]
/-- what greatest_stages tells -/
def GRes (n : Nat) (arcs : List A4) (t : Int) (sl : List Int) (most : Int) (d : D) : Prop := (∃ j, j < n ∧ stable (edges t sl arcs) (hsw (edges t sl arcs) (zs n) j) ∧ d = .tup [.str "stages", .tup (iD ((hsw ((edges t sl arcs).map rev) (zs n) n).map fun x => most - x))]) ∨ ∃ ring, RingOk t sl arcs ring ∧ d = .tup [.str "ring", .tup (arcsD ring)]
def S_least (aNet aT aS : Addr) : SpD := fun ds Z P X => ∃ (n : Nat) (arcs : List A4) (t : Int) (sl : List Int) (sd : D), ds = [netD aNet n arcs, .int t, sd] ∧ Z = [] ∧ NetOk n arcs ∧ (sd = .lst (iD sl) ∨ sd = .tup (iD sl)) ∧ (need t n sl = none → ∀ d, LRes n arcs t sl d → P d []) ∧ ∀ r, need t n sl = some r → NeedX aT aS r X
def S_greatest (aNet aT aS : Addr) : SpD := fun ds Z P X => ∃ (n : Nat) (arcs : List A4) (t : Int) (sl : List Int) (sd : D) (most : Int), ds = [netD aNet n arcs, .int t, sd, .int most] ∧ Z = [] ∧ NetOk n arcs ∧ (sd = .lst (iD sl) ∨ sd = .tup (iD sl)) ∧ (need t n sl = none → -1000 ≤ most → most ≤ 1000 → ∀ d, GRes n arcs t sl most d → P d []) ∧ (∀ r, need t n sl = some r → NeedX aT aS r X) ∧ (need t n sl = none → ¬ (-1000 ≤ most ∧ most ≤ 1000) → X aT [("value", .int most)])
section
variable {c : Cn} {O : Out} {Z : Sto} {E : XK}
theorem ev_rng {ta tb tc : TE} {i j k : Int} {Γ : Gam} (h1 : Ev c ta Γ Z (.int i) Z) (h2 : Ev c tb Γ Z (.int j) Z) (h3 : Ev c tc Γ Z (.int k) Z) : EvT c (tTest (tChain rLeI rLeI ta tb tc)) Γ Z (decide (i ≤ j) && decide (j ≤ k)) Z :=
  et_test (ev_chain h1 h2 op_le0 (fun _ => h3) fun _ => op_le0)
theorem ev_rngL {ta tb tc : TE} {i j k : Int} {Γ : Gam} (h1 : Ev c ta Γ Z (.int i) Z) (h2 : Ev c tb Γ Z (.int j) Z) (h3 : Ev c tc Γ Z (.int k) Z) : EvT c (tTest (tChain rLeI rLtI ta tb tc)) Γ Z (decide (i ≤ j) && decide (j < k)) Z :=
  et_test (ev_chain h1 h2 op_le0 (fun _ => h3) fun _ => op_lt0)
theorem run_need {aNet aT aS : Addr} {n : Nat} {arcs : List A4} {t : Int} {sl : List Int} {sd : D} (hc : Cls c.K aNet) (hR : NoAttr c.K aNet "rows") (oT : OexC c.K aT) (nT : PySem.W.findIn c.K (.ref aT) "value" = some none) (oS : OexC c.K aS) (nS : PySem.W.findIn c.K (.ref aS) "row" = some none) (hE : c.E = fun _ => E)
    (hs : sd = .lst (iD sl) ∨ sd = .tup (iD sl)) (k : need t n sl = none → ∀ Γ, O.nx Γ []) (kx : ∀ r, need t n sl = some r → ∀ Γ, NeedX aT aS r fun C fs => c.X C fs Γ []) :
    Run c (t_need_slots c.K E aT aS) O [some (netD aNet n arcs), some (.int t), some sd, none, none] [] := by
  have hW : c.E = WE (fun cls d _ H => E cls d H) := hE
  have hq : SeqIs [] sd (iD sl) := hs.elim .inl fun h => .inr (.inl h)
  unfold t_need_slots
  refine sq_if (et_not (ev_rng ev_int (ev_var rfl) ev_int)) (fun hb => ?_) fun hb => ?_
  · refine run_raise (ea_cons (ev_var rfl) ea_nil) sc_int oT nT ?_ hW
    have hn : ¬ (1 ≤ t ∧ t ≤ 200) := fun ⟨a, b⟩ => by simp [a, b] at hb
    exact kx (true, t) (by unfold need; rw [if_neg hn]) _
  have h1 : 1 ≤ t ∧ t ≤ 200 := by simpa using hb
  refine sq_if (et_test (ev_op (ev_cb (ea_cons (ev_var rfl) ea_nil) (oc_len hq)) (ev_fld (d := .int n) (ev_var rfl) hc hR rfl) op_neAI)) (fun hb => ?_) fun hb => ?_
  · refine run_raise (ea_cons (ev_neg ev_int) ea_nil) sc_int oS nS ?_ hW
    have hn : sl.length ≠ n := fun e => by rw [List.length_map, e] at hb; simp at hb
    exact kx (false, -1) (by unfold need; rw [if_pos h1, if_neg hn]) _
  have h2 : sl.length = n := by
    rw [List.length_map] at hb
    have := hb
    simp at this
    omega
  refine run_for (wk_enumS (ea_cons (ev_var rfl) ea_nil) hs) (fun i Γ Z => ∃ x y, Γ = [some (netD aNet n arcs), some (.int t), some sd, x, y] ∧ Z = [] ∧ ∀ j z, j < i → sl[j]? = some z → 0 ≤ z ∧ z < t) ⟨none, none, rfl, rfl, fun j z h => absurd h (Nat.not_lt_zero _)⟩ ?_ ?_
  · rintro i _ _ hi ⟨x, y, rfl, rfl, ha⟩
    rw [List.length_map] at hi
    have hz : sl[i]? = some sl[i] := List.getElem?_eq_getElem hi
    generalize sl[i] = z at hz
    have e : (iD sl).getD i .non = .int z := getD_of (by rw [List.getElem?_map, hz]; rfl)
    rw [e]
    refine ⟨_, _, tg_tup (tgs_cons tg_name (tgs_cons tg_name tgs_nil)), ?_⟩
    refine run_if (et_not (ev_rngL ev_int (ev_var rfl) (ev_var rfl))) (fun hb => ?_) fun hb => run_next ?_
    · refine run_raise (ea_cons (ev_var rfl) ea_nil) sc_int oS nS ?_ hW
      have hn : ¬ (0 ≤ z ∧ z < t) := fun ⟨a, b⟩ => by simp [a, b] at hb
      exact kx (false, (i : Int)) (by unfold need; rw [if_pos h1, if_pos h2, badAt_at t sl 0 i z hz hn ha, Nat.zero_add]; rfl) _
    · have h3 : 0 ≤ z ∧ z < t := by simpa using hb
      refine ⟨_, _, rfl, rfl, fun j w hj hw => ?_⟩
      rcases Nat.lt_or_ge j i with h | h
      · exact ha j w h hw
      · have : j = i := by omega
        subst this
        rw [hz] at hw
        rw [← Option.some.inj hw]
        exact h3
  · rintro _ _ ⟨x, y, rfl, rfl, ha⟩
    refine k ?_ _
    unfold need
    rw [if_pos h1, if_pos h2, badAt_all t sl 0 fun w hw => ?_]
    · rfl
    · obtain ⟨j, hj⟩ := List.mem_iff_getElem?.mp hw
      exact ha j w (by rw [List.length_map]; exact (List.getElem?_eq_some_iff.mp hj).1) hj
theorem run_least {aNet aT aS : Addr} {n : Nat} {arcs : List A4} {t : Int} {sl : List Int} {sd : D} (hc : Cls c.K aNet) (hR : NoAttr c.K aNet "rows") (hA : NoAttr c.K aNet "arcs") (hE : c.E = fun _ => E) (nk : NetOk n arcs)
    (hs : sd = .lst (iD sl) ∨ sd = .tup (iD sl)) (k : need t n sl = none → ∀ d, LRes n arcs t sl d → O.rt d []) (kx : ∀ r, need t n sl = some r → ∀ Γ, NeedX aT aS r fun C fs => c.X C fs Γ []) :
    Run c (t_least_stages c.K E (Pr c.K (S_need_slots aNet aT aS)) (Pr c.K (S_stage_gains aNet)) (Pr c.K S_gain_ring) (Pr c.K S_gain_heights)) O [some (netD aNet n arcs), some (.int t), some sd, none, none] [] := by
  have hq : SeqIs [] sd (iD sl) := hs.elim .inl fun h => .inr (.inl h)
  unfold t_least_stages
  rw [← hE]
  refine sq_dropP (evP_call0 (S := S_need_slots aNet aT aS) (P := fun d Z' => need t n sl = none ∧ Z' = []) (X := fun C fs => c.X C fs [some (netD aNet n arcs), some (.int t), some sd, none, none] []) (ea_cons (ev_var rfl) (ea_cons (ev_var rfl) (ea_cons (ev_var rfl) ea_nil))) ⟨n, arcs, t, sl, sd, rfl, rfl, hs, fun e => ⟨e, rfl⟩, fun r e => kx r e _⟩ fun _ _ z => z) ?_
  rintro _ _ ⟨Zc, ⟨hn, rfl⟩, rfl⟩
  obtain ⟨ht, hl⟩ := need_ok hn
  have tk : Tk t := ⟨by omega, by omega⟩
  have fits := nk.fits t sl
  refine sq_asg (ev_call0 (d := gsD (edges t sl arcs)) (X := fun _ _ => False) (ea_cons (ev_var rfl) (ea_cons (ev_var rfl) (ea_cons (ev_var rfl) ea_nil))) ⟨n, arcs, t, sl, sd, rfl, rfl, hq, tk, by have := nk.len; omega, fun a ma => by rw [hl]; exact ⟨(nk.ok a ma).hu, (nk.ok a ma).hv⟩, rfl, rfl⟩ fun _ _ z => z.elim) ?_
  have eR : Ev c (tFld c.K (tVar 0) "rows") [some (netD aNet n arcs), some (.int t), some sd, some (gsD (edges t sl arcs)), none] [] (.int n) [] := ev_fld (ev_var rfl) hc hR rfl
  have eA : Ev c (tFld c.K (tVar 0) "arcs") [some (netD aNet n arcs), some (.int t), some sd, some (gsD (edges t sl arcs)), none] [] (.tup (arcsD arcs)) [] := ev_fld (ev_var rfl) hc hA rfl
  refine sq_asgP (evP_call0 (S := S_gain_ring) (P := fun d Z' => Z' = [] ∧ ((d = .non ∧ ∃ j, j < n ∧ stable (edges t sl arcs) (hsw (edges t sl arcs) (zs n) j)) ∨ ∃ ring, RingOk t sl arcs ring ∧ d = .lst (arcsD ring))) (X := fun _ _ => False) (ea_cons eR (ea_cons eA (ea_cons (ev_var rfl) ea_nil))) ⟨n, arcs, t, sl, rfl, rfl, nk.h1, nk.h8, fits, fun j hj s => ⟨rfl, .inl ⟨rfl, j, hj, s⟩⟩, fun ring ok => ⟨rfl, .inr ⟨ring, ok, rfl⟩⟩⟩ fun _ _ z => z.elim) ?_
  rintro _ _ ⟨Zc, ⟨rfl, ⟨rfl, j, hj, s⟩ | ⟨ring, ok, rfl⟩⟩, rfl⟩
  · refine sq_ifF (EvT.is (a := !isN .non) (et_test (ev_op (ev_var rfl) ev_non op_notNon)) rfl) ?_
    have eR2 : Ev c (tFld c.K (tVar 0) "rows") [some (netD aNet n arcs), some (.int t), some sd, some (gsD (edges t sl arcs)), some .non] [] (.int n) [] := ev_fld (ev_var rfl) hc hR rfl
    have eA2 : Ev c (tFld c.K (tVar 0) "arcs") [some (netD aNet n arcs), some (.int t), some sd, some (gsD (edges t sl arcs)), some .non] [] (.tup (arcsD arcs)) [] := ev_fld (ev_var rfl) hc hA rfl
    have ec := ev_call0 (c := c) (S := S_gain_heights) (d := .lst (iD (hsw (edges t sl arcs) (zs n) n))) (X := fun _ _ => False) (ea_cons eR2 (ea_cons eA2 (ea_cons (ev_var (i := 3) (d := gsD (edges t sl arcs)) rfl) ea_nil))) ⟨n, .tup (arcsD arcs), arcsD arcs, edges t sl arcs, rfl, rfl, nk.h1, nk.h8, .inr rfl, steps_arcs t sl arcs, fits, rfl, rfl⟩ fun _ _ z => z.elim
    exact run_ret (ev_tup' (ea_cons ev_str (ea_cons (ev_cb (ea_cons ec ea_nil) (oc_tupOf (.inl rfl))) ea_nil)) (len_le rfl)) (k hn _ (.inl ⟨j, hj, s, rfl⟩))
  · refine sq_ifT (EvT.is (a := !isN (.lst (arcsD ring))) (et_test (ev_op (ev_var rfl) ev_non op_notNon)) rfl) ?_
    exact run_ret (ev_tup' (ea_cons ev_str (ea_cons (ev_cb (ea_cons (ev_var rfl) ea_nil) (oc_tupOf (.inl rfl))) ea_nil)) (len_le rfl)) (k hn _ (.inr ⟨ring, ok, rfl⟩))
theorem run_greatest {aNet aT aS : Addr} {n : Nat} {arcs : List A4} {t most : Int} {sl : List Int} {sd : D} (hc : Cls c.K aNet) (hR : NoAttr c.K aNet "rows") (hA : NoAttr c.K aNet "arcs") (oT : OexC c.K aT) (nT : PySem.W.findIn c.K (.ref aT) "value" = some none) (hE : c.E = fun _ => E) (nk : NetOk n arcs)
    (hs : sd = .lst (iD sl) ∨ sd = .tup (iD sl)) (k : need t n sl = none → -1000 ≤ most → most ≤ 1000 → ∀ d, GRes n arcs t sl most d → O.rt d []) (kx : ∀ r, need t n sl = some r → ∀ Γ, NeedX aT aS r fun C fs => c.X C fs Γ []) (km : need t n sl = none → ¬ (-1000 ≤ most ∧ most ≤ 1000) → ∀ Γ, c.X aT [("value", .int most)] Γ []) :
    Run c (t_greatest_stages c.K E aT (Pr c.K (S_need_slots aNet aT aS)) (Pr c.K (S_stage_gains aNet)) (Pr c.K S_gain_ring) (Pr c.K S_gain_heights)) O [some (netD aNet n arcs), some (.int t), some sd, some (.int most), none, none, none, none, none, none, none, none] [] := by
  have hW : c.E = WE (fun cls d _ H => E cls d H) := hE
  have hq : SeqIs [] sd (iD sl) := hs.elim .inl fun h => .inr (.inl h)
  unfold t_greatest_stages
  rw [← hE]
  refine sq_dropP (evP_call0 (S := S_need_slots aNet aT aS) (P := fun d Z' => need t n sl = none ∧ Z' = []) (X := fun C fs => c.X C fs [some (netD aNet n arcs), some (.int t), some sd, some (.int most), none, none, none, none, none, none, none, none] []) (ea_cons (ev_var rfl) (ea_cons (ev_var rfl) (ea_cons (ev_var rfl) ea_nil))) ⟨n, arcs, t, sl, sd, rfl, rfl, hs, fun e => ⟨e, rfl⟩, fun r e => kx r e _⟩ fun _ _ z => z) ?_
  rintro _ _ ⟨Zc, ⟨hn, rfl⟩, rfl⟩
  obtain ⟨ht, hl⟩ := need_ok hn
  have tk : Tk t := ⟨by omega, by omega⟩
  have fits := nk.fits t sl
  refine sq_if (et_not (ev_rng (ev_neg ev_int) (ev_var rfl) ev_int)) (fun hb => ?_) fun hb => ?_
  · refine run_raise (ea_cons (ev_var rfl) ea_nil) sc_int oT nT (km hn (fun ⟨a, b⟩ => ?_) _) hW
    have a' : -1000 ≤ most := a
    simp [b] at hb
    omega
  have hm : -1000 ≤ most ∧ most ≤ 1000 := by simpa using hb
  refine sq_asg (ev_call0 (d := gsD (edges t sl arcs)) (X := fun _ _ => False) (ea_cons (ev_var rfl) (ea_cons (ev_var rfl) (ea_cons (ev_var rfl) ea_nil))) ⟨n, arcs, t, sl, sd, rfl, rfl, hq, tk, by have := nk.len; omega, fun a ma => by rw [hl]; exact ⟨(nk.ok a ma).hu, (nk.ok a ma).hv⟩, rfl, rfl⟩ fun _ _ z => z.elim) ?_
  refine sq_asgP (evP_call0 (S := S_gain_ring) (P := fun d Z' => Z' = [] ∧ ((d = .non ∧ ∃ j, j < n ∧ stable (edges t sl arcs) (hsw (edges t sl arcs) (zs n) j)) ∨ ∃ ring, RingOk t sl arcs ring ∧ d = .lst (arcsD ring))) (X := fun _ _ => False) (ea_cons (ev_fld (d := .int n) (ev_var rfl) hc hR rfl) (ea_cons (ev_fld (d := .tup (arcsD arcs)) (ev_var rfl) hc hA rfl) (ea_cons (ev_var rfl) ea_nil))) ⟨n, arcs, t, sl, rfl, rfl, nk.h1, nk.h8, fits, fun j hj s => ⟨rfl, .inl ⟨rfl, j, hj, s⟩⟩, fun ring ok => ⟨rfl, .inr ⟨ring, ok, rfl⟩⟩⟩ fun _ _ z => z.elim) ?_
  rintro _ _ ⟨Zc, ⟨rfl, ⟨rfl, j, hj, s⟩ | ⟨ring, ok, rfl⟩⟩, rfl⟩
  · refine sq_ifF (EvT.is (a := !isN .non) (et_test (ev_op (ev_var rfl) ev_non op_notNon)) rfl) ?_
    refine sq_asg (d := .lst (arcs.map fun a => .tup [.int a.v, .int a.u])) (EvN.ev (evN_lc (c := c) (vs := [8, 9, 10]) (wk_seqT (ds := arcsD arcs) (ev_fld (ev_var rfl) hc hA rfl)) (arcs.map fun a => .tup [.int a.v, .int a.u]) (fun _ => []) rfl (by simp only [List.length_map]) (by have := nk.len; simp only [List.length_map]; omega) (fun i hi => ?_))) ?_
    · rw [List.length_map] at hi
      have ha : arcs[i]? = some arcs[i] := List.getElem?_eq_getElem hi
      generalize arcs[i] = a at ha
      rw [getD_arcs ha]
      refine ⟨_, .tup [.int a.v, .int a.u], tg_more (tg_tup (tgs_cons tg_name (tgs_cons tg_name (tgs_cons tg_name (tgs_cons tg_name tgs_nil))))) (by decide), by rw [List.getElem?_map, ha]; rfl, ?_⟩
      exact ev_tup' (ea_cons (ev_var rfl) (ea_cons (ev_var rfl) ea_nil)) (len_le rfl)
    refine sq_asg (ev_call0 (S := S_gain_heights) (d := .lst (iD (hsw ((edges t sl arcs).map rev) (zs n) n))) (X := fun _ _ => False) (ea_cons (ev_fld (d := .int n) (ev_var rfl) hc hR rfl) (ea_cons (ev_var rfl) (ea_cons (ev_var (d := gsD ((edges t sl arcs).map rev)) (by rw [gs_rev]; rfl)) ea_nil))) ⟨n, _, arcs.map fun a => .tup [.int a.v, .int a.u], (edges t sl arcs).map rev, rfl, rfl, nk.h1, nk.h8, .inl rfl, ⟨by simp only [List.length_map], fun i e h => ?_⟩, fits_rev fits, rfl, rfl⟩ fun _ _ z => z.elim) ?_
    · rw [List.getElem?_map, List.getElem?_map] at h
      rw [List.getElem?_map]
      cases ea : arcs[i]? with
      | none => rw [ea] at h; cases h
      | some a =>
        rw [ea] at h
        have e2 : rev (a.e t sl) = e := Option.some.inj h
        subst e2
        exact ⟨[], rfl⟩
    have hh := hsw_len ((edges t sl arcs).map rev) (zs n) n
    rw [List.length_replicate] at hh
    refine run_ret (ev_tup' (ea_cons ev_str (ea_cons (ev_cb (ea_cons (EvN.ev (evN_lc (c := c) (vs := [11]) (wk_seqL (ds := iD (hsw ((edges t sl arcs).map rev) (zs n) n)) (ev_var rfl)) (iD ((hsw ((edges t sl arcs).map rev) (zs n) n).map fun x => most - x)) (fun _ => []) rfl (by simp only [List.length_map]) (by have := nk.h8; simp only [List.length_map]; omega) (fun i hi => ?_))) ea_nil) (oc_tupOf (.inl rfl))) ea_nil)) (len_le rfl)) (k hn hm.1 hm.2 _ (.inl ⟨j, hj, s, rfl⟩))
    rw [List.length_map] at hi
    have hz : (hsw ((edges t sl arcs).map rev) (zs n) n)[i]? = some (hsw ((edges t sl arcs).map rev) (zs n) n)[i] := List.getElem?_eq_getElem hi
    generalize (hsw ((edges t sl arcs).map rev) (zs n) n)[i] = z at hz
    have e : (iD (hsw ((edges t sl arcs).map rev) (zs n) n)).getD i .non = .int z := getD_of (by rw [List.getElem?_map, hz]; rfl)
    rw [e]
    refine ⟨_, .int (most - z), tg_name, by rw [List.getElem?_map, List.getElem?_map, hz]; rfl, ?_⟩
    exact ev_op (ev_var rfl) (ev_var rfl) op_sub0
  · refine sq_ifT (EvT.is (a := !isN (.lst (arcsD ring))) (et_test (ev_op (ev_var rfl) ev_non op_notNon)) rfl) ?_
    exact run_ret (ev_tup' (ea_cons ev_str (ea_cons (ev_cb (ea_cons (ev_var rfl) ea_nil) (oc_tupOf (.inl rfl))) ea_nil)) (len_le rfl)) (k hn hm.1 hm.2 _ (.inr ⟨ring, ok, rfl⟩))
end

def S_law_least : SpD := fun ds Z P _ => ∃ (n : Nat) (arcs : List A4) (t : Int) (sl : List Int), ds = [.lst (arcsD arcs), .int n, .int t, .lst (iD sl)] ∧ Z = [] ∧ NetOk n arcs ∧ Tk t ∧ sl.length = n ∧
  (∀ j, j ≤ n → stable (edges t sl arcs) (hsw (edges t sl arcs) (zs n) j) → P (.tup (iD (hsw (edges t sl arcs) (zs n) j))) []) ∧ ((∀ j, j ≤ n → ¬ stable (edges t sl arcs) (hsw (edges t sl arcs) (zs n) j)) → P .non [])
def S_law_greatest : SpD := fun ds Z P _ => ∃ (n : Nat) (arcs : List A4) (t : Int) (sl : List Int) (most : Int), ds = [.lst (arcsD arcs), .int n, .int t, .lst (iD sl), .int most] ∧ Z = [] ∧ NetOk n arcs ∧ Tk t ∧ sl.length = n ∧
  (∀ j, j ≤ n → stable ((edges t sl arcs).map rev) (hsw ((edges t sl arcs).map rev) (zs n) j) → P (.tup (iD ((hsw ((edges t sl arcs).map rev) (zs n) j).map fun x => most - x))) []) ∧ ((∀ j, j ≤ n → ¬ stable ((edges t sl arcs).map rev) (hsw ((edges t sl arcs).map rev) (zs n) j)) → P .non [])
def S_stages_hold : SpD := fun ds Z P _ => ∃ (n : Nat) (arcs : List A4) (t : Int) (sl st : List Int), ds = [.lst (arcsD arcs), .lst (iD st), .int t, .lst (iD sl)] ∧ Z = [] ∧ NetOk n arcs ∧ Tk t ∧ sl.length = n ∧ st.length = n ∧ (∀ a ∈ arcs, gn t sl a ≤ st.getD a.v 0 - st.getD a.u 0) ∧ P (.bl true) []
theorem rfold_at {t : Int} {sl : List Int} {arcs : List A4} {i : Nat} {a : A4} (s : S) (h : arcs[i]? = some a) : rfold s ((edges t sl arcs).take (i + 1)) 0 = rstep (rfold s ((edges t sl arcs).take i) 0) (a.e t sl) i := rfold_one s (by rw [List.getElem?_map, h]; rfl)
theorem rfold_atR {t : Int} {sl : List Int} {arcs : List A4} {i : Nat} {a : A4} (s : S) (h : arcs[i]? = some a) : rfold s (((edges t sl arcs).map rev).take (i + 1)) 0 = rstep (rfold s (((edges t sl arcs).map rev).take i) 0) (rev (a.e t sl)) i := rfold_one s (by rw [List.getElem?_map, List.getElem?_map, h]; rfl)
theorem not_rose {E : List Edge} {h : List Int} (hr : (rfold ⟨h, [], false⟩ E 0).rose = true) : ¬ stable E h := fun s => by
  rw [rfold_stable E ⟨h, [], false⟩ 0 s] at hr
  cases hr
section
variable {c : Cn} {O : Out} {Z : Sto} {E : XK}
theorem call_gain {Γ : Gam} {ta : TA} {a : A4} {t : Int} {sl : List Int} (ha : EvA c ta Γ Z [a.d, .int t, .lst (iD sl)] Z) (ht : Tk t) (hu : a.u < sl.length) (hv : a.v < sl.length) : Ev c (tCallG (Pr c.K S_law_gain) c.E ta) Γ Z (.int (gn t sl a)) Z :=
  ev_call0 (X := fun _ _ => False) ha ⟨a, t, sl, .lst (iD sl), rfl, rfl, .inl rfl, ht, hu, hv, rfl, rfl⟩ fun _ _ z => z.elim
theorem run_law_least {n : Nat} {arcs : List A4} {t : Int} {sl : List Int} (nk : NetOk n arcs) (ht : Tk t) (hl : sl.length = n) (hE : c.E = fun _ => E)
    (kS : ∀ j, j ≤ n → stable (edges t sl arcs) (hsw (edges t sl arcs) (zs n) j) → O.rt (.tup (iD (hsw (edges t sl arcs) (zs n) j))) []) (kN : (∀ j, j ≤ n → ¬ stable (edges t sl arcs) (hsw (edges t sl arcs) (zs n) j)) → O.rt .non []) :
    Run c (t__law_least c.K E (Pr c.K S_law_gain)) O [some (.lst (arcsD arcs)), some (.int n), some (.int t), some (.lst (iD sl)), none, none, none, none, none] [] := by
  have h8 := nk.h8
  unfold t__law_least
  rw [← hE]
  apply sq_asgN
  case h =>
    apply evN_op
    case ha => exact ev_lst (ea_cons ev_int ea_nil) (len_le rfl)
    case hb => walk_at "ev"
    case hr => exact on_mulRep (.inl rfl) ⟨by omega, by omega⟩
  intro p hp
  rw [rep_zs]
  refine sq_for (wk_rng1 (ea_cons (ev_op (ev_var rfl) ev_int op_addI) ea_nil) ⟨by omega, by omega⟩) (fun j Γ Z => ∃ o5 o6 o7 o8, Γ = [some (.lst (arcsD arcs)), some (.int n), some (.int t), some (.lst (iD sl)), some (.ptr p), o5, o6, o7, o8] ∧ Z = [(p, .lst (iD (hsw (edges t sl arcs) (zs n) j)))] ∧ ∀ i, i < j → ¬ stable (edges t sl arcs) (hsw (edges t sl arcs) (zs n) i)) ⟨none, none, none, none, rfl, rfl, fun i h => absurd h (Nat.not_lt_zero _)⟩ ?_ ?_
  · rintro j _ _ hj ⟨o5, o6, o7, o8, rfl, rfl, hn⟩
    have hj2 : j ≤ n := by omega
    have lh : (hsw (edges t sl arcs) (zs n) j).length = n := by rw [hsw_len, List.length_replicate]
    refine ⟨_, _, tg_name, ?_⟩
    refine sq_asg ev_bl ?_
    refine sq_for (wk_seqL (ev_var rfl)) (fun i Γ Z => ∃ o7 o8, Γ = [some (.lst (arcsD arcs)), some (.int n), some (.int t), some (.lst (iD sl)), some (.ptr p), some (.int (j : Nat)), some (.bl (rfold ⟨hsw (edges t sl arcs) (zs n) j, [], false⟩ ((edges t sl arcs).take i) 0).rose), o7, o8] ∧ Z = [(p, .lst (iD (rfold ⟨hsw (edges t sl arcs) (zs n) j, [], false⟩ ((edges t sl arcs).take i) 0).h))]) ⟨_, _, rfl, rfl⟩ ?_ ?_
    · rintro i _ _ hi ⟨o7, o8, rfl, rfl⟩
      rw [List.length_map] at hi
      have ha : arcs[i]? = some arcs[i] := List.getElem?_eq_getElem hi
      rw [rfold_at _ ha]
      have mem := List.mem_of_getElem? ha
      generalize arcs[i] = a at ha mem
      rw [getD_arcs ha]
      have h1 : (rfold ⟨hsw (edges t sl arcs) (zs n) j, [], false⟩ ((edges t sl arcs).take i) 0).h.length = n := by rw [rfold_h, sweep_len]; exact lh
      revert h1
      generalize rfold ⟨hsw (edges t sl arcs) (zs n) j, [], false⟩ ((edges t sl arcs).take i) 0 = s
      obtain ⟨sh, sld, sr⟩ := s
      intro h1
      have h1 : sh.length = n := h1
      have hu : a.u < sh.length := by rw [h1]; exact (nk.ok a mem).hu
      have hv : a.v < sh.length := by rw [h1]; exact (nk.ok a mem).hv
      dsimp only
      refine ⟨_, _, tg_name, ?_⟩
      have cg := call_gain (c := c) (Z := [(p, .lst (iD sh))]) (Γ := [some (.lst (arcsD arcs)), some (.int n), some (.int t), some (.lst (iD sl)), some (.ptr p), some (.int (j : Nat)), some (.bl sr), some a.d, o8]) (ta := tCons (tVar 7) (tCons (tVar 2) (tCons (tVar 3) tNil))) (ea_cons (ev_var rfl) (ea_cons (ev_var rfl) (ea_cons (ev_var rfl) ea_nil))) ht (by omega) (by omega)
      apply sq_asg
      case h =>
        apply ev_op
        case ha => walk_at "ev"
        case hb => exact cg
        case hr => exact op_addI
      by_cases cd : sh.getD a.v 0 < sh.getD a.u 0 + gn t sl a
      · have st : rstep ⟨sh, sld, sr⟩ (a.e t sl) i = ⟨sh.set a.v (sh.getD a.u 0 + gn t sl a), sld.set a.v (some i), true⟩ := by
          unfold rstep
          exact if_pos (show hA sh a.v < hA sh a.u + gn t sl a from cd)
        refine' run_ifT (EvT.is ?e3 ?q3) ?_
        case e3 => walk_at "ev"
        case q3 => exact decide_eq_true cd
        apply sq_set (j := a.v)
        case h => walk_at "ev"
        case ho => walk_at "ev"
        case hi => walk_at "ev"
        case hz => walk_at "mem"
        case hj => exact ix_nat (by rw [List.length_map]; exact hv)
        rw [putZ_hd List.not_mem_nil, iD_set]
        apply run_asg
        case h => walk_at "ev"
        rw [st]
        exact ⟨_, _, rfl, rfl⟩
      · have st : rstep ⟨sh, sld, sr⟩ (a.e t sl) i = ⟨sh, sld, sr⟩ := by
          unfold rstep
          exact if_neg (show ¬ hA sh a.v < hA sh a.u + gn t sl a from cd)
        refine' run_ifF (EvT.is ?e3 ?q3) (run_next ?_)
        case e3 => walk_at "ev"
        case q3 => exact decide_eq_false cd
        rw [st]
        exact ⟨_, _, rfl, rfl⟩
    · rintro _ _ ⟨o7, o8, rfl, rfl⟩
      have et : (edges t sl arcs).take (arcsD arcs).length = edges t sl arcs := List.take_of_length_le (by rw [List.length_map, List.length_map]; exact Nat.le_refl _)
      rw [et]
      refine run_if (et_not (et_B (ev_var rfl))) (fun hb => ?_) fun hb => run_next ?_
      · have hb : (rfold ⟨hsw (edges t sl arcs) (zs n) j, [], false⟩ (edges t sl arcs) 0).rose = false := by simpa using hb
        obtain ⟨e1, e2⟩ := rfold_not _ _ _ hb
        rw [e1]
        exact run_ret (Ev.dropZ (ev_cb (ea_cons (ev_var (d := .ptr p) rfl) ea_nil) (oc_tupOf (.inr ⟨p, rfl, List.mem_cons_self⟩)))) (kS j hj2 e2)
      · have hb : (rfold ⟨hsw (edges t sl arcs) (zs n) j, [], false⟩ (edges t sl arcs) 0).rose = true := by simpa using hb
        rw [rfold_h]
        refine ⟨_, _, _, _, rfl, rfl, fun i hi => ?_⟩
        rcases Nat.lt_or_ge i j with h | h
        · exact hn i h
        · rw [show i = j by omega]
          exact not_rose hb
  · rintro _ _ ⟨o5, o6, o7, o8, rfl, rfl, hn⟩
    exact run_dropZ (run_ret ev_non (kN fun j hj => hn j (by omega)))
theorem getD_neg {b : List Int} {i : Nat} {m : Int} (h : i < b.length) : (b.map fun x => m - x).getD i 0 = m - b.getD i 0 := by
  rw [List.getD_eq_getElem?_getD, List.getD_eq_getElem?_getD, List.getElem?_map, List.getElem?_eq_getElem h]
  rfl
theorem run_law_greatest {n : Nat} {arcs : List A4} {t most : Int} {sl : List Int} (nk : NetOk n arcs) (ht : Tk t) (hl : sl.length = n) (hE : c.E = fun _ => E)
    (kS : ∀ j, j ≤ n → stable ((edges t sl arcs).map rev) (hsw ((edges t sl arcs).map rev) (zs n) j) → O.rt (.tup (iD ((hsw ((edges t sl arcs).map rev) (zs n) j).map fun x => most - x))) []) (kN : (∀ j, j ≤ n → ¬ stable ((edges t sl arcs).map rev) (hsw ((edges t sl arcs).map rev) (zs n) j)) → O.rt .non []) :
    Run c (t__law_greatest c.K E (Pr c.K S_law_gain)) O [some (.lst (arcsD arcs)), some (.int n), some (.int t), some (.lst (iD sl)), some (.int most), none, none, none, none, none] [] := by
  have h8 := nk.h8
  unfold t__law_greatest
  rw [← hE]
  apply sq_asgN
  case h =>
    apply evN_op
    case ha => exact ev_lst (ea_cons (ev_var rfl) ea_nil) (len_le rfl)
    case hb => walk_at "ev"
    case hr => exact on_mulRep (.inl rfl) ⟨by omega, by omega⟩
  intro p hp
  have e0 : List.replicate ((n : Int)).toNat (D.int most) = iD ((hsw ((edges t sl arcs).map rev) (zs n) 0).map fun x => most - x) := by
    show _ = iD ((List.replicate n 0).map fun x => most - x)
    rw [Int.toNat_natCast, List.map_replicate, Int.sub_zero]
    show _ = List.map _ _
    rw [List.map_replicate]
  rw [e0]
  refine sq_for (wk_rng1 (ea_cons (ev_op (ev_var rfl) ev_int op_addI) ea_nil) ⟨by omega, by omega⟩) (fun j Γ Z => ∃ o5 o6 o7 o8, Γ = [some (.lst (arcsD arcs)), some (.int n), some (.int t), some (.lst (iD sl)), some (.int most), some (.ptr p), o5, o6, o7, o8] ∧ Z = [(p, .lst (iD ((hsw ((edges t sl arcs).map rev) (zs n) j).map fun x => most - x)))] ∧ ∀ i, i < j → ¬ stable ((edges t sl arcs).map rev) (hsw ((edges t sl arcs).map rev) (zs n) i)) ⟨none, none, none, none, rfl, rfl, fun i h => absurd h (Nat.not_lt_zero _)⟩ ?_ ?_
  · rintro j _ _ hj ⟨o5, o6, o7, o8, rfl, rfl, hn⟩
    have hj2 : j ≤ n := by omega
    have lh : (hsw ((edges t sl arcs).map rev) (zs n) j).length = n := by rw [hsw_len, List.length_replicate]
    refine ⟨_, _, tg_name, ?_⟩
    refine sq_asg ev_bl ?_
    refine sq_for (wk_seqL (ev_var rfl)) (fun i Γ Z => ∃ o7 o8, Γ = [some (.lst (arcsD arcs)), some (.int n), some (.int t), some (.lst (iD sl)), some (.int most), some (.ptr p), some (.int (j : Nat)), some (.bl (rfold ⟨hsw ((edges t sl arcs).map rev) (zs n) j, [], false⟩ (((edges t sl arcs).map rev).take i) 0).rose), o7, o8] ∧ Z = [(p, .lst (iD ((rfold ⟨hsw ((edges t sl arcs).map rev) (zs n) j, [], false⟩ (((edges t sl arcs).map rev).take i) 0).h.map fun x => most - x)))]) ⟨_, _, rfl, rfl⟩ ?_ ?_
    · rintro i _ _ hi ⟨o7, o8, rfl, rfl⟩
      rw [List.length_map] at hi
      have ha : arcs[i]? = some arcs[i] := List.getElem?_eq_getElem hi
      rw [rfold_atR _ ha]
      have mem := List.mem_of_getElem? ha
      generalize arcs[i] = a at ha mem
      rw [getD_arcs ha]
      have h1 : (rfold ⟨hsw ((edges t sl arcs).map rev) (zs n) j, [], false⟩ (((edges t sl arcs).map rev).take i) 0).h.length = n := by rw [rfold_h, sweep_len]; exact lh
      revert h1
      generalize rfold ⟨hsw ((edges t sl arcs).map rev) (zs n) j, [], false⟩ (((edges t sl arcs).map rev).take i) 0 = s
      obtain ⟨sh, sld, sr⟩ := s
      intro h1
      have h1 : sh.length = n := h1
      have hu : a.u < sh.length := by rw [h1]; exact (nk.ok a mem).hu
      have hv : a.v < sh.length := by rw [h1]; exact (nk.ok a mem).hv
      have gu := getD_neg (m := most) hu
      have gv := getD_neg (m := most) hv
      have hu2 : a.u < (sh.map fun x => most - x).length := by rw [List.length_map]; exact hu
      have hv2 : a.v < (sh.map fun x => most - x).length := by rw [List.length_map]; exact hv
      dsimp only
      refine ⟨_, _, tg_name, ?_⟩
      have cg := call_gain (c := c) (Z := [(p, .lst (iD (sh.map fun x => most - x)))]) (Γ := [some (.lst (arcsD arcs)), some (.int n), some (.int t), some (.lst (iD sl)), some (.int most), some (.ptr p), some (.int (j : Nat)), some (.bl sr), some a.d, o8]) (ta := tCons (tVar 8) (tCons (tVar 2) (tCons (tVar 3) tNil))) (ea_cons (ev_var rfl) (ea_cons (ev_var rfl) (ea_cons (ev_var rfl) ea_nil))) ht (by omega) (by omega)
      apply sq_asg
      case h =>
        apply ev_op
        case ha => walk_at "ev"
        case hb => exact cg
        case hr => exact op_sub0
      rw [gv]
      by_cases cd : sh.getD a.u 0 < sh.getD a.v 0 + gn t sl a
      · have st : rstep ⟨sh, sld, sr⟩ (rev (a.e t sl)) i = ⟨sh.set a.u (sh.getD a.v 0 + gn t sl a), sld.set a.u (some i), true⟩ := by
          unfold rstep
          exact if_pos (show hA sh a.u < hA sh a.v + gn t sl a from cd)
        refine' run_ifT (EvT.is ?e3 ?q3) ?_
        case e3 => walk_at "ev"
        case q3 => rw [gu]; exact decide_eq_true (by omega)
        apply sq_set (j := a.u)
        case h => walk_at "ev"
        case ho => walk_at "ev"
        case hi => walk_at "ev"
        case hz => walk_at "mem"
        case hj => exact ix_nat (by rw [List.length_map]; exact hu2)
        rw [putZ_hd List.not_mem_nil, iD_set]
        apply run_asg
        case h => walk_at "ev"
        rw [st]
        refine ⟨_, _, rfl, ?_⟩
        rw [show most - sh.getD a.v 0 - gn t sl a = most - (sh.getD a.v 0 + gn t sl a) by omega, List.map_set]
      · have st : rstep ⟨sh, sld, sr⟩ (rev (a.e t sl)) i = ⟨sh, sld, sr⟩ := by
          unfold rstep
          exact if_neg (show ¬ hA sh a.u < hA sh a.v + gn t sl a from cd)
        refine' run_ifF (EvT.is ?e3 ?q3) (run_next ?_)
        case e3 => walk_at "ev"
        case q3 => rw [gu]; exact decide_eq_false (by omega)
        rw [st]
        exact ⟨_, _, rfl, rfl⟩
    · rintro _ _ ⟨o7, o8, rfl, rfl⟩
      have et : ((edges t sl arcs).map rev).take (arcsD arcs).length = (edges t sl arcs).map rev := List.take_of_length_le (by simp only [List.length_map]; exact Nat.le_refl _)
      rw [et]
      refine run_if (et_not (et_B (ev_var rfl))) (fun hb => ?_) fun hb => run_next ?_
      · have hb : (rfold ⟨hsw ((edges t sl arcs).map rev) (zs n) j, [], false⟩ ((edges t sl arcs).map rev) 0).rose = false := by simpa using hb
        obtain ⟨e1, e2⟩ := rfold_not _ _ _ hb
        rw [e1]
        exact run_ret (Ev.dropZ (ev_cb (ea_cons (ev_var (d := .ptr p) rfl) ea_nil) (oc_tupOf (.inr ⟨p, rfl, List.mem_cons_self⟩)))) (kS j hj2 e2)
      · have hb : (rfold ⟨hsw ((edges t sl arcs).map rev) (zs n) j, [], false⟩ ((edges t sl arcs).map rev) 0).rose = true := by simpa using hb
        rw [rfold_h]
        refine ⟨_, _, _, _, rfl, rfl, fun i hi => ?_⟩
        rcases Nat.lt_or_ge i j with h | h
        · exact hn i h
        · rw [show i = j by omega]
          exact not_rose hb
  · rintro _ _ ⟨o5, o6, o7, o8, rfl, rfl, hn⟩
    exact run_dropZ (run_ret ev_non (kN fun j hj => hn j (by omega)))
theorem run_stages_hold {n : Nat} {arcs : List A4} {t : Int} {sl st : List Int} (nk : NetOk n arcs) (ht : Tk t) (hl : sl.length = n) (hs : st.length = n) (hE : c.E = fun _ => E) (hg : ∀ a ∈ arcs, gn t sl a ≤ st.getD a.v 0 - st.getD a.u 0) (k : O.rt (.bl true) Z) :
    Run c (t__law_stages_hold c.K E (Pr c.K S_law_gain)) O [some (.lst (arcsD arcs)), some (.lst (iD st)), some (.int t), some (.lst (iD sl)), none, none] Z := by
  unfold t__law_stages_hold
  rw [← hE]
  refine sq_for (wk_seqL (ev_var rfl)) (fun i Γ Z' => ∃ o4 o5, Γ = [some (.lst (arcsD arcs)), some (.lst (iD st)), some (.int t), some (.lst (iD sl)), o4, o5] ∧ Z' = Z) ⟨_, _, rfl, rfl⟩ ?_ ?_
  · rintro i _ _ hi ⟨o4, o5, rfl, rfl⟩
    rw [List.length_map] at hi
    have ha : arcs[i]? = some arcs[i] := List.getElem?_eq_getElem hi
    have mem := List.mem_of_getElem? ha
    generalize arcs[i] = a at ha mem
    rw [getD_arcs ha]
    have hu : a.u < st.length := by rw [hs]; exact (nk.ok a mem).hu
    have hv : a.v < st.length := by rw [hs]; exact (nk.ok a mem).hv
    refine ⟨_, _, tg_name, ?_⟩
    apply sq_asg
    case h => walk_at "ev"
    refine run_ifF (EvT.is (et_test (ev_op (ev_var rfl) (call_gain (a := a) (sl := sl) (t := t) (ea_cons (ev_var rfl) (ea_cons (ev_var rfl) (ea_cons (ev_var rfl) ea_nil))) ht (by omega) (by omega)) op_lt0)) ?_) (run_next ⟨_, _, rfl, rfl⟩)
    have := hg a mem
    exact decide_eq_false (by omega)
  · rintro _ _ ⟨o4, o5, rfl, rfl⟩
    exact run_ret ev_bl k
end

def selfs (n : Nat) : List A4 := (List.range n).map fun v => ⟨v, v, 1, 0⟩
abbrev nm (a : A4) : Str := (py a.d).shown
theorem num_small {i : Int} (h : -1000000 ≤ i ∧ i ≤ 1000000) : Num i := by
  have h1 : i.natAbs ≤ 1000000 := by omega
  exact Nat.lt_of_le_of_lt h1 (by decide)
theorem arc_shows {a : A4} {n : Nat} (h : a.Ok n) (h8 : n ≤ 8) : Shows (py a.d) := by
  have hu := h.hu; have hv := h.hv; have := h.d0; have := h.d1; have := h.l0; have := h.l1
  refine (sm_ints (ns := a.l) fun i hi => num_small ?_).shows (by decide) (show 4 * 51 ≤ 60000 by decide)
  simp only [A4.l, List.mem_cons, List.not_mem_nil, or_false] at hi
  omega
theorem selfs_ok {n : Nat} : ∀ a ∈ selfs n, a.Ok n := fun a ma => by
  obtain ⟨v, hv, rfl⟩ := List.mem_map.mp ma
  have := List.mem_range.mp hv
  exact ⟨this, this, show (0 : Int) ≤ 1 by decide, show (1 : Int) ≤ 40 by decide, show (0 : Int) ≤ 0 by decide, show (0 : Int) ≤ 40 by decide, .inl (show (0 : Int) < 1 by decide)⟩
theorem chain_prev {t : Int} {sl : List Int} : ∀ {ring : List A4} {a b : Nat} {k : Nat} {x : A4}, Chain a (edges t sl ring) b → ring[k]? = some x → (k = 0 → x.u = a) ∧ ∀ k', k = k' + 1 → ∃ y : A4, ring[k']? = some y ∧ y.v = x.u
  | [], a, b, k, x, c, h => by simp at h
  | y :: r, a, b, 0, x, c, h => by
    have e : y = x := Option.some.inj h
    subst e
    exact ⟨fun _ => c.1, fun k' e => by omega⟩
  | y :: r, a, b, k + 1, x, c, h => by
    have h : r[k]? = some x := h
    obtain ⟨i1, i2⟩ := chain_prev (ring := r) c.2 h
    refine ⟨fun e => by omega, fun k' e => ?_⟩
    have e : k = k' := by omega
    subst e
    cases k with
    | zero => exact ⟨y, rfl, (i1 rfl).symm⟩
    | succ k =>
      obtain ⟨z, hz, e⟩ := i2 k rfl
      exact ⟨z, hz, e⟩
theorem chain_end {t : Int} {sl : List Int} : ∀ {R : List A4} {y : A4} {a b : Nat}, Chain a (edges t sl (R ++ [y])) b → y.v = b
  | [], y, a, b, c => c.2
  | x :: r, y, a, b, c => chain_end (R := r) c.2
theorem prev_at {t : Int} {sl : List Int} {ring : List A4} {a : Nat} {k : Nat} {x : A4} (c : Chain a (edges t sl ring) a) (h : ring[k]? = some x) : ∃ y : A4, atI (arcsD ring) ((k : Int) - 1) = some y.d ∧ y.v = x.u := by
  obtain ⟨i1, i2⟩ := chain_prev c h
  cases k with
  | zero =>
    rcases List.eq_nil_or_concat ring with rfl | ⟨R, y, rfl⟩
    · simp at h
    · rw [List.concat_eq_append] at *
      refine ⟨y, ?_, by rw [chain_end c, i1 rfl]⟩
      show atI (List.map A4.d (R ++ [y])) (-1) = _
      rw [List.map_append]
      exact atI_last _ _
  | succ k =>
    obtain ⟨y, hy, e⟩ := i2 k rfl
    refine ⟨y, ?_, e⟩
    rw [show (((k + 1 : Nat) : Int)) - 1 = (k : Int) by omega]
    exact atI_nat (by rw [List.getElem?_map, hy]; rfl)
theorem gsum_take {t : Int} {sl : List Int} {ring : List A4} {k : Nat} {x : A4} (h : ring[k]? = some x) : gsum (edges t sl (ring.take (k + 1))) = gsum (edges t sl (ring.take k)) + gn t sl x := by
  rw [List.take_add_one, h]
  show gsum (List.map _ (ring.take k ++ [x])) = _
  rw [List.map_append, gsum_append]
  show gsum (edges t sl (ring.take k)) + (gn t sl x + 0) = _
  omega
def S_ring_right : SpD := fun ds Z P _ => ∃ (n : Nat) (arcs ring : List A4) (t : Int) (sl : List Int), ds = [.tup [.str "ring", .tup (arcsD ring)], .lst (arcsD arcs), .int n, .int t, .lst (iD sl)] ∧ Z = [] ∧ NetOk n arcs ∧ Tk t ∧ sl.length = n ∧ RingOk t sl arcs ring ∧ P (.bl true) []
section
variable {c : Cn} {O : Out} {Z : Sto} {E : XK}
theorem run_ring_right {n : Nat} {arcs ring : List A4} {t : Int} {sl : List Int} (nk : NetOk n arcs) (ht : Tk t) (hl : sl.length = n) (rk : RingOk t sl arcs ring) (hE : c.E = fun _ => E) (k : O.rt (.bl true) Z) :
    Run c (t__law_ring_right c.K E (Pr c.K S_law_gain)) O [some (.tup [.str "ring", .tup (arcsD ring)]), some (.lst (arcsD arcs)), some (.int n), some (.int t), some (.lst (iD sl)), none, none, none, none, none, none, none] Z := by
  have h8 := nk.h8
  have r8 := rk.len
  have r1 : 0 < ring.length := List.length_pos_iff.mpr rk.ne
  have a64 := nk.len
  obtain ⟨ra, rch⟩ := rk.ch
  unfold t__law_ring_right
  rw [← hE]
  refine sq_ifF (EvT.is (et_or (a := false) (b := false) (EvT.is (et_not (et_B (ev_cb (ea_cons (ev_var rfl) (ea_cons ev_ty ea_nil)) oc_isTup))) rfl) fun _ => et_or (a := false) (b := false) (EvT.is (et_test (ev_op (ev_cb (ea_cons (ev_var rfl) ea_nil) (oc_len (.inr (.inl rfl)))) ev_int op_neAI)) rfl) fun _ => EvT.is (et_test (ev_op (ev_op (ev_var rfl) ev_int (op_ix (.inr (.inl rfl)) at0)) ev_str op_neAS)) (by simp)) rfl) ?_
  refine sq_asg (ev_op (ev_var rfl) ev_int (op_ix (.inr (.inl rfl)) at1)) ?_
  refine sq_ifF (EvT.is (et_or (a := false) (b := false) (EvT.is (et_not (et_B (ev_cb (ea_cons (ev_var rfl) (ea_cons ev_ty ea_nil)) oc_isTup))) rfl) fun _ => EvT.is (et_test (ev_op (ev_cb (ea_cons (ev_var rfl) ea_nil) (oc_len (.inr (.inl rfl)))) ev_int op_eqAI)) (by rw [List.length_map]; exact decide_eq_false (by omega))) rfl) ?_
  have eown : Ev c (tOp (rAddA c.K) (tVar 1) (tLc (iRng1 (tCons (tVar 2) tNil)) (gName 10) tYes (tTup (tCons (tVar 10) (tCons (tVar 10) (tCons (tC (.int 1)) (tCons (tC (.int 0)) tNil))))) [10])) [some (.tup [.str "ring", .tup (arcsD ring)]), some (.lst (arcsD arcs)), some (.int n), some (.int t), some (.lst (iD sl)), some (.tup (arcsD ring)), none, none, none, none, none, none] Z (.lst (arcsD (arcs ++ selfs n))) Z := by
    have e1 := EvN.ev (evN_lc (c := c) (te := tTup (tCons (tVar 10) (tCons (tVar 10) (tCons (tC (.int 1)) (tCons (tC (.int 0)) tNil))))) (g := gName 10) (vs := [10]) (wk_rng1 (Γ := [some (.tup [.str "ring", .tup (arcsD ring)]), some (.lst (arcsD arcs)), some (.int n), some (.int t), some (.lst (iD sl)), some (.tup (arcsD ring)), none, none, none, none, none, none]) (Z := Z) (ea_cons (ev_var (i := 2) (d := .int n) rfl) ea_nil) ⟨by omega, by omega⟩) (arcsD (selfs n)) (fun _ => Z) rfl (by unfold selfs; simp only [List.length_map, List.length_range, Int.toNat_natCast]) (by rw [Int.toNat_natCast]; omega) (fun i hi => by
      rw [Int.toNat_natCast] at hi
      refine ⟨_, (⟨i, i, 1, 0⟩ : A4).d, tg_name, by unfold selfs; rw [List.getElem?_map, List.getElem?_map, List.getElem?_range hi]; rfl, ?_⟩
      exact ev_tup' (ea_cons (ev_var rfl) (ea_cons (ev_var rfl) (ea_cons ev_int (ea_cons ev_int ea_nil)))) (len_le rfl)))
    have e2 := EvN.ev (evN_op (ev_var (c := c) (Γ := [some (.tup [.str "ring", .tup (arcsD ring)]), some (.lst (arcsD arcs)), some (.int n), some (.int t), some (.lst (iD sl)), some (.tup (arcsD ring)), none, none, none, none, none, none]) (i := 1) (d := .lst (arcsD arcs)) rfl) e1 (on_addL (.inl rfl) (.inl rfl) (by unfold selfs; simp only [List.length_map, List.length_range]; omega)))
    rw [show arcsD (arcs ++ selfs n) = arcsD arcs ++ arcsD (selfs n) from List.map_append]
    exact e2
  refine sq_asg eown ?_
  have okA : ∀ a ∈ arcs ++ selfs n, a.Ok n := fun a ma => (List.mem_append.mp ma).elim (nk.ok a) (selfs_ok a)
  have lA : (arcs ++ selfs n).length ≤ 100 := by rw [List.length_append]; unfold selfs; rw [List.length_map, List.length_range]; omega
  refine sq_asg (d := .lst (((arcs ++ selfs n).map nm).map D.str)) (EvN.ev (evN_lc (c := c) (vs := [11]) (wk_seqL (ds := arcsD (arcs ++ selfs n)) (ev_var rfl)) (((arcs ++ selfs n).map nm).map D.str) (fun _ => Z) rfl (by simp only [List.length_map]) (by rw [List.length_map]; omega) (fun i hi => ?_))) ?_
  · rw [List.length_map] at hi
    have ha : (arcs ++ selfs n)[i]? = some (arcs ++ selfs n)[i] := List.getElem?_eq_getElem hi
    have mem := List.mem_of_getElem? ha
    generalize (arcs ++ selfs n)[i] = a at ha mem
    rw [getD_arcs ha]
    exact ⟨_, .str (nm a), tg_name, by rw [List.getElem?_map, List.getElem?_map, ha]; rfl, ev_cb (ea_cons (ev_var rfl) ea_nil) (oc_repr (pyIs_of) (arc_shows (okA a mem) h8))⟩
  refine sq_asg ev_int ?_
  refine sq_for (wk_rng1 (ea_cons (ev_cb (ea_cons (ev_var rfl) ea_nil) (oc_len (.inr (.inl rfl)))) ea_nil) ⟨by rw [List.length_map]; omega, by rw [List.length_map]; omega⟩) (fun i Γ Z' => ∃ o9, Γ = [some (.tup [.str "ring", .tup (arcsD ring)]), some (.lst (arcsD arcs)), some (.int n), some (.int t), some (.lst (iD sl)), some (.tup (arcsD ring)), some (.lst (arcsD (arcs ++ selfs n))), some (.lst (((arcs ++ selfs n).map nm).map D.str)), some (.int (gsum (edges t sl (ring.take i)))), o9, none, none] ∧ Z' = Z) ⟨_, rfl, rfl⟩ ?_ ?_
  · rintro i _ _ hi ⟨o9, rfl, rfl⟩
    rw [List.length_map, Int.toNat_natCast] at hi
    have ha : ring[i]? = some ring[i] := List.getElem?_eq_getElem hi
    have mem := List.mem_of_getElem? ha
    rw [gsum_take ha]
    generalize ring[i] = a at ha mem
    have ma := rk.mem a mem
    have oka := nk.ok a ma
    have hu := oka.hu
    have hv := oka.hv
    have ia : atI (arcsD ring) (i : Int) = some a.d := atI_nat (by rw [List.getElem?_map, ha]; rfl)
    obtain ⟨y, iy, ey⟩ := prev_at rch ha
    refine ⟨_, _, tg_name, ?_⟩
    refine sq_ifF (EvT.is (et_test (ev_op (ev_cb (ea_cons (ev_op (ev_var rfl) (ev_var rfl) (op_ix (.inr (.inl rfl)) ia)) ea_nil) (oc_repr (pyIs_of) (arc_shows oka h8))) (ev_var rfl) (op_notInStr (zs := (arcs ++ selfs n).map nm) (.inl rfl)))) ?_) ?_
    · rw [decide_eq_true (List.mem_map.mpr ⟨a, List.mem_append_left _ ma, rfl⟩)]
      rfl
    refine sq_ifF (EvT.is (et_test (ev_op (ev_op (ev_op (ev_var rfl) (ev_var rfl) (op_ix (.inr (.inl rfl)) ia)) ev_int (op_ix (.inr (.inl rfl)) at0)) (ev_op (ev_op (ev_var rfl) (ev_op (ev_var rfl) ev_int op_sub0) (op_ix (.inr (.inl rfl)) iy)) ev_int (op_ix (.inr (.inl rfl)) at1)) op_neAI)) ?_) ?_
    · rw [ey]
      simp
    exact run_asg (ev_op (ev_var rfl) (call_gain (a := a) (sl := sl) (t := t) (ea_cons (ev_op (ev_var rfl) (ev_var rfl) (op_ix (.inr (.inl rfl)) ia)) (ea_cons (ev_var rfl) (ea_cons (ev_var rfl) ea_nil))) ht (by omega) (by omega)) op_addI) ⟨_, rfl, rfl⟩
  · rintro _ _ ⟨o9, rfl, rfl⟩
    rw [List.length_map, Int.toNat_natCast, List.take_length]
    refine run_ret (ev_op (ev_var rfl) ev_int op_gt0) ?_
    rw [decide_eq_true rk.pos]
    exact k
end

theorem badAt_none {t : Int} : ∀ {l : List Int} {k : Nat}, badAt t l k = none → ∀ x ∈ l, 0 ≤ x ∧ x < t
  | [], k, _, x, m => nomatch m
  | y :: r, k, h, x, m => by
    unfold badAt at h
    split at h
    · rename_i a
      rcases List.mem_cons.mp m with rfl | m
      · exact a
      · exact badAt_none h x m
    · cases h
theorem need_all {t : Int} {n : Nat} {sl : List Int} (h : need t n sl = none) : ∀ x ∈ sl, 0 ≤ x ∧ x < t := by
  obtain ⟨a, b⟩ := need_ok h
  unfold need at h
  rw [if_pos a, if_pos b] at h
  refine badAt_none (k := 0) ?_
  cases e : badAt t sl 0 with
  | none => rfl
  | some i => rw [e] at h; cases h
theorem getD_bd {l : List Int} {B : Int} (hb : ∀ x ∈ l, 0 ≤ x ∧ x ≤ B) (h0 : 0 ≤ B) (i : Nat) : 0 ≤ l.getD i 0 ∧ l.getD i 0 ≤ B := by
  rw [List.getD_eq_getElem?_getD]
  cases e : l[i]? with
  | none => exact ⟨Int.le_refl _, h0⟩
  | some x => exact hb x (List.mem_of_getElem? e)
theorem hstep_bd {h : List Int} {e : Edge} {B G : Int} (hb : ∀ x ∈ h, 0 ≤ x ∧ x ≤ B) (h0 : 0 ≤ B) (hG : e.2.2 ≤ G) (g0 : 0 ≤ G) : ∀ x ∈ hstep h e, 0 ≤ x ∧ x ≤ B + G := fun x hx => by
  unfold hstep at hx
  have a := getD_bd hb h0 e.1
  have b := getD_bd hb h0 e.2.1
  split at hx
  · rename_i c
    rcases List.mem_or_eq_of_mem_set hx with hx | rfl
    · have := hb x hx
      omega
    · have c : h.getD e.2.1 0 < h.getD e.1 0 + e.2.2 := c
      show 0 ≤ h.getD e.1 0 + e.2.2 ∧ h.getD e.1 0 + e.2.2 ≤ B + G
      omega
  · have := hb x hx
    omega
theorem sweep_bd {G : Int} (g0 : 0 ≤ G) : ∀ {E : List Edge} {h : List Int} {B : Int}, (∀ x ∈ h, 0 ≤ x ∧ x ≤ B) → 0 ≤ B → (∀ e ∈ E, e.2.2 ≤ G) → ∀ x ∈ sweep E h, 0 ≤ x ∧ x ≤ B + G * E.length
  | [], h, B, hb, h0, hG, x, hx => by
    have := hb x hx
    show 0 ≤ x ∧ x ≤ B + G * 0
    omega
  | e :: r, h, B, hb, h0, hG, x, hx => by
    have := sweep_bd g0 (E := r) (h := hstep h e) (B := B + G) (hstep_bd hb h0 (hG e List.mem_cons_self) g0) (by omega) (fun d hd => hG d (List.mem_cons_of_mem _ hd)) x hx
    rw [List.length_cons]
    rw [show G * ((r.length + 1 : Nat) : Int) = G * (r.length : Int) + G by rw [Int.natCast_add, Int.mul_add]; omega]
    omega
theorem hsw_bd {E : List Edge} {n : Nat} {G : Int} (g0 : 0 ≤ G) (hG : ∀ e ∈ E, e.2.2 ≤ G) : ∀ j, (∀ x ∈ hsw E (zs n) j, 0 ≤ x ∧ x ≤ G * E.length * j)
  | 0, x, hx => by
    have hx : x ∈ List.replicate n 0 := hx
    rw [List.mem_replicate] at hx
    rw [hx.2]
    simp
  | j + 1, x, hx => by
    have gl : 0 ≤ G * (E.length : Int) := Int.mul_nonneg g0 (by omega)
    have := sweep_bd g0 (hsw_bd g0 hG j) (Int.mul_nonneg gl (by omega)) hG x hx
    rw [show G * (E.length : Int) * ((j + 1 : Nat) : Int) = G * (E.length : Int) * (j : Int) + G * (E.length : Int) by rw [Int.natCast_add, Int.mul_add]; omega]
    exact this
theorem gn_le {t : Int} {sl : List Int} {n : Nat} {a : A4} (ht : 1 ≤ t) (hs : ∀ x ∈ sl, 0 ≤ x ∧ x < t) (ok : a.Ok n) : gn t sl a ≤ 41 := by
  have hs' : ∀ x ∈ sl, 0 ≤ x ∧ x ≤ t - 1 := fun x hx => by have := hs x hx; omega
  have h1 := getD_bd hs' (by omega) a.v
  have h2 := getD_bd hs' (by omega) a.u
  have := ok.l0; have := ok.l1; have := ok.d0
  have : -41 ≤ (sl.getD a.v 0 - sl.getD a.u 0 - a.lag) / t := Int.le_ediv_of_mul_le (by omega) (by omega)
  unfold gn
  omega
/-- heights stay small -/
theorem hsw_num {t : Int} {sl : List Int} {n : Nat} {arcs : List A4} (nk : NetOk n arcs) (hn : need t n sl = none) {E : List Edge} (hE : E = edges t sl arcs ∨ E = (edges t sl arcs).map rev) (j : Nat) (hj : j ≤ 9) : ∀ x ∈ hsw E (zs n) j, 0 ≤ x ∧ x ≤ 24000 := fun x hx => by
  have hl : E.length = arcs.length := by rcases hE with rfl | rfl <;> simp only [List.length_map]
  have hG : ∀ e ∈ E, e.2.2 ≤ 41 := fun e he => by
    have key : ∀ a ∈ arcs, gn t sl a ≤ 41 := fun a ma => gn_le (need_ok hn).1.1 (need_all hn) (nk.ok a ma)
    rcases hE with rfl | rfl
    · obtain ⟨a, ma, rfl⟩ := List.mem_map.mp he
      exact key a ma
    · obtain ⟨d, md, rfl⟩ := List.mem_map.mp he
      obtain ⟨a, ma, rfl⟩ := List.mem_map.mp md
      exact key a ma
  have := hsw_bd (by decide) hG j x hx
  have h64 := nk.len
  have m1 : 41 * (E.length : Int) * (j : Int) ≤ 41 * 64 * 9 := by
    have a1 : 41 * (E.length : Int) ≤ 41 * 64 := by omega
    exact Int.le_trans (Int.mul_le_mul_of_nonneg_right a1 (by omega)) (Int.mul_le_mul_of_nonneg_left (by omega) (by decide))
  omega
theorem plain_arcs (l : List A4) : plain (.tup (arcsD l)) = true := by
  simp only [L3.plain, plains_all]
  rw [List.all_eq_true]
  intro d hd
  obtain ⟨a, _, rfl⟩ := List.mem_map.mp hd
  rfl
theorem lay_ints (ns : List Int) : Lay 1 (py (.tup (iD ns))) := lay_pyTup fun d hd => by
  obtain ⟨i, _, rfl⟩ := List.mem_map.mp hd
  simp only [py]
  exact lay_int
theorem lay_intsL (ns : List Int) : Lay 1 (py (.lst (iD ns))) := lay_pyLst fun d hd => by
  obtain ⟨i, _, rfl⟩ := List.mem_map.mp hd
  simp only [py]
  exact lay_int
theorem lay_arcs (l : List A4) : Lay 2 (py (.tup (arcsD l))) := lay_pyTup fun d hd => by
  obtain ⟨a, _, rfl⟩ := List.mem_map.mp hd
  exact lay_ints a.l
abbrev stD (h : List Int) : D := .tup [.str "stages", .tup (iD h)]
theorem plain_st (h : List Int) : plain (stD h) = true := by
  have := plain_ints h
  simp only [L3.plain, plains] at this ⊢
  simp [this]
theorem st_shows {h : List Int} (hb : ∀ i ∈ h, Num i) (hl : h.length ≤ 100) : Shows (py (stD h)) := by
  have e : py (stD h) = .tuple [.str "stages", py (.tup (iD h))] := by rw [py_tup]; simp only [List.map_cons, List.map_nil, py]
  rw [e]
  have := sm_tup (k := 1) (w := 5100) (ds := [.str "stages", py (.tup (iD h))]) fun d hd => by
    rcases List.mem_cons.mp hd with rfl | hd
    · exact (sm_str (by decide +kernel)).mono (by decide) (by decide +kernel)
    · rw [List.mem_singleton.mp hd]
      exact (sm_ints hb).mono (by decide) (by omega)
  exact this.shows (by decide) (show 2 * 5101 ≤ 60000 by decide)
def S_Net (aNet : Addr) : SpD := fun ds Z P _ => ∃ (p : Addr) (n : Nat) (arcs : List A4), ds = [.ptr p, .int n, .lst (arcsD arcs)] ∧ Z = [(p, .ins aNet [])] ∧ 1 ≤ n ∧ n ≤ 8 ∧ arcs.length < 64 ∧ (∀ a ∈ arcs, a.Ok n) ∧ P .non [(p, .ins aNet [("rows", .int n), ("arcs", .tup (arcsD (keep arcs)))])]
def S_both : SpD := fun ds Z P _ => ∃ (n : Nat) (arcs : List A4) (t : Int) (sl : List Int) (most : Int), ds = [.int n, .lst (arcsD arcs), .int t, .lst (iD sl), .int most] ∧ Z = [] ∧ 1 ≤ n ∧ n ≤ 8 ∧ arcs.length < 64 ∧ (∀ a ∈ arcs, a.Ok n) ∧ need t n sl = none ∧ (-1000 ≤ most ∧ most ≤ 1000) ∧ P (.bl true) []
theorem keep_net {n : Nat} {arcs : List A4} (h1 : 1 ≤ n) (h8 : n ≤ 8) (h64 : arcs.length < 64) (ok : ∀ a ∈ arcs, a.Ok n) : NetOk n (keep arcs) := ⟨h1, h8, by have := keep_len arcs; omega, keep_ok ok⟩
section
variable {c : Cn} {O : Out} {Z Z1 : Sto} {E : XK} {Γ : Gam} {ta : TA} {ds es : List D} {S : SpD} {P : D → Sto → Prop}
theorem evP_callK0 {X : XP} {gV : List V → List V → List V} (ha : EvA c ta Γ Z es Z1) (hg : ∀ {B : Hp} {vs : List V}, RpAll c.K B vs es → RpAll c.K B (gV [] vs) ds) (hS : S ds [] P X) (hX : ∀ C fs, X C fs → c.X C fs Γ Z1) : EvP c (tCallGK (Pr c.K S) gV c.E ta) Γ Z (fun d Z' => ∃ Zc, P d Zc ∧ Z' = Zc ++ Z1) := fun F G σ H Q ok en th k =>
  ha F G σ H _ ok en th fun vs H1 ok1 s1 r1 => pr_of (Za := []) (Zb := Z1) (Q := Q) ok1 (hg r1) (en.mono s1) th hS (fun C fs x => ⟨rfl, hX C fs x⟩) fun d' Z' v H' p ok' s' r => k d' _ v H' ⟨Z', p, rfl⟩ ok' (s1.trans s') r
/-- .. a promise whose end is known -/
theorem ev_callP1 {X : XP} {d : D} (ha : EvA c ta Γ Z ds Z1) (hS : S ds [] P X) (hP : ∀ e Z', P e Z' → e = d ∧ Z' = []) (hX : ∀ C fs, X C fs → c.X C fs Γ Z1) : Ev c (tCallG (Pr c.K S) c.E ta) Γ Z d Z1 := fun F G σ H Q ok en th k =>
  evP_call0 ha hS hX F G σ H Q ok en th fun d' Z' v H' p ok' s r => by
    obtain ⟨Zc, p, rfl⟩ := p
    obtain ⟨rfl, rfl⟩ := hP _ _ p
    exact k v H' ok' s r
theorem kv_rp {K : PySem.W.Frag} {B : Hp} {vs : List V} {x y z : D} (r : RpAll K B vs [x, y, z]) : RpAll K B (kVleast_stages [] vs) [z, y, x] := by
  cases r with
  | cons a r => cases r with
    | cons b r => cases r with
      | cons d r =>
        cases r
        exact .cons d (.cons b (.cons a .nil))
theorem make_net {aNet : Addr} {n : Nat} {arcs : List A4} (ha : EvA c ta Γ Z [.int n, .lst (arcsD arcs)] Z1) (h1 : 1 ≤ n) (h8 : n ≤ 8) (h64 : arcs.length < 64) (ok : ∀ a ∈ arcs, a.Ok n) : Ev c (tMake aNet (Pr c.K (S_Net aNet)) [] E0 ta) Γ Z (netD aNet n (keep arcs)) Z1 :=
  ev_make ha fun p => ⟨p, n, arcs, rfl, rfl, h1, h8, h64, ok, rfl, rfl⟩
theorem ne_same {te tf : TE} {x : D} {k : Nat} (ha : Ev c te Γ Z x Z) (hb : Ev c tf Γ Z x Z) (pl : plain x = true) (ly : Lay k (py x)) (hk : k ≤ 64) : EvT c (tTest (tOp (rNeA c.K) te tf)) Γ Z false Z := EvT.is (et_test (ev_op ha hb (op_neAD (pyIs_of pl) (pyIs_of pl) (ly.shaped hk) (ly.shaped hk)))) (by rw [eqv_lay ly]; rfl)
theorem ne_shown {te tf : TE} {x : D} (ha : Ev c te Γ Z x Z) (hb : Ev c tf Γ Z x Z) (pl : plain x = true) (sh : Shows (py x)) : EvT c (tTest (tOp (rNeA c.K) (tCB (rRepr c.K) (tCons te tNil)) (tCB (rRepr c.K) (tCons tf tNil)))) Γ Z false Z := EvT.is (et_test (ev_op (ev_cb (ea_cons ha ea_nil) (oc_repr (pyIs_of pl) sh)) (ev_cb (ea_cons hb ea_nil) (oc_repr (pyIs_of pl) sh)) op_neAS)) (by rw [decide_eq_true rfl]; rfl)
end

theorem ring_no {t : Int} {sl : List Int} {arcs ring : List A4} {h : List Int} (r : RingOk t sl arcs ring) (s : stable (edges t sl arcs) h) : False := by
  obtain ⟨a, ch⟩ := r.ch
  refine gains_not s ⟨a, edges t sl ring, fun z => r.ne (by simpa using z), ch, fun e he => ?_, r.pos⟩
  obtain ⟨x, mx, rfl⟩ := List.mem_map.mp he
  exact List.mem_map.mpr ⟨x, r.mem x mx, rfl⟩
theorem lres_st {n : Nat} {arcs : List A4} {t : Int} {sl : List Int} {d : D} {j : Nat} (h : LRes n arcs t sl d) (hj : j ≤ n) (s : stable (edges t sl arcs) (hsw (edges t sl arcs) (zs n) j)) : d = stD (hsw (edges t sl arcs) (zs n) j) := by
  rcases h with ⟨i, hi, si, rfl⟩ | ⟨ring, r, _⟩
  · rw [hsw_stay s n hj]
  · exact (ring_no r s).elim
theorem lres_ring {n : Nat} {arcs : List A4} {t : Int} {sl : List Int} {d : D} (h : LRes n arcs t sl d) (no : ∀ j, j ≤ n → ¬ stable (edges t sl arcs) (hsw (edges t sl arcs) (zs n) j)) : ∃ ring, RingOk t sl arcs ring ∧ d = .tup [.str "ring", .tup (arcsD ring)] := by
  rcases h with ⟨i, hi, si, _⟩ | h
  · exact (no i (by omega) si).elim
  · exact h
theorem gres_ring {n : Nat} {arcs : List A4} {t most : Int} {sl : List Int} {d : D} (h : GRes n arcs t sl most d) (no : ∀ j, j ≤ n → ¬ stable (edges t sl arcs) (hsw (edges t sl arcs) (zs n) j)) : ∃ ring, RingOk t sl arcs ring ∧ d = .tup [.str "ring", .tup (arcsD ring)] := by
  rcases h with ⟨i, hi, si, _⟩ | h
  · exact (no i (by omega) si).elim
  · exact h
theorem gres_st {n : Nat} {arcs : List A4} {t most : Int} {sl : List Int} {d : D} {h : List Int} (hg : GRes n arcs t sl most d) (s : stable (edges t sl arcs) h) : d = stD ((hsw ((edges t sl arcs).map rev) (zs n) n).map fun x => most - x) := by
  rcases hg with ⟨i, hi, si, rfl⟩ | ⟨ring, r, _⟩
  · rfl
  · exact (ring_no r s).elim
theorem getD_rng {n v : Nat} {f : Nat → Int} (h : v < n) : ((List.range n).map f).getD v 0 = f v := by
  rw [List.getD_eq_getElem?_getD, List.getElem?_map, List.getElem?_range h]
  rfl
theorem getD_add {h : List Int} {v : Nat} {k : Int} (hv : v < h.length) : (h.map fun x => x + k).getD v 0 = h.getD v 0 + k := by
  rw [List.getD_eq_getElem?_getD, List.getD_eq_getElem?_getD, List.getElem?_map, List.getElem?_eq_getElem hv]
  rfl
section
variable {c : Cn} {O : Out} {E : XK}
theorem run_both {aNet aT aS : Addr} {n : Nat} {arcs : List A4} {t most : Int} {sl : List Int} (hc : Cls c.K aNet) (hA : NoAttr c.K aNet "arcs") (hE : c.E = fun _ => E) (h1 : 1 ≤ n) (h8 : n ≤ 8) (h64 : arcs.length < 64) (ok : ∀ a ∈ arcs, a.Ok n) (hn : need t n sl = none) (hm : -1000 ≤ most ∧ most ≤ 1000) (k : O.rt (.bl true) []) :
    Run c (t__law_both_hold c.K E aNet (Pr c.K (S_Net aNet)) (Pr c.K S_law_kept) (Pr c.K S_law_least) (Pr c.K (S_least aNet aT aS)) (Pr c.K (S_greatest aNet aT aS)) (Pr c.K S_ring_right) (Pr c.K S_law_greatest) (Pr c.K S_stages_hold)) O
      [some (.int n), some (.lst (arcsD arcs)), some (.int t), some (.lst (iD sl)), some (.int most), none, none, none, none, none, none, none, none, none, none, none, none, none] [] := by
  have nk := keep_net h1 h8 h64 ok
  obtain ⟨ht0, hl⟩ := need_ok hn
  have ht : Tk t := ⟨by omega, by omega⟩
  have fits := nk.fits t sl
  unfold t__law_both_hold
  rw [← hE]
  refine sq_asg (ev_call0 (S := S_law_kept) (d := .lst (arcsD (keep arcs))) (X := fun _ _ => False) (ea_cons (ev_var rfl) ea_nil) ⟨n, arcs, rfl, rfl, h8, h64, ok, rfl, rfl⟩ fun _ _ z => z.elim) ?_
  refine sq_asgP (evP_call0 (S := S_law_least) (P := fun d Z' => Z' = [] ∧ ((∃ j, j ≤ n ∧ stable (edges t sl (keep arcs)) (hsw (edges t sl (keep arcs)) (zs n) j) ∧ d = .tup (iD (hsw (edges t sl (keep arcs)) (zs n) j))) ∨ ((∀ j, j ≤ n → ¬ stable (edges t sl (keep arcs)) (hsw (edges t sl (keep arcs)) (zs n) j)) ∧ d = .non))) (X := fun _ _ => False) (ea_cons (ev_var rfl) (ea_cons (ev_var rfl) (ea_cons (ev_var rfl) (ea_cons (ev_var rfl) ea_nil)))) ⟨n, keep arcs, t, sl, rfl, rfl, nk, ht, hl, fun j hj s => ⟨rfl, .inl ⟨j, hj, s, rfl⟩⟩, fun no => ⟨rfl, .inr ⟨no, rfl⟩⟩⟩ fun _ _ z => z.elim) ?_
  rintro due _ ⟨Zc, ⟨rfl, hdue⟩, rfl⟩
  refine sq_asg (make_net (ea_cons (ev_var rfl) (ea_cons (EvN.ev (evN_cb (ea_cons (ev_var rfl) ea_nil) (on_listOf (.inl rfl)))) ea_nil)) h1 h8 h64 ok) ?_
  refine sq_asg (EvN.ev (evN_cb (ea_cons (ev_var rfl) ea_nil) (on_listOf (ds := iD sl) (.inl rfl)))) ?_
  refine sq_asgP (evP_call0 (S := S_least aNet aT aS) (P := fun d Z' => Z' = [] ∧ LRes n (keep arcs) t sl d) (X := fun _ _ => False) (ea_cons (ev_var rfl) (ea_cons (ev_var rfl) (ea_cons (ev_var rfl) ea_nil))) ⟨n, keep arcs, t, sl, _, rfl, rfl, nk, .inl rfl, fun _ d hd => ⟨rfl, hd⟩, fun r e => by rw [hn] at e; cases e⟩ fun _ _ z => z.elim) ?_
  rintro told _ ⟨Zc, ⟨rfl, htold⟩, rfl⟩
  refine sq_asgP (evP_call0 (S := S_greatest aNet aT aS) (P := fun d Z' => Z' = [] ∧ GRes n (keep arcs) t sl most d) (X := fun _ _ => False) (ea_cons (ev_var rfl) (ea_cons (ev_var rfl) (ea_cons (ev_cb (ea_cons (ev_var rfl) ea_nil) (oc_tupOf (ds := iD sl) (.inl rfl))) (ea_cons (ev_var rfl) ea_nil)))) ⟨n, keep arcs, t, sl, _, most, rfl, rfl, nk, .inr rfl, fun _ _ _ d hd => ⟨rfl, hd⟩, (fun r e => by rw [hn] at e; cases e), fun _ no => absurd hm no⟩ fun _ _ z => z.elim) ?_
  rintro other _ ⟨Zc, ⟨rfl, hother⟩, rfl⟩
  refine sq_asgP (evP_callK0 (S := S_least aNet aT aS) (ds := [netD aNet n (keep arcs), .int t, .lst (iD sl)]) (P := fun d Z' => Z' = [] ∧ LRes n (keep arcs) t sl d) (X := fun _ _ => False) (ea_cons (EvN.ev (evN_cb (ea_cons (ev_var rfl) ea_nil) (on_listOf (ds := iD sl) (.inl rfl)))) (ea_cons (ev_var rfl) (ea_cons (ev_var rfl) ea_nil))) (fun r => kv_rp r) ⟨n, keep arcs, t, sl, _, rfl, rfl, nk, .inl rfl, fun _ d hd => ⟨rfl, hd⟩, fun r e => by rw [hn] at e; cases e⟩ fun _ _ z => z.elim) ?_
  rintro again _ ⟨Zc, ⟨rfl, hagain⟩, rfl⟩
  refine sq_ifF (EvT.is (et_or (a := false) (b := false) (ne_same (x := .lst (iD sl)) (ev_var rfl) (ev_var rfl) (plain_intsL sl) (lay_intsL sl) (by decide)) fun _ => ne_same (x := .tup (arcsD (keep arcs))) (ev_fld (ev_var rfl) hc hA rfl) (ev_cb (ea_cons (ev_var rfl) ea_nil) (oc_tupOf (ds := arcsD (keep arcs)) (.inl rfl))) (plain_arcs _) (lay_arcs _) (by decide)) rfl) ?_
  rcases hdue with ⟨j, hj, s, rfl⟩ | ⟨no, rfl⟩
  · have eT := lres_st htold hj s
    have eA := lres_st hagain hj s
    subst eT eA
    have eO := gres_st hother s
    subst eO
    generalize hh : hsw (edges t sl (keep arcs)) (zs n) j = h at s
    have hb : ∀ x ∈ h, 0 ≤ x ∧ x ≤ 24000 := by rw [← hh]; exact hsw_num nk hn (.inl rfl) j (by omega)
    have hlen : h.length = n := by rw [← hh, hsw_len, List.length_replicate]
    have hnum : ∀ x ∈ h, Num x := fun x hx => num_small (by have := hb x hx; omega)
    refine sq_ifF (EvT.is (a := isN (.tup (iD h))) (et_test (ev_op (ev_var rfl) ev_non op_isNon)) rfl) ?_
    have sh := st_shows hnum (by omega)
    have ed : ∀ {Γ : Gam}, Γ[6]? = some (some (.tup (iD h))) → Ev c (tTup (tCons (tC (.str "stages")) (tCons (tVar 6) tNil))) Γ [] (stD h) [] := fun e => ev_tup' (ea_cons ev_str (ea_cons (ev_var e) ea_nil)) (len_le rfl)
    refine sq_ifF (EvT.is (et_or (a := false) (b := false) (ne_shown (x := stD h) (ev_var rfl) (ed rfl) (plain_st h) sh) fun _ => ne_shown (x := stD h) (ev_var rfl) (ed rfl) (plain_st h) sh) rfl) ?_
    -- the greatest
    have ngr : ¬ Gains ((edges t sl (keep arcs)).map rev) := fun z => gains_not s (gains_rev z)
    obtain ⟨i, hi, si⟩ := still (fits_rev fits) h1 ngr
    have hbg : ∀ x ∈ hsw ((edges t sl (keep arcs)).map rev) (zs n) n, 0 ≤ x ∧ x ≤ 24000 := hsw_num nk hn (.inr rfl) n (by omega)
    have sg : stable ((edges t sl (keep arcs)).map rev) (hsw ((edges t sl (keep arcs)).map rev) (zs n) n) := by rw [hsw_stay si n (Nat.le_of_lt hi)]; exact si
    have glen : (hsw ((edges t sl (keep arcs)).map rev) (zs n) n).length = n := by rw [hsw_len, List.length_replicate]
    refine sq_asg (ev_callP1 (S := S_law_greatest) (P := fun d Z' => Z' = [] ∧ d = .tup (iD ((hsw ((edges t sl (keep arcs)).map rev) (zs n) n).map fun x => most - x))) (d := .tup (iD ((hsw ((edges t sl (keep arcs)).map rev) (zs n) n).map fun x => most - x))) (X := fun _ _ => False) (ea_cons (ev_var rfl) (ea_cons (ev_var rfl) (ea_cons (ev_var rfl) (ea_cons (ev_var rfl) (ea_cons (ev_var rfl) ea_nil))))) ⟨n, keep arcs, t, sl, most, rfl, rfl, nk, ht, hl, fun j' hj' s' => ⟨rfl, by rw [hsw_stay s' n hj']⟩, fun no => (no n (Nat.le_refl _) sg).elim⟩ (fun d Z' p => ⟨p.2, p.1⟩) fun _ _ z => z.elim) ?_
    generalize hg : hsw ((edges t sl (keep arcs)).map rev) (zs n) n = g at sg hbg glen
    have gnum : ∀ x ∈ g.map (fun x => most - x), Num x := fun x hx => by
      obtain ⟨y, hy, rfl⟩ := List.mem_map.mp hx
      have := hbg y hy
      exact num_small (by omega)
    refine sq_ifF (ne_shown (x := stD (g.map fun x => most - x)) (ev_var rfl) (ev_tup' (ea_cons ev_str (ea_cons (ev_var rfl) ea_nil)) (len_le rfl)) (plain_st _) (st_shows gnum (by rw [List.length_map]; omega))) ?_
    have g2 : (g.map fun x => most - x).length = n := by rw [List.length_map]; exact glen
    have h3 : (h.map fun x => x + 3).length = n := by rw [List.length_map]; exact hlen
    refine sq_asg (d := .lst (iD (h.map fun x => x + 3))) (EvN.ev (evN_lc (c := c) (vs := [16]) (wk_seqT (ds := iD h) (ev_op (ev_var rfl) ev_int (op_ix (.inr (.inl rfl)) at1))) (iD (h.map fun x => x + 3)) (fun _ => []) rfl (by simp only [List.length_map]) (by rw [List.length_map]; omega) (fun i hi => ?_))) ?_
    · rw [List.length_map] at hi
      have hz : h[i]? = some h[i] := List.getElem?_eq_getElem hi
      generalize h[i] = z at hz
      have e : (iD h).getD i .non = .int z := getD_of (by rw [List.getElem?_map, hz]; rfl)
      rw [e]
      exact ⟨_, .int (z + 3), tg_name, by rw [List.getElem?_map, List.getElem?_map, hz]; rfl, ev_op (ev_var rfl) ev_int op_addI⟩
    let mn : List Int := (List.range n).map fun v => if (g.map fun x => most - x).getD v 0 < (h.map fun x => x + 3).getD v 0 then (g.map fun x => most - x).getD v 0 else (h.map fun x => x + 3).getD v 0
    let mx : List Int := (List.range n).map fun v => if (g.map fun x => most - x).getD v 0 > (h.map fun x => x + 3).getD v 0 then (g.map fun x => most - x).getD v 0 else (h.map fun x => x + 3).getD v 0
    refine sq_asg (d := .lst (iD mn)) (EvN.ev (evN_lc (c := c) (vs := [17]) (wk_rng1 (j := (n : Int)) (ea_cons (ev_var rfl) ea_nil) ⟨by omega, by omega⟩) (iD mn) (fun _ => []) rfl (by show (List.map _ (List.map _ _)).length = _; simp only [List.length_map, List.length_range, Int.toNat_natCast]) (by omega) (fun i hi => ?_))) ?_
    · rw [Int.toNat_natCast] at hi
      refine ⟨_, _, tg_name, by show (List.map D.int (List.map _ (List.range n)))[i]? = _; rw [List.getElem?_map, List.getElem?_map, List.getElem?_range hi]; rfl, ?_⟩
      exact ev_cb (ea_cons (ev_op (ev_var rfl) (ev_var rfl) (op_ix (.inl rfl) (at_int (by omega)))) (ea_cons (ev_op (ev_var rfl) (ev_var rfl) (op_ix (.inr (.inl rfl)) (at_int (by omega)))) ea_nil)) oc_min2
    refine sq_asg (d := .lst (iD mx)) (EvN.ev (evN_lc (c := c) (vs := [17]) (wk_rng1 (j := (n : Int)) (ea_cons (ev_var rfl) ea_nil) ⟨by omega, by omega⟩) (iD mx) (fun _ => []) rfl (by show (List.map _ (List.map _ _)).length = _; simp only [List.length_map, List.length_range, Int.toNat_natCast]) (by omega) (fun i hi => ?_))) ?_
    · rw [Int.toNat_natCast] at hi
      refine ⟨_, _, tg_name, by show (List.map D.int (List.map _ (List.range n)))[i]? = _; rw [List.getElem?_map, List.getElem?_map, List.getElem?_range hi]; rfl, ?_⟩
      exact ev_cb (ea_cons (ev_op (ev_var rfl) (ev_var rfl) (op_ix (.inl rfl) (at_int (by omega)))) (ea_cons (ev_op (ev_var rfl) (ev_var rfl) (op_ix (.inr (.inl rfl)) (at_int (by omega)))) ea_nil)) oc_max2
    have rise : ∀ a ∈ keep arcs, gn t sl a ≤ h.getD a.v 0 - h.getD a.u 0 ∧ gn t sl a ≤ g.getD a.u 0 - g.getD a.v 0 := fun a ma => by
      have q1 := s (a.e t sl) (List.mem_map.mpr ⟨a, ma, rfl⟩)
      have q2 := sg (rev (a.e t sl)) (List.mem_map.mpr ⟨_, List.mem_map.mpr ⟨a, ma, rfl⟩, rfl⟩)
      have q1 : h.getD a.u 0 + gn t sl a ≤ h.getD a.v 0 := q1
      have q2 : g.getD a.v 0 + gn t sl a ≤ g.getD a.u 0 := q2
      omega
    have two : ∀ a ∈ keep arcs, gn t sl a ≤ mn.getD a.v 0 - mn.getD a.u 0 ∧ gn t sl a ≤ mx.getD a.v 0 - mx.getD a.u 0 := fun a ma => by
      have hu := (nk.ok a ma).hu
      have hv := (nk.ok a ma).hv
      obtain ⟨r1, r2⟩ := rise a ma
      show gn t sl a ≤ ((List.range n).map _).getD a.v 0 - ((List.range n).map _).getD a.u 0 ∧ gn t sl a ≤ ((List.range n).map _).getD a.v 0 - ((List.range n).map _).getD a.u 0
      rw [getD_rng hv, getD_rng hu, getD_rng hv, getD_rng hu, getD_neg (by omega), getD_neg (by omega), getD_add (by omega), getD_add (by omega)]
      constructor <;> (repeat' split) <;> omega
    have lmn : mn.length = n := by show (List.map _ _).length = n; rw [List.length_map, List.length_range]
    have lmx : mx.length = n := by show (List.map _ _).length = n; rw [List.length_map, List.length_range]
    refine sq_ifF (EvT.is (et_not (et_B (ev_call0 (S := S_stages_hold) (d := .bl true) (X := fun _ _ => False) (ea_cons (ev_var rfl) (ea_cons (ev_var rfl) (ea_cons (ev_var rfl) (ea_cons (ev_var rfl) ea_nil)))) ⟨n, keep arcs, t, sl, mn, rfl, rfl, nk, ht, hl, lmn, fun a ma => (two a ma).1, rfl, rfl⟩ fun _ _ z => z.elim))) rfl) ?_
    exact run_ret (ev_call0 (S := S_stages_hold) (d := .bl true) (X := fun _ _ => False) (ea_cons (ev_var rfl) (ea_cons (ev_var rfl) (ea_cons (ev_var rfl) (ea_cons (ev_var rfl) ea_nil)))) ⟨n, keep arcs, t, sl, mx, rfl, rfl, nk, ht, hl, lmx, fun a ma => (two a ma).2, rfl, rfl⟩ fun _ _ z => z.elim) k
  · obtain ⟨r1, ok1, rfl⟩ := lres_ring htold no
    obtain ⟨r2, ok2, rfl⟩ := gres_ring hother no
    obtain ⟨r3, ok3, rfl⟩ := lres_ring hagain no
    refine sq_ifT (EvT.is (a := isN .non) (et_test (ev_op (ev_var rfl) ev_non op_isNon)) rfl) ?_
    refine sq_for (wk_seqL (ds := [.tup [.str "ring", .tup (arcsD r1)], .tup [.str "ring", .tup (arcsD r2)], .tup [.str "ring", .tup (arcsD r3)]]) (ev_lst (ea_cons (ev_var rfl) (ea_cons (ev_var rfl) (ea_cons (ev_var rfl) ea_nil))) (len_le rfl))) (fun i Γ Z => ∃ o12, Γ = [some (.int n), some (.lst (arcsD arcs)), some (.int t), some (.lst (iD sl)), some (.int most), some (.lst (arcsD (keep arcs))), some .non, some (netD aNet n (keep arcs)), some (.lst (iD sl)), some (.tup [.str "ring", .tup (arcsD r1)]), some (.tup [.str "ring", .tup (arcsD r2)]), some (.tup [.str "ring", .tup (arcsD r3)]), o12, none, none, none, none, none] ∧ Z = []) ⟨_, rfl, rfl⟩ ?_ ?_
    · rintro i _ _ hi ⟨o12, rfl, rfl⟩
      have : ∃ ring, ([.tup [.str "ring", .tup (arcsD r1)], .tup [.str "ring", .tup (arcsD r2)], .tup [.str "ring", .tup (arcsD r3)]] : List D).getD i .non = .tup [.str "ring", .tup (arcsD ring)] ∧ RingOk t sl (keep arcs) ring := by
        have hi : i < 3 := hi
        match i, hi with
        | 0, _ => exact ⟨r1, rfl, ok1⟩
        | 1, _ => exact ⟨r2, rfl, ok2⟩
        | 2, _ => exact ⟨r3, rfl, ok3⟩
      obtain ⟨ring, er, okr⟩ := this
      rw [er]
      refine ⟨_, _, tg_name, ?_⟩
      refine run_ifF (EvT.is (et_not (et_B (ev_call0 (S := S_ring_right) (d := .bl true) (X := fun _ _ => False) (ea_cons (ev_var rfl) (ea_cons (ev_var rfl) (ea_cons (ev_var rfl) (ea_cons (ev_var rfl) (ea_cons (ev_var rfl) ea_nil))))) ⟨n, keep arcs, ring, t, sl, rfl, rfl, nk, ht, hl, okr, rfl, rfl⟩ fun _ _ z => z.elim))) rfl) (run_next ⟨_, rfl, rfl⟩)
    · rintro _ _ ⟨o12, rfl, rfl⟩
      exact run_ret ev_bl k
end

/-- what the law's word is of what was raised -/
def word (r : Bool × Int) : D := .tup [.str (if r.1 then "tick" else "slots"), .str (PyData.int r.2).shown]
def S_word (aNet : Addr) : SpD := fun ds Z P _ => ∃ (n : Nat) (arcs : List A4) (t most : Int) (sl : List Int) (least : Bool) (r : Bool × Int), ds = [netD aNet n arcs, .int t, .lst (iD sl), .int most, .bl least] ∧ Z = [] ∧ NetOk n arcs ∧ Num r.2 ∧ (need t n sl = some r ∨ (least = false ∧ need t n sl = none ∧ ¬ (-1000 ≤ most ∧ most ≤ 1000) ∧ r = (true, most))) ∧ P (word r) []
abbrev fV (z : Int) : List (Str × D) := [("value", .int z)]
abbrev fR (z : Int) : List (Str × D) := [("row", .int z)]
section
variable {c : Cn} {O : Out} {E : XK}
theorem run_word {aNet aT aS : Addr} {n : Nat} {arcs : List A4} {t most : Int} {sl : List Int} {least : Bool} {r : Bool × Int} (hE : c.E = fun _ => E) (nk : NetOk n arcs) (nm : Num r.2) (eTT : PySem.W.exmOne c.K (.ref aT) (.ref aT) = some true) (eST : PySem.W.exmOne c.K (.ref aS) (.ref aT) = some false) (eSS : PySem.W.exmOne c.K (.ref aS) (.ref aS) = some true)
    (hr : need t n sl = some r ∨ (least = false ∧ need t n sl = none ∧ ¬ (-1000 ≤ most ∧ most ≤ 1000) ∧ r = (true, most))) (k : O.rt (word r) []) :
    Run c (t__law_word c.K E aS aT (Pr c.K (S_least aNet aT aS)) (Pr c.K (S_greatest aNet aT aS))) O [some (netD aNet n arcs), some (.int t), some (.lst (iD sl)), some (.int most), some (.bl least), none] [] := by
  unfold t__law_word
  refine run_seq (run_try (c := c) (W := fun cls d _ H => E cls d H) (tb := fun V => tIfS (tB (tVar 4)) (tDrop (tCallG (Pr c.K (S_least aNet aT aS)) (WE V) (tCons (tVar 0) (tCons (tVar 1) (tCons (tVar 2) tNil))))) (tDrop (tCallG (Pr c.K (S_greatest aNet aT aS)) (WE V) (tCons (tVar 0) (tCons (tVar 1) (tCons (tVar 2) (tCons (tVar 3) tNil)))))))
    (Xb := fun C fs Γ Z => ((r.1 = true ∧ C = aT ∧ fs = fV r.2) ∨ (r.1 = false ∧ C = aS ∧ fs = fR r.2)) ∧ Γ = [some (netD aNet n arcs), some (.int t), some (.lst (iD sl)), some (.int most), some (.bl least), none] ∧ Z = []) (fun V => ?_) ?_)
  · have nx : ∀ r', need t n sl = some r' → NeedX aT aS r' (fun C fs => ((r.1 = true ∧ C = aT ∧ fs = fV r.2) ∨ (r.1 = false ∧ C = aS ∧ fs = fR r.2)) ∧ [some (netD aNet n arcs), some (D.int t), some (.lst (iD sl)), some (.int most), some (.bl least), none] = [some (netD aNet n arcs), some (.int t), some (.lst (iD sl)), some (.int most), some (.bl least), none] ∧ ([] : Sto) = []) := fun r' e => by
      rcases hr with h | ⟨_, h, _, _⟩
      · rw [h] at e
        cases e
        obtain ⟨b, z⟩ := r
        cases b with
        | true => exact ⟨.inl ⟨rfl, rfl, rfl⟩, rfl, rfl⟩
        | false => exact ⟨.inr ⟨rfl, rfl, rfl⟩, rfl, rfl⟩
      · rw [h] at e; cases e
    refine run_if (et_B (ev_var rfl)) (fun hb => ?_) fun hb => ?_
    · refine run_dropP (evP_call0 (S := S_least aNet aT aS) (P := fun _ _ => False) (X := fun C fs => ((r.1 = true ∧ C = aT ∧ fs = fV r.2) ∨ (r.1 = false ∧ C = aS ∧ fs = fR r.2)) ∧ [some (netD aNet n arcs), some (D.int t), some (.lst (iD sl)), some (.int most), some (.bl least), none] = [some (netD aNet n arcs), some (.int t), some (.lst (iD sl)), some (.int most), some (.bl least), none] ∧ ([] : Sto) = []) (ea_cons (ev_var rfl) (ea_cons (ev_var rfl) (ea_cons (ev_var rfl) ea_nil))) ⟨n, arcs, t, sl, _, rfl, rfl, nk, .inl rfl, fun h => ?_, nx⟩ fun _ _ z => z) ?_
      · rcases hr with h' | ⟨h', _⟩
        · rw [h'] at h; cases h
        · rw [h'] at hb; cases hb
      · rintro _ _ ⟨_, z, _⟩
        exact z.elim
    · refine run_dropP (evP_call0 (S := S_greatest aNet aT aS) (P := fun _ _ => False) (X := fun C fs => ((r.1 = true ∧ C = aT ∧ fs = fV r.2) ∨ (r.1 = false ∧ C = aS ∧ fs = fR r.2)) ∧ [some (netD aNet n arcs), some (D.int t), some (.lst (iD sl)), some (.int most), some (.bl least), none] = [some (netD aNet n arcs), some (.int t), some (.lst (iD sl)), some (.int most), some (.bl least), none] ∧ ([] : Sto) = []) (ea_cons (ev_var rfl) (ea_cons (ev_var rfl) (ea_cons (ev_var rfl) (ea_cons (ev_var rfl) ea_nil)))) ⟨n, arcs, t, sl, _, most, rfl, rfl, nk, .inl rfl, fun h h1 h2 => ?_, nx, fun h h1 => ?_⟩ fun _ _ z => z) ?_
      · rcases hr with h' | ⟨_, _, h', _⟩
        · rw [h'] at h; cases h
        · exact absurd ⟨h1, h2⟩ h'
      · rcases hr with h' | ⟨_, _, _, rfl⟩
        · rw [h'] at h; cases h
        · exact ⟨.inl ⟨rfl, rfl, rfl⟩, rfl, rfl⟩
      · rintro _ _ ⟨_, z, _⟩
        exact z.elim
  · obtain ⟨b, z⟩ := r
    have sh : Shows (py (.int z)) := by
      have := (sm_int nm).shows (by decide) (by decide)
      simpa only [py] using this
    have es : (py (.int z)).shown = (PyData.int z).shown := by simp only [py]
    rintro C fs _ _ ⟨⟨hb, rfl, rfl⟩ | ⟨hb, rfl, rfl⟩, rfl, rfl⟩
    · have hb : b = true := hb
      subst hb
      refine cat_yes eTT (fun p o h => nomatch h) fun a dx => ?_
      refine run_ret (ev_tup' (ea_cons ev_str (ea_cons (ev_cb (ea_cons (ev_xf (ev_var rfl) rfl) ea_nil) (oc_repr (x := .int z) pyIs_of sh)) ea_nil)) (len_le rfl)) ?_
      rw [es]
      exact k
    · have hb : b = false := hb
      subst hb
      refine cat_no eST (cat_yes eSS (fun p o h => nomatch h) fun a dx => ?_)
      refine run_ret (ev_tup' (ea_cons ev_str (ea_cons (ev_cb (ea_cons (ev_xf (ev_var rfl) rfl) ea_nil) (oc_repr (x := .int z) pyIs_of sh)) ea_nil)) (len_le rfl)) ?_
      rw [es]
      exact k
end

theorem cut_one (ds : List D) : L3.cutD ds (some 1) none = ds.drop 1 := by
  unfold L3.cutD
  rw [show HT.sIx ds.length 0 (some 1) = min 1 ds.length from HT.sIx_nat ds.length 0 1, HT.sIx_none]
  cases ds with
  | nil => rfl
  | cons x r =>
    rw [show min 1 (x :: r).length = 1 by rw [List.length_cons]; omega]
    show (List.take ((x :: r).length - 1) r) = r
    rw [List.length_cons, Nat.add_sub_cancel]
    exact List.take_length
theorem shown_m1 : (PyData.int (-1)).shown = ("-1" : Str) := by decide +kernel
theorem plain_word (r : Bool × Int) : plain (word r) = true := rfl
theorem lay_word (r : Bool × Int) : Lay 1 (py (word r)) := lay_pyTup fun d hd => by
  rcases List.mem_cons.mp hd with rfl | hd
  · simp only [py]
    refine lay_str ?_
    cases r.1 <;> decide +kernel
  · rw [List.mem_singleton.mp hd]
    simp only [py]
    exact lay_str (shown_ok _)
def S_refusals : SpD := fun ds Z P _ => ∃ (n : Nat) (arcs : List A4) (t at' : Int) (sl : List Int), ds = [.int n, .lst (arcsD arcs), .int t, .lst (iD sl), .int at'] ∧ Z = [] ∧ 1 ≤ n ∧ n ≤ 8 ∧ arcs.length < 64 ∧ (∀ a ∈ arcs, a.Ok n) ∧ need t n sl = none ∧ P (.bl true) []
section
variable {c : Cn} {O : Out} {E : XK}
theorem word_ne {aNet : Addr} {n : Nat} {arcs : List A4} {t most : Int} {sl : List Int} {least : Bool} {r : Bool × Int} {Γ : Gam} {ta : TA} {te : TE} (nk : NetOk n arcs) (nm : Num r.2) (hr : need t n sl = some r ∨ (least = false ∧ need t n sl = none ∧ ¬ (-1000 ≤ most ∧ most ≤ 1000) ∧ r = (true, most)))
    (ha : EvA c ta Γ [] [netD aNet n arcs, .int t, .lst (iD sl), .int most, .bl least] []) (hb : Ev c te Γ [] (word r) []) : EvT c (tTest (tOp (rNeA c.K) (tCallG (Pr c.K (S_word aNet)) c.E ta) te)) Γ [] false [] :=
  ne_same (x := word r) (ev_call0 (X := fun _ _ => False) ha ⟨n, arcs, t, most, sl, least, r, rfl, rfl, nk, nm, hr, rfl, rfl⟩ fun _ _ z => z.elim) hb (plain_word r) (lay_word r) (by decide)
theorem ev_tick {z : Int} {te : TE} {Γ : Gam} (h : Ev c te Γ [] (.int z) []) (nm : Num z) : Ev c (tTup (tCons (tC (.str "tick")) (tCons (tCB (rRepr c.K) (tCons te tNil)) tNil))) Γ [] (word (true, z)) [] := by
  have sh : Shows (py (.int z)) := by
    have := (sm_int nm).shows (by decide) (by decide)
    simpa only [py] using this
  have := ev_tup' (ea_cons (ev_str (c := c) (z := "tick") (Γ := Γ) (Z := [])) (ea_cons (ev_cb (ea_cons h ea_nil) (oc_repr (x := .int z) pyIs_of sh)) ea_nil)) (len_le rfl)
  simp only [py] at this
  exact this
theorem ev_slots {z : Int} {te : TE} {Γ : Gam} (h : Ev c te Γ [] (.int z) []) (nm : Num z) : Ev c (tTup (tCons (tC (.str "slots")) (tCons (tCB (rRepr c.K) (tCons te tNil)) tNil))) Γ [] (word (false, z)) [] := by
  have sh : Shows (py (.int z)) := by
    have := (sm_int nm).shows (by decide) (by decide)
    simpa only [py] using this
  have := ev_tup' (ea_cons (ev_str (c := c) (z := "slots") (Γ := Γ) (Z := [])) (ea_cons (ev_cb (ea_cons h ea_nil) (oc_repr (x := .int z) pyIs_of sh)) ea_nil)) (len_le rfl)
  simp only [py] at this
  exact this
theorem ev_m1 {Γ : Gam} : Ev c (tTup (tCons (tC (.str "slots")) (tCons (tC (.str "-1")) tNil))) Γ [] (word (false, -1)) [] := by
  have := ev_tup' (ea_cons (ev_str (c := c) (z := "slots") (Γ := Γ) (Z := [])) (ea_cons (ev_str (z := "-1")) ea_nil)) (len_le rfl)
  rw [← shown_m1] at this
  exact this
theorem run_refusals {aNet : Addr} {n : Nat} {arcs : List A4} {t at' : Int} {sl : List Int} (hE : c.E = fun _ => E) (h1 : 1 ≤ n) (h8 : n ≤ 8) (h64 : arcs.length < 64) (ok : ∀ a ∈ arcs, a.Ok n) (hn : need t n sl = none) (k : O.rt (.bl true) []) :
    Run c (t__law_refusals c.K E aNet (Pr c.K (S_Net aNet)) (Pr c.K (S_word aNet))) O [some (.int n), some (.lst (arcsD arcs)), some (.int t), some (.lst (iD sl)), some (.int at'), none, none, none, none, none, none, none] [] := by
  have nk := keep_net h1 h8 h64 ok
  obtain ⟨ht0, hl⟩ := need_ok hn
  have hall := need_all hn
  obtain ⟨v, hv, ev⟩ : ∃ v : Nat, v < n ∧ at' % (n : Int) = (v : Int) := by
    have a := Int.emod_nonneg at' (b := (n : Int)) (by omega)
    have b := Int.emod_lt_of_pos at' (b := (n : Int)) (by omega)
    exact ⟨(at' % (n : Int)).toNat, by omega, by omega⟩
  unfold t__law_refusals
  rw [← hE]
  refine sq_asg (make_net (ea_cons (ev_var rfl) (ea_cons (EvN.ev (evN_cb (ea_cons (ev_var rfl) ea_nil) (on_listOf (.inl rfl)))) ea_nil)) h1 h8 h64 ok) ?_
  refine sq_asg (ev_op (ev_cb (ea_cons (ev_var rfl) ea_nil) oc_int1) (ev_var rfl) (op_mod0 (by omega))) ?_
  rw [ev]
  refine sq_for (wk_seqL (ds := [.bl true, .bl false]) (ev_lst (ea_cons ev_bl (ea_cons ev_bl ea_nil)) (len_le rfl))) (fun i Γ Z => ∃ o7 o8 o9 o10 o11, Γ = [some (.int n), some (.lst (arcsD arcs)), some (.int t), some (.lst (iD sl)), some (.int at'), some (netD aNet n (keep arcs)), some (.int (v : Nat)), o7, o8, o9, o10, o11] ∧ Z = []) ⟨_, _, _, _, _, rfl, rfl⟩ ?_ ?_
  · rintro i _ _ hi ⟨o7, o8, o9, o10, o11, rfl, rfl⟩
    obtain ⟨b, eb⟩ : ∃ b, ([.bl true, .bl false] : List D).getD i .non = .bl b := by
      have hi : i < 2 := hi
      match i, hi with
      | 0, _ => exact ⟨true, rfl⟩
      | 1, _ => exact ⟨false, rfl⟩
    rw [eb]
    refine ⟨_, _, tg_name, ?_⟩
    refine sq_for (wk_seqL (ds := [.int 0, .int 201, .int (-1)]) (ev_lst (ea_cons ev_int (ea_cons ev_int (ea_cons (ev_neg ev_int) ea_nil))) (len_le rfl))) (fun i Γ Z => ∃ o8 o9 o10 o11, Γ = [some (.int n), some (.lst (arcsD arcs)), some (.int t), some (.lst (iD sl)), some (.int at'), some (netD aNet n (keep arcs)), some (.int (v : Nat)), some (.bl b), o8, o9, o10, o11] ∧ Z = []) ⟨_, _, _, _, rfl, rfl⟩ ?_ ?_
    · rintro i _ _ hi ⟨o8, o9, o10, o11, rfl, rfl⟩
      obtain ⟨z, ez, bad, nm⟩ : ∃ z : Int, ([.int 0, .int 201, .int (-1)] : List D).getD i .non = .int z ∧ ¬ (1 ≤ z ∧ z ≤ 200) ∧ Num z := by
        have hi : i < 3 := hi
        match i, hi with
        | 0, _ => exact ⟨0, rfl, by omega, num_small (by omega)⟩
        | 1, _ => exact ⟨201, rfl, by omega, num_small (by omega)⟩
        | 2, _ => exact ⟨-1, rfl, by omega, num_small (by omega)⟩
      rw [ez]
      refine ⟨_, _, tg_name, ?_⟩
      refine run_ifF (word_ne (sl := []) (most := 1001) (least := b) (r := (true, z)) nk nm (.inl (by unfold need; rw [if_neg bad])) (ea_cons (ev_var rfl) (ea_cons (ev_var rfl) (ea_cons (ev_lst ea_nil (len_le rfl)) (ea_cons ev_int (ea_cons (ev_var rfl) ea_nil))))) (ev_tick (ev_var rfl) nm)) (run_next ⟨_, _, _, _, rfl, rfl⟩)
    rintro _ _ ⟨o8, o9, o10, o11, rfl, rfl⟩
    refine sq_for (wk_seqL (ds := [.lst (iD (sl.drop 1)), .lst (iD (sl ++ [0]))]) (ev_lst (ea_cons (Z1 := []) ?_ (ea_cons (Z1 := []) ?_ ea_nil)) (len_le rfl))) (fun i Γ Z => ∃ o8 o9 o10 o11, Γ = [some (.int n), some (.lst (arcsD arcs)), some (.int t), some (.lst (iD sl)), some (.int at'), some (netD aNet n (keep arcs)), some (.int (v : Nat)), some (.bl b), o8, o9, o10, o11] ∧ Z = []) ⟨_, _, _, _, rfl, rfl⟩ ?_ ?_
    · have := EvN.ev (evN_slice (c := c) (ta := tVar 3) (Γ := [some (.int n), some (.lst (arcsD arcs)), some (.int t), some (.lst (iD sl)), some (.int at'), some (netD aNet n (keep arcs)), some (.int (v : Nat)), some (.bl b), o8, o9, o10, o11]) (Z := []) (x := .lst (iD sl)) (ds := iD sl) (ev_var rfl) (.inl rfl) (eo_some (i := 1) ev_int) eo_none)
      rw [cut_one, show (iD sl).drop 1 = iD (sl.drop 1) from List.map_drop.symm] at this
      exact this
    · rw [show iD (sl ++ [0]) = iD sl ++ [.int 0] from List.map_append]
      exact EvN.ev (evN_op (ev_var rfl) (ev_lst (ea_cons ev_int ea_nil) (len_le rfl)) (on_addL (.inl rfl) (.inl rfl) (by rw [List.length_map]; show sl.length + 1 ≤ _; omega)))
    · rintro i _ _ hi ⟨o8, o9, o10, o11, rfl, rfl⟩
      obtain ⟨l, el, bad⟩ : ∃ l : List Int, ([.lst (iD (sl.drop 1)), .lst (iD (sl ++ [0]))] : List D).getD i .non = .lst (iD l) ∧ l.length ≠ n := by
        have hi : i < 2 := hi
        match i, hi with
        | 0, _ => exact ⟨_, rfl, by rw [List.length_drop]; omega⟩
        | 1, _ => exact ⟨_, rfl, by rw [List.length_append]; show sl.length + 1 ≠ n; omega⟩
      rw [el]
      refine ⟨_, _, tg_name, ?_⟩
      exact run_ifF (word_ne (sl := l) (most := 1001) (least := b) (r := (false, -1)) nk (num_small (by omega)) (.inl (by unfold need; rw [if_pos ht0, if_neg bad])) (ea_cons (ev_var rfl) (ea_cons (ev_var rfl) (ea_cons (ev_var rfl) (ea_cons ev_int (ea_cons (ev_var rfl) ea_nil))))) ev_m1) (run_next ⟨_, _, _, _, rfl, rfl⟩)
    rintro _ _ ⟨o8, o9, o10, o11, rfl, rfl⟩
    refine run_for (wk_seqL (ds := [.int t, .int (-1), .int 1000000]) (ev_lst (ea_cons (ev_var rfl) (ea_cons (ev_neg ev_int) (ea_cons ev_int ea_nil))) (len_le rfl))) (fun i Γ Z => ∃ o8 o9 o10 o11, Γ = [some (.int n), some (.lst (arcsD arcs)), some (.int t), some (.lst (iD sl)), some (.int at'), some (netD aNet n (keep arcs)), some (.int (v : Nat)), some (.bl b), o8, o9, o10, o11] ∧ Z = []) ⟨_, _, _, _, rfl, rfl⟩ ?_ ?_
    · rintro i _ _ hi ⟨o8, o9, o10, o11, rfl, rfl⟩
      obtain ⟨z, ez, bad⟩ : ∃ z : Int, ([.int t, .int (-1), .int 1000000] : List D).getD i .non = .int z ∧ ¬ (0 ≤ z ∧ z < t) := by
        have hi : i < 3 := hi
        match i, hi with
        | 0, _ => exact ⟨t, rfl, by omega⟩
        | 1, _ => exact ⟨-1, rfl, by omega⟩
        | 2, _ => exact ⟨1000000, rfl, by omega⟩
      rw [ez]
      refine ⟨_, _, tg_name, ?_⟩
      refine sq_asgN (evN_cb (ea_cons (ev_var rfl) ea_nil) (on_listOf (ds := iD sl) (.inl rfl))) fun p hp => ?_
      apply sq_set (j := v)
      case h => exact ev_var rfl
      case ho => exact ev_var rfl
      case hi => exact ev_var rfl
      case hz => exact List.mem_cons_self
      case hj => exact ix_nat (by rw [List.length_map]; omega)
      rw [putZ_hd List.not_mem_nil, iD_set]
      refine sq_for (wk_rng2 (ea_cons (ev_op (ev_var rfl) ev_int op_addI) (ea_cons (ev_var rfl) ea_nil)) ⟨by omega, by omega, by omega, by omega⟩) (fun i Γ Z => ∃ o9 o11 l, Γ = [some (.int n), some (.lst (arcsD arcs)), some (.int t), some (.lst (iD sl)), some (.int at'), some (netD aNet n (keep arcs)), some (.int (v : Nat)), some (.bl b), some (.int z), o9, some (.ptr p), o11] ∧ Z = [(p, .lst (iD l))] ∧ l.length = n ∧ (∀ j, j < v → l[j]? = sl[j]?) ∧ l[v]? = some z)
        ⟨_, _, sl.set v z, rfl, rfl, by rw [List.length_set]; exact hl, fun j hj => List.getElem?_set_ne (by omega), List.getElem?_set_self (by omega)⟩ ?_ ?_
      · rintro i _ _ hi ⟨o9, o11, l, rfl, rfl, l1, l2, l3⟩
        refine ⟨_, _, tg_name, ?_⟩
        have ei : (v : Int) + 1 + (i : Nat) = ((v + 1 + i : Nat) : Int) := by omega
        rw [ei]
        apply run_set (j := v + 1 + i)
        case h => exact ev_neg ev_int
        case ho => exact ev_var rfl
        case hi => exact ev_var rfl
        case hz => exact List.mem_cons_self
        case hj => exact ix_nat (by rw [List.length_map]; omega)
        rw [putZ_hd List.not_mem_nil, iD_set]
        exact ⟨_, _, _, rfl, rfl, by rw [List.length_set]; exact l1, fun j hj => by rw [List.getElem?_set_ne (by omega)]; exact l2 j hj, by rw [List.getElem?_set_ne (by omega)]; exact l3⟩
      · rintro _ _ ⟨o9, o11, l, rfl, rfl, l1, l2, l3⟩
        refine run_freeze 10 rfl ?_
        have nv : Num (v : Int) := num_small (by omega)
        refine run_ifF (word_ne (sl := l) (most := 1001) (least := b) (r := (false, (v : Int))) nk nv (.inl ?_) (ea_cons (ev_var rfl) (ea_cons (ev_var rfl) (ea_cons (ev_var rfl) (ea_cons ev_int (ea_cons (ev_var rfl) ea_nil))))) (ev_slots (ev_var rfl) nv)) (run_next ⟨_, _, _, _, rfl, rfl⟩)
        unfold need
        rw [if_pos ht0, if_pos l1, badAt_at t l 0 v z l3 bad fun j x hj hx => hall x (List.mem_of_getElem? (by rw [← l2 j hj]; exact hx)), Nat.zero_add]
        rfl
    · rintro _ _ ⟨o8, o9, o10, o11, rfl, rfl⟩
      exact ⟨_, _, _, _, _, rfl, rfl⟩
  · rintro _ _ ⟨o7, o8, o9, o10, o11, rfl, rfl⟩
    refine sq_for (wk_seqL (ds := [.int 1001, .int (-1001)]) (ev_lst (ea_cons ev_int (ea_cons (ev_neg ev_int) ea_nil)) (len_le rfl))) (fun i Γ Z => ∃ o7 o8 o9 o10 o11, Γ = [some (.int n), some (.lst (arcsD arcs)), some (.int t), some (.lst (iD sl)), some (.int at'), some (netD aNet n (keep arcs)), some (.int (v : Nat)), o7, o8, o9, o10, o11] ∧ Z = []) ⟨_, _, _, _, _, rfl, rfl⟩ ?_ ?_
    · rintro i _ _ hi ⟨o7, o8, o9, o10, o11, rfl, rfl⟩
      obtain ⟨z, ez, bad, nm⟩ : ∃ z : Int, ([.int 1001, .int (-1001)] : List D).getD i .non = .int z ∧ ¬ (-1000 ≤ z ∧ z ≤ 1000) ∧ Num z := by
        have hi : i < 2 := hi
        match i, hi with
        | 0, _ => exact ⟨1001, rfl, by omega, num_small (by omega)⟩
        | 1, _ => exact ⟨-1001, rfl, by omega, num_small (by omega)⟩
      rw [ez]
      refine ⟨_, _, tg_name, ?_⟩
      exact run_ifF (word_ne (sl := sl) (most := z) (least := false) (r := (true, z)) nk nm (.inr ⟨rfl, hn, bad, rfl⟩) (ea_cons (ev_var rfl) (ea_cons (ev_var rfl) (ea_cons (EvN.ev (evN_cb (ea_cons (ev_var rfl) ea_nil) (on_listOf (ds := iD sl) (.inl rfl)))) (ea_cons (ev_var rfl) (ea_cons ev_bl ea_nil))))) (ev_tick (ev_var rfl) nm)) (run_next ⟨_, _, _, _, _, rfl, rfl⟩)
    · rintro _ _ ⟨o7, o8, o9, o10, o11, rfl, rfl⟩
      exact run_ret ev_bl k
end

theorem keep_nil : keep [] = [] := rfl
theorem keep_one {a : A4} (h : 0 ≤ a.lag) : keep [a] = [a] := by
  have e : addA [] a = [a] := by
    unfold addA
    rw [if_neg (by simp)]
    have e2 : lagOf [] a = 0 := rfl
    rw [e2, if_neg (by omega)]
    rfl
  show srtA (addA [] a) = [a]
  rw [e]
  rfl
theorem stable_nil (h : List Int) : stable [] h := fun _ m => nomatch m
def S_made : SpD := fun ds Z P _ => ∃ (n : Nat) (t most lag : Int), ds = [.int n, .int t, .int most, .int lag] ∧ Z = [] ∧ 1 ≤ n ∧ n ≤ 8 ∧ (1 ≤ t ∧ t ≤ 200) ∧ (-1000 ≤ most ∧ most ≤ 1000) ∧ (2 ≤ lag ∧ lag ≤ 40) ∧ P (.bl true) []
theorem gsum_zero {t : Int} {sl : List Int} : ∀ {ring : List A4}, (∀ x ∈ ring, gn t sl x = 0) → gsum (edges t sl ring) = 0
  | [], _ => rfl
  | x :: r, h => by
    show gn t sl x + gsum (edges t sl r) = 0
    rw [h x List.mem_cons_self, gsum_zero fun y hy => h y (List.mem_cons_of_mem _ hy)]
    rfl
theorem gn_same {lag : Int} (h : 2 ≤ lag) : gn lag [0] ⟨0, 0, 1, lag⟩ = 0 := by
  show -((0 - 0 - lag) / lag) - 1 = 0
  rw [show (0 : Int) - 0 - lag = -lag by omega, Int.neg_ediv_self lag (by omega)]
  rfl
theorem gn_more {lag : Int} (h : 2 ≤ lag) : 1 ≤ gn (lag - 1) [0] ⟨0, 0, 1, lag⟩ := by
  show 1 ≤ -((0 - 0 - lag) / (lag - 1)) - 1
  have : (0 - 0 - lag) / (lag - 1) < -1 := Int.ediv_lt_of_lt_mul (by omega) (by omega)
  omega
section
variable {c : Cn} {O : Out} {E : XK}
theorem ev_opP {ta tb : TE} {Γ : Gam} {Z Z1 : Sto} {P : D → Sto → Prop} {r : R2} {y x : D} (ha : EvP c ta Γ Z P) (hz : ∀ d Z', P d Z' → Z' = Z1) (hb : Ev c tb Γ Z1 y Z1) (hr : ∀ d, P d Z1 → Op2 c r d y Z1 x Z1) : Ev c (tOp r ta tb) Γ Z x Z1 := fun F G σ H Q ok en th k =>
  ha F G σ H _ ok en th fun d Z' v H1 p ok1 s1 r1 => by
    cases hz d Z' p
    exact hb F G σ H1 _ ok1 (en.mono s1) th fun w H2 ok2 s2 r2 => hr d p F G H2 v w _ ok2 (r1.mono s2) r2 th fun u H3 ok3 s3 r3 => k u H3 ok3 ((s1.trans s2).trans s3) r3
theorem need_one {t : Int} (h : 1 ≤ t ∧ t ≤ 200) : need t 1 [0] = none := by
  unfold need
  rw [if_pos h, if_pos (show ([0] : List Int).length = 1 from rfl), badAt_all t [0] 0 fun x hx => by rw [List.mem_singleton.mp hx]; omega]
  rfl
theorem run_made {aNet aT aS : Addr} {n : Nat} {t most lag : Int} (hE : c.E = fun _ => E) (h1 : 1 ≤ n) (h8 : n ≤ 8) (ht : 1 ≤ t ∧ t ≤ 200) (hm : -1000 ≤ most ∧ most ≤ 1000) (hg : 2 ≤ lag ∧ lag ≤ 40) (k : O.rt (.bl true) []) :
    Run c (t__law_made_holds c.K E aNet (Pr c.K (S_Net aNet)) (Pr c.K (S_least aNet aT aS)) (Pr c.K (S_greatest aNet aT aS)) (Pr c.K S_both)) O [some (.int n), some (.int t), some (.int most), some (.int lag), none, none, none, none] [] := by
  have nk0 : NetOk n [] := ⟨h1, h8, by decide, fun _ m => nomatch m⟩
  have ok1 : ∀ a ∈ [(⟨0, 0, 1, lag⟩ : A4)], a.Ok 1 := fun a ma => by
    rw [List.mem_singleton.mp ma]
    exact ⟨Nat.zero_lt_one, Nat.zero_lt_one, show (0 : Int) ≤ 1 by decide, show (1 : Int) ≤ 40 by decide, show 0 ≤ lag by omega, hg.2, .inl (show (0 : Int) < 1 by decide)⟩
  have ke : keep [(⟨0, 0, 1, lag⟩ : A4)] = [⟨0, 0, 1, lag⟩] := keep_one (show 0 ≤ lag by omega)
  have nk1 : NetOk 1 [(⟨0, 0, 1, lag⟩ : A4)] := ⟨by decide, by decide, by show 1 ≤ 64; decide, ok1⟩
  let sl : List Int := (List.range n).map fun k : Nat => (k : Int) % t
  have hsl : sl.length = n := by show (List.map _ _).length = n; rw [List.length_map, List.length_range]
  have hn : need t n sl = none := by
    unfold need
    rw [if_pos ht, if_pos hsl, badAt_all t sl 0 fun x hx => ?_]
    · rfl
    · obtain ⟨j, _, rfl⟩ := List.mem_map.mp hx
      exact ⟨Int.emod_nonneg _ (by omega), Int.emod_lt_of_pos _ (by omega)⟩
  unfold t__law_made_holds
  rw [← hE]
  refine sq_asg (d := .lst (iD sl)) (EvN.ev (evN_lc (c := c) (vs := [7]) (wk_rng1 (j := (n : Int)) (ea_cons (ev_var rfl) ea_nil) ⟨by omega, by omega⟩) (iD sl) (fun _ => []) rfl (by rw [List.length_map, hsl, Int.toNat_natCast]) (by omega) (fun i hi => ?_))) ?_
  · rw [Int.toNat_natCast] at hi
    exact ⟨_, .int ((i : Int) % t), tg_name, by show (List.map D.int (List.map _ (List.range n)))[i]? = _; rw [List.getElem?_map, List.getElem?_map, List.getElem?_range hi]; rfl, ev_op (ev_cb (ea_cons (ev_var rfl) ea_nil) oc_int1) (ev_var rfl) (op_mod0 (by omega))⟩
  refine sq_asg (make_net (arcs := []) (ea_cons (ev_var rfl) (ea_cons (ev_lst ea_nil (len_le rfl)) ea_nil)) h1 h8 (by decide) fun _ m => nomatch m) ?_
  rw [keep_nil]
  have e1 : ∀ d, LRes n [] t sl d → d = stD (zs n) := fun d h => lres_st h (Nat.zero_le n) (stable_nil _)
  have e2 : ∀ d, GRes n [] t sl most d → d = stD (List.replicate n most) := fun d h => by
    rw [gres_st h (stable_nil (zs n))]
    have : hsw ((edges t sl []).map rev) (zs n) n = zs n := hsw_stay (j := 0) (stable_nil _) n (Nat.zero_le n)
    rw [this, List.map_replicate, Int.sub_zero]
  have num0 : ∀ x ∈ zs n, Num x := fun x hx => by
    have hx : x ∈ List.replicate n 0 := hx
    rw [List.mem_replicate] at hx
    rw [hx.2]
    exact num_small (by omega)
  have numM : ∀ x ∈ List.replicate n most, Num x := fun x hx => by
    rw [List.mem_replicate] at hx
    rw [hx.2]
    exact num_small (by omega)
  have lists : ∀ {Γ : Gam}, Γ[4]? = some (some (.lst (iD sl))) → Ev c (tCB (rListOf c.K) (tCons (tVar 4) tNil)) Γ [] (.lst (iD sl)) [] := fun e => EvN.ev (evN_cb (ea_cons (ev_var e) ea_nil) (on_listOf (ds := iD sl) (.inl rfl)))
  refine sq_asg (ev_callP1 (S := S_least aNet aT aS) (d := stD (zs n)) (P := fun d Z' => Z' = [] ∧ LRes n [] t sl d) (X := fun _ _ => False) (ea_cons (ev_var rfl) (ea_cons (ev_var rfl) (ea_cons (lists rfl) ea_nil))) ⟨n, [], t, sl, _, rfl, rfl, nk0, .inl rfl, fun _ d hd => ⟨rfl, hd⟩, fun r e => by rw [hn] at e; cases e⟩ (fun d Z' p => ⟨e1 d p.2, p.1⟩) fun _ _ z => z.elim) ?_
  have rp0 : ∀ {z : Int}, (List.replicate ((n : Int)).toNat (D.int z)) = iD (List.replicate n z) := fun {z} => by rw [Int.toNat_natCast]; show _ = List.map _ _; rw [List.map_replicate]
  have tupz : ∀ {Γ : Gam} {te : TE} {z : Int}, Γ[0]? = some (some (.int (n : Nat))) → Ev c te Γ [] (.int z) [] → Ev c (tTup (tCons (tC (.str "stages")) (tCons (tOp (rMulA c.K) (tTup (tCons te tNil)) (tVar 0)) tNil))) Γ [] (stD (List.replicate n z)) [] := fun {Γ te z} e h => by
    have := ev_tup' (ea_cons (ev_str (c := c) (z := "stages") (Γ := Γ) (Z := [])) (ea_cons (ev_op (ev_tup' (ea_cons h ea_nil) (len_le rfl)) (ev_var (i := 0) (d := .int (n : Nat)) e) (op_mulRepT (i := (n : Int)) ⟨by omega, by omega⟩)) ea_nil)) (len_le rfl)
    rw [rp0] at this
    exact this
  refine sq_ifF (ne_shown (x := stD (zs n)) (ev_var rfl) (tupz rfl ev_int) (plain_st _) (st_shows num0 (by rw [List.length_replicate]; omega))) ?_
  refine sq_asg (ev_callP1 (S := S_greatest aNet aT aS) (d := stD (List.replicate n most)) (P := fun d Z' => Z' = [] ∧ GRes n [] t sl most d) (X := fun _ _ => False) (ea_cons (ev_var rfl) (ea_cons (ev_var rfl) (ea_cons (lists rfl) (ea_cons (ev_var rfl) ea_nil)))) ⟨n, [], t, sl, _, most, rfl, rfl, nk0, .inl rfl, fun _ _ _ d hd => ⟨rfl, hd⟩, (fun r e => by rw [hn] at e; cases e), fun _ no => absurd hm no⟩ (fun d Z' p => ⟨e2 d p.2, p.1⟩) fun _ _ z => z.elim) ?_
  refine sq_ifF (ne_shown (x := stD (List.replicate n most)) (ev_var rfl) (tupz rfl (ev_var rfl)) (plain_st _) (st_shows numM (by rw [List.length_replicate]; omega))) ?_
  have arc1 : ∀ {Γ : Gam}, Γ[3]? = some (some (.int lag)) → Ev c (tLst (tCons (tTup (tCons (tC (.int 0)) (tCons (tC (.int 0)) (tCons (tC (.int 1)) (tCons (tVar 3) tNil))))) tNil)) Γ [] (.lst (arcsD [(⟨0, 0, 1, lag⟩ : A4)])) [] := fun e => ev_lst (ea_cons (ev_tup' (ea_cons ev_int (ea_cons ev_int (ea_cons ev_int (ea_cons (ev_var e) ea_nil)))) (len_le rfl)) ea_nil) (len_le rfl)
  have sl1 : ∀ {Γ : Gam}, Ev c (tLst (tCons (tC (.int 0)) tNil)) Γ [] (.lst (iD [0])) [] := ev_lst (ea_cons ev_int ea_nil) (len_le rfl)
  refine sq_for (wk_seqL (ds := [.int (lag - 1), .int lag]) (ev_lst (ea_cons (ev_op (ev_var rfl) ev_int op_sub0) (ea_cons (ev_var rfl) ea_nil)) (len_le rfl))) (fun i Γ Z => ∃ o6, Γ = [some (.int n), some (.int t), some (.int most), some (.int lag), some (.lst (iD sl)), some (netD aNet n []), o6, none] ∧ Z = []) ⟨_, rfl, rfl⟩ ?_ ?_
  · rintro i _ _ hi ⟨o6, rfl, rfl⟩
    obtain ⟨z, ez, hz⟩ : ∃ z : Int, ([.int (lag - 1), .int lag] : List D).getD i .non = .int z ∧ (1 ≤ z ∧ z ≤ 200) := by
      have hi : i < 2 := hi
      match i, hi with
      | 0, _ => exact ⟨lag - 1, rfl, by omega⟩
      | 1, _ => exact ⟨lag, rfl, by omega⟩
    rw [ez]
    refine ⟨_, _, tg_name, ?_⟩
    exact run_ifF (EvT.is (et_not (et_B (ev_call0 (S := S_both) (d := .bl true) (X := fun _ _ => False) (ea_cons ev_int (ea_cons (arc1 rfl) (ea_cons (ev_var rfl) (ea_cons sl1 (ea_cons (ev_var rfl) ea_nil))))) ⟨1, [⟨0, 0, 1, lag⟩], z, [0], most, rfl, rfl, by decide, by decide, by show 1 < 64; decide, ok1, need_one hz, hm, rfl, rfl⟩ fun _ _ z => z.elim))) rfl) (run_next ⟨_, rfl, rfl⟩)
  rintro _ _ ⟨o6, rfl, rfl⟩
  refine sq_asg (make_net (n := 1) (arcs := [⟨0, 0, 1, lag⟩]) (ea_cons ev_int (ea_cons (arc1 rfl) ea_nil)) (by decide) (by decide) (by show 1 < 64; decide) ok1) ?_
  rw [ke]
  have st1 : ∀ d, LRes 1 [(⟨0, 0, 1, lag⟩ : A4)] lag [0] d → ∃ r, d = .tup [.str "stages", r] := fun d h => by
    rcases h with ⟨j, _, _, rfl⟩ | ⟨ring, r, _⟩
    · exact ⟨_, rfl⟩
    · have := r.pos
      rw [gsum_zero fun x hx => by rw [List.mem_singleton.mp (r.mem x hx)]; exact gn_same hg.1] at this
      exact absurd this (by decide)
  have rg1 : ∀ d, LRes 1 [(⟨0, 0, 1, lag⟩ : A4)] (lag - 1) [0] d → ∃ r, d = .tup [.str "ring", r] := fun d h => by
    rcases h with ⟨j, _, s, _⟩ | ⟨ring, r, rfl⟩
    · have q := s ((⟨0, 0, 1, lag⟩ : A4).e (lag - 1) [0]) (List.mem_map.mpr ⟨_, List.mem_singleton.mpr rfl, rfl⟩)
      have g := gn_more hg.1
      have q : hA (hsw (edges (lag - 1) [0] [⟨0, 0, 1, lag⟩]) (zs 1) j) 0 + gn (lag - 1) [0] ⟨0, 0, 1, lag⟩ ≤ hA (hsw (edges (lag - 1) [0] [⟨0, 0, 1, lag⟩]) (zs 1) j) 0 := q
      omega
    · exact ⟨_, rfl⟩
  have n1 := need_one (t := lag) ⟨by omega, by omega⟩
  have n2 := need_one (t := lag - 1) ⟨by omega, by omega⟩
  refine sq_ifF (EvT.is (a := !decide (("stages" : Str) = "stages")) (et_test (ev_op (x := .str "stages") (ev_opP (P := fun d Z' => ∃ Zc, (Zc = [] ∧ LRes 1 [(⟨0, 0, 1, lag⟩ : A4)] lag [0] d) ∧ Z' = Zc ++ []) (Z1 := []) (y := .int 0) (evP_call0 (S := S_least aNet aT aS) (P := fun d Z' => Z' = [] ∧ LRes 1 [(⟨0, 0, 1, lag⟩ : A4)] lag [0] d) (X := fun _ _ => False) (ea_cons (ev_var rfl) (ea_cons (ev_var rfl) (ea_cons sl1 ea_nil))) ⟨1, _, lag, [0], _, rfl, rfl, nk1, .inl rfl, fun _ d hd => ⟨rfl, hd⟩, fun r e => by rw [n1] at e; cases e⟩ fun _ _ z => z.elim) (fun d Z' ⟨Zc, ⟨h, _⟩, h2⟩ => by rw [h2, h]; rfl) ev_int (fun d ⟨Zc, ⟨_, h⟩, _⟩ => by obtain ⟨r, rfl⟩ := st1 d h; exact op_ix (.inr (.inl rfl)) at0)) ev_str op_neAS)) (by rw [decide_eq_true rfl]; rfl)) ?_
  refine run_ret (d := .bl (decide (("ring" : Str) = "ring"))) (ev_op (x := .str "ring") (ev_opP (P := fun d Z' => ∃ Zc, (Zc = [] ∧ LRes 1 [(⟨0, 0, 1, lag⟩ : A4)] (lag - 1) [0] d) ∧ Z' = Zc ++ []) (Z1 := []) (y := .int 0) (evP_call0 (S := S_least aNet aT aS) (P := fun d Z' => Z' = [] ∧ LRes 1 [(⟨0, 0, 1, lag⟩ : A4)] (lag - 1) [0] d) (X := fun _ _ => False) (ea_cons (ev_var rfl) (ea_cons (ev_op (ev_var rfl) ev_int op_sub0) (ea_cons sl1 ea_nil))) ⟨1, _, lag - 1, [0], _, rfl, rfl, nk1, .inl rfl, fun _ d hd => ⟨rfl, hd⟩, fun r e => by rw [n2] at e; cases e⟩ fun _ _ z => z.elim) (fun d Z' ⟨Zc, ⟨h, _⟩, h2⟩ => by rw [h2, h]; rfl) ev_int (fun d ⟨Zc, ⟨_, h⟩, _⟩ => by obtain ⟨r, rfl⟩ := rg1 d h; exact op_ix (.inr (.inl rfl)) at0)) ev_str op_eqAS) ?_
  rw [decide_eq_true rfl]
  exact k
end

/-- what the law draws -/
def dv (l : List Int) (m : Int) : Int := match l with
  | [] => 0
  | x :: _ => x % m
theorem dv_bd {l : List Int} {m : Int} (h : 0 < m) : 0 ≤ dv l m ∧ dv l m < m := by
  cases l with
  | nil => exact ⟨Int.le_refl _, h⟩
  | cons x r => exact ⟨Int.emod_nonneg _ (by omega), Int.emod_lt_of_pos _ h⟩
def S_draw : SpD := fun ds Z P _ => ∃ (p : Addr) (l : List Int) (m : Int), ds = [.ptr p, .int m] ∧ Z = [(p, .lst (iD l))] ∧ 0 < m ∧ P (.int (dv l m)) [(p, .lst (iD l.tail))]
def S_stock : SpD := fun ds Z P _ => ∃ (ns : List Int), ds = [.wl (iD ns)] ∧ Z = [] ∧ ns.length ≤ 63 ∧ ∀ p l, P (.ptr p) [(p, .lst (iD l))]
theorem cut_to (ds : List D) (h : ds.length ≤ 63) : L3.cutD ds none (some 63) = ds := by
  unfold L3.cutD
  rw [HT.sIx_none, show HT.sIx ds.length ds.length (some 63) = min 63 ds.length from HT.sIx_nat ds.length _ 63]
  rw [show min 63 ds.length = ds.length by omega]
  show List.take (ds.length - 0) (ds.drop 0) = ds
  rw [Nat.sub_zero, List.drop_zero, List.take_length]
theorem pys_ints (l : List Int) : plains (iD l) = true := by
  have := plain_intsL l
  simpa only [L3.plain] using this
theorem eqv_nil (l : List Int) : PyData.eqv (.list (pys (iD l))) (.list []) = decide (l = []) := by
  cases l with
  | nil => decide +kernel
  | cons x r => simp [pys, PyData.eqv, PyData.eqvAll]
section
variable {c : Cn} {O : Out} {E : XK}
theorem eq_nil {te : TE} {Γ : Gam} {Z : Sto} {x : D} {l : List Int} (h : Ev c te Γ Z x Z) (hx : PyIs Z x (.list (pys (iD l)))) : EvT c (tTest (tOp (rEqA c.K) te (tLst tNil))) Γ Z (decide (l = [])) Z := by
  have ly : Lay 1 (.list (pys (iD l))) := by
    have := lay_intsL l
    simpa only [py] using this
  refine EvT.is (et_test (ev_op h (ev_lst ea_nil (len_le rfl)) (op_eqAD hx (pyIs_of rfl) (ly.shaped (by decide)) (by decide +kernel)))) ?_
  show PyData.eqv _ (py (.lst [])) = _
  simp only [py, pys]
  exact eqv_nil l
theorem run_draw {p : Addr} {l : List Int} {m : Int} (hm : 0 < m) (k : O.rt (.int (dv l m)) [(p, .lst (iD l.tail))]) : Run c (t__law_draw c.K E) O [some (.ptr p), some (.int m)] [(p, .lst (iD l))] := by
  unfold t__law_draw
  refine sq_if (eq_nil (l := l) (ev_var rfl) (pyIs_ptr List.mem_cons_self (pys_ints l))) (fun hb => ?_) fun hb => ?_
  · have e : l = [] := of_decide_eq_true hb
    subst e
    exact run_ret ev_int k
  · have e : l ≠ [] := of_decide_eq_false hb
    cases l with
    | nil => exact absurd rfl e
    | cons x r =>
      have ep : putZ [(p, MO.lst (iD (x :: r)))] p (.lst (iD r)) = [(p, .lst (iD r))] := putZ_hd List.not_mem_nil
      have pop := ev_pop0 (c := c) (Γ := [some (.ptr p), some (.int m)]) (Z := [(p, MO.lst (iD (x :: r)))]) (ds := iD r) (d := .int x) (ev_var (i := 0) rfl) ev_int List.mem_cons_self
      rw [ep] at pop
      exact run_ret (ev_op (ev_cb (ea_cons pop ea_nil) oc_int1) (ev_var rfl) (op_mod0 hm)) k
theorem run_stock {ns : List Int} (h63 : ns.length ≤ 63) (k : ∀ p l, O.rt (.ptr p) [(p, .lst (iD l))]) : Run c (t__law_stock c.K E) O [some (.wl (iD ns)), none, none, none, none, none] [] := by
  unfold t__law_stock
  refine sq_asgN (evN_lst' ea_nil (len_le rfl)) fun p hp => ?_
  have app : ∀ {Γ : Gam} {l : List Int} {z : Int}, Γ[1]? = some (some (.ptr p)) → Γ[3]? = some (some (.int z)) → l.length < 4000 → Ev c (tBM c.K "list" rAppend (tVar 1) (tCons (tOp rModI (tCB rInt1 (tCons (tVar 3) tNil)) (tC (.int 10))) tNil)) Γ [(p, .lst (iD l))] .non [(p, .lst (iD (l ++ [z % 10])))] := fun {Γ l z} e1 e3 hl => by
    have := ev_app (c := c) (Γ := Γ) (ta := tVar 1) (te := tOp rModI (tCB rInt1 (tCons (tVar 3) tNil)) (tC (.int 10))) (Z := [(p, .lst (iD l))]) (Z1 := [(p, .lst (iD l))]) (d := .int (z % 10)) (ds := iD l) (es := iD l) (ev_var e1) (ev_op (ev_cb (ea_cons (ev_var e3) ea_nil) oc_int1) ev_int (op_mod0 (by decide))) List.mem_cons_self List.mem_cons_self (by rw [List.length_map]; omega)
    rw [putZ_hd List.not_mem_nil, show iD l ++ [D.int (z % 10)] = iD (l ++ [z % 10]) from (List.map_append (f := D.int) (l₁ := l) (l₂ := [z % 10])).symm] at this
    exact this
  have esl := EvN.ev (evN_slice (c := c) (ta := tVar 0) (Γ := [some (.wl (iD ns)), some (.ptr p), none, none, none, none]) (Z := [(p, .lst (iD []))]) (x := .wl (iD ns)) (ds := iD ns) (ev_var rfl) (.inr (.inr rfl)) eo_none (eo_some (i := 63) ev_int))
  rw [cut_to _ (by rw [List.length_map]; exact h63)] at esl
  refine sq_for (wk_seqL esl) (fun i Γ Z => ∃ o2 o3 o4 l, Γ = [some (.wl (iD ns)), some (.ptr p), o2, o3, o4, none] ∧ Z = [(p, .lst (iD l))] ∧ l.length ≤ 60 * i) ⟨none, none, none, [], rfl, rfl, Nat.zero_le _⟩ ?_ ?_
  · rintro i _ _ hi ⟨o2, o3, o4, l, rfl, rfl, hl⟩
    rw [List.length_map] at hi
    have hz : ns[i]? = some ns[i] := List.getElem?_eq_getElem hi
    generalize ns[i] = z at hz
    have e : (iD ns).getD i .non = .int z := getD_of (by rw [List.getElem?_map, hz]; rfl)
    rw [e]
    refine ⟨_, _, tg_name, ?_⟩
    refine sq_asg (ev_op (ev_cb (ea_cons (ev_var rfl) ea_nil) oc_abs) (ev_op ev_int ev_int (op_pow0 ⟨by decide, by decide, by decide⟩)) (op_mod0 (by decide))) ?_
    refine sq_drop (app (l := l) rfl rfl (by omega)) ?_
    refine run_for (wk_rng1 (ea_cons ev_int ea_nil) ⟨by decide, by decide⟩) (fun j Γ Z => ∃ o4 w l, Γ = [some (.wl (iD ns)), some (.ptr p), some (.int z), some (.int w), o4, none] ∧ Z = [(p, .lst (iD l))] ∧ l.length ≤ 60 * i + 1 + j) ⟨_, _, _, rfl, rfl, by rw [List.length_append]; show l.length + 1 ≤ _; omega⟩ ?_ ?_
    · rintro j _ _ hj ⟨o4, w, l, rfl, rfl, hl⟩
      have hj : j < 59 := hj
      refine ⟨_, _, tg_name, ?_⟩
      refine sq_asg (ev_op (ev_var rfl) ev_int (op_div0 ⟨by decide, by decide⟩)) ?_
      refine run_if (et_test (ev_op (ev_var rfl) ev_int op_gt0)) (fun _ => ?_) fun _ => run_next ?_
      · exact run_drop (app (l := l) rfl rfl (by omega)) ⟨_, _, _, rfl, rfl, by rw [List.length_append]; show l.length + 1 ≤ _; omega⟩
      · exact ⟨_, _, l, rfl, rfl, by omega⟩
    · rintro _ _ ⟨o4, w, l, rfl, rfl, hl⟩
      have hl : l.length ≤ 60 * i + 1 + 59 := hl
      exact ⟨_, _, _, l, rfl, rfl, by omega⟩
  · rintro _ _ ⟨o2, o3, o4, l, rfl, rfl, hl⟩
    rw [List.length_map] at hl
    refine run_freeze 1 rfl ?_
    have rest : ∀ l2 : List Int, l2 ≠ [] → l2.length ≤ 4000 → Run c (tSeq (tAsg (tCB (rLen1 c.K) (tCons (tVar 1) tNil)) (gName 5)) (tRet (tLc (iRng1 (tCons (tC (.int 160)) tNil)) (gName 4) tYes (tOp (rAddA c.K) (tOp (rIxQ c.K) (tVar 1) (tOp rModI (tVar 4) (tVar 5))) (tOp rDivW (tVar 4) (tVar 5))) [4]))) O [some (.wl (iD ns)), some (.lst (iD l2)), o2, o3, o4, none] [] := fun l2 ne hl2 => by
      have lp : 0 < l2.length := List.length_pos_iff.mpr ne
      refine sq_asg (ev_cb (ea_cons (ev_var rfl) ea_nil) (oc_len (ds := iD l2) (.inl rfl))) ?_
      rw [List.length_map]
      refine run_retP (EvP.ofN (evN_lc (c := c) (vs := [4]) (wk_rng1 (j := 160) (ea_cons ev_int ea_nil) ⟨by decide, by decide⟩) (iD ((List.range 160).map fun k : Nat => l2.getD (k % l2.length) 0 + (k : Int) / (l2.length : Int))) (fun _ => []) rfl (by rw [List.length_map, List.length_map, List.length_range]; rfl) (by decide) (fun i hi => ?_)) (P := fun d Z' => ∃ p l, d = .ptr p ∧ Z' = [(p, .lst (iD l))]) fun p => ⟨p, _, rfl, rfl⟩) ?_
      · have hi : i < 160 := hi
        refine ⟨_, .int (l2.getD (i % l2.length) 0 + (i : Int) / (l2.length : Int)), tg_name, by rw [List.getElem?_map, List.getElem?_map, List.getElem?_range hi]; rfl, ?_⟩
        refine ev_op (ev_op (ev_var rfl) (ev_op (ev_var rfl) (ev_var rfl) (op_mod0 (by omega))) (op_ix (c := c.calm) (ds := iD l2) (.inl rfl) ?_)) (ev_op (ev_var rfl) (ev_var rfl) (op_div0 (wide_div (b := 12) (by omega) (by omega) (by decide) (by decide)))) op_addI
        rw [show ((i : Int) % (l2.length : Int)) = ((i % l2.length : Nat) : Int) from (Int.natCast_emod i l2.length).symm]
        exact at_int (Nat.mod_lt _ lp)
      · rintro _ _ ⟨p, l, rfl, rfl⟩
        exact k p l
    refine sq_if (eq_nil (l := l) (ev_var rfl) ?_) (fun _ => run_asg (ev_lst (ea_cons ev_int ea_nil) (len_le rfl)) (rest [0] (by simp) (by show 1 ≤ 4000; decide))) fun hb => rest l (of_decide_eq_false hb) (by omega)
    have := pyIs_of (Z := []) (d := .lst (iD l)) (plain_intsL l)
    simpa only [py] using this
end

def S_law : SpD := fun ds Z P _ => ∃ ns : List Int, ds = [.wl (iD ns)] ∧ Z = [] ∧ ns.length ≤ 63 ∧ ∀ Z', P (.bl true) Z'
section
variable {c : Cn} {O : Out} {E : XK}
/-- a draw, the pool ahead in the store -/
theorem ev_draw {Γ : Gam} {te : TE} {p : Addr} {l : List Int} {m : Int} {Zb : Sto} (h1 : Γ[1]? = some (some (.ptr p))) (hm : Ev c te Γ ((p, .lst (iD l)) :: Zb) (.int m) ((p, .lst (iD l)) :: Zb)) (h0 : 0 < m) :
    Ev c (tCallG (Pr c.K S_draw) c.E (tCons (tVar 1) (tCons te tNil))) Γ ((p, .lst (iD l)) :: Zb) (.int (dv l m)) ((p, .lst (iD l.tail)) :: Zb) :=
  ev_callD (Za := [(p, .lst (iD l))]) (Zb := Zb) (Zc := [(p, .lst (iD l.tail))]) (X := fun _ _ => False) (ea_cons (ev_var h1) (ea_cons hm ea_nil)) (List.Perm.refl _) ⟨p, l, m, rfl, rfl, h0, rfl, rfl⟩ fun _ _ z => z.elim
theorem cm13 {i : Int} : CMul 13 i := .inl ⟨by decide, by decide⟩
theorem cm4 {i : Int} : CMul 4 i := .inl ⟨by decide, by decide⟩
theorem cm23 {i : Int} : CMul i 23 := .inr ⟨by decide, by decide⟩
theorem run_law {ns : List Int} (h63 : ns.length ≤ 63) (hE : c.E = fun _ => E) (k : ∀ Z', O.rt (.bl true) Z') :
    Run c (t_law c.K E (Pr c.K S_stock) (Pr c.K S_draw) (Pr c.K S_both) (Pr c.K S_made) (Pr c.K S_refusals)) O [some (.wl (iD ns)), none, none, none, none, none, none, none, none, none, none, none, none, none] [] := by
  unfold t_law
  rw [← hE]
  refine sq_asgP (evP_call0 (S := S_stock) (P := fun d Z' => ∃ p l, d = .ptr p ∧ Z' = [(p, .lst (iD l))]) (X := fun _ _ => False) (ea_cons (ev_var rfl) ea_nil) ⟨ns, rfl, rfl, h63, fun p l => ⟨p, l, rfl, rfl⟩⟩ fun _ _ z => z.elim) ?_
  rintro _ _ ⟨_, ⟨p, l, rfl, rfl⟩, rfl⟩
  -- rows
  refine sq_asg (ev_op ev_int (ev_draw (l := l) rfl ev_int (by decide)) op_addI) ?_
  obtain ⟨n, en, h1, h8⟩ : ∃ n : Nat, 1 + dv l 8 = (n : Int) ∧ 1 ≤ n ∧ n ≤ 8 := by
    have := dv_bd (l := l) (m := 8) (by decide)
    exact ⟨(1 + dv l 8).toNat, by omega, by omega, by omega⟩
  rw [en]
  generalize l.tail = l
  refine sq_asg (ev_op (ev_draw (l := l) rfl ev_int (by decide)) ev_int op_eqAI) ?_
  generalize decide (dv l 5 = 4) = great
  generalize l.tail = l
  refine sq_asgN (evN_lst' ea_nil (len_le rfl)) fun q hq => ?_
  refine run_perm (List.Perm.swap _ _ _) ?_
  refine run_nd fun nd => ?_
  have npq : p ≠ q := fun e => by
    subst e
    exact (List.nodup_cons.mp nd).1 List.mem_cons_self
  have b1 := dv_bd (l := l) (m := 10) (by decide)
  have b2 := dv_bd (l := l.tail) (m := 10) (by decide)
  refine sq_for (wk_rng1 (ea_cons (ev_op (ev_op ev_int (ev_draw (l := l) rfl ev_int (by decide)) op_addI) (ev_draw (l := l.tail) rfl ev_int (by decide)) op_addI) ea_nil) ⟨by omega, by omega⟩) (fun i Γ Z => ∃ o5 o6 o7 o8 o9 l arcs, Γ = [some (.wl (iD ns)), some (.ptr p), some (.int n), some (.bl great), some (.ptr q), o5, o6, o7, o8, o9, none, none, none, none] ∧ Z = [(p, .lst (iD l)), (q, .lst (arcsD arcs))] ∧ arcs.length = i ∧ ∀ a ∈ arcs, a.Ok n)
    ⟨none, none, none, none, none, _, [], rfl, rfl, rfl, fun _ m => nomatch m⟩ ?_ ?_
  · rintro i _ _ hi ⟨o5, o6, o7, o8, o9, l, arcs, rfl, rfl, hlen, ok⟩
    have hi' : i < 1000 := by omega
    clear hi b1 b2
    refine ⟨_, _, tg_name, ?_⟩
    refine sq_asg (ev_draw (l := l) rfl (ev_var rfl) (by omega)) ?_
    refine sq_asg (ev_draw (l := l.tail) rfl (ev_var rfl) (by omega)) ?_
    obtain ⟨u, eu, hu⟩ : ∃ u : Nat, dv l n = (u : Int) ∧ u < n := by
      have := dv_bd (l := l) (m := (n : Int)) (by omega)
      exact ⟨(dv l n).toNat, by omega, by omega⟩
    obtain ⟨v, ev, hv⟩ : ∃ v : Nat, dv l.tail n = (v : Int) ∧ v < n := by
      have := dv_bd (l := l.tail) (m := (n : Int)) (by omega)
      exact ⟨(dv l.tail n).toNat, by omega, by omega⟩
    rw [eu, ev]
    generalize l.tail.tail = l
    refine sq_asg (ev_draw (l := l) rfl ev_int (by decide)) ?_
    refine sq_asg (ev_draw (l := l.tail) rfl ev_int (by decide)) ?_
    have hd := dv_bd (l := l) (m := 4) (by decide)
    have hg := dv_bd (l := l.tail) (m := 10) (by decide)
    generalize dv l 4 = dist at hd
    generalize dv l.tail 10 = lag at hg
    generalize l.tail.tail = l
    have fin : ∀ (o5 : Option D) (dist lag : Int), 0 ≤ dist → dist ≤ 40 → 0 ≤ lag → lag ≤ 40 → (0 < dist ∨ u < v) → Run c (tDrop (tBM c.K "list" rAppend (tVar 4) (tCons (tTup (tCons (tVar 6) (tCons (tVar 7) (tCons (tVar 8) (tCons (tVar 9) tNil))))) tNil)))
        { nx := fun Γ Z => ∃ o5 o6 o7 o8 o9 l arcs, Γ = [some (.wl (iD ns)), some (.ptr p), some (.int n), some (.bl great), some (.ptr q), o5, o6, o7, o8, o9, none, none, none, none] ∧ Z = [(p, .lst (iD l)), (q, .lst (arcsD arcs))] ∧ arcs.length = i + 1 ∧ ∀ a ∈ arcs, a.Ok n, rt := O.rt, bk := fun _ _ => False, ct := fun _ _ => False }
        [some (.wl (iD ns)), some (.ptr p), some (.int n), some (.bl great), some (.ptr q), o5, some (.int u), some (.int v), some (.int dist), some (.int lag), none, none, none, none] [(p, .lst (iD l)), (q, .lst (arcsD arcs))] := fun o5 dist lag d0 d1 l0 l1 up => by
      have ea := ev_app (c := c) (Γ := [some (.wl (iD ns)), some (.ptr p), some (.int n), some (.bl great), some (.ptr q), o5, some (.int u), some (.int v), some (.int dist), some (.int lag), none, none, none, none]) (ta := tVar 4) (te := tTup (tCons (tVar 6) (tCons (tVar 7) (tCons (tVar 8) (tCons (tVar 9) tNil))))) (Z := [(p, .lst (iD l)), (q, .lst (arcsD arcs))]) (Z1 := [(p, .lst (iD l)), (q, .lst (arcsD arcs))]) (d := (⟨u, v, dist, lag⟩ : A4).d) (ds := arcsD arcs) (es := arcsD arcs) (p := q) (ev_var rfl) (ev_tup' (ea_cons (ev_var rfl) (ea_cons (ev_var rfl) (ea_cons (ev_var rfl) (ea_cons (ev_var rfl) ea_nil)))) (len_le rfl)) (List.mem_cons_of_mem _ List.mem_cons_self) (List.mem_cons_of_mem _ List.mem_cons_self) (by rw [List.length_map]; omega)
      rw [putZ_tl npq, putZ_hd List.not_mem_nil, show arcsD arcs ++ [(⟨u, v, dist, lag⟩ : A4).d] = arcsD (arcs ++ [⟨u, v, dist, lag⟩]) from (List.map_append (f := A4.d) (l₁ := arcs) (l₂ := [⟨u, v, dist, lag⟩])).symm] at ea
      refine run_drop ea ⟨_, _, _, _, _, l, _, rfl, rfl, by rw [List.length_append]; show arcs.length + 1 = i + 1; omega, fun a ma => ?_⟩
      rcases List.mem_append.mp ma with ma | ma
      · exact ok a ma
      · rw [List.mem_singleton.mp ma]
        exact ⟨hu, hv, d0, d1, l0, l1, up⟩
    have fin2 : ∀ (o5 : Option D) (dist lag : Int), 0 ≤ dist → dist ≤ 40 → 0 ≤ lag → lag ≤ 40 → Run c (tSeq (tIfS (tAnd (tTest (tOp (rEqA c.K) (tVar 8) (tC (.int 0)))) (tTest (tOp rGeI (tVar 6) (tVar 7)))) (tAsg (tC (.int 1)) (gName 8)) tNext) (tDrop (tBM c.K "list" rAppend (tVar 4) (tCons (tTup (tCons (tVar 6) (tCons (tVar 7) (tCons (tVar 8) (tCons (tVar 9) tNil))))) tNil))))
        { nx := fun Γ Z => ∃ o5 o6 o7 o8 o9 l arcs, Γ = [some (.wl (iD ns)), some (.ptr p), some (.int n), some (.bl great), some (.ptr q), o5, o6, o7, o8, o9, none, none, none, none] ∧ Z = [(p, .lst (iD l)), (q, .lst (arcsD arcs))] ∧ arcs.length = i + 1 ∧ ∀ a ∈ arcs, a.Ok n, rt := O.rt, bk := fun _ _ => False, ct := fun _ _ => False }
        [some (.wl (iD ns)), some (.ptr p), some (.int n), some (.bl great), some (.ptr q), o5, some (.int u), some (.int v), some (.int dist), some (.int lag), none, none, none, none] [(p, .lst (iD l)), (q, .lst (arcsD arcs))] := fun o5 dist lag d0 d1 l0 l1 => by
      refine sq_if (et_and (et_test (ev_op (ev_var rfl) ev_int op_eqAI)) fun _ => et_test (ev_op (ev_var rfl) (ev_var rfl) op_ge0)) (fun _ => ?_) fun hb => ?_
      · exact run_asg ev_int (fin _ 1 lag (by decide) (by decide) l0 l1 (.inl (by decide)))
      · refine fin _ dist lag d0 d1 l0 l1 ?_
        by_cases e : dist = 0
        · right
          rw [decide_eq_true e, Bool.true_and] at hb
          have := of_decide_eq_false hb
          omega
        · left; omega
    have wk : ∀ {Γ : Gam} {Z : Sto} {t : TS}, Run c t { nx := fun Γ Z => ∃ o5 o6 o7 o8 o9 l arcs, Γ = [some (.wl (iD ns)), some (.ptr p), some (.int n), some (.bl great), some (.ptr q), o5, o6, o7, o8, o9, none, none, none, none] ∧ Z = [(p, .lst (iD l)), (q, .lst (arcsD arcs))] ∧ arcs.length = i + 1 ∧ ∀ a ∈ arcs, a.Ok n, rt := O.rt, bk := fun _ _ => False, ct := fun _ _ => False } Γ Z →
        ∀ {B C : Gam → Sto → Prop}, Run c t { nx := fun Γ Z => ∃ o5 o6 o7 o8 o9 l arcs, Γ = [some (.wl (iD ns)), some (.ptr p), some (.int n), some (.bl great), some (.ptr q), o5, o6, o7, o8, o9, none, none, none, none] ∧ Z = [(p, .lst (iD l)), (q, .lst (arcsD arcs))] ∧ arcs.length = i + 1 ∧ ∀ a ∈ arcs, a.Ok n, rt := O.rt, bk := B, ct := C } Γ Z := by
      intro Γ Z t h B C
      exact h.mono (fun _ _ p => p) (fun _ _ p => p) (fun _ _ p => p.elim) fun _ _ p => p.elim
    refine sq_if (et_B (ev_var rfl)) (fun _ => ?_) fun _ => ?_
    · refine sq_asg (ev_op ev_int (ev_var rfl) (op_mulI cm13)) ?_
      refine run_asg (ev_op (ev_op ev_int (ev_var rfl) (op_mulI cm4)) ev_int op_addI) ?_
      exact wk (fin2 _ (13 * dist) (4 * lag + 4) (by omega) (by omega) (by omega) (by omega))
    · exact wk (fin2 _ dist lag (by omega) (by omega) (by omega) (by omega))
  rintro _ _ ⟨o5, o6, o7, o8, o9, l, arcs, rfl, rfl, hlen, ok⟩
  have h64 : arcs.length < 64 := by omega
  clear hlen b1 b2
  -- ticks
  refine sq_asg (ev_op (ev_op ev_int (ev_draw (l := l) rfl ev_int (by decide)) op_addI) (ev_draw (l := l.tail) rfl ev_int (by decide)) op_addI) ?_
  have b1 := dv_bd (l := l) (m := 10) (by decide)
  have b2 := dv_bd (l := l.tail) (m := 10) (by decide)
  have ht : 1 ≤ 1 + dv l 10 + dv l.tail 10 ∧ 1 + dv l 10 + dv l.tail 10 ≤ 200 := by omega
  generalize 1 + dv l 10 + dv l.tail 10 = t at ht
  generalize l.tail.tail = l
  clear b1 b2
  have rest : ∀ (t : Int) (l : List Int), 1 ≤ t ∧ t ≤ 200 → Run c (tSeq (tAsg (tOp (rMulA c.K) (tLst (tCons (tC (.int 0)) tNil)) (tVar 2)) (gName 11))
    (tSeq (tIfS (tTest (tOp (rNeA c.K) (tCallG (Pr c.K S_draw) c.E (tCons (tVar 1) (tCons (tC (.int 4)) tNil))) (tC (.int 2)))) (tAsg (tLc (iRng1 (tCons (tVar 2) tNil)) (gName 5) tYes (tOp rModI (tCB rInt1 (tCons (tOp (rMulA c.K) (tCallG (Pr c.K S_draw) (fun _ => E0) (tCons (tVar 1) (tCons (tC (.int 10)) tNil))) (tC (.int 23))) tNil)) (tVar 10)) [5]) (gName 11)) tNext)
    (tSeq (tAsg (tOp (rIxQ c.K) (tLst (tCons (tC (.int 1000)) (tCons (tC (.int 0)) (tCons (tUn rNegI (tC (.int 1000))) (tCons (tCallG (Pr c.K S_draw) c.E (tCons (tVar 1) (tCons (tC (.int 10)) tNil))) tNil))))) (tCallG (Pr c.K S_draw) c.E (tCons (tVar 1) (tCons (tC (.int 4)) tNil)))) (gName 12))
    (tSeq (tAsg (tCallG (Pr c.K S_draw) c.E (tCons (tVar 1) (tCons (tC (.int 10)) tNil))) (gName 13))
    (tSeq (tIfS (tNot (tB (tCallG (Pr c.K S_both) c.E (tCons (tVar 2) (tCons (tVar 4) (tCons (tVar 10) (tCons (tVar 11) (tCons (tVar 12) tNil)))))))) (tRet (tC (.bl false))) tNext)
    (tSeq (tIfS (tNot (tB (tCallG (Pr c.K S_both) c.E (tCons (tVar 2) (tCons (tVar 4) (tCons (tC (.int 200)) (tCons (tVar 11) (tCons (tVar 12) tNil)))))))) (tRet (tC (.bl false))) tNext)
    (tSeq (tIfS (tNot (tB (tCallG (Pr c.K S_made) c.E (tCons (tVar 2) (tCons (tVar 10) (tCons (tVar 12) (tCons (tOp (rAddA c.K) (tC (.int 2)) (tOp (rMulA c.K) (tC (.int 4)) (tVar 13))) tNil))))))) (tRet (tC (.bl false))) tNext)
    (tRet (tCallG (Pr c.K S_refusals) c.E (tCons (tVar 2) (tCons (tVar 4) (tCons (tVar 10) (tCons (tVar 11) (tCons (tVar 13) tNil)))))))))))))) O
    [some (.wl (iD ns)), some (.ptr p), some (.int n), some (.bl great), some (.ptr q), o5, o6, o7, o8, o9, some (.int t), none, none, none] [(p, .lst (iD l)), (q, .lst (arcsD arcs))] := by
    intro t l ht
    refine sq_asg (EvN.ev (evN_op (ev_lst (ea_cons ev_int ea_nil) (len_le rfl)) (ev_var rfl) (on_mulRep (.inl rfl) ⟨by omega, by omega⟩))) ?_
    rw [rep_zs]
    have rest2 : ∀ (sl : List Int) (l : List Int), sl.length = n → (∀ x ∈ sl, 0 ≤ x ∧ x < t) → Run c 
      (tSeq (tAsg (tOp (rIxQ c.K) (tLst (tCons (tC (.int 1000)) (tCons (tC (.int 0)) (tCons (tUn rNegI (tC (.int 1000))) (tCons (tCallG (Pr c.K S_draw) c.E (tCons (tVar 1) (tCons (tC (.int 10)) tNil))) tNil))))) (tCallG (Pr c.K S_draw) c.E (tCons (tVar 1) (tCons (tC (.int 4)) tNil)))) (gName 12))
      (tSeq (tAsg (tCallG (Pr c.K S_draw) c.E (tCons (tVar 1) (tCons (tC (.int 10)) tNil))) (gName 13))
      (tSeq (tIfS (tNot (tB (tCallG (Pr c.K S_both) c.E (tCons (tVar 2) (tCons (tVar 4) (tCons (tVar 10) (tCons (tVar 11) (tCons (tVar 12) tNil)))))))) (tRet (tC (.bl false))) tNext)
      (tSeq (tIfS (tNot (tB (tCallG (Pr c.K S_both) c.E (tCons (tVar 2) (tCons (tVar 4) (tCons (tC (.int 200)) (tCons (tVar 11) (tCons (tVar 12) tNil)))))))) (tRet (tC (.bl false))) tNext)
      (tSeq (tIfS (tNot (tB (tCallG (Pr c.K S_made) c.E (tCons (tVar 2) (tCons (tVar 10) (tCons (tVar 12) (tCons (tOp (rAddA c.K) (tC (.int 2)) (tOp (rMulA c.K) (tC (.int 4)) (tVar 13))) tNil))))))) (tRet (tC (.bl false))) tNext)
      (tRet (tCallG (Pr c.K S_refusals) c.E (tCons (tVar 2) (tCons (tVar 4) (tCons (tVar 10) (tCons (tVar 11) (tCons (tVar 13) tNil))))))))))))  O
      [some (.wl (iD ns)), some (.ptr p), some (.int n), some (.bl great), some (.ptr q), o5, o6, o7, o8, o9, some (.int t), some (.lst (iD sl)), none, none] [(p, .lst (iD l)), (q, .lst (arcsD arcs))] := by
      intro sl l hsl hall
      have nd1 : ∀ T, t ≤ T → T ≤ 200 → need T n sl = none := fun T h1 h2 => by
        unfold need
        rw [if_pos ⟨by omega, h2⟩, if_pos hsl, badAt_all T sl 0 fun x hx => by have := hall x hx; omega]
        rfl
      obtain ⟨most, emost, hm⟩ : ∃ most, atI [D.int 1000, D.int 0, D.int (-1000), D.int (dv l 10)] (dv l.tail 4) = some (.int most) ∧ -1000 ≤ most ∧ most ≤ 1000 := by
        have b1 := dv_bd (l := l) (m := 10) (by decide)
        have b2 := dv_bd (l := l.tail) (m := 4) (by decide)
        have : dv l.tail 4 = 0 ∨ dv l.tail 4 = 1 ∨ dv l.tail 4 = 2 ∨ dv l.tail 4 = 3 := by omega
        rcases this with e | e | e | e <;> rw [e]
        · exact ⟨1000, atI_nat (j := 0) rfl, by omega⟩
        · exact ⟨0, atI_nat (j := 1) rfl, by omega⟩
        · exact ⟨-1000, atI_nat (j := 2) rfl, by omega⟩
        · exact ⟨dv l 10, atI_nat (j := 3) rfl, by omega⟩
      refine sq_asg (ev_op (ev_lst (ea_cons ev_int (ea_cons ev_int (ea_cons (ev_neg ev_int) (ea_cons (ev_draw (l := l) rfl ev_int (by decide)) ea_nil)))) (len_le rfl)) (ev_draw (l := l.tail) rfl ev_int (by decide)) (op_ix (.inl rfl) emost)) ?_
      generalize l.tail.tail = l
      refine sq_asg (ev_draw (l := l) rfl ev_int (by decide)) ?_
      have ba := dv_bd (l := l) (m := 10) (by decide)
      generalize dv l 10 = at' at ba
      refine run_dropZ (run_freeze 4 rfl ?_)
      have both : ∀ {Γ : Gam} {ta : TA} {T : Int}, EvA c ta Γ [] [.int n, .lst (arcsD arcs), .int T, .lst (iD sl), .int most] [] → t ≤ T → T ≤ 200 → Ev c (tCallG (Pr c.K S_both) c.E ta) Γ [] (.bl true) [] := fun ha h2 h3 => ev_call0 (S := S_both) (X := fun _ _ => False) ha ⟨n, arcs, _, sl, most, rfl, rfl, h1, h8, h64, ok, nd1 _ h2 h3, hm, rfl, rfl⟩ fun _ _ z => z.elim
      refine sq_ifF (EvT.is (et_not (et_B (both (ea_cons (ev_var rfl) (ea_cons (ev_var rfl) (ea_cons (ev_var rfl) (ea_cons (ev_var rfl) (ea_cons (ev_var rfl) ea_nil))))) (Int.le_refl _) ht.2))) rfl) ?_
      refine sq_ifF (EvT.is (et_not (et_B (both (ea_cons (ev_var rfl) (ea_cons (ev_var rfl) (ea_cons ev_int (ea_cons (ev_var rfl) (ea_cons (ev_var rfl) ea_nil))))) ht.2 (by decide)))) rfl) ?_
      refine sq_ifF (EvT.is (et_not (et_B (ev_call0 (S := S_made) (d := .bl true) (X := fun _ _ => False) (ea_cons (ev_var rfl) (ea_cons (ev_var rfl) (ea_cons (ev_var rfl) (ea_cons (ev_op ev_int (ev_op ev_int (ev_var rfl) (op_mulI cm4)) op_addI) ea_nil)))) ⟨n, t, most, 2 + 4 * at', rfl, rfl, h1, h8, ht, hm, by omega, rfl, rfl⟩ fun _ _ z => z.elim))) rfl) ?_
      exact run_ret (ev_call0 (S := S_refusals) (d := .bl true) (X := fun _ _ => False) (ea_cons (ev_var rfl) (ea_cons (ev_var rfl) (ea_cons (ev_var rfl) (ea_cons (ev_var rfl) (ea_cons (ev_var rfl) ea_nil))))) ⟨n, arcs, t, at', sl, rfl, rfl, h1, h8, h64, ok, nd1 t (Int.le_refl _) ht.2, rfl, rfl⟩ fun _ _ z => z.elim) (k _)
    refine sq_if (et_test (ev_op (ev_draw (l := l) rfl ev_int (by decide)) ev_int op_neAI)) (fun _ => ?_) fun _ => rest2 _ _ List.length_replicate fun x hx => ?_
    · generalize l.tail = l
      let sl : List Int := (List.range n).map fun i => dv (l.drop i) 10 * 23 % t
      have hsl : sl.length = n := by show (List.map _ _).length = n; rw [List.length_map, List.length_range]
      refine run_asg (d := .lst (iD sl)) (EvN.ev (evN_lc (c := c) (vs := [5]) (wk_rng1 (j := (n : Int)) (ea_cons (ev_var rfl) ea_nil) ⟨by omega, by omega⟩) (iD sl) (fun i => [(p, .lst (iD (l.drop i))), (q, .lst (arcsD arcs))]) (by rw [List.drop_zero]) (by rw [List.length_map, hsl, Int.toNat_natCast]) (by omega) (fun i hi => ?_))) ?_
      · rw [Int.toNat_natCast] at hi
        refine ⟨_, .int (dv (l.drop i) 10 * 23 % t), tg_name, by show (List.map D.int (List.map _ (List.range n)))[i]? = _; rw [List.getElem?_map, List.getElem?_map, List.getElem?_range hi]; rfl, ?_⟩
        have dr := ev_draw (c := c.calm) (Γ := [some (.wl (iD ns)), some (.ptr p), some (.int n), some (.bl great), some (.ptr q), some (.int (i : Nat)), o6, o7, o8, o9, some (.int t), some (.lst (iD (zs n))), none, none]) (te := tC (.int 10)) (l := l.drop i) (m := 10) (Zb := [(q, .lst (arcsD arcs))]) rfl ev_int (by decide)
        rw [List.tail_drop] at dr
        exact ev_op (ev_cb (ea_cons (ev_op dr ev_int (op_mulI cm23)) ea_nil) oc_int1) (ev_var rfl) (op_mod0 (by omega))
      · refine rest2 sl _ hsl fun x hx => ?_
        obtain ⟨j, _, rfl⟩ := List.mem_map.mp hx
        exact ⟨Int.emod_nonneg _ (by omega), Int.emod_lt_of_pos _ (by omega)⟩
    · have hx : x ∈ List.replicate n 0 := hx
      rw [List.mem_replicate] at hx
      rw [hx.2]
      omega
  refine sq_if (et_test (ev_op (ev_draw (l := l) rfl ev_int (by decide)) ev_int op_eqAI)) (fun _ => run_asg ev_int (rest 200 _ (by omega))) fun _ => rest t _ ht
end

section
variable {P : Program} {w : World} {K : PySem.W.Frag} {mg : Str → Option Value} {base : Heap}
theorem okG {x qual : Str} {st : Stmt} {f : Addr} {fd : FuncData} {N ps : List Str} {k : Nat} {Sd : SpD} {t : XK → TS} (F : Fun K x qual st f fd) (S : FnScope N ps (defScope st)) (len : ∀ ds Z P X, Sd ds Z P X → ds.length = ps.length)
    (dv : ∀ (cdv : Value) (A : Around) (outer : List Env) (s : Shared) (H : Hp) (E : XK), A.guards = some [] → Room k (A.deeper (envOfC qual (defScope st) s.heap.objs.size f cdv)) → PSs (cxOf (L2.CX P w) P w K mg base N qual (defScope st) f cdv A outer s H E) (defBody st) (t E))
    (run : ∀ (E : XK) (ds : List D) (Z : Sto) (P : D → Sto → Prop) (X : XP), Sd ds Z P X → Run ⟨K, fun _ => E, fun C fs _ _ => X C fs⟩ (t E) { nx := fun _ Z' => P .non Z', rt := P } (startG N ds) Z) : FnG P w K mg base (k + 1) f fd ps (Pr K Sd) :=
  fnG_of F S (Pr.len len) fun cdv A outer s H vs Q E hg hr h => ⟨_, dv cdv A outer s H E hg hr, body_of h (run E)⟩
theorem okF {x qual : Str} {st : Stmt} {f : Addr} {fd : FuncData} {N ps : List Str} {k : Nat} {Sd : SpD} {t : XK → TS} (F : Fun K x qual st f fd) (S : FnScope N ps (defScope st)) (len : ∀ ds Z P X, Sd ds Z P X → ds.length = ps.length)
    (dv : ∀ (cdv : Value) (A : Around) (outer : List Env) (s : Shared) (H : Hp) (E : XK), Room k (A.deeper (envOfC qual (defScope st) s.heap.objs.size f cdv)) → PSs (cxOf (L2.CX P w) P w K mg base N qual (defScope st) f cdv A outer s H E) (defBody st) (t E))
    (run : ∀ (E : XK) (ds : List D) (Z : Sto) (P : D → Sto → Prop) (X : XP), Sd ds Z P X → Run ⟨K, fun _ => E, fun C fs _ _ => X C fs⟩ (t E) { nx := fun _ Z' => P .non Z', rt := P } (startG N ds) Z) : FnOk P w K mg base (L2.CX P w) (k + 1) f fd ps (Pr K Sd) :=
  F.okX S (Pr.len len) fun cdv A outer s H vs Q E hr h => ⟨_, dv cdv A outer s H E hr, body_of h (run E)⟩
variable (T : Tx K mg)
theorem ok_arc_fits : FnOk P w K mg base (L2.CX P w) 1 T.f_arc_fits T.g_arc_fits P_arc_fits (Pr K S_arc_fits) := okF T.t_arc_fits sc_arc_fits (fun _ _ _ _ ⟨_, _, e, _⟩ => by rw [e]; rfl) (fun _ _ _ _ _ _ hr => dv_arc_fits T hr) fun E ds Z P X h => by
  obtain ⟨rows, a, rfl, rfl, ok, k⟩ := h
  exact run_arc_fits ok k
theorem ok_kept_arcs : FnOk P w K mg base (L2.CX P w) 1 T.f_kept_arcs T.g_kept_arcs P_kept_arcs (Pr K S_kept_arcs) := okF T.t_kept_arcs sc_kept_arcs (fun _ _ _ _ ⟨_, _, e, _⟩ => by rw [e]; rfl) (fun _ _ _ _ _ _ hr => dv_kept_arcs T hr) fun E ds Z P X h => by
  obtain ⟨rows, arcs, rfl, rfl, h8, h64, ok, k⟩ := h
  exact run_kept_arcs h8 h64 ok k
theorem ok_Net : FnOk P w K mg base (L2.CX P w) 3 T.f_Net T.g_Net P_Net (Pr K (S_Net T.a_Net)) := okF T.t_Net sc_Net (fun _ _ _ _ ⟨_, _, _, e, _⟩ => by rw [e]; rfl) (fun _ _ _ _ _ _ hr => dv_Net T (ok_arc_fits T) (ok_kept_arcs T) hr) fun E ds Z P X h => by
  obtain ⟨p, n, arcs, rfl, rfl, h1, h8, h64, ok, k⟩ := h
  exact run_Net T.cl_Net T.n_Net_rows T.n_Net_arcs h1 h8 h64 ok rfl fun _ => k
theorem ok_raise_once : FnG P w K mg base 1 T.f_raise_once T.g_raise_once P_raise_once (Pr K S_raise_once) := okG T.t_raise_once sc_raise_once (fun _ _ _ _ ⟨_, _, _, _, _, _, _, e, _⟩ => by rw [e]; rfl) (fun _ _ _ _ _ _ _ hr => dv_raise_once T hr) fun E ds Z P X h => by
  obtain ⟨x, ss, ED, h, led, p, q, rfl, rfl, hx, hS, hF, hl, k⟩ := h
  exact run_raise_once hx hS hF hl k
theorem ok_row_on_ring : FnG P w K mg base 1 T.f_row_on_ring T.g_row_on_ring P_row_on_ring (Pr K S_row_on_ring) := okG T.t_row_on_ring sc_row_on_ring (fun _ _ _ _ ⟨_, _, _, _, _, e, _⟩ => by rw [e]; rfl) (fun _ _ _ _ _ _ _ hr => dv_row_on_ring T hr) fun E ds Z P X h => by
  obtain ⟨arcs, t, sl, led, q, rfl, rfl, hF, h8, hk, kR, kN⟩ := h
  exact run_row_on_ring hF h8 hk kR kN
theorem ok_ring_back : FnG P w K mg base 1 T.f_ring_back T.g_ring_back P_ring_back (Pr K S_ring_back) := okG T.t_ring_back sc_ring_back (fun _ _ _ _ ⟨_, _, _, _, _, _, _, e, _⟩ => by rw [e]; rfl) (fun _ _ _ _ _ _ _ hr => dv_ring_back T hr) fun E ds Z P X h => by
  obtain ⟨arcs, t, sl, h, led, q, r, rfl, rfl, g, hF, h8, hr, on, k⟩ := h
  exact run_ring_back g hF h8 hr on k
theorem ok_gain_ring : FnG P w K mg base 2 T.f_gain_ring T.g_gain_ring P_gain_ring (Pr K S_gain_ring) := okG T.t_gain_ring sc_gain_ring (fun _ _ _ _ ⟨_, _, _, _, e, _⟩ => by rw [e]; rfl) (fun _ _ _ _ _ _ hg hr => dv_gain_ring T (ok_raise_once T) (ok_row_on_ring T) (ok_ring_back T) hg hr) fun E ds Z P X h => by
  obtain ⟨n, arcs, t, sl, rfl, rfl, h1, h8, hF, kN, kR⟩ := h
  exact run_gain_ring h1 h8 hF rfl kN kR
theorem ok_gain_heights : FnG P w K mg base 2 T.f_gain_heights T.g_gain_heights P_gain_heights (Pr K S_gain_heights) := okG T.t_gain_heights sc_gain_heights (fun _ _ _ _ ⟨_, _, _, _, e, _⟩ => by rw [e]; rfl) (fun _ _ _ _ _ _ hg hr => dv_gain_heights T (ok_raise_once T) hg hr) fun E ds Z P X h => by
  obtain ⟨n, x, ss, ED, rfl, rfl, h1, h8, hx, hS, hF, k⟩ := h
  exact run_gain_heights h1 h8 hx hS hF rfl k
theorem ok_rounded_up : FnG P w K mg base 1 T.f_rounded_up T.g_rounded_up P_rounded_up (Pr K S_rounded_up) := okG T.t_rounded_up sc_rounded_up (fun _ _ _ _ ⟨_, _, e, _⟩ => by rw [e]; rfl) (fun _ _ _ _ _ _ _ hr => dv_rounded_up T hr) fun E ds Z P X h => by
  obtain ⟨i, t, rfl, rfl, ht, k⟩ := h
  exact run_rounded_up ht k
theorem ok_need_slots : FnG P w K mg base 3 T.f_need_slots T.g_need_slots P_need_slots (Pr K (S_need_slots T.a_Net T.a_NoTick T.a_BadSlots)) := okG T.t_need_slots sc_need_slots (fun _ _ _ _ ⟨_, _, _, _, _, e, _⟩ => by rw [e]; rfl) (fun _ _ _ _ _ _ _ hr => dv_need_slots T hr) fun E ds Z P X h => by
  obtain ⟨n, arcs, t, sl, sd, rfl, rfl, hs, k, kx⟩ := h
  exact run_need T.cl_Net T.n_Net_rows T.o_NoTick.ox T.o_NoTick.nf T.o_BadSlots.ox T.o_BadSlots.nf rfl hs (fun e _ => k e) fun r e _ => kx r e
theorem ok_stage_gains : FnG P w K mg base 2 T.f_stage_gains T.g_stage_gains P_stage_gains (Pr K (S_stage_gains T.a_Net)) := okG T.t_stage_gains sc_stage_gains (fun _ _ _ _ ⟨_, _, _, _, _, e, _⟩ => by rw [e]; rfl) (fun _ _ _ _ _ _ hg hr => dv_stage_gains T (ok_rounded_up T) hg hr) fun E ds Z P X h => by
  obtain ⟨n, arcs, t, sl, sd, rfl, rfl, hs, ht, h64, hk, k⟩ := h
  exact run_stage_gains T.cl_Net T.n_Net_arcs hs ht h64 hk k
theorem ok_least : FnG P w K mg base 4 T.f_least_stages T.g_least_stages P_least_stages (Pr K (S_least T.a_Net T.a_NoTick T.a_BadSlots)) := okG T.t_least_stages sc_least_stages (fun _ _ _ _ ⟨_, _, _, _, _, e, _⟩ => by rw [e]; rfl) (fun _ _ _ _ _ _ hg hr => dv_least_stages T (ok_need_slots T) (ok_stage_gains T) (ok_gain_ring T) (ok_gain_heights T) hg hr) fun E ds Z P X h => by
  obtain ⟨n, arcs, t, sl, sd, rfl, rfl, nk, hs, k, kx⟩ := h
  exact run_least T.cl_Net T.n_Net_rows T.n_Net_arcs rfl nk hs k fun r e _ => kx r e
theorem ok_greatest : FnG P w K mg base 4 T.f_greatest_stages T.g_greatest_stages P_greatest_stages (Pr K (S_greatest T.a_Net T.a_NoTick T.a_BadSlots)) := okG T.t_greatest_stages sc_greatest_stages (fun _ _ _ _ ⟨_, _, _, _, _, _, e, _⟩ => by rw [e]; rfl) (fun _ _ _ _ _ _ hg hr => dv_greatest_stages T (ok_need_slots T) (ok_stage_gains T) (ok_gain_ring T) (ok_gain_heights T) hg hr) fun E ds Z P X h => by
  obtain ⟨n, arcs, t, sl, sd, most, rfl, rfl, nk, hs, k, kx, km⟩ := h
  exact run_greatest T.cl_Net T.n_Net_rows T.n_Net_arcs T.o_NoTick.ox T.o_NoTick.nf rfl nk hs k (fun r e _ => kx r e) fun e h _ => km e h
theorem ok_stock : FnG P w K mg base 1 T.f__law_stock T.g__law_stock P__law_stock (Pr K S_stock) := okG T.t__law_stock sc__law_stock (fun _ _ _ _ ⟨_, e, _⟩ => by rw [e]; rfl) (fun _ _ _ _ _ _ _ hr => dv__law_stock T hr) fun E ds Z P X h => by
  obtain ⟨ns, rfl, rfl, h63, k⟩ := h
  exact run_stock h63 k
theorem ok_draw : FnG P w K mg base 1 T.f__law_draw T.g__law_draw P__law_draw (Pr K S_draw) := okG T.t__law_draw sc__law_draw (fun _ _ _ _ ⟨_, _, _, e, _⟩ => by rw [e]; rfl) (fun _ _ _ _ _ _ _ hr => dv__law_draw T hr) fun E ds Z P X h => by
  obtain ⟨p, l, m, rfl, rfl, hm, k⟩ := h
  exact run_draw hm k
theorem ok_law_kept : FnG P w K mg base 1 T.f__law_kept_arcs T.g__law_kept_arcs P__law_kept_arcs (Pr K S_law_kept) := okG T.t__law_kept_arcs sc__law_kept_arcs (fun _ _ _ _ ⟨_, _, e, _⟩ => by rw [e]; rfl) (fun _ _ _ _ _ _ _ hr => dv__law_kept_arcs T hr) fun E ds Z P X h => by
  obtain ⟨rows, arcs, rfl, rfl, h8, h64, ok, k⟩ := h
  exact run_law_kept h8 h64 ok k
theorem ok_law_gain : FnG P w K mg base 1 T.f__law_gain T.g__law_gain P__law_gain (Pr K S_law_gain) := okG T.t__law_gain sc__law_gain (fun _ _ _ _ ⟨_, _, _, _, e, _⟩ => by rw [e]; rfl) (fun _ _ _ _ _ _ _ hr => dv__law_gain T hr) fun E ds Z P X h => by
  obtain ⟨a, t, sl, sd, rfl, rfl, hs, ht, hu, hv, k⟩ := h
  exact run_law_gain hs ht hu hv k
theorem ok_law_least : FnG P w K mg base 2 T.f__law_least T.g__law_least P__law_least (Pr K S_law_least) := okG T.t__law_least sc__law_least (fun _ _ _ _ ⟨_, _, _, _, e, _⟩ => by rw [e]; rfl) (fun _ _ _ _ _ _ hg hr => dv__law_least T (ok_law_gain T) hg hr) fun E ds Z P X h => by
  obtain ⟨n, arcs, t, sl, rfl, rfl, nk, ht, hl, kS, kN⟩ := h
  exact run_law_least nk ht hl rfl kS kN
theorem ok_law_greatest : FnG P w K mg base 2 T.f__law_greatest T.g__law_greatest P__law_greatest (Pr K S_law_greatest) := okG T.t__law_greatest sc__law_greatest (fun _ _ _ _ ⟨_, _, _, _, _, e, _⟩ => by rw [e]; rfl) (fun _ _ _ _ _ _ hg hr => dv__law_greatest T (ok_law_gain T) hg hr) fun E ds Z P X h => by
  obtain ⟨n, arcs, t, sl, most, rfl, rfl, nk, ht, hl, kS, kN⟩ := h
  exact run_law_greatest nk ht hl rfl kS kN
theorem ok_ring_right : FnG P w K mg base 2 T.f__law_ring_right T.g__law_ring_right P__law_ring_right (Pr K S_ring_right) := okG T.t__law_ring_right sc__law_ring_right (fun _ _ _ _ ⟨_, _, _, _, _, e, _⟩ => by rw [e]; rfl) (fun _ _ _ _ _ _ hg hr => dv__law_ring_right T (ok_law_gain T) hg hr) fun E ds Z P X h => by
  obtain ⟨n, arcs, ring, t, sl, rfl, rfl, nk, ht, hl, rk, k⟩ := h
  exact run_ring_right nk ht hl rk rfl k
theorem ok_stages_hold : FnG P w K mg base 2 T.f__law_stages_hold T.g__law_stages_hold P__law_stages_hold (Pr K S_stages_hold) := okG T.t__law_stages_hold sc__law_stages_hold (fun _ _ _ _ ⟨_, _, _, _, _, e, _⟩ => by rw [e]; rfl) (fun _ _ _ _ _ _ hg hr => dv__law_stages_hold T (ok_law_gain T) hg hr) fun E ds Z P X h => by
  obtain ⟨n, arcs, t, sl, st, rfl, rfl, nk, ht, hl, hs, hg, k⟩ := h
  exact run_stages_hold nk ht hl hs rfl hg k
theorem ok_both : FnG P w K mg base 5 T.f__law_both_hold T.g__law_both_hold P__law_both_hold (Pr K S_both) := okG T.t__law_both_hold sc__law_both_hold (fun _ _ _ _ ⟨_, _, _, _, _, e, _⟩ => by rw [e]; rfl) (fun _ _ _ _ _ _ hg hr => dv__law_both_hold T (ok_Net T) (ok_law_kept T) (ok_law_least T) (ok_least T) (ok_greatest T) (ok_ring_right T) (ok_law_greatest T) (ok_stages_hold T) hg hr) fun E ds Z P X h => by
  obtain ⟨n, arcs, t, sl, most, rfl, rfl, h1, h8, h64, ok, hn, hm, k⟩ := h
  exact run_both T.cl_Net T.n_Net_arcs rfl h1 h8 h64 ok hn hm k
theorem ok_word (eTT : PySem.W.exmOne K (.ref T.a_NoTick) (.ref T.a_NoTick) = some true) (eST : PySem.W.exmOne K (.ref T.a_BadSlots) (.ref T.a_NoTick) = some false) (eSS : PySem.W.exmOne K (.ref T.a_BadSlots) (.ref T.a_BadSlots) = some true) :
    FnG P w K mg base 5 T.f__law_word T.g__law_word P__law_word (Pr K (S_word T.a_Net)) := okG T.t__law_word sc__law_word (fun _ _ _ _ ⟨_, _, _, _, _, _, _, e, _⟩ => by rw [e]; rfl) (fun _ _ _ _ _ _ hg hr => dv__law_word T (ok_least T) (ok_greatest T) hg hr) fun E ds Z P X h => by
  obtain ⟨n, arcs, t, most, sl, least, r, rfl, rfl, nk, nm, hr, k⟩ := h
  exact run_word rfl nk nm eTT eST eSS hr k
theorem ok_refusals (eTT : PySem.W.exmOne K (.ref T.a_NoTick) (.ref T.a_NoTick) = some true) (eST : PySem.W.exmOne K (.ref T.a_BadSlots) (.ref T.a_NoTick) = some false) (eSS : PySem.W.exmOne K (.ref T.a_BadSlots) (.ref T.a_BadSlots) = some true) :
    FnG P w K mg base 6 T.f__law_refusals T.g__law_refusals P__law_refusals (Pr K S_refusals) := okG T.t__law_refusals sc__law_refusals (fun _ _ _ _ ⟨_, _, _, _, _, e, _⟩ => by rw [e]; rfl) (fun _ _ _ _ _ _ hg hr => dv__law_refusals T (ok_Net T) (ok_word T eTT eST eSS) hg hr) fun E ds Z P X h => by
  obtain ⟨n, arcs, t, at', sl, rfl, rfl, h1, h8, h64, ok, hn, k⟩ := h
  exact run_refusals rfl h1 h8 h64 ok hn k
theorem ok_made : FnG P w K mg base 6 T.f__law_made_holds T.g__law_made_holds P__law_made_holds (Pr K S_made) := okG T.t__law_made_holds sc__law_made_holds (fun _ _ _ _ ⟨_, _, _, _, e, _⟩ => by rw [e]; rfl) (fun _ _ _ _ _ _ hg hr => dv__law_made_holds T (ok_Net T) (ok_least T) (ok_greatest T) (ok_both T) hg hr) fun E ds Z P X h => by
  obtain ⟨n, t, most, lag, rfl, rfl, h1, h8, ht, hm, hg, k⟩ := h
  exact run_made rfl h1 h8 ht hm hg k
theorem ok_law (eTT : PySem.W.exmOne K (.ref T.a_NoTick) (.ref T.a_NoTick) = some true) (eST : PySem.W.exmOne K (.ref T.a_BadSlots) (.ref T.a_NoTick) = some false) (eSS : PySem.W.exmOne K (.ref T.a_BadSlots) (.ref T.a_BadSlots) = some true) :
    FnG P w K mg base 7 T.f_law T.g_law P_law (Pr K S_law) := okG T.t_law sc_law (fun _ _ _ _ ⟨_, e, _⟩ => by rw [e]; rfl) (fun _ _ _ _ _ _ hg hr => dv_law T (ok_stock T) (ok_draw T) (ok_both T) (ok_made T) (ok_refusals T eTT eST eSS) hg hr) fun E ds Z P X h => by
  obtain ⟨ns, rfl, rfl, h63, k⟩ := h
  exact run_law h63 rfl k
end

theorem kv_least_stages : ∀ {vs : List V} {us : List Value} {zs : List V} {ws : List Value}, Vals vs us → Vals zs ws → Vals (kVleast_stages vs zs) (kUleast_stages us ws)
  | _, _, _, _, .nil, (.cons h0 (.cons h1 (.cons h2 .nil))) => (.cons h2 (.cons h1 (.cons h0 .nil)))
  | _, _, _, _, .cons _ _, _ => .nil
  | _, _, _, _, .nil, .nil => .nil
  | _, _, _, _, .nil, (.cons _ .nil) => .nil
  | _, _, _, _, .nil, (.cons _ (.cons _ .nil)) => .nil
  | _, _, _, _, .nil, (.cons _ (.cons _ (.cons _ (.cons _ _)))) => .nil
/-- what the top has left -/
theorem all_mk {Pg : Program} {w : World} {K : PySem.W.Frag} {h : Heap} {mg : Str → Option Value} {fa : Addr} (X : K.In h) (G : h.Ns mainGlobals mg) (hfa : mg "law" = some (.ref fa))
    {tk_MOST_ROWS : Tok}
    {tk_MOST_ARCS : Tok}
    {tk_MOST_DIST : Tok}
    {tk_MOST_LAG : Tok}
    {tk_MOST_TICKS : Tok}
    {tk_MOST_STAGE : Tok}
    {a_BadNet : Addr}
    {nm_BadNet : Str} {qn_BadNet : Str} {nN_BadNet : Addr} {bs_BadNet : List Value} {bm_BadNet : List Value} {sn_BadNet : List Str} {su_BadNet : List Value} {ab_BadNet : Bool} {co_BadNet : Option Bool} {dd_BadNet : Option Addr} {m0_BadNet : Option Value} {m1_BadNet : Option Value} {m2_BadNet : Option Value} {m3_BadNet : Option Value} {m5_BadNet : Option Value}
    {f_BadNet : Addr} {od_BadNet an_BadNet : Option Addr} {sl_BadNet : Array (Option Value)} {oc_BadNet kV_BadNet dc_BadNet pm_BadNet cd_BadNet ct_BadNet : Value}
    {a_BadSlots : Addr}
    {nm_BadSlots : Str} {qn_BadSlots : Str} {nN_BadSlots : Addr} {bs_BadSlots : List Value} {bm_BadSlots : List Value} {sn_BadSlots : List Str} {su_BadSlots : List Value} {ab_BadSlots : Bool} {co_BadSlots : Option Bool} {dd_BadSlots : Option Addr} {m0_BadSlots : Option Value} {m1_BadSlots : Option Value} {m2_BadSlots : Option Value} {m3_BadSlots : Option Value} {m5_BadSlots : Option Value}
    {f_BadSlots : Addr} {od_BadSlots an_BadSlots : Option Addr} {sl_BadSlots : Array (Option Value)} {oc_BadSlots kV_BadSlots dc_BadSlots pm_BadSlots cd_BadSlots ct_BadSlots : Value}
    {a_NoTick : Addr}
    {nm_NoTick : Str} {qn_NoTick : Str} {nN_NoTick : Addr} {bs_NoTick : List Value} {bm_NoTick : List Value} {sn_NoTick : List Str} {su_NoTick : List Value} {ab_NoTick : Bool} {co_NoTick : Option Bool} {dd_NoTick : Option Addr} {m0_NoTick : Option Value} {m1_NoTick : Option Value} {m2_NoTick : Option Value} {m3_NoTick : Option Value} {m5_NoTick : Option Value}
    {f_NoTick : Addr} {od_NoTick an_NoTick : Option Addr} {sl_NoTick : Array (Option Value)} {oc_NoTick kV_NoTick dc_NoTick pm_NoTick cd_NoTick ct_NoTick : Value}
    {a_Net : Addr}
    {f_Net : Addr} {od_Net an_Net : Option Addr} {sl_Net : Array (Option Value)} {oc_Net kV_Net dc_Net pm_Net cd_Net ct_Net : Value}
    {f_arc_fits : Addr} {od_arc_fits an_arc_fits : Option Addr} {sl_arc_fits : Array (Option Value)} {oc_arc_fits kV_arc_fits dc_arc_fits pm_arc_fits cd_arc_fits ct_arc_fits : Value}
    {f_kept_arcs : Addr} {od_kept_arcs an_kept_arcs : Option Addr} {sl_kept_arcs : Array (Option Value)} {oc_kept_arcs kV_kept_arcs dc_kept_arcs pm_kept_arcs cd_kept_arcs ct_kept_arcs : Value}
    {f_gain_ring : Addr} {od_gain_ring an_gain_ring : Option Addr} {sl_gain_ring : Array (Option Value)} {oc_gain_ring kV_gain_ring dc_gain_ring pm_gain_ring cd_gain_ring ct_gain_ring : Value}
    {f_gain_heights : Addr} {od_gain_heights an_gain_heights : Option Addr} {sl_gain_heights : Array (Option Value)} {oc_gain_heights kV_gain_heights dc_gain_heights pm_gain_heights cd_gain_heights ct_gain_heights : Value}
    {f_raise_once : Addr} {od_raise_once an_raise_once : Option Addr} {sl_raise_once : Array (Option Value)} {oc_raise_once kV_raise_once dc_raise_once pm_raise_once cd_raise_once ct_raise_once : Value}
    {f_row_on_ring : Addr} {od_row_on_ring an_row_on_ring : Option Addr} {sl_row_on_ring : Array (Option Value)} {oc_row_on_ring kV_row_on_ring dc_row_on_ring pm_row_on_ring cd_row_on_ring ct_row_on_ring : Value}
    {f_ring_back : Addr} {od_ring_back an_ring_back : Option Addr} {sl_ring_back : Array (Option Value)} {oc_ring_back kV_ring_back dc_ring_back pm_ring_back cd_ring_back ct_ring_back : Value}
    {f_rounded_up : Addr} {od_rounded_up an_rounded_up : Option Addr} {sl_rounded_up : Array (Option Value)} {oc_rounded_up kV_rounded_up dc_rounded_up pm_rounded_up cd_rounded_up ct_rounded_up : Value}
    {f_need_slots : Addr} {od_need_slots an_need_slots : Option Addr} {sl_need_slots : Array (Option Value)} {oc_need_slots kV_need_slots dc_need_slots pm_need_slots cd_need_slots ct_need_slots : Value}
    {f_stage_gains : Addr} {od_stage_gains an_stage_gains : Option Addr} {sl_stage_gains : Array (Option Value)} {oc_stage_gains kV_stage_gains dc_stage_gains pm_stage_gains cd_stage_gains ct_stage_gains : Value}
    {f_least_stages : Addr} {od_least_stages an_least_stages : Option Addr} {sl_least_stages : Array (Option Value)} {oc_least_stages kV_least_stages dc_least_stages pm_least_stages cd_least_stages ct_least_stages : Value}
    {f_greatest_stages : Addr} {od_greatest_stages an_greatest_stages : Option Addr} {sl_greatest_stages : Array (Option Value)} {oc_greatest_stages kV_greatest_stages dc_greatest_stages pm_greatest_stages cd_greatest_stages ct_greatest_stages : Value}
    {f__law_stock : Addr} {od__law_stock an__law_stock : Option Addr} {sl__law_stock : Array (Option Value)} {oc__law_stock kV__law_stock dc__law_stock pm__law_stock cd__law_stock ct__law_stock : Value}
    {f__law_draw : Addr} {od__law_draw an__law_draw : Option Addr} {sl__law_draw : Array (Option Value)} {oc__law_draw kV__law_draw dc__law_draw pm__law_draw cd__law_draw ct__law_draw : Value}
    {f__law_kept_arcs : Addr} {od__law_kept_arcs an__law_kept_arcs : Option Addr} {sl__law_kept_arcs : Array (Option Value)} {oc__law_kept_arcs kV__law_kept_arcs dc__law_kept_arcs pm__law_kept_arcs cd__law_kept_arcs ct__law_kept_arcs : Value}
    {f__law_gain : Addr} {od__law_gain an__law_gain : Option Addr} {sl__law_gain : Array (Option Value)} {oc__law_gain kV__law_gain dc__law_gain pm__law_gain cd__law_gain ct__law_gain : Value}
    {f__law_least : Addr} {od__law_least an__law_least : Option Addr} {sl__law_least : Array (Option Value)} {oc__law_least kV__law_least dc__law_least pm__law_least cd__law_least ct__law_least : Value}
    {f__law_greatest : Addr} {od__law_greatest an__law_greatest : Option Addr} {sl__law_greatest : Array (Option Value)} {oc__law_greatest kV__law_greatest dc__law_greatest pm__law_greatest cd__law_greatest ct__law_greatest : Value}
    {f__law_ring_right : Addr} {od__law_ring_right an__law_ring_right : Option Addr} {sl__law_ring_right : Array (Option Value)} {oc__law_ring_right kV__law_ring_right dc__law_ring_right pm__law_ring_right cd__law_ring_right ct__law_ring_right : Value}
    {f__law_stages_hold : Addr} {od__law_stages_hold an__law_stages_hold : Option Addr} {sl__law_stages_hold : Array (Option Value)} {oc__law_stages_hold kV__law_stages_hold dc__law_stages_hold pm__law_stages_hold cd__law_stages_hold ct__law_stages_hold : Value}
    {f__law_both_hold : Addr} {od__law_both_hold an__law_both_hold : Option Addr} {sl__law_both_hold : Array (Option Value)} {oc__law_both_hold kV__law_both_hold dc__law_both_hold pm__law_both_hold cd__law_both_hold ct__law_both_hold : Value}
    {f__law_word : Addr} {od__law_word an__law_word : Option Addr} {sl__law_word : Array (Option Value)} {oc__law_word kV__law_word dc__law_word pm__law_word cd__law_word ct__law_word : Value}
    {f__law_refusals : Addr} {od__law_refusals an__law_refusals : Option Addr} {sl__law_refusals : Array (Option Value)} {oc__law_refusals kV__law_refusals dc__law_refusals pm__law_refusals cd__law_refusals ct__law_refusals : Value}
    {f__law_made_holds : Addr} {od__law_made_holds an__law_made_holds : Option Addr} {sl__law_made_holds : Array (Option Value)} {oc__law_made_holds kV__law_made_holds dc__law_made_holds pm__law_made_holds cd__law_made_holds ct__law_made_holds : Value}
    {f_law : Addr} {od_law an_law : Option Addr} {sl_law : Array (Option Value)} {oc_law kV_law dc_law pm_law cd_law ct_law : Value}
    (z_len : PySem.W.nsIn K mainGlobals "len" = some none)
    (z_enumerate : PySem.W.nsIn K mainGlobals "enumerate" = some none)
    (z_max : PySem.W.nsIn K mainGlobals "max" = some none)
    (z_tuple : PySem.W.nsIn K mainGlobals "tuple" = some none)
    (z_sorted : PySem.W.nsIn K mainGlobals "sorted" = some none)
    (z_range : PySem.W.nsIn K mainGlobals "range" = some none)
    (z_abs : PySem.W.nsIn K mainGlobals "abs" = some none)
    (z_int : PySem.W.nsIn K mainGlobals "int" = some none)
    (z_isinstance : PySem.W.nsIn K mainGlobals "isinstance" = some none)
    (z_repr : PySem.W.nsIn K mainGlobals "repr" = some none)
    (z_list : PySem.W.nsIn K mainGlobals "list" = some none)
    (z_min : PySem.W.nsIn K mainGlobals "min" = some none)
    (v_MOST_ROWS : PySem.W.nsIn K mainGlobals "MOST_ROWS" = some (some (.int 8 tk_MOST_ROWS)))
    (v_MOST_ARCS : PySem.W.nsIn K mainGlobals "MOST_ARCS" = some (some (.int 200 tk_MOST_ARCS)))
    (v_MOST_DIST : PySem.W.nsIn K mainGlobals "MOST_DIST" = some (some (.int 40 tk_MOST_DIST)))
    (v_MOST_LAG : PySem.W.nsIn K mainGlobals "MOST_LAG" = some (some (.int 40 tk_MOST_LAG)))
    (v_MOST_TICKS : PySem.W.nsIn K mainGlobals "MOST_TICKS" = some (some (.int 200 tk_MOST_TICKS)))
    (v_MOST_STAGE : PySem.W.nsIn K mainGlobals "MOST_STAGE" = some (some (.int 1000 tk_MOST_STAGE)))
    (g_BadNet : PySem.W.nsIn K mainGlobals "BadNet" = some (some (.ref a_BadNet)))
    (x_BadNet : K.lookup a_BadNet = some (excClassObj nm_BadNet qn_BadNet a_BadNet nN_BadNet bs_BadNet bm_BadNet true sn_BadNet su_BadNet ab_BadNet co_BadNet dd_BadNet m0_BadNet m1_BadNet m2_BadNet m3_BadNet m5_BadNet "ValueError.__new__"))
    (r_BadNet : PySem.HandSPX.refsVE bm_BadNet = true)
    (sa_BadNet : PySem.W.findIn K (.ref a_BadNet) "__setattr__" = some (some (.builtin "object.__setattr__")))
    (ga_BadNet : PySem.W.findIn K (.ref a_BadNet) "__getattribute__" = some (some (.builtin "BaseException.__getattribute__")))
    (gg_BadNet : PySem.W.findIn K (.ref a_BadNet) "__getattr__" = some none)
    (nf_BadNet : PySem.W.findIn K (.ref a_BadNet) "at" = some none)
    (ii_BadNet : PySem.W.findIn K (.ref a_BadNet) "__init__" = some (some (.ref f_BadNet)))
    (l_BadNet : K.lookup f_BadNet = some ⟨oc_BadNet, od_BadNet, .func (PySem.W.fnOf "__init__" "BadNet.__init__" (defArgs s_BadNet) (defBody s_BadNet) (defScope s_BadNet) .none kV_BadNet dc_BadNet pm_BadNet an_BadNet cd_BadNet ct_BadNet), sl_BadNet⟩)
    (c_BadNet : PySem.W.codeIn K cd_BadNet "BadNet.__init__" = true)
    (k_BadNet : PySem.W.keepIn K (.ref f_BadNet) = true)
    (ti_BadNet : PySem.W.typeIn K (.ref f_BadNet) = some (.type "function"))
    (kc_BadNet : PySem.W.keepIn K (.ref a_BadNet) = true)
    (ec_BadNet : PySem.W.subIn K (.ref a_BadNet) (.type "BaseException") = some true)
    (tc_BadNet : PySem.W.typeIn K (.ref a_BadNet) = some (.type "type"))
    (hc_BadNet : PySem.W.hasDictIn K a_BadNet = true)
    (g_BadSlots : PySem.W.nsIn K mainGlobals "BadSlots" = some (some (.ref a_BadSlots)))
    (x_BadSlots : K.lookup a_BadSlots = some (excClassObj nm_BadSlots qn_BadSlots a_BadSlots nN_BadSlots bs_BadSlots bm_BadSlots true sn_BadSlots su_BadSlots ab_BadSlots co_BadSlots dd_BadSlots m0_BadSlots m1_BadSlots m2_BadSlots m3_BadSlots m5_BadSlots "ValueError.__new__"))
    (r_BadSlots : PySem.HandSPX.refsVE bm_BadSlots = true)
    (sa_BadSlots : PySem.W.findIn K (.ref a_BadSlots) "__setattr__" = some (some (.builtin "object.__setattr__")))
    (ga_BadSlots : PySem.W.findIn K (.ref a_BadSlots) "__getattribute__" = some (some (.builtin "BaseException.__getattribute__")))
    (gg_BadSlots : PySem.W.findIn K (.ref a_BadSlots) "__getattr__" = some none)
    (nf_BadSlots : PySem.W.findIn K (.ref a_BadSlots) "row" = some none)
    (ii_BadSlots : PySem.W.findIn K (.ref a_BadSlots) "__init__" = some (some (.ref f_BadSlots)))
    (l_BadSlots : K.lookup f_BadSlots = some ⟨oc_BadSlots, od_BadSlots, .func (PySem.W.fnOf "__init__" "BadSlots.__init__" (defArgs s_BadSlots) (defBody s_BadSlots) (defScope s_BadSlots) .none kV_BadSlots dc_BadSlots pm_BadSlots an_BadSlots cd_BadSlots ct_BadSlots), sl_BadSlots⟩)
    (c_BadSlots : PySem.W.codeIn K cd_BadSlots "BadSlots.__init__" = true)
    (k_BadSlots : PySem.W.keepIn K (.ref f_BadSlots) = true)
    (ti_BadSlots : PySem.W.typeIn K (.ref f_BadSlots) = some (.type "function"))
    (kc_BadSlots : PySem.W.keepIn K (.ref a_BadSlots) = true)
    (ec_BadSlots : PySem.W.subIn K (.ref a_BadSlots) (.type "BaseException") = some true)
    (tc_BadSlots : PySem.W.typeIn K (.ref a_BadSlots) = some (.type "type"))
    (hc_BadSlots : PySem.W.hasDictIn K a_BadSlots = true)
    (g_NoTick : PySem.W.nsIn K mainGlobals "NoTick" = some (some (.ref a_NoTick)))
    (x_NoTick : K.lookup a_NoTick = some (excClassObj nm_NoTick qn_NoTick a_NoTick nN_NoTick bs_NoTick bm_NoTick true sn_NoTick su_NoTick ab_NoTick co_NoTick dd_NoTick m0_NoTick m1_NoTick m2_NoTick m3_NoTick m5_NoTick "ValueError.__new__"))
    (r_NoTick : PySem.HandSPX.refsVE bm_NoTick = true)
    (sa_NoTick : PySem.W.findIn K (.ref a_NoTick) "__setattr__" = some (some (.builtin "object.__setattr__")))
    (ga_NoTick : PySem.W.findIn K (.ref a_NoTick) "__getattribute__" = some (some (.builtin "BaseException.__getattribute__")))
    (gg_NoTick : PySem.W.findIn K (.ref a_NoTick) "__getattr__" = some none)
    (nf_NoTick : PySem.W.findIn K (.ref a_NoTick) "value" = some none)
    (ii_NoTick : PySem.W.findIn K (.ref a_NoTick) "__init__" = some (some (.ref f_NoTick)))
    (l_NoTick : K.lookup f_NoTick = some ⟨oc_NoTick, od_NoTick, .func (PySem.W.fnOf "__init__" "NoTick.__init__" (defArgs s_NoTick) (defBody s_NoTick) (defScope s_NoTick) .none kV_NoTick dc_NoTick pm_NoTick an_NoTick cd_NoTick ct_NoTick), sl_NoTick⟩)
    (c_NoTick : PySem.W.codeIn K cd_NoTick "NoTick.__init__" = true)
    (k_NoTick : PySem.W.keepIn K (.ref f_NoTick) = true)
    (ti_NoTick : PySem.W.typeIn K (.ref f_NoTick) = some (.type "function"))
    (kc_NoTick : PySem.W.keepIn K (.ref a_NoTick) = true)
    (ec_NoTick : PySem.W.subIn K (.ref a_NoTick) (.type "BaseException") = some true)
    (tc_NoTick : PySem.W.typeIn K (.ref a_NoTick) = some (.type "type"))
    (hc_NoTick : PySem.W.hasDictIn K a_NoTick = true)
    (g_Net : PySem.W.nsIn K mainGlobals "Net" = some (some (.ref a_Net)))
    (ii_Net : PySem.W.findIn K (.ref a_Net) "__init__" = some (some (.ref f_Net)))
    (l_Net : K.lookup f_Net = some ⟨oc_Net, od_Net, .func (PySem.W.fnOf "__init__" "Net.__init__" (defArgs s_Net) (defBody s_Net) (defScope s_Net) .none kV_Net dc_Net pm_Net an_Net cd_Net ct_Net), sl_Net⟩)
    (c_Net : PySem.W.codeIn K cd_Net "Net.__init__" = true)
    (k_Net : PySem.W.keepIn K (.ref f_Net) = true)
    (if_Net : PySem.W.isFn K (.ref f_Net) = true)
    (pg_Net : PySem.W.plainGet K a_Net Str.empty = true)
    (hd_Net : PySem.W.hasDictIn K a_Net = true)
    (po_Net : PySem.W.plainOver K a_Net = true)
    (sa_Net : PySem.W.findIn K (.ref a_Net) "__setattr__" = some (some (.builtin "object.__setattr__")))
    (mk_Net : PySem.W.makesIn K a_Net = true)
    (kc_Net : PySem.W.keepIn K (.ref a_Net) = true)
    (nf_Net_rows : PySem.W.findIn K (.ref a_Net) "rows" = some none)
    (nf_Net_arcs : PySem.W.findIn K (.ref a_Net) "arcs" = some none)
    (g_arc_fits : PySem.W.nsIn K mainGlobals "arc_fits" = some (some (.ref f_arc_fits)))
    (l_arc_fits : K.lookup f_arc_fits = some ⟨oc_arc_fits, od_arc_fits, .func (PySem.W.fnOf "arc_fits" "arc_fits" (defArgs s_arc_fits) (defBody s_arc_fits) (defScope s_arc_fits) .none kV_arc_fits dc_arc_fits pm_arc_fits an_arc_fits cd_arc_fits ct_arc_fits), sl_arc_fits⟩)
    (c_arc_fits : PySem.W.codeIn K cd_arc_fits "arc_fits" = true)
    (k_arc_fits : PySem.W.keepIn K (.ref f_arc_fits) = true)
    (g_kept_arcs : PySem.W.nsIn K mainGlobals "kept_arcs" = some (some (.ref f_kept_arcs)))
    (l_kept_arcs : K.lookup f_kept_arcs = some ⟨oc_kept_arcs, od_kept_arcs, .func (PySem.W.fnOf "kept_arcs" "kept_arcs" (defArgs s_kept_arcs) (defBody s_kept_arcs) (defScope s_kept_arcs) .none kV_kept_arcs dc_kept_arcs pm_kept_arcs an_kept_arcs cd_kept_arcs ct_kept_arcs), sl_kept_arcs⟩)
    (c_kept_arcs : PySem.W.codeIn K cd_kept_arcs "kept_arcs" = true)
    (k_kept_arcs : PySem.W.keepIn K (.ref f_kept_arcs) = true)
    (g_gain_ring : PySem.W.nsIn K mainGlobals "gain_ring" = some (some (.ref f_gain_ring)))
    (l_gain_ring : K.lookup f_gain_ring = some ⟨oc_gain_ring, od_gain_ring, .func (PySem.W.fnOf "gain_ring" "gain_ring" (defArgs s_gain_ring) (defBody s_gain_ring) (defScope s_gain_ring) .none kV_gain_ring dc_gain_ring pm_gain_ring an_gain_ring cd_gain_ring ct_gain_ring), sl_gain_ring⟩)
    (c_gain_ring : PySem.W.codeIn K cd_gain_ring "gain_ring" = true)
    (k_gain_ring : PySem.W.keepIn K (.ref f_gain_ring) = true)
    (g_gain_heights : PySem.W.nsIn K mainGlobals "gain_heights" = some (some (.ref f_gain_heights)))
    (l_gain_heights : K.lookup f_gain_heights = some ⟨oc_gain_heights, od_gain_heights, .func (PySem.W.fnOf "gain_heights" "gain_heights" (defArgs s_gain_heights) (defBody s_gain_heights) (defScope s_gain_heights) .none kV_gain_heights dc_gain_heights pm_gain_heights an_gain_heights cd_gain_heights ct_gain_heights), sl_gain_heights⟩)
    (c_gain_heights : PySem.W.codeIn K cd_gain_heights "gain_heights" = true)
    (k_gain_heights : PySem.W.keepIn K (.ref f_gain_heights) = true)
    (g_raise_once : PySem.W.nsIn K mainGlobals "raise_once" = some (some (.ref f_raise_once)))
    (l_raise_once : K.lookup f_raise_once = some ⟨oc_raise_once, od_raise_once, .func (PySem.W.fnOf "raise_once" "raise_once" (defArgs s_raise_once) (defBody s_raise_once) (defScope s_raise_once) .none kV_raise_once dc_raise_once pm_raise_once an_raise_once cd_raise_once ct_raise_once), sl_raise_once⟩)
    (c_raise_once : PySem.W.codeIn K cd_raise_once "raise_once" = true)
    (k_raise_once : PySem.W.keepIn K (.ref f_raise_once) = true)
    (g_row_on_ring : PySem.W.nsIn K mainGlobals "row_on_ring" = some (some (.ref f_row_on_ring)))
    (l_row_on_ring : K.lookup f_row_on_ring = some ⟨oc_row_on_ring, od_row_on_ring, .func (PySem.W.fnOf "row_on_ring" "row_on_ring" (defArgs s_row_on_ring) (defBody s_row_on_ring) (defScope s_row_on_ring) .none kV_row_on_ring dc_row_on_ring pm_row_on_ring an_row_on_ring cd_row_on_ring ct_row_on_ring), sl_row_on_ring⟩)
    (c_row_on_ring : PySem.W.codeIn K cd_row_on_ring "row_on_ring" = true)
    (k_row_on_ring : PySem.W.keepIn K (.ref f_row_on_ring) = true)
    (g_ring_back : PySem.W.nsIn K mainGlobals "ring_back" = some (some (.ref f_ring_back)))
    (l_ring_back : K.lookup f_ring_back = some ⟨oc_ring_back, od_ring_back, .func (PySem.W.fnOf "ring_back" "ring_back" (defArgs s_ring_back) (defBody s_ring_back) (defScope s_ring_back) .none kV_ring_back dc_ring_back pm_ring_back an_ring_back cd_ring_back ct_ring_back), sl_ring_back⟩)
    (c_ring_back : PySem.W.codeIn K cd_ring_back "ring_back" = true)
    (k_ring_back : PySem.W.keepIn K (.ref f_ring_back) = true)
    (g_rounded_up : PySem.W.nsIn K mainGlobals "rounded_up" = some (some (.ref f_rounded_up)))
    (l_rounded_up : K.lookup f_rounded_up = some ⟨oc_rounded_up, od_rounded_up, .func (PySem.W.fnOf "rounded_up" "rounded_up" (defArgs s_rounded_up) (defBody s_rounded_up) (defScope s_rounded_up) .none kV_rounded_up dc_rounded_up pm_rounded_up an_rounded_up cd_rounded_up ct_rounded_up), sl_rounded_up⟩)
    (c_rounded_up : PySem.W.codeIn K cd_rounded_up "rounded_up" = true)
    (k_rounded_up : PySem.W.keepIn K (.ref f_rounded_up) = true)
    (g_need_slots : PySem.W.nsIn K mainGlobals "need_slots" = some (some (.ref f_need_slots)))
    (l_need_slots : K.lookup f_need_slots = some ⟨oc_need_slots, od_need_slots, .func (PySem.W.fnOf "need_slots" "need_slots" (defArgs s_need_slots) (defBody s_need_slots) (defScope s_need_slots) .none kV_need_slots dc_need_slots pm_need_slots an_need_slots cd_need_slots ct_need_slots), sl_need_slots⟩)
    (c_need_slots : PySem.W.codeIn K cd_need_slots "need_slots" = true)
    (k_need_slots : PySem.W.keepIn K (.ref f_need_slots) = true)
    (g_stage_gains : PySem.W.nsIn K mainGlobals "stage_gains" = some (some (.ref f_stage_gains)))
    (l_stage_gains : K.lookup f_stage_gains = some ⟨oc_stage_gains, od_stage_gains, .func (PySem.W.fnOf "stage_gains" "stage_gains" (defArgs s_stage_gains) (defBody s_stage_gains) (defScope s_stage_gains) .none kV_stage_gains dc_stage_gains pm_stage_gains an_stage_gains cd_stage_gains ct_stage_gains), sl_stage_gains⟩)
    (c_stage_gains : PySem.W.codeIn K cd_stage_gains "stage_gains" = true)
    (k_stage_gains : PySem.W.keepIn K (.ref f_stage_gains) = true)
    (g_least_stages : PySem.W.nsIn K mainGlobals "least_stages" = some (some (.ref f_least_stages)))
    (l_least_stages : K.lookup f_least_stages = some ⟨oc_least_stages, od_least_stages, .func (PySem.W.fnOf "least_stages" "least_stages" (defArgs s_least_stages) (defBody s_least_stages) (defScope s_least_stages) .none kV_least_stages dc_least_stages pm_least_stages an_least_stages cd_least_stages ct_least_stages), sl_least_stages⟩)
    (c_least_stages : PySem.W.codeIn K cd_least_stages "least_stages" = true)
    (k_least_stages : PySem.W.keepIn K (.ref f_least_stages) = true)
    (g_greatest_stages : PySem.W.nsIn K mainGlobals "greatest_stages" = some (some (.ref f_greatest_stages)))
    (l_greatest_stages : K.lookup f_greatest_stages = some ⟨oc_greatest_stages, od_greatest_stages, .func (PySem.W.fnOf "greatest_stages" "greatest_stages" (defArgs s_greatest_stages) (defBody s_greatest_stages) (defScope s_greatest_stages) .none kV_greatest_stages dc_greatest_stages pm_greatest_stages an_greatest_stages cd_greatest_stages ct_greatest_stages), sl_greatest_stages⟩)
    (c_greatest_stages : PySem.W.codeIn K cd_greatest_stages "greatest_stages" = true)
    (k_greatest_stages : PySem.W.keepIn K (.ref f_greatest_stages) = true)
    (g__law_stock : PySem.W.nsIn K mainGlobals "_law_stock" = some (some (.ref f__law_stock)))
    (l__law_stock : K.lookup f__law_stock = some ⟨oc__law_stock, od__law_stock, .func (PySem.W.fnOf "_law_stock" "_law_stock" (defArgs s__law_stock) (defBody s__law_stock) (defScope s__law_stock) .none kV__law_stock dc__law_stock pm__law_stock an__law_stock cd__law_stock ct__law_stock), sl__law_stock⟩)
    (c__law_stock : PySem.W.codeIn K cd__law_stock "_law_stock" = true)
    (k__law_stock : PySem.W.keepIn K (.ref f__law_stock) = true)
    (g__law_draw : PySem.W.nsIn K mainGlobals "_law_draw" = some (some (.ref f__law_draw)))
    (l__law_draw : K.lookup f__law_draw = some ⟨oc__law_draw, od__law_draw, .func (PySem.W.fnOf "_law_draw" "_law_draw" (defArgs s__law_draw) (defBody s__law_draw) (defScope s__law_draw) .none kV__law_draw dc__law_draw pm__law_draw an__law_draw cd__law_draw ct__law_draw), sl__law_draw⟩)
    (c__law_draw : PySem.W.codeIn K cd__law_draw "_law_draw" = true)
    (k__law_draw : PySem.W.keepIn K (.ref f__law_draw) = true)
    (g__law_kept_arcs : PySem.W.nsIn K mainGlobals "_law_kept_arcs" = some (some (.ref f__law_kept_arcs)))
    (l__law_kept_arcs : K.lookup f__law_kept_arcs = some ⟨oc__law_kept_arcs, od__law_kept_arcs, .func (PySem.W.fnOf "_law_kept_arcs" "_law_kept_arcs" (defArgs s__law_kept_arcs) (defBody s__law_kept_arcs) (defScope s__law_kept_arcs) .none kV__law_kept_arcs dc__law_kept_arcs pm__law_kept_arcs an__law_kept_arcs cd__law_kept_arcs ct__law_kept_arcs), sl__law_kept_arcs⟩)
    (c__law_kept_arcs : PySem.W.codeIn K cd__law_kept_arcs "_law_kept_arcs" = true)
    (k__law_kept_arcs : PySem.W.keepIn K (.ref f__law_kept_arcs) = true)
    (g__law_gain : PySem.W.nsIn K mainGlobals "_law_gain" = some (some (.ref f__law_gain)))
    (l__law_gain : K.lookup f__law_gain = some ⟨oc__law_gain, od__law_gain, .func (PySem.W.fnOf "_law_gain" "_law_gain" (defArgs s__law_gain) (defBody s__law_gain) (defScope s__law_gain) .none kV__law_gain dc__law_gain pm__law_gain an__law_gain cd__law_gain ct__law_gain), sl__law_gain⟩)
    (c__law_gain : PySem.W.codeIn K cd__law_gain "_law_gain" = true)
    (k__law_gain : PySem.W.keepIn K (.ref f__law_gain) = true)
    (g__law_least : PySem.W.nsIn K mainGlobals "_law_least" = some (some (.ref f__law_least)))
    (l__law_least : K.lookup f__law_least = some ⟨oc__law_least, od__law_least, .func (PySem.W.fnOf "_law_least" "_law_least" (defArgs s__law_least) (defBody s__law_least) (defScope s__law_least) .none kV__law_least dc__law_least pm__law_least an__law_least cd__law_least ct__law_least), sl__law_least⟩)
    (c__law_least : PySem.W.codeIn K cd__law_least "_law_least" = true)
    (k__law_least : PySem.W.keepIn K (.ref f__law_least) = true)
    (g__law_greatest : PySem.W.nsIn K mainGlobals "_law_greatest" = some (some (.ref f__law_greatest)))
    (l__law_greatest : K.lookup f__law_greatest = some ⟨oc__law_greatest, od__law_greatest, .func (PySem.W.fnOf "_law_greatest" "_law_greatest" (defArgs s__law_greatest) (defBody s__law_greatest) (defScope s__law_greatest) .none kV__law_greatest dc__law_greatest pm__law_greatest an__law_greatest cd__law_greatest ct__law_greatest), sl__law_greatest⟩)
    (c__law_greatest : PySem.W.codeIn K cd__law_greatest "_law_greatest" = true)
    (k__law_greatest : PySem.W.keepIn K (.ref f__law_greatest) = true)
    (g__law_ring_right : PySem.W.nsIn K mainGlobals "_law_ring_right" = some (some (.ref f__law_ring_right)))
    (l__law_ring_right : K.lookup f__law_ring_right = some ⟨oc__law_ring_right, od__law_ring_right, .func (PySem.W.fnOf "_law_ring_right" "_law_ring_right" (defArgs s__law_ring_right) (defBody s__law_ring_right) (defScope s__law_ring_right) .none kV__law_ring_right dc__law_ring_right pm__law_ring_right an__law_ring_right cd__law_ring_right ct__law_ring_right), sl__law_ring_right⟩)
    (c__law_ring_right : PySem.W.codeIn K cd__law_ring_right "_law_ring_right" = true)
    (k__law_ring_right : PySem.W.keepIn K (.ref f__law_ring_right) = true)
    (g__law_stages_hold : PySem.W.nsIn K mainGlobals "_law_stages_hold" = some (some (.ref f__law_stages_hold)))
    (l__law_stages_hold : K.lookup f__law_stages_hold = some ⟨oc__law_stages_hold, od__law_stages_hold, .func (PySem.W.fnOf "_law_stages_hold" "_law_stages_hold" (defArgs s__law_stages_hold) (defBody s__law_stages_hold) (defScope s__law_stages_hold) .none kV__law_stages_hold dc__law_stages_hold pm__law_stages_hold an__law_stages_hold cd__law_stages_hold ct__law_stages_hold), sl__law_stages_hold⟩)
    (c__law_stages_hold : PySem.W.codeIn K cd__law_stages_hold "_law_stages_hold" = true)
    (k__law_stages_hold : PySem.W.keepIn K (.ref f__law_stages_hold) = true)
    (g__law_both_hold : PySem.W.nsIn K mainGlobals "_law_both_hold" = some (some (.ref f__law_both_hold)))
    (l__law_both_hold : K.lookup f__law_both_hold = some ⟨oc__law_both_hold, od__law_both_hold, .func (PySem.W.fnOf "_law_both_hold" "_law_both_hold" (defArgs s__law_both_hold) (defBody s__law_both_hold) (defScope s__law_both_hold) .none kV__law_both_hold dc__law_both_hold pm__law_both_hold an__law_both_hold cd__law_both_hold ct__law_both_hold), sl__law_both_hold⟩)
    (c__law_both_hold : PySem.W.codeIn K cd__law_both_hold "_law_both_hold" = true)
    (k__law_both_hold : PySem.W.keepIn K (.ref f__law_both_hold) = true)
    (g__law_word : PySem.W.nsIn K mainGlobals "_law_word" = some (some (.ref f__law_word)))
    (l__law_word : K.lookup f__law_word = some ⟨oc__law_word, od__law_word, .func (PySem.W.fnOf "_law_word" "_law_word" (defArgs s__law_word) (defBody s__law_word) (defScope s__law_word) .none kV__law_word dc__law_word pm__law_word an__law_word cd__law_word ct__law_word), sl__law_word⟩)
    (c__law_word : PySem.W.codeIn K cd__law_word "_law_word" = true)
    (k__law_word : PySem.W.keepIn K (.ref f__law_word) = true)
    (g__law_refusals : PySem.W.nsIn K mainGlobals "_law_refusals" = some (some (.ref f__law_refusals)))
    (l__law_refusals : K.lookup f__law_refusals = some ⟨oc__law_refusals, od__law_refusals, .func (PySem.W.fnOf "_law_refusals" "_law_refusals" (defArgs s__law_refusals) (defBody s__law_refusals) (defScope s__law_refusals) .none kV__law_refusals dc__law_refusals pm__law_refusals an__law_refusals cd__law_refusals ct__law_refusals), sl__law_refusals⟩)
    (c__law_refusals : PySem.W.codeIn K cd__law_refusals "_law_refusals" = true)
    (k__law_refusals : PySem.W.keepIn K (.ref f__law_refusals) = true)
    (g__law_made_holds : PySem.W.nsIn K mainGlobals "_law_made_holds" = some (some (.ref f__law_made_holds)))
    (l__law_made_holds : K.lookup f__law_made_holds = some ⟨oc__law_made_holds, od__law_made_holds, .func (PySem.W.fnOf "_law_made_holds" "_law_made_holds" (defArgs s__law_made_holds) (defBody s__law_made_holds) (defScope s__law_made_holds) .none kV__law_made_holds dc__law_made_holds pm__law_made_holds an__law_made_holds cd__law_made_holds ct__law_made_holds), sl__law_made_holds⟩)
    (c__law_made_holds : PySem.W.codeIn K cd__law_made_holds "_law_made_holds" = true)
    (k__law_made_holds : PySem.W.keepIn K (.ref f__law_made_holds) = true)
    (g_law : PySem.W.nsIn K mainGlobals "law" = some (some (.ref f_law)))
    (l_law : K.lookup f_law = some ⟨oc_law, od_law, .func (PySem.W.fnOf "law" "law" (defArgs s_law) (defBody s_law) (defScope s_law) .none kV_law dc_law pm_law an_law cd_law ct_law), sl_law⟩)
    (c_law : PySem.W.codeIn K cd_law "law" = true)
    (k_law : PySem.W.keepIn K (.ref f_law) = true)
    (s_NoTick_NoTick : PySem.W.subIn K (.ref a_NoTick) (.ref a_NoTick) = some true)
    (s_BadSlots_NoTick : PySem.W.subIn K (.ref a_BadSlots) (.ref a_NoTick) = some false)
    (s_BadSlots_BadSlots : PySem.W.subIn K (.ref a_BadSlots) (.ref a_BadSlots) = some true) :
    ∃ fd : FuncData, (∀ (s : Shared) (v : Value), BindsTo s fd ⟨[v], []⟩ [("script", v)]) ∧ ∀ base : Heap, K.In base → base.Ns mainGlobals mg → FnG Pg w K mg base 7 fa fd ["script"] (Pr K S_law) := by
  have e : f_law = fa := (Value.ref.inj (Option.some.inj (hfa.symm.trans (PySem.W.mg_of X G g_law)))).symm
  subst e
  let T : Tx K mg := {
    b_len := PySem.W.mg_none_of X G z_len,
    b_enumerate := PySem.W.mg_none_of X G z_enumerate,
    b_max := PySem.W.mg_none_of X G z_max,
    b_tuple := PySem.W.mg_none_of X G z_tuple,
    b_sorted := PySem.W.mg_none_of X G z_sorted,
    b_range := PySem.W.mg_none_of X G z_range,
    b_abs := PySem.W.mg_none_of X G z_abs,
    b_int := PySem.W.mg_none_of X G z_int,
    b_isinstance := PySem.W.mg_none_of X G z_isinstance,
    b_repr := PySem.W.mg_none_of X G z_repr,
    b_list := PySem.W.mg_none_of X G z_list,
    b_min := PySem.W.mg_none_of X G z_min,
    c_MOST_ROWS := ⟨_, PySem.W.mg_of X G v_MOST_ROWS⟩,
    c_MOST_ARCS := ⟨_, PySem.W.mg_of X G v_MOST_ARCS⟩,
    c_MOST_DIST := ⟨_, PySem.W.mg_of X G v_MOST_DIST⟩,
    c_MOST_LAG := ⟨_, PySem.W.mg_of X G v_MOST_LAG⟩,
    c_MOST_TICKS := ⟨_, PySem.W.mg_of X G v_MOST_TICKS⟩,
    c_MOST_STAGE := ⟨_, PySem.W.mg_of X G v_MOST_STAGE⟩,
    a_BadNet := a_BadNet,
    m_BadNet := PySem.W.mg_of X G g_BadNet,
    o_BadNet := { fI := f_BadNet, gI := _, ox := ⟨⟨_, _, _, _, _, _, _, _, _, _, _, _, _, _, _, x_BadNet, r_BadNet⟩, sa_BadNet, ec_BadNet, tc_BadNet, kc_BadNet⟩, xf := ⟨ga_BadNet, gg_BadNet, ec_BadNet, hc_BadNet⟩, nf := nf_BadNet, ini := ii_BadNet, tin := ti_BadNet, fn := fun_mk (st := s_BadNet) l_BadNet c_BadNet k_BadNet, bd := (fun_mk (st := s_BadNet) l_BadNet c_BadNet k_BadNet).binds (ps := ["self", "at"]) fun _ _ _ _ _ _ us hl => match us, hl with | [_, _], _ => rfl },
    a_BadSlots := a_BadSlots,
    m_BadSlots := PySem.W.mg_of X G g_BadSlots,
    o_BadSlots := { fI := f_BadSlots, gI := _, ox := ⟨⟨_, _, _, _, _, _, _, _, _, _, _, _, _, _, _, x_BadSlots, r_BadSlots⟩, sa_BadSlots, ec_BadSlots, tc_BadSlots, kc_BadSlots⟩, xf := ⟨ga_BadSlots, gg_BadSlots, ec_BadSlots, hc_BadSlots⟩, nf := nf_BadSlots, ini := ii_BadSlots, tin := ti_BadSlots, fn := fun_mk (st := s_BadSlots) l_BadSlots c_BadSlots k_BadSlots, bd := (fun_mk (st := s_BadSlots) l_BadSlots c_BadSlots k_BadSlots).binds (ps := ["self", "row"]) fun _ _ _ _ _ _ us hl => match us, hl with | [_, _], _ => rfl },
    a_NoTick := a_NoTick,
    m_NoTick := PySem.W.mg_of X G g_NoTick,
    o_NoTick := { fI := f_NoTick, gI := _, ox := ⟨⟨_, _, _, _, _, _, _, _, _, _, _, _, _, _, _, x_NoTick, r_NoTick⟩, sa_NoTick, ec_NoTick, tc_NoTick, kc_NoTick⟩, xf := ⟨ga_NoTick, gg_NoTick, ec_NoTick, hc_NoTick⟩, nf := nf_NoTick, ini := ii_NoTick, tin := ti_NoTick, fn := fun_mk (st := s_NoTick) l_NoTick c_NoTick k_NoTick, bd := (fun_mk (st := s_NoTick) l_NoTick c_NoTick k_NoTick).binds (ps := ["self", "value"]) fun _ _ _ _ _ _ us hl => match us, hl with | [_, _], _ => rfl },
    a_Net := a_Net,
    f_Net := f_Net,
    g_Net := _,
    m_Net := PySem.W.mg_of X G g_Net,
    k_Net := ⟨mk_Net, ii_Net, if_Net, kc_Net⟩,
    cl_Net := ⟨pg_Net, hd_Net, po_Net, sa_Net⟩,
    n_Net_rows := nf_Net_rows,
    n_Net_arcs := nf_Net_arcs,
    t_Net := fun_mk (st := s_Net) l_Net c_Net k_Net,
    i_Net := (fun_mk (st := s_Net) l_Net c_Net k_Net).binds (ps := P_Net) fun _ _ _ _ _ _ us hl => match us, hl with | [_, _, _], _ => rfl,
    f_arc_fits := f_arc_fits,
    g_arc_fits := _,
    m_arc_fits := PySem.W.mg_of X G g_arc_fits,
    t_arc_fits := fun_mk (st := s_arc_fits) l_arc_fits c_arc_fits k_arc_fits,
    d_arc_fits := (fun_mk (st := s_arc_fits) l_arc_fits c_arc_fits k_arc_fits).binds (ps := P_arc_fits) fun _ _ _ _ _ _ us hl => match us, hl with | [_, _], _ => rfl,
    f_kept_arcs := f_kept_arcs,
    g_kept_arcs := _,
    m_kept_arcs := PySem.W.mg_of X G g_kept_arcs,
    t_kept_arcs := fun_mk (st := s_kept_arcs) l_kept_arcs c_kept_arcs k_kept_arcs,
    d_kept_arcs := (fun_mk (st := s_kept_arcs) l_kept_arcs c_kept_arcs k_kept_arcs).binds (ps := P_kept_arcs) fun _ _ _ _ _ _ us hl => match us, hl with | [_], _ => rfl,
    f_gain_ring := f_gain_ring,
    g_gain_ring := _,
    m_gain_ring := PySem.W.mg_of X G g_gain_ring,
    t_gain_ring := fun_mk (st := s_gain_ring) l_gain_ring c_gain_ring k_gain_ring,
    d_gain_ring := (fun_mk (st := s_gain_ring) l_gain_ring c_gain_ring k_gain_ring).binds (ps := P_gain_ring) fun _ _ _ _ _ _ us hl => match us, hl with | [_, _, _], _ => rfl,
    f_gain_heights := f_gain_heights,
    g_gain_heights := _,
    m_gain_heights := PySem.W.mg_of X G g_gain_heights,
    t_gain_heights := fun_mk (st := s_gain_heights) l_gain_heights c_gain_heights k_gain_heights,
    d_gain_heights := (fun_mk (st := s_gain_heights) l_gain_heights c_gain_heights k_gain_heights).binds (ps := P_gain_heights) fun _ _ _ _ _ _ us hl => match us, hl with | [_, _, _], _ => rfl,
    f_raise_once := f_raise_once,
    g_raise_once := _,
    m_raise_once := PySem.W.mg_of X G g_raise_once,
    t_raise_once := fun_mk (st := s_raise_once) l_raise_once c_raise_once k_raise_once,
    d_raise_once := (fun_mk (st := s_raise_once) l_raise_once c_raise_once k_raise_once).binds (ps := P_raise_once) fun _ _ _ _ _ _ us hl => match us, hl with | [_, _, _, _], _ => rfl,
    f_row_on_ring := f_row_on_ring,
    g_row_on_ring := _,
    m_row_on_ring := PySem.W.mg_of X G g_row_on_ring,
    t_row_on_ring := fun_mk (st := s_row_on_ring) l_row_on_ring c_row_on_ring k_row_on_ring,
    d_row_on_ring := (fun_mk (st := s_row_on_ring) l_row_on_ring c_row_on_ring k_row_on_ring).binds (ps := P_row_on_ring) fun _ _ _ _ _ _ us hl => match us, hl with | [_, _], _ => rfl,
    f_ring_back := f_ring_back,
    g_ring_back := _,
    m_ring_back := PySem.W.mg_of X G g_ring_back,
    t_ring_back := fun_mk (st := s_ring_back) l_ring_back c_ring_back k_ring_back,
    d_ring_back := (fun_mk (st := s_ring_back) l_ring_back c_ring_back k_ring_back).binds (ps := P_ring_back) fun _ _ _ _ _ _ us hl => match us, hl with | [_, _, _], _ => rfl,
    f_rounded_up := f_rounded_up,
    g_rounded_up := _,
    m_rounded_up := PySem.W.mg_of X G g_rounded_up,
    t_rounded_up := fun_mk (st := s_rounded_up) l_rounded_up c_rounded_up k_rounded_up,
    d_rounded_up := (fun_mk (st := s_rounded_up) l_rounded_up c_rounded_up k_rounded_up).binds (ps := P_rounded_up) fun _ _ _ _ _ _ us hl => match us, hl with | [_, _], _ => rfl,
    f_need_slots := f_need_slots,
    g_need_slots := _,
    m_need_slots := PySem.W.mg_of X G g_need_slots,
    t_need_slots := fun_mk (st := s_need_slots) l_need_slots c_need_slots k_need_slots,
    d_need_slots := (fun_mk (st := s_need_slots) l_need_slots c_need_slots k_need_slots).binds (ps := P_need_slots) fun _ _ _ _ _ _ us hl => match us, hl with | [_, _, _], _ => rfl,
    f_stage_gains := f_stage_gains,
    g_stage_gains := _,
    m_stage_gains := PySem.W.mg_of X G g_stage_gains,
    t_stage_gains := fun_mk (st := s_stage_gains) l_stage_gains c_stage_gains k_stage_gains,
    d_stage_gains := (fun_mk (st := s_stage_gains) l_stage_gains c_stage_gains k_stage_gains).binds (ps := P_stage_gains) fun _ _ _ _ _ _ us hl => match us, hl with | [_, _, _], _ => rfl,
    f_least_stages := f_least_stages,
    g_least_stages := _,
    m_least_stages := PySem.W.mg_of X G g_least_stages,
    t_least_stages := fun_mk (st := s_least_stages) l_least_stages c_least_stages k_least_stages,
    d_least_stages := (fun_mk (st := s_least_stages) l_least_stages c_least_stages k_least_stages).binds (ps := P_least_stages) fun _ _ _ _ _ _ us hl => match us, hl with | [_, _, _], _ => rfl,
    f_greatest_stages := f_greatest_stages,
    g_greatest_stages := _,
    m_greatest_stages := PySem.W.mg_of X G g_greatest_stages,
    t_greatest_stages := fun_mk (st := s_greatest_stages) l_greatest_stages c_greatest_stages k_greatest_stages,
    d_greatest_stages := (fun_mk (st := s_greatest_stages) l_greatest_stages c_greatest_stages k_greatest_stages).binds (ps := P_greatest_stages) fun _ _ _ _ _ _ us hl => match us, hl with | [_, _, _, _], _ => rfl,
    f__law_stock := f__law_stock,
    g__law_stock := _,
    m__law_stock := PySem.W.mg_of X G g__law_stock,
    t__law_stock := fun_mk (st := s__law_stock) l__law_stock c__law_stock k__law_stock,
    d__law_stock := (fun_mk (st := s__law_stock) l__law_stock c__law_stock k__law_stock).binds (ps := P__law_stock) fun _ _ _ _ _ _ us hl => match us, hl with | [_], _ => rfl,
    f__law_draw := f__law_draw,
    g__law_draw := _,
    m__law_draw := PySem.W.mg_of X G g__law_draw,
    t__law_draw := fun_mk (st := s__law_draw) l__law_draw c__law_draw k__law_draw,
    d__law_draw := (fun_mk (st := s__law_draw) l__law_draw c__law_draw k__law_draw).binds (ps := P__law_draw) fun _ _ _ _ _ _ us hl => match us, hl with | [_, _], _ => rfl,
    f__law_kept_arcs := f__law_kept_arcs,
    g__law_kept_arcs := _,
    m__law_kept_arcs := PySem.W.mg_of X G g__law_kept_arcs,
    t__law_kept_arcs := fun_mk (st := s__law_kept_arcs) l__law_kept_arcs c__law_kept_arcs k__law_kept_arcs,
    d__law_kept_arcs := (fun_mk (st := s__law_kept_arcs) l__law_kept_arcs c__law_kept_arcs k__law_kept_arcs).binds (ps := P__law_kept_arcs) fun _ _ _ _ _ _ us hl => match us, hl with | [_], _ => rfl,
    f__law_gain := f__law_gain,
    g__law_gain := _,
    m__law_gain := PySem.W.mg_of X G g__law_gain,
    t__law_gain := fun_mk (st := s__law_gain) l__law_gain c__law_gain k__law_gain,
    d__law_gain := (fun_mk (st := s__law_gain) l__law_gain c__law_gain k__law_gain).binds (ps := P__law_gain) fun _ _ _ _ _ _ us hl => match us, hl with | [_, _, _], _ => rfl,
    f__law_least := f__law_least,
    g__law_least := _,
    m__law_least := PySem.W.mg_of X G g__law_least,
    t__law_least := fun_mk (st := s__law_least) l__law_least c__law_least k__law_least,
    d__law_least := (fun_mk (st := s__law_least) l__law_least c__law_least k__law_least).binds (ps := P__law_least) fun _ _ _ _ _ _ us hl => match us, hl with | [_, _, _, _], _ => rfl,
    f__law_greatest := f__law_greatest,
    g__law_greatest := _,
    m__law_greatest := PySem.W.mg_of X G g__law_greatest,
    t__law_greatest := fun_mk (st := s__law_greatest) l__law_greatest c__law_greatest k__law_greatest,
    d__law_greatest := (fun_mk (st := s__law_greatest) l__law_greatest c__law_greatest k__law_greatest).binds (ps := P__law_greatest) fun _ _ _ _ _ _ us hl => match us, hl with | [_, _, _, _, _], _ => rfl,
    f__law_ring_right := f__law_ring_right,
    g__law_ring_right := _,
    m__law_ring_right := PySem.W.mg_of X G g__law_ring_right,
    t__law_ring_right := fun_mk (st := s__law_ring_right) l__law_ring_right c__law_ring_right k__law_ring_right,
    d__law_ring_right := (fun_mk (st := s__law_ring_right) l__law_ring_right c__law_ring_right k__law_ring_right).binds (ps := P__law_ring_right) fun _ _ _ _ _ _ us hl => match us, hl with | [_, _, _, _, _], _ => rfl,
    f__law_stages_hold := f__law_stages_hold,
    g__law_stages_hold := _,
    m__law_stages_hold := PySem.W.mg_of X G g__law_stages_hold,
    t__law_stages_hold := fun_mk (st := s__law_stages_hold) l__law_stages_hold c__law_stages_hold k__law_stages_hold,
    d__law_stages_hold := (fun_mk (st := s__law_stages_hold) l__law_stages_hold c__law_stages_hold k__law_stages_hold).binds (ps := P__law_stages_hold) fun _ _ _ _ _ _ us hl => match us, hl with | [_, _, _, _], _ => rfl,
    f__law_both_hold := f__law_both_hold,
    g__law_both_hold := _,
    m__law_both_hold := PySem.W.mg_of X G g__law_both_hold,
    t__law_both_hold := fun_mk (st := s__law_both_hold) l__law_both_hold c__law_both_hold k__law_both_hold,
    d__law_both_hold := (fun_mk (st := s__law_both_hold) l__law_both_hold c__law_both_hold k__law_both_hold).binds (ps := P__law_both_hold) fun _ _ _ _ _ _ us hl => match us, hl with | [_, _, _, _, _], _ => rfl,
    f__law_word := f__law_word,
    g__law_word := _,
    m__law_word := PySem.W.mg_of X G g__law_word,
    t__law_word := fun_mk (st := s__law_word) l__law_word c__law_word k__law_word,
    d__law_word := (fun_mk (st := s__law_word) l__law_word c__law_word k__law_word).binds (ps := P__law_word) fun _ _ _ _ _ _ us hl => match us, hl with | [_, _, _, _, _], _ => rfl,
    f__law_refusals := f__law_refusals,
    g__law_refusals := _,
    m__law_refusals := PySem.W.mg_of X G g__law_refusals,
    t__law_refusals := fun_mk (st := s__law_refusals) l__law_refusals c__law_refusals k__law_refusals,
    d__law_refusals := (fun_mk (st := s__law_refusals) l__law_refusals c__law_refusals k__law_refusals).binds (ps := P__law_refusals) fun _ _ _ _ _ _ us hl => match us, hl with | [_, _, _, _, _], _ => rfl,
    f__law_made_holds := f__law_made_holds,
    g__law_made_holds := _,
    m__law_made_holds := PySem.W.mg_of X G g__law_made_holds,
    t__law_made_holds := fun_mk (st := s__law_made_holds) l__law_made_holds c__law_made_holds k__law_made_holds,
    d__law_made_holds := (fun_mk (st := s__law_made_holds) l__law_made_holds c__law_made_holds k__law_made_holds).binds (ps := P__law_made_holds) fun _ _ _ _ _ _ us hl => match us, hl with | [_, _, _, _], _ => rfl,
    f_law := f_law,
    g_law := _,
    m_law := PySem.W.mg_of X G g_law,
    t_law := fun_mk (st := s_law) l_law c_law k_law,
    d_law := (fun_mk (st := s_law) l_law c_law k_law).binds (ps := P_law) fun _ _ _ _ _ _ us hl => match us, hl with | [_], _ => rfl,
    kb_least_stages := ⟨fun s us ws _ hl => match us, ws, hl with | [], [_, _, _], _ => .of_eq rfl, fun {vs us zs ws} r1 r2 => kv_least_stages r1 r2⟩ }
  have e_NoTick_NoTick : PySem.W.exmOne K (.ref a_NoTick) (.ref a_NoTick) = some true := PySem.W.exm_ref ec_NoTick hc_NoTick tc_NoTick s_NoTick_NoTick
  have e_BadSlots_NoTick : PySem.W.exmOne K (.ref a_BadSlots) (.ref a_NoTick) = some false := PySem.W.exm_ref ec_NoTick hc_NoTick tc_NoTick s_BadSlots_NoTick
  have e_BadSlots_BadSlots : PySem.W.exmOne K (.ref a_BadSlots) (.ref a_BadSlots) = some true := PySem.W.exm_ref ec_BadSlots hc_BadSlots tc_BadSlots s_BadSlots_BadSlots
  exact ⟨_, fun s v => .of_eq rfl, fun base _ _ => ok_law T e_NoTick_NoTick e_BadSlots_NoTick e_BadSlots_BadSlots⟩

theorem law_wish {K : PySem.W.Frag} {h : Hp} {a : Addr} {ns : List Int} (h63 : ns.length ≤ 63) (hS : SqL K h a (ns.map V.int)) : Pr K S_law [.ref a] h (fun v _ => v = .bl true) fun _ _ _ => False := by
  have e : ∀ M : List Addr, M = [] → cut h M = h := fun M m => by
    subst m
    funext b
    exact cut_out List.not_mem_nil
  refine ⟨[], [.wl (iD ns)], [], fun d _ => d = .bl true, fun _ _ => False, ⟨ns, rfl, rfl, h63, fun _ => rfl⟩, ⟨cut_same, fun p hp => (List.not_mem_nil hp).elim, fun p hp => (List.not_mem_nil hp).elim, List.nodup_nil, fun p m hp => (List.not_mem_nil hp).elim⟩, .cons (.wl (xs := ns.map V.int) ?_ (rpInts ns)) .nil, fun d Z' v H' p ok r => ?_, fun C fs dx H' x => x.elim⟩
  · have e2 : im [] h [] = h := e _ rfl
    rw [e2]
    exact hS
  · subst p
    exact r.v_bl
theorem walk_law {l : PySem.W.OpenLaw} {q : Program} {loose : List Str} {XP : (Str → Option Value) → Heap → Prop} {YP : World → Heap → Prop} {d : DefRec} {KW : Params → PySem.W.Frag} (most : l.most = some 63) (plainD : d.params.defaults = [])
    (inY : ∀ (w : World) (h : Heap), YP w h → (KW w.params).In h)
    (pr : ∀ (w : World) (mg : Str → Option Value) (f : Addr) (h : Heap), (KW w.params).In h → h.Ns mainGlobals mg → mg d.name = some (.ref f) → ∃ fd : FuncData, (∀ (s : Shared) (u : Value), BindsTo s fd ⟨[u], []⟩ [("script", u)]) ∧ ∀ bs : Heap, (KW w.params).In bs → bs.Ns mainGlobals mg → FnG l.prog w (KW w.params) mg bs 7 f fd ["script"] (Pr (KW w.params) S_law)) :
    PySem.W.WalkO q loose XP YP l.row.toRowW d [] (fun f vs => PySem.call f vs) :=
  walk_ofG (n := 63) (k := 7) (x := "script") (spw := fun w => Pr (KW w.params) S_law) most (by decide) plainD ⟨rfl, by decide, by decide⟩ inY pr fun w h a ns hl _ hS => law_wish hl hS

end K57

open PySem PySem.W PyProof.Rows
set_option maxHeartbeats 0 in
theorem PySem.Challenge.cw_overlappedloops_k57_stages_for_slots_holds : PySem.Challenge.rw_overlappedloops_k57_stages_for_slots.Holds := by
  w_on; o_law; k_head; (case hw => w_witness2)
  k_fill
  refine K57.walk_law (l := PySem.Challenge.rw_overlappedloops_k57_stages_for_slots) rfl rfl (fun w h Y => PySem.W.kIn_of Y) ?F
  case F =>
    intro w mg fa h KX G hmg
    refine' K57.all_mk KX G hmg ?z_len ?z_enumerate ?z_max ?z_tuple ?z_sorted ?z_range ?z_abs ?z_int ?z_isinstance ?z_repr ?z_list ?z_min ?v_MOST_ROWS ?v_MOST_ARCS ?v_MOST_DIST ?v_MOST_LAG ?v_MOST_TICKS ?v_MOST_STAGE ?g_BadNet ?x_BadNet ?r_BadNet ?sa_BadNet ?ga_BadNet ?gg_BadNet ?nf_BadNet ?ii_BadNet ?l_BadNet ?c_BadNet ?k_BadNet ?ti_BadNet ?kc_BadNet ?ec_BadNet ?tc_BadNet ?hc_BadNet ?g_BadSlots ?x_BadSlots ?r_BadSlots ?sa_BadSlots ?ga_BadSlots ?gg_BadSlots ?nf_BadSlots ?ii_BadSlots ?l_BadSlots ?c_BadSlots ?k_BadSlots ?ti_BadSlots ?kc_BadSlots ?ec_BadSlots ?tc_BadSlots ?hc_BadSlots ?g_NoTick ?x_NoTick ?r_NoTick ?sa_NoTick ?ga_NoTick ?gg_NoTick ?nf_NoTick ?ii_NoTick ?l_NoTick ?c_NoTick ?k_NoTick ?ti_NoTick ?kc_NoTick ?ec_NoTick ?tc_NoTick ?hc_NoTick ?g_Net ?ii_Net ?l_Net ?c_Net ?k_Net ?if_Net ?pg_Net ?hd_Net ?po_Net ?sa_Net ?mk_Net ?kc_Net ?nf_Net_rows ?nf_Net_arcs ?g_arc_fits ?l_arc_fits ?c_arc_fits ?k_arc_fits ?g_kept_arcs ?l_kept_arcs ?c_kept_arcs ?k_kept_arcs ?g_gain_ring ?l_gain_ring ?c_gain_ring ?k_gain_ring ?g_gain_heights ?l_gain_heights ?c_gain_heights ?k_gain_heights ?g_raise_once ?l_raise_once ?c_raise_once ?k_raise_once ?g_row_on_ring ?l_row_on_ring ?c_row_on_ring ?k_row_on_ring ?g_ring_back ?l_ring_back ?c_ring_back ?k_ring_back ?g_rounded_up ?l_rounded_up ?c_rounded_up ?k_rounded_up ?g_need_slots ?l_need_slots ?c_need_slots ?k_need_slots ?g_stage_gains ?l_stage_gains ?c_stage_gains ?k_stage_gains ?g_least_stages ?l_least_stages ?c_least_stages ?k_least_stages ?g_greatest_stages ?l_greatest_stages ?c_greatest_stages ?k_greatest_stages ?g__law_stock ?l__law_stock ?c__law_stock ?k__law_stock ?g__law_draw ?l__law_draw ?c__law_draw ?k__law_draw ?g__law_kept_arcs ?l__law_kept_arcs ?c__law_kept_arcs ?k__law_kept_arcs ?g__law_gain ?l__law_gain ?c__law_gain ?k__law_gain ?g__law_least ?l__law_least ?c__law_least ?k__law_least ?g__law_greatest ?l__law_greatest ?c__law_greatest ?k__law_greatest ?g__law_ring_right ?l__law_ring_right ?c__law_ring_right ?k__law_ring_right ?g__law_stages_hold ?l__law_stages_hold ?c__law_stages_hold ?k__law_stages_hold ?g__law_both_hold ?l__law_both_hold ?c__law_both_hold ?k__law_both_hold ?g__law_word ?l__law_word ?c__law_word ?k__law_word ?g__law_refusals ?l__law_refusals ?c__law_refusals ?k__law_refusals ?g__law_made_holds ?l__law_made_holds ?c__law_made_holds ?k__law_made_holds ?g_law ?l_law ?c_law ?k_law ?s_NoTick_NoTick ?s_BadSlots_NoTick ?s_BadSlots_BadSlots
    case z_len => k_is
    case z_enumerate => k_is
    case z_max => k_is
    case z_tuple => k_is
    case z_sorted => k_is
    case z_range => k_is
    case z_abs => k_is
    case z_int => k_is
    case z_isinstance => k_is
    case z_repr => k_is
    case z_list => k_is
    case z_min => k_is
    case v_MOST_ROWS => k_is
    case v_MOST_ARCS => k_is
    case v_MOST_DIST => k_is
    case v_MOST_LAG => k_is
    case v_MOST_TICKS => k_is
    case v_MOST_STAGE => k_is
    case g_BadNet => k_is
    case x_BadNet => k_is
    case r_BadNet => decide +kernel
    case sa_BadNet => k_is
    case ga_BadNet => k_is
    case gg_BadNet => k_is
    case nf_BadNet => k_is
    case ii_BadNet => k_is
    case l_BadNet => k_is
    case c_BadNet => k_is
    case k_BadNet => k_is
    case ti_BadNet => k_is
    case kc_BadNet => k_is
    case ec_BadNet => k_is
    case tc_BadNet => k_is
    case hc_BadNet => k_is
    case g_BadSlots => k_is
    case x_BadSlots => k_is
    case r_BadSlots => decide +kernel
    case sa_BadSlots => k_is
    case ga_BadSlots => k_is
    case gg_BadSlots => k_is
    case nf_BadSlots => k_is
    case ii_BadSlots => k_is
    case l_BadSlots => k_is
    case c_BadSlots => k_is
    case k_BadSlots => k_is
    case ti_BadSlots => k_is
    case kc_BadSlots => k_is
    case ec_BadSlots => k_is
    case tc_BadSlots => k_is
    case hc_BadSlots => k_is
    case g_NoTick => k_is
    case x_NoTick => k_is
    case r_NoTick => decide +kernel
    case sa_NoTick => k_is
    case ga_NoTick => k_is
    case gg_NoTick => k_is
    case nf_NoTick => k_is
    case ii_NoTick => k_is
    case l_NoTick => k_is
    case c_NoTick => k_is
    case k_NoTick => k_is
    case ti_NoTick => k_is
    case kc_NoTick => k_is
    case ec_NoTick => k_is
    case tc_NoTick => k_is
    case hc_NoTick => k_is
    case g_Net => k_is
    case ii_Net => k_is
    case l_Net => k_is
    case c_Net => k_is
    case k_Net => k_is
    case if_Net => k_is
    case pg_Net => k_is
    case hd_Net => k_is
    case po_Net => k_is
    case sa_Net => k_is
    case mk_Net => k_is
    case kc_Net => k_is
    case nf_Net_rows => k_is
    case nf_Net_arcs => k_is
    case g_arc_fits => k_is
    case l_arc_fits => k_is
    case c_arc_fits => k_is
    case k_arc_fits => k_is
    case g_kept_arcs => k_is
    case l_kept_arcs => k_is
    case c_kept_arcs => k_is
    case k_kept_arcs => k_is
    case g_gain_ring => k_is
    case l_gain_ring => k_is
    case c_gain_ring => k_is
    case k_gain_ring => k_is
    case g_gain_heights => k_is
    case l_gain_heights => k_is
    case c_gain_heights => k_is
    case k_gain_heights => k_is
    case g_raise_once => k_is
    case l_raise_once => k_is
    case c_raise_once => k_is
    case k_raise_once => k_is
    case g_row_on_ring => k_is
    case l_row_on_ring => k_is
    case c_row_on_ring => k_is
    case k_row_on_ring => k_is
    case g_ring_back => k_is
    case l_ring_back => k_is
    case c_ring_back => k_is
    case k_ring_back => k_is
    case g_rounded_up => k_is
    case l_rounded_up => k_is
    case c_rounded_up => k_is
    case k_rounded_up => k_is
    case g_need_slots => k_is
    case l_need_slots => k_is
    case c_need_slots => k_is
    case k_need_slots => k_is
    case g_stage_gains => k_is
    case l_stage_gains => k_is
    case c_stage_gains => k_is
    case k_stage_gains => k_is
    case g_least_stages => k_is
    case l_least_stages => k_is
    case c_least_stages => k_is
    case k_least_stages => k_is
    case g_greatest_stages => k_is
    case l_greatest_stages => k_is
    case c_greatest_stages => k_is
    case k_greatest_stages => k_is
    case g__law_stock => k_is
    case l__law_stock => k_is
    case c__law_stock => k_is
    case k__law_stock => k_is
    case g__law_draw => k_is
    case l__law_draw => k_is
    case c__law_draw => k_is
    case k__law_draw => k_is
    case g__law_kept_arcs => k_is
    case l__law_kept_arcs => k_is
    case c__law_kept_arcs => k_is
    case k__law_kept_arcs => k_is
    case g__law_gain => k_is
    case l__law_gain => k_is
    case c__law_gain => k_is
    case k__law_gain => k_is
    case g__law_least => k_is
    case l__law_least => k_is
    case c__law_least => k_is
    case k__law_least => k_is
    case g__law_greatest => k_is
    case l__law_greatest => k_is
    case c__law_greatest => k_is
    case k__law_greatest => k_is
    case g__law_ring_right => k_is
    case l__law_ring_right => k_is
    case c__law_ring_right => k_is
    case k__law_ring_right => k_is
    case g__law_stages_hold => k_is
    case l__law_stages_hold => k_is
    case c__law_stages_hold => k_is
    case k__law_stages_hold => k_is
    case g__law_both_hold => k_is
    case l__law_both_hold => k_is
    case c__law_both_hold => k_is
    case k__law_both_hold => k_is
    case g__law_word => k_is
    case l__law_word => k_is
    case c__law_word => k_is
    case k__law_word => k_is
    case g__law_refusals => k_is
    case l__law_refusals => k_is
    case c__law_refusals => k_is
    case k__law_refusals => k_is
    case g__law_made_holds => k_is
    case l__law_made_holds => k_is
    case c__law_made_holds => k_is
    case k__law_made_holds => k_is
    case g_law => k_is
    case l_law => k_is
    case c_law => k_is
    case k_law => k_is
    case s_NoTick_NoTick => first | rfl | k_is
    case s_BadSlots_NoTick => first | rfl | k_is
    case s_BadSlots_BadSlots => first | rfl | k_is
