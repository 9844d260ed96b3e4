import PyProof.Rows.All
import Wide.All
import OpenK.AllK
import Wide.FinOn
import HandS.ForMost
import HandS.Wide
import HandS.Codes
import HandS.TupAny
import HandS.Deep
import HandS.IsInst
import HandS.More
import HandS.ForExc
import HandS.ExcInit
import HandS.ExcField
import HandS.ExcIs
import KE.KExcIs
import HandS.SortInts
import HandS.Keys
import KE.KDictCopyH
import HandS.DictTup
import PySem.Challenge.RW_movebook_k73_off_nought
/-! Plain mathematics of forms: association lists of powers and numbers. -/
namespace Mv

/-! ### one unknown: few roots -/
def pe : List Int → Int → Int
  | [], _ => 0
  | a :: as, x => a + x * pe as x
def qt (r : Int) : List Int → List Int
  | [] => []
  | a :: as => pe (a :: as) r :: qt r as
theorem qt_len (r : Int) : ∀ as, (qt r as).length = as.length
  | [] => rfl
  | _ :: as => by simp [qt, qt_len r as]
theorem pe_qt (r x : Int) : ∀ (as : List Int) (a : Int), pe (a :: as) x = (x - r) * pe (qt r as) x + pe (a :: as) r
  | [], a => by simp [pe, qt]
  | b :: bs, a => by
    have ih := pe_qt r x bs b
    simp only [pe, qt] at ih ⊢
    rw [ih]
    grind
theorem qt_zero (r : Int) : ∀ as : List Int, (∀ z ∈ qt r as, z = 0) → ∀ z ∈ as, z = 0
  | [], _ => by simp
  | a :: as, h => by
    have h1 : ∀ z ∈ as, z = 0 := qt_zero r as fun z hz => h z (by simp [qt, hz])
    have h2 : pe (a :: as) r = 0 := h _ (by simp [qt])
    have h3 : pe as r = 0 := by
      cases as with
      | nil => rfl
      | cons b bs => exact h _ (by simp [qt])
    intro z hz
    rcases List.mem_cons.mp hz with e | hz
    · rw [e]
      simp only [pe, h3] at h2
      omega
    · exact h1 z hz
theorem pe_roots : ∀ (n : Nat) (as rs : List Int), as.length = n → as.length ≤ rs.length → rs.Nodup → (∀ r ∈ rs, pe as r = 0) → ∀ z ∈ as, z = 0
  | 0, as, rs, e, _, _, _ => by
    have : as = [] := List.eq_nil_of_length_eq_zero e
    simp [this]
  | n + 1, as, rs, e, hl, nd, hr => by
    match as, rs with
    | [], _ => simp
    | a :: as, [] => simp at hl
    | a :: as, r :: rs =>
      have hn := List.nodup_cons.mp nd
      have q : ∀ z ∈ qt r as, z = 0 := by
        refine pe_roots n (qt r as) rs (by rw [qt_len]; simpa using e) (by rw [qt_len]; simpa using hl) hn.2 fun s hs => ?_
        have e1 := pe_qt r s as a
        rw [hr s (by simp [hs]), hr r (by simp)] at e1
        have ne : s - r ≠ 0 := fun z => hn.1 (by
          have : s = r := by omega
          rwa [← this])
        have e2 : (s - r) * pe (qt r as) s = 0 := by omega
        rcases Int.mul_eq_zero.mp e2 with z | z
        · exact absurd z ne
        · exact z
      have h1 := qt_zero r as q
      have h3 : ∀ as : List Int, (∀ z ∈ as, z = 0) → pe as r = 0 := by
        intro as
        induction as with
        | nil => intro _; rfl
        | cons b bs ih => intro h; simp only [pe]; rw [ih fun z hz => h z (by simp [hz]), h b (by simp)]; simp
      intro z hz
      rcases List.mem_cons.mp hz with e | hz
      · rw [e]
        have := hr r (by simp)
        simp only [pe, h3 as h1] at this
        omega
      · exact h1 z hz

/-! ### forms -/
abbrev Form := List (List Nat × Int)
/-- the number that stands at some powers, all terms together -/
def coef (f : Form) (k : List Nat) : Int := (f.map fun t => if t.1 = k then t.2 else 0).sum
@[simp] theorem coef_nil (k : List Nat) : coef [] k = 0 := rfl
theorem coef_cons (t : List Nat × Int) (f : Form) (k : List Nat) : coef (t :: f) k = (if t.1 = k then t.2 else 0) + coef f k := by simp [coef]
theorem coef_append (f g : Form) (k : List Nat) : coef (f ++ g) k = coef f k + coef g k := by simp [coef]
theorem coef_not (f : Form) (k : List Nat) (h : k ∉ f.map (·.1)) : coef f k = 0 := by
  induction f with
  | nil => rfl
  | cons t f ih =>
    simp only [List.map_cons, List.mem_cons, not_or] at h
    rw [coef_cons, ih h.2, if_neg (fun e => h.1 e.symm)]
    rfl
theorem coef_mem {f : Form} (nd : (f.map (·.1)).Nodup) {t : List Nat × Int} (h : t ∈ f) : coef f t.1 = t.2 := by
  induction f with
  | nil => simp at h
  | cons u f ih =>
    simp only [List.map_cons, List.nodup_cons] at nd
    rw [coef_cons]
    rcases List.mem_cons.mp h with e | h
    · subst e
      rw [if_pos rfl, coef_not f _ nd.1]
      omega
    · rw [if_neg, ih nd.2 h]
      · omega
      · intro e
        exact nd.1 (e ▸ List.mem_map_of_mem h)
theorem coef_perm {f g : Form} (h : f.Perm g) (k : List Nat) : coef f k = coef g k := by
  induction h with
  | nil => rfl
  | cons t _ ih => rw [coef_cons, coef_cons, ih]
  | swap t u _ => simp only [coef_cons]; omega
  | trans _ _ ih1 ih2 => rw [ih1, ih2]

/-- what the program's dict keeps: each powers once, no number nought -/
structure Canon (ts g : Form) : Prop where
  nd : (g.map (·.1)).Nodup
  nz : ∀ t ∈ g, t.2 ≠ 0
  co : ∀ k, coef g k = coef ts k
theorem Canon.mem {ts g : Form} (c : Canon ts g) {t : List Nat × Int} (h : t ∈ g) : t.1 ∈ ts.map (·.1) := by
  refine Classical.byContradiction fun n => ?_
  have e := coef_not ts t.1 n
  rw [← c.co, coef_mem c.nd h] at e
  exact c.nz t h e
theorem Canon.nil_iff {ts g : Form} (c : Canon ts g) : g = [] ↔ ∀ k, coef ts k = 0 := by
  constructor
  · intro e k
    rw [← c.co, e]
    rfl
  · intro h
    cases g with
    | nil => rfl
    | cons t g =>
      have e := coef_mem c.nd (t := t) List.mem_cons_self
      rw [c.co, h] at e
      exact absurd e.symm (c.nz t List.mem_cons_self)
theorem canon_of_nd {g : Form} (nd : (g.map (·.1)).Nodup) (nz : ∀ t ∈ g, t.2 ≠ 0) : Canon g g := ⟨nd, nz, fun _ => rfl⟩

/-! ### worths at whole numbers -/
def mon : List Nat → List Int → Int
  | p :: ps, x :: xs => x ^ p * mon ps xs
  | _, _ => 1
def ev (f : Form) (x : List Int) : Int := (f.map fun t => t.2 * mon t.1 x).sum
@[simp] theorem ev_nil (x : List Int) : ev [] x = 0 := rfl
theorem ev_cons (t : List Nat × Int) (f : Form) (x : List Int) : ev (t :: f) x = t.2 * mon t.1 x + ev f x := by simp [ev]
theorem ev_append (f g : Form) (x : List Int) : ev (f ++ g) x = ev f x + ev g x := by simp [ev]
/-- the sum over some keys -/
theorem sum_zero {α : Type} (l : List α) (f : α → Int) (h : ∀ a ∈ l, f a = 0) : (l.map f).sum = 0 := by
  induction l with
  | nil => rfl
  | cons a l ih => simp only [List.map_cons, List.sum_cons]; rw [h a (by simp), ih fun b hb => h b (by simp [hb])]; rfl
theorem sum_one (ks : List (List Nat)) (nd : ks.Nodup) (t : List Nat × Int) (m : List Nat → Int) (h : t.1 ∈ ks) : (ks.map fun k => (if t.1 = k then t.2 else 0) * m k).sum = t.2 * m t.1 := by
  induction ks with
  | nil => simp at h
  | cons k ks ih =>
    have hn := List.nodup_cons.mp nd
    simp only [List.map_cons, List.sum_cons]
    by_cases e : t.1 = k
    · rw [if_pos e, sum_zero, e]
      · omega
      · intro a ha
        rw [if_neg]
        · simp
        · intro z
          exact hn.1 (by rw [← e, z]; exact ha)
    · rw [if_neg e, ih hn.2]
      · simp
      · rcases List.mem_cons.mp h with z | z
        · exact absurd z e
        · exact z
theorem sum_add {α : Type} (l : List α) (f g : α → Int) : (l.map fun a => f a + g a).sum = (l.map f).sum + (l.map g).sum := by
  induction l with
  | nil => rfl
  | cons a l ih => simp only [List.map_cons, List.sum_cons]; omega
theorem ev_keys (f : Form) (ks : List (List Nat)) (nd : ks.Nodup) (h : ∀ t ∈ f, t.1 ∈ ks) (x : List Int) : ev f x = (ks.map fun k => coef f k * mon k x).sum := by
  induction f with
  | nil => rw [sum_zero]; rfl; intro a _; simp
  | cons t f ih =>
    rw [ev_cons, ih fun u hu => h u (by simp [hu]), ← sum_one ks nd t (fun k => mon k x) (h t (by simp)), ← sum_add]
    congr 1
    refine List.map_congr_left fun k _ => ?_
    rw [coef_cons]
    grind
/-- each key once -/
def keysOf : Form → List (List Nat)
  | [] => []
  | t :: f => if t.1 ∈ keysOf f then keysOf f else t.1 :: keysOf f
theorem keysOf_nd : ∀ f, (keysOf f).Nodup
  | [] => List.nodup_nil
  | t :: f => by
    unfold keysOf
    split
    · exact keysOf_nd f
    · rename_i h
      exact List.nodup_cons.mpr ⟨h, keysOf_nd f⟩
theorem keysOf_mem : ∀ (f : Form) (t : List Nat × Int), t ∈ f → t.1 ∈ keysOf f
  | [], _, h => by simp at h
  | u :: f, t, h => by
    unfold keysOf
    rcases List.mem_cons.mp h with e | h
    · subst e
      split
      · assumption
      · simp
    · have := keysOf_mem f t h
      split
      · exact this
      · simp [this]
/-- a form's worth hangs on its numbers alone -/
theorem ev_coef {f g : Form} (h : ∀ k, coef f k = coef g k) (x : List Int) : ev f x = ev g x := by
  have nd := keysOf_nd (f ++ g)
  rw [ev_keys f _ nd (fun t ht => keysOf_mem _ t (by simp [ht])) x, ev_keys g _ nd (fun t ht => keysOf_mem _ t (by simp [ht])) x]
  congr 1
  exact List.map_congr_left fun k _ => by rw [h k]
theorem Canon.ev {ts g : Form} (c : Canon ts g) (x : List Int) : Mv.ev g x = Mv.ev ts x := ev_coef c.co x

/-! ### a number put in for one unknown -/
def putT (at_ : Nat) (n : Int) (t : List Nat × Int) : List Nat × Int := (t.1.set at_ 0, t.2 * n ^ (t.1.getD at_ 0))
theorem mon_put : ∀ (p : List Nat) (x : List Int) (i : Nat) (n : Int), p.length = x.length → i < p.length → n ^ (p.getD i 0) * mon (p.set i 0) x = mon p (x.set i n)
  | [], _, _, _, _, h => by simp at h
  | _ :: _, [], _, _, h, _ => by simp at h
  | p :: ps, x :: xs, 0, n, _, _ => by simp [mon]
  | p :: ps, x :: xs, i + 1, n, h, hi => by
    have ih := mon_put ps xs i n (by simpa using h) (by simpa using hi)
    simp only [List.set_cons_succ, mon, List.getD_cons_succ]
    rw [← ih]
    grind
theorem ev_put (f : Form) (i : Nat) (n : Int) (x : List Int) (h : ∀ t ∈ f, t.1.length = x.length) (hi : i < x.length) : ev (f.map (putT i n)) x = ev f (x.set i n) := by
  induction f with
  | nil => rfl
  | cons t f ih =>
    rw [List.map_cons, ev_cons, ev_cons, ih fun u hu => h u (by simp [hu])]
    congr 1
    have hl := h t (by simp)
    rw [← mon_put t.1 x i n hl (by omega)]
    simp only [putT]
    grind

/-! ### few whole numbers make a form nought -/
/-- the numbers by the power of one unknown, the other powers being k -/
def dense (f : Form) (i : Nat) (k : List Nat) (D : Nat) : List Int := (List.range (D + 1)).map fun e => coef f (k.set i e)
theorem pe_map_range (g : Nat → Int) (x : Int) : ∀ (m s : Nat), pe ((List.range' s m).map g) x * x ^ s = ((List.range' s m).map fun e => g e * x ^ e).sum
  | 0, s => by simp [pe]
  | m + 1, s => by
    have ih := pe_map_range g x m (s + 1)
    simp only [List.range'_succ, List.map_cons, pe, List.sum_cons]
    rw [← ih]
    grind
theorem pe_dense (f : Form) (i : Nat) (k : List Nat) (D : Nat) (x : Int) : pe (dense f i k D) x = ((List.range (D + 1)).map fun e => coef f (k.set i e) * x ^ e).sum := by
  have := pe_map_range (fun e => coef f (k.set i e)) x (D + 1) 0
  simp only [Int.pow_zero, Int.mul_one] at this
  unfold dense
  rw [List.range_eq_range']
  exact this
theorem sum_range_one (N : Nat) (e0 : Nat) (c : Int) (h : e0 < N) (m : Nat → Int) (P : Nat → Prop) [DecidablePred P] (hp : ∀ e, P e ↔ e = e0) : ((List.range N).map fun e => (if P e then c else 0) * m e).sum = c * m e0 := by
  have aux : ∀ (l : List Nat), l.Nodup → e0 ∈ l → (l.map fun e => (if P e then c else 0) * m e).sum = c * m e0 := by
    intro l
    induction l with
    | nil => simp
    | cons a l ih =>
      intro nd hm
      have hn := List.nodup_cons.mp nd
      simp only [List.map_cons, List.sum_cons]
      by_cases e : a = e0
      · subst e
        rw [if_pos ((hp a).mpr rfl), sum_zero]
        · omega
        · intro b hb
          rw [if_neg]
          · simp
          · intro z
            exact hn.1 (((hp b).mp z) ▸ hb)
      · rw [if_neg fun z => e ((hp a).mp z), ih hn.2 ((List.mem_cons.mp hm).resolve_left fun z => e z.symm)]
        simp
  exact aux _ List.nodup_range (List.mem_range.mpr h)
theorem set_inj_at {p k : List Nat} {i e : Nat} (hl : p.length = k.length) (hi : i < p.length) (h0 : p.set i 0 = k.set i 0) : p = k.set i e ↔ p.getD i 0 = e := by
  constructor
  · intro z
    rw [z]
    simp [List.getD_eq_getElem?_getD, hl ▸ hi]
  · intro z
    apply List.ext_getElem?
    intro j
    have hj := congrArg (fun l => l[j]?) h0
    simp only [List.getElem?_set] at hj ⊢
    by_cases c : i = j
    · subst c
      rw [if_pos rfl, if_pos (hl ▸ hi)]
      rw [List.getD_eq_getElem?_getD, List.getElem?_eq_getElem hi] at z
      rw [List.getElem?_eq_getElem hi]
      exact congrArg some z
    · rw [if_neg c, if_neg c] at hj
      rw [if_neg c]
      exact hj
theorem coef_put_dense (f : Form) (i : Nat) (k : List Nat) (D : Nat) (n : Int) (hk : i < k.length) (h0 : k.set i 0 = k) (hl : ∀ t ∈ f, t.1.length = k.length) (hD : ∀ t ∈ f, t.1.getD i 0 ≤ D) :
    coef (f.map (putT i n)) k = pe (dense f i k D) n := by
  rw [pe_dense]
  induction f with
  | nil => rw [List.map_nil, coef_nil, sum_zero]; intro a _; simp
  | cons t f ih =>
    have ih := ih (fun u hu => hl u (by simp [hu])) fun u hu => hD u (by simp [hu])
    rw [List.map_cons, coef_cons, ih]
    have e1 : ((List.range (D + 1)).map fun e => coef (t :: f) (k.set i e) * n ^ e).sum = ((List.range (D + 1)).map fun e => (if t.1 = k.set i e then t.2 else 0) * n ^ e + coef f (k.set i e) * n ^ e).sum := by
      congr 1
      refine List.map_congr_left fun e _ => ?_
      rw [coef_cons]
      grind
    rw [e1, sum_add]
    congr 1
    have hlt := hl t (by simp)
    by_cases c : t.1.set i 0 = k
    · have e2 : ∀ e, t.1 = k.set i e ↔ e = t.1.getD i 0 := fun e => by
        rw [set_inj_at hlt (by omega) (by rw [c, h0])]
        exact eq_comm
      rw [sum_range_one (D + 1) (t.1.getD i 0) t.2 (by have := hD t (by simp); omega) (fun e => n ^ e) (fun e => t.1 = k.set i e) e2]
      show (if t.1.set i 0 = k then t.2 * n ^ (t.1.getD i 0) else 0) = _
      rw [if_pos c]
    · rw [sum_zero]
      · show (if t.1.set i 0 = k then t.2 * n ^ (t.1.getD i 0) else 0) = _
        rw [if_neg c]
      · intro e _
        rw [if_neg]
        · simp
        · intro z
          apply c
          rw [z, List.set_set]
          exact h0
/-- a form that is not nought becomes nought at no more numbers than its greatest power -/
theorem few_bad {f : Form} {i D m : Nat} (nd : (f.map (·.1)).Nodup) (nz : ∀ t ∈ f, t.2 ≠ 0) (hl : ∀ t ∈ f, t.1.length = m) (hi : i < m) (hD : ∀ t ∈ f, t.1.getD i 0 ≤ D) (hf : f ≠ [])
    (ns : List Int) (hn : ns.Nodup) (hb : ∀ n ∈ ns, ∀ k, coef (f.map (putT i n)) k = 0) : ns.length ≤ D := by
  refine Classical.byContradiction fun hlt => ?_
  obtain ⟨t, f', e⟩ := List.exists_cons_of_ne_nil hf
  have ht : t ∈ f := by rw [e]; simp
  have hlt' := hl t ht
  let k := t.1.set i 0
  have hk : k.length = m := by simp [k, hlt']
  have z := pe_roots (D + 1) (dense f i k D) ns (by simp [dense]) (by simp [dense]; omega) hn fun n hn' => by
    rw [← coef_put_dense f i k D n (by omega) (by simp [k]) (fun u hu => by rw [hl u hu, hk]) hD]
    exact hb n hn' k
  have q : coef f (k.set i (t.1.getD i 0)) = 0 := z _ (List.mem_map.mpr ⟨t.1.getD i 0, List.mem_range.mpr (by have := hD t ht; omega), rfl⟩)
  have e3 : k.set i (t.1.getD i 0) = t.1 := ((set_inj_at (p := t.1) (k := k) (by omega) (by omega) (by simp [k])).mpr rfl).symm
  rw [e3, coef_mem nd ht] at q
  exact nz t ht q
/-- .. and several such forms at no more than all together -/
theorem few_bad_all {ι : Type} (L : List ι) (B : ι → Int → Prop) (D : ι → Nat) (h : ∀ f ∈ L, ∀ ns : List Int, ns.Nodup → (∀ n ∈ ns, B f n) → ns.length ≤ D f) :
    ∀ ns : List Int, ns.Nodup → (∀ n ∈ ns, ∃ f ∈ L, B f n) → ns.length ≤ (L.map D).sum := by
  induction L with
  | nil =>
    intro ns _ hb
    cases ns with
    | nil => simp
    | cons n _ => obtain ⟨f, hf, _⟩ := hb n (by simp); simp at hf
  | cons f L ih =>
    intro ns nd hb
    have dec : DecidablePred (B f) := fun _ => Classical.propDecidable _
    have h1 := h f (by simp) (ns.filter fun n => decide (B f n)) (nd.filter _) fun n hn => by simpa using (List.mem_filter.mp hn).2
    have h2 := ih (fun g hg => h g (by simp [hg])) (ns.filter fun n => !decide (B f n)) (nd.filter _) fun n hn => by
      obtain ⟨hm, hq⟩ := List.mem_filter.mp hn
      obtain ⟨g, hg, hB⟩ := hb n hm
      rcases List.mem_cons.mp hg with e | hg
      · subst e
        simp [hB] at hq
      · exact ⟨g, hg, hB⟩
    have h3 : ns.length = (ns.filter fun n => decide (B f n)).length + (ns.filter fun n => !decide (B f n)).length := by
      clear h1 h2 nd hb
      induction ns with
      | nil => rfl
      | cons n ns ih =>
        by_cases c : B f n
        · simp [c, ih]; omega
        · simp [c, ih]; omega
    simp only [List.map_cons, List.sum_cons]
    omega
/-- so one of the first whole numbers is good -/
theorem good_below {ι : Type} (L : List ι) (B : ι → Int → Prop) (D : ι → Nat) (h : ∀ f ∈ L, ∀ ns : List Int, ns.Nodup → (∀ n ∈ ns, B f n) → ns.length ≤ D f) (N : Nat)
    (hb : ∀ n : Nat, n < N → ∃ f ∈ L, B f (n : Int)) : N ≤ (L.map D).sum := by
  have := few_bad_all L B D h ((List.range N).map Int.ofNat) (by
    refine List.Pairwise.map _ ?_ List.nodup_range
    intro a b ne z
    exact ne (Int.ofNat.inj z)) fun n hn => by
      obtain ⟨m, hm, e⟩ := List.mem_map.mp hn
      rw [← e]
      exact hb m (List.mem_range.mp hm)
  simpa using this
end Mv

namespace Mv
/-! ### sizes -/
theorem nodup_sub_len {α : Type} [DecidableEq α] : ∀ {l m : List α}, l.Nodup → (∀ a ∈ l, a ∈ m) → l.length ≤ m.length
  | [], _, _, _ => Nat.zero_le _
  | a :: l, m, nd, h => by
    have hn := List.nodup_cons.mp nd
    have ha : a ∈ m := h a (by simp)
    have e := List.length_erase_of_mem ha
    have hp := List.length_pos_of_mem ha
    have ih := nodup_sub_len (l := l) (m := m.erase a) hn.2 fun b hb => (List.mem_erase_of_ne (fun z => by rw [z] at hb; exact hn.1 hb)).mpr (h b (by simp [hb]))
    simp only [List.length_cons]
    omega
theorem Canon.len {ts g : Form} (c : Canon ts g) : g.length ≤ ts.length := by
  have := nodup_sub_len (l := g.map (·.1)) (m := ts.map (·.1)) c.nd fun k hk => by
    obtain ⟨t, ht, e⟩ := List.mem_map.mp hk
    exact e ▸ c.mem ht
  simpa using this
theorem coef_le (f : Form) (B : Nat) (h : ∀ t ∈ f, t.2.natAbs ≤ B) (k : List Nat) : (coef f k).natAbs ≤ f.length * B := by
  induction f with
  | nil => simp
  | cons t f ih =>
    have ih := ih fun u hu => h u (by simp [hu])
    have ht := h t (by simp)
    rw [coef_cons, List.length_cons, Nat.succ_mul]
    split
    · omega
    · omega
structure FF (m T b D : Nat) (f : Form) : Prop where
  len : f.length ≤ T
  ar : ∀ t ∈ f, t.1.length = m
  deg : ∀ t ∈ f, ∀ p ∈ t.1, p ≤ D
  cf : ∀ t ∈ f, t.2.natAbs < 2 ^ b
theorem FF.mono {m T b D T' b' D' : Nat} {f : Form} (h : FF m T b D f) (h1 : T ≤ T') (h2 : b ≤ b') (h3 : D ≤ D') : FF m T' b' D' f :=
  ⟨Nat.le_trans h.len h1, h.ar, fun t ht p hp => Nat.le_trans (h.deg t ht p hp) h3, fun t ht => Nat.lt_of_lt_of_le (h.cf t ht) (Nat.pow_le_pow_right (by decide) h2)⟩
theorem Canon.ff {ts g : Form} (c : Canon ts g) {m T b D s : Nat} (h : FF m T b D ts) (hT : T ≤ 2 ^ s) : FF m T (b + s) D g := by
  have hk : ∀ t ∈ g, ∃ u ∈ ts, u.1 = t.1 := fun t ht => by
    obtain ⟨u, hu, e⟩ := List.mem_map.mp (c.mem ht)
    exact ⟨u, hu, e⟩
  refine ⟨Nat.le_trans c.len h.len, fun t ht => ?_, fun t ht p hp => ?_, fun t ht => ?_⟩
  · obtain ⟨u, hu, e⟩ := hk t ht
    rw [← e]
    exact h.ar u hu
  · obtain ⟨u, hu, e⟩ := hk t ht
    exact h.deg u hu p (e ▸ hp)
  · have e := coef_mem c.nd ht
    rw [c.co] at e
    have q := coef_le ts (2 ^ b - 1) (fun u hu => by have := h.cf u hu; omega) t.1
    rw [e] at q
    have p1 : 0 < 2 ^ b := Nat.pow_pos (by decide)
    have p2 : 0 < 2 ^ s := Nat.pow_pos (by decide)
    have r : ts.length * (2 ^ b - 1) ≤ 2 ^ s * (2 ^ b - 1) := Nat.mul_le_mul_right _ (Nat.le_trans h.len hT)
    have r2 : 2 ^ s * (2 ^ b - 1) < 2 ^ s * 2 ^ b := Nat.mul_lt_mul_of_pos_left (by omega) p2
    rw [Nat.pow_add, Nat.mul_comm (2 ^ b)]
    omega
theorem pow_abs_le {n : Int} {B p D : Nat} (h : n.natAbs ≤ 2 ^ B) (hp : p ≤ D) : (n ^ p).natAbs ≤ 2 ^ (B * D) := by
  rw [Int.natAbs_pow]
  calc n.natAbs ^ p ≤ (2 ^ B) ^ p := Nat.pow_le_pow_left h p
    _ = 2 ^ (B * p) := (Nat.pow_mul 2 B p).symm
    _ ≤ 2 ^ (B * D) := Nat.pow_le_pow_right (by decide) (Nat.mul_le_mul_left _ hp)
theorem mul_lt_pow {a b : Int} {x y : Nat} (ha : a.natAbs < 2 ^ x) (hb : b.natAbs ≤ 2 ^ y) : (a * b).natAbs < 2 ^ (x + y) := by
  rw [Int.natAbs_mul, Nat.pow_add]
  have p2 : 0 < 2 ^ y := Nat.pow_pos (by decide)
  exact Nat.lt_of_le_of_lt (Nat.mul_le_mul_left _ hb) (Nat.mul_lt_mul_of_pos_right ha p2)
theorem mem_set0 {l : List Nat} {i p : Nat} (h : p ∈ l.set i 0) : p ∈ l ∨ p = 0 := by
  rcases List.mem_or_eq_of_mem_set h with z | z
  · exact .inl z
  · exact .inr z
theorem FF.put {m T b D : Nat} {f : Form} (h : FF m T b D f) (i B : Nat) (n : Int) (hn : n.natAbs ≤ 2 ^ B) : FF m T (b + B * D) D (f.map (putT i n)) := by
  refine ⟨by simpa using h.len, fun t ht => ?_, fun t ht p hp => ?_, fun t ht => ?_⟩
  all_goals obtain ⟨u, hu, rfl⟩ := List.mem_map.mp ht
  · simp [putT, h.ar u hu]
  · rcases mem_set0 (show p ∈ u.1.set i 0 from hp) with z | z
    · exact h.deg u hu p z
    · omega
  · refine mul_lt_pow (h.cf u hu) (pow_abs_le hn ?_)
    by_cases c : i < u.1.length
    · rw [List.getD_eq_getElem?_getD, List.getElem?_eq_getElem c]
      exact h.deg u hu _ (List.getElem_mem c)
    · rw [List.getD_eq_getElem?_getD, List.getElem?_eq_none (by omega)]
      exact Nat.zero_le _
/-- products of terms -/
def mulT (f g : Form) : Form := f.flatMap fun t => g.map fun u => (List.zipWith (· + ·) t.1 u.1, t.2 * u.2)
theorem mon_add : ∀ (p q : List Nat) (x : List Int), p.length = x.length → q.length = x.length → mon (List.zipWith (· + ·) p q) x = mon p x * mon q x
  | [], [], [], _, _ => rfl
  | p :: ps, q :: qs, x :: xs, h1, h2 => by
    have ih := mon_add ps qs xs (by simpa using h1) (by simpa using h2)
    simp only [List.zipWith_cons_cons, mon, ih]
    rw [Int.pow_add]
    grind
  | [], [], _ :: _, h, _ => by simp at h
  | [], _ :: _, [], _, h => by simp at h
  | [], _ :: _, _ :: _, h, _ => by simp at h
  | _ :: _, [], [], h, _ => by simp at h
  | _ :: _, [], _ :: _, _, h => by simp at h
  | _ :: _, _ :: _, [], h, _ => by simp at h
theorem ev_mulT (f g : Form) (x : List Int) (hf : ∀ t ∈ f, t.1.length = x.length) (hg : ∀ t ∈ g, t.1.length = x.length) : ev (mulT f g) x = ev f x * ev g x := by
  have one : ∀ (t : List Nat × Int), t.1.length = x.length → ∀ g : Form, (∀ u ∈ g, u.1.length = x.length) → ev (g.map fun u => (List.zipWith (· + ·) t.1 u.1, t.2 * u.2)) x = t.2 * mon t.1 x * ev g x := by
    intro t ht g
    induction g with
    | nil => intro _; simp
    | cons u g ih =>
      intro h
      rw [List.map_cons, ev_cons, ev_cons, ih fun v hv => h v (by simp [hv]), mon_add _ _ _ ht (h u (by simp))]
      grind
  induction f with
  | nil => simp [mulT]
  | cons t f ih =>
    have ih := ih fun u hu => hf u (by simp [hu])
    unfold mulT at ih ⊢
    rw [List.flatMap_cons, ev_append, ih, one t (hf t (by simp)) g hg, ev_cons]
    grind
theorem FF.mul {m T b D T' b' D' : Nat} {f g : Form} (h : FF m T b D f) (h' : FF m T' b' D' g) : FF m (T * T') (b + b') (D + D') (mulT f g) := by
  have hl : (mulT f g).length = f.length * g.length := by
    unfold mulT
    induction f with
    | nil => simp
    | cons t f ih =>
      rw [List.flatMap_cons, List.length_append, ih ⟨Nat.le_trans (by simp) h.len, fun u hu => h.ar u (by simp [hu]), fun u hu => h.deg u (by simp [hu]), fun u hu => h.cf u (by simp [hu])⟩]
      simp [Nat.succ_mul, Nat.add_comm]
  have all : ∀ t ∈ mulT f g, ∃ u ∈ f, ∃ v ∈ g, t = (List.zipWith (· + ·) u.1 v.1, u.2 * v.2) := fun t ht => by
    unfold mulT at ht
    obtain ⟨u, hu, ht⟩ := List.mem_flatMap.mp ht
    obtain ⟨v, hv, e⟩ := List.mem_map.mp ht
    exact ⟨u, hu, v, hv, e.symm⟩
  refine ⟨by rw [hl]; exact Nat.mul_le_mul h.len h'.len, fun t ht => ?_, fun t ht p hp => ?_, fun t ht => ?_⟩
  all_goals obtain ⟨u, hu, v, hv, rfl⟩ := all t ht
  · simp [h.ar u hu, h'.ar v hv]
  · obtain ⟨i, hi, e⟩ := List.getElem_of_mem hp
    simp only [List.getElem_zipWith] at e
    rw [← e]
    exact Nat.add_le_add (h.deg u hu _ (List.getElem_mem _)) (h'.deg v hv _ (List.getElem_mem _))
  · exact mul_lt_pow (h.cf u hu) (Nat.le_of_lt (h'.cf v hv))
end Mv

/-! Whole numbers with which no form of a list is nought: plain mathematics. -/
namespace Mv
def mxl (l : List Nat) : Nat := l.foldr max 0
theorem mxl_mem : ∀ {l : List Nat} {p : Nat}, p ∈ l → p ≤ mxl l
  | [], _, h => by simp at h
  | a :: l, p, h => by
    simp only [mxl, List.foldr_cons]
    rcases List.mem_cons.mp h with e | h
    · omega
    · have := mxl_mem h
      unfold mxl at this
      omega
theorem mxl_le : ∀ {l : List Nat} {B : Nat}, (∀ p ∈ l, p ≤ B) → mxl l ≤ B
  | [], _, _ => Nat.zero_le _
  | a :: l, B, h => by
    have h1 := mxl_le (l := l) (B := B) fun p hp => h p (by simp [hp])
    have h2 := h a (by simp)
    simp only [mxl, List.foldr_cons]
    unfold mxl at h1
    omega
/-- a form's greatest power -/
def mp (f : Form) : Nat := mxl (f.map fun t => mxl t.1)
theorem mp_mem {f : Form} {t : List Nat × Int} (h : t ∈ f) {p : Nat} (hp : p ∈ t.1) : p ≤ mp f := Nat.le_trans (mxl_mem hp) (mxl_mem (List.mem_map_of_mem (f := fun t : List Nat × Int => mxl t.1) h))
theorem mp_getD {f : Form} {t : List Nat × Int} (h : t ∈ f) (i : Nat) : t.1.getD i 0 ≤ mp f := by
  rw [List.getD_eq_getElem?_getD]
  cases e : t.1[i]? with
  | none => exact Nat.zero_le _
  | some p => exact mp_mem h (List.mem_of_getElem? e)
theorem mp_le {f : Form} {D : Nat} (h : ∀ t ∈ f, ∀ p ∈ t.1, p ≤ D) : mp f ≤ D := mxl_le fun p hp => by
  obtain ⟨t, ht, rfl⟩ := List.mem_map.mp hp
  exact mxl_le (h t ht)
structure Stp (many k T b D : Nat) (nums : List Int) (f g : Form) : Prop where
  nd : (g.map (·.1)).Nodup
  nz : ∀ t ∈ g, t.2 ≠ 0
  ne : g ≠ []
  ff : FF many T b D g
  zero : ∀ t ∈ g, ∀ i, i < k → t.1.getD i 0 = 0
  deg : ∀ t ∈ g, ∀ i, t.1.getD i 0 ≤ mp f
  ev : ∀ x : List Int, x.length = many → ev g x = Mv.ev f (nums ++ x.drop k)
theorem stp_start {many T b D : Nat} {f : Form} (nd : (f.map (·.1)).Nodup) (nz : ∀ t ∈ f, t.2 ≠ 0) (ne : f ≠ []) (ff : FF many T b D f) : Stp many 0 T b D [] f f :=
  ⟨nd, nz, ne, ff, fun _ _ i hi => absurd hi (Nat.not_lt_zero i), fun t ht i => mp_getD ht i, fun x _ => by simp⟩
theorem getD_set_ne {l : List Nat} {i j : Nat} (h : i ≠ j) : (l.set i 0).getD j 0 = l.getD j 0 := by
  rw [List.getD_eq_getElem?_getD, List.getD_eq_getElem?_getD, List.getElem?_set_ne h]
theorem getD_set_self {l : List Nat} {i : Nat} : (l.set i 0).getD i 0 = 0 := by
  rw [List.getD_eq_getElem?_getD, List.getElem?_set]
  split
  · split <;> rfl
  · rename_i h
    exact absurd rfl h
theorem stp_put {many k T b D B s : Nat} {nums : List Int} {f g g' : Form} {n : Int} (h : Stp many k T b D nums f g) (hk : k < many) (hl : nums.length = k) (hn : n.natAbs ≤ 2 ^ B) (hs : T ≤ 2 ^ s) (c : Canon (g.map (putT k n)) g') (ne : g' ≠ []) :
    Stp many (k + 1) T (b + B * D + s) D (nums ++ [n]) f g' := by
  have key : ∀ t ∈ g', ∃ u ∈ g, t.1 = u.1.set k 0 := fun t ht => by
    obtain ⟨u, hu, e⟩ := List.mem_map.mp (c.mem ht)
    obtain ⟨v, hv, rfl⟩ := List.mem_map.mp hu
    exact ⟨v, hv, e.symm⟩
  refine ⟨c.nd, c.nz, ne, c.ff (h.ff.put k B n hn) hs, fun t ht i hi => ?_, fun t ht i => ?_, fun x hx => ?_⟩
  · obtain ⟨u, hu, e⟩ := key t ht
    rw [e]
    by_cases z : k = i
    · rw [z, getD_set_self]
    · rw [getD_set_ne z]
      exact h.zero u hu i (by omega)
  · obtain ⟨u, hu, e⟩ := key t ht
    rw [e]
    by_cases z : k = i
    · rw [z, getD_set_self]
      exact Nat.zero_le _
    · rw [getD_set_ne z]
      exact h.deg u hu i
  · rw [c.ev, ev_put g k n x (fun t ht => by rw [h.ff.ar t ht, hx]) (by omega), h.ev _ (by rw [List.length_set, hx])]
    congr 1
    rw [List.append_assoc]
    congr 1
    rw [List.drop_set, if_neg (by omega), Nat.sub_self]
    have : x.drop k = x[k] :: x.drop (k + 1) := List.drop_eq_getElem_cons (by omega)
    rw [this]
    rfl
theorem mon_zero : ∀ (p : List Nat) (x : List Int), (∀ i, i < p.length → p.getD i 0 = 0) → mon p x = 1
  | [], _, _ => by simp [mon]
  | _ :: _, [], _ => by simp [mon]
  | a :: p, x :: xs, h => by
    have h0 := h 0 (by simp)
    simp only [List.getD_cons_zero] at h0
    have ih := mon_zero p xs fun i hi => by
      have := h (i + 1) (by simpa using hi)
      simpa using this
    simp [mon, h0, ih]
theorem zero_eq {p : List Nat} {m : Nat} (hl : p.length = m) (h : ∀ i, i < m → p.getD i 0 = 0) : p = List.replicate m 0 := by
  apply List.ext_getElem?
  intro i
  by_cases hi : i < m
  · have := h i hi
    rw [List.getD_eq_getElem?_getD, List.getElem?_eq_getElem (by omega)] at this
    rw [List.getElem?_eq_getElem (by omega), List.getElem?_replicate, if_pos hi]
    exact congrArg some this
  · rw [List.getElem?_eq_none (by omega), List.getElem?_replicate, if_neg hi]
theorem stp_end {many T b D : Nat} {nums : List Int} {f g : Form} (h : Stp many many T b D nums f g) (hl : nums.length = many) : ev f nums ≠ 0 := by
  have e := h.ev (List.replicate many 0) (by simp)
  rw [List.drop_of_length_le (by simp), List.append_nil] at e
  rw [← e]
  obtain ⟨t, g', rfl⟩ := List.exists_cons_of_ne_nil h.ne
  have z : ∀ u ∈ t :: g', u.1 = List.replicate many 0 := fun u hu => zero_eq (h.ff.ar u hu) (h.zero u hu)
  have g0 : g' = [] := by
    cases g' with
    | nil => rfl
    | cons u g' =>
      have nd := h.nd
      simp only [List.map_cons, List.nodup_cons, List.mem_cons, not_or] at nd
      exact absurd ((z t (by simp)).trans (z u (by simp)).symm) nd.1.1
  subst g0
  rw [ev_cons, ev_nil, mon_zero _ _ (fun i hi => h.zero t (by simp) i (by rw [h.ff.ar t (by simp)] at hi; exact hi))]
  have := h.nz t (by simp)
  omega
/-- the numbers that are tried in vain are few -/
theorem stp_few {many k T b D : Nat} {nums : List Int} (hk : k < many) (N : Nat) (ps : List (Form × Form)) (h : ∀ q ∈ ps, Stp many k T b D nums q.1 q.2)
    (hb : ∀ m : Nat, m < N → ∃ q ∈ ps, ∀ key, coef (q.2.map (putT k (m : Int))) key = 0) : N ≤ (ps.map fun q => mp q.1).sum :=
  good_below ps (fun q n => ∀ key, coef (q.2.map (putT k n)) key = 0) (fun q => mp q.1) (fun q hq ns hn hz =>
    few_bad (h q hq).nd (h q hq).nz (h q hq).ff.ar hk (fun t ht => (h q hq).deg t ht k) (h q hq).ne ns hn hz) N hb
structure Good (many : Nat) (fs : List Form) (nums : List Int) : Prop where
  len : nums.length = many
  bd : ∀ n ∈ nums, 0 ≤ n ∧ n ≤ ((fs.map mp).sum : Nat)
  ok : ∀ f ∈ fs, ev f nums ≠ 0
end Mv

set_option Elab.async false
set_option linter.all false
set_option maxRecDepth 100000
set_option maxHeartbeats 4000000
/-! What stands in the heap: forms and their terms; promises of defs. -/
namespace Mv
open PySem PySem.Spec PyProof.Rows L2

/-! ### heaps -/
def Tups (H H' : Hp) : Prop := ∀ a xs, H a = some (.tup xs) → H' a = some (.tup xs)
theorem Tups.refl (H : Hp) : Tups H H := fun _ _ h => h
theorem Tups.trans {H H1 H2 : Hp} (a : Tups H H1) (b : Tups H1 H2) : Tups H H2 := fun c o h => b c o (a c o h)
theorem tups_of_same {H H' : Hp} (s : Same H H') : Tups H H' := fun a xs h => s a _ h
theorem same_new {H : Hp} {p : Addr} {o : HO} (h : H p = none) : Same H (upd H p o) := fun b x e => by
  rw [upd_ne (ne_of_none e h)]
  exact e
/-- an object that H does not know may change -/
theorem same_mut {H H' : Hp} {p : Addr} {o : HO} (s : Same H H') (h : H p = none) : Same H (upd H' p o) := fun b x e => by
  rw [upd_ne (ne_of_none e h)]
  exact s b x e
theorem tups_upd {H : Hp} {p : Addr} {o u : HO} (h : H p = some u) (hu : ∀ xs, u ≠ .tup xs) : Tups H (upd H p o) := fun b x e => by
  by_cases c : b = p
  · subst c
    rw [h] at e
    exact absurd (Option.some.inj e) (hu x)
  · rw [upd_ne c]
    exact e
theorem tups_new {H : Hp} {p : Addr} {o : HO} (h : H p = none) : Tups H (upd H p o) := tups_of_same (same_new h)
theorem ne_fresh {H : Hp} {t r : Addr} {o : HO} (h : upd H t o r = none) : t ≠ r := fun e => by
  rw [← e, upd_same] at h
  cases h
theorem sqT {K : PySem.W.Frag} {H : Hp} {a : Addr} {xs : List V} (h : H a = some (.tup xs)) : SqT K H a xs := .inl (.inl h)
theorem sqL {K : PySem.W.Frag} {H : Hp} {a : Addr} {xs : List V} (h : H a = some (.lst xs)) : SqL K H a xs := .inl (.inl h)
theorem sz {n : Nat} (h : n ≤ 1000000) : n ≤ sizeLine := Nat.le_trans h (by decide)
theorem szl {n : Nat} (h : n < 1000000) : n < sizeLine := Nat.lt_of_lt_of_le h (by decide)

/-! ### values -/
theorem Paired.get {α β : Type} {F : α → β → Prop} : ∀ {l : List α} {m : List β} {i : Nat} {x : α}, Paired F l m → l[i]? = some x → ∃ y, m[i]? = some y ∧ F x y
  | _, _, i, x, .nil, h => by simp at h
  | _, _, 0, x, .cons f _, h => by
    simp only [List.getElem?_cons_zero, Option.some.injEq] at h
    subst h
    exact ⟨_, rfl, f⟩
  | _, _, i + 1, x, .cons _ t, h => by
    simp only [List.getElem?_cons_succ] at h ⊢
    exact Paired.get t h
theorem Paired.getR {α β : Type} {F : α → β → Prop} : ∀ {l : List α} {m : List β} {i : Nat} {y : β}, Paired F l m → m[i]? = some y → ∃ x, l[i]? = some x ∧ F x y
  | _, _, i, x, .nil, h => by simp at h
  | _, _, 0, x, .cons f _, h => by
    simp only [List.getElem?_cons_zero, Option.some.injEq] at h
    subst h
    exact ⟨_, rfl, f⟩
  | _, _, i + 1, x, .cons _ t, h => by
    simp only [List.getElem?_cons_succ] at h ⊢
    exact Paired.getR t h
theorem Paired.len {α β : Type} {F : α → β → Prop} : ∀ {l : List α} {m : List β}, Paired F l m → l.length = m.length
  | _, _, .nil => rfl
  | _, _, .cons _ t => by simp [Paired.len t]
theorem Paired.imp {α β : Type} {F G : α → β → Prop} (h : ∀ a b, F a b → G a b) : ∀ {l : List α} {m : List β}, Paired F l m → Paired G l m
  | _, _, .nil => .nil
  | _, _, .cons f t => .cons (h _ _ f) (Paired.imp h t)
theorem Paired.snoc' {α β : Type} {F : α → β → Prop} {a : α} {b : β} (f : F a b) : ∀ {l : List α} {m : List β}, Paired F l m → Paired F (l ++ [a]) (m ++ [b])
  | _, _, .nil => .cons f .nil
  | _, _, .cons g t => .cons g (Paired.snoc' f t)
theorem Paired.take' {α β : Type} {F : α → β → Prop} : ∀ {l : List α} {m : List β} (n : Nat), Paired F l m → Paired F (l.take n) (m.take n)
  | _, _, 0, _ => by simpa using Paired.nil
  | _, _, n + 1, .nil => .nil
  | _, _, n + 1, .cons f t => .cons f (Paired.take' n t)
theorem Paired.drop' {α β : Type} {F : α → β → Prop} : ∀ {l : List α} {m : List β} (n : Nat), Paired F l m → Paired F (l.drop n) (m.drop n)
  | _, _, 0, h => by simpa using h
  | _, _, n + 1, .nil => .nil
  | _, _, n + 1, .cons _ t => Paired.drop' n t
theorem Paired.app' {α β : Type} {F : α → β → Prop} {l2 : List α} {m2 : List β} (h2 : Paired F l2 m2) : ∀ {l : List α} {m : List β}, Paired F l m → Paired F (l ++ l2) (m ++ m2)
  | _, _, .nil => h2
  | _, _, .cons f t => .cons f (Paired.app' h2 t)
theorem Paired.set' {α β : Type} {F : α → β → Prop} {a : α} {b : β} (f : F a b) : ∀ {l : List α} {m : List β} (n : Nat), Paired F l m → Paired F (l.set n a) (m.set n b)
  | _, _, _, .nil => .nil
  | _, _, 0, .cons _ t => .cons f t
  | _, _, n + 1, .cons g t => .cons g (Paired.set' f n t)
theorem ixN_lt {n j : Nat} (hj : j < n) : ixN n (j : Int) = some j := by
  unfold ixN
  rw [if_pos (by omega), if_pos (by omega)]
  rfl
abbrev pwV (p : List Nat) : List V := p.map fun (n : Nat) => V.int n
abbrev pwK (p : List Nat) : List Key := p.map fun (n : Nat) => Sum.inl (n : Int)
theorem pwK_V (p : List Nat) : (pwK p).map kV = pwV p := by simp [pwK, pwV, kV]
theorem pwK_inj : ∀ {p q : List Nat}, pwK p = pwK q → p = q
  | [], [], _ => rfl
  | [], _ :: _, h => by simp at h
  | _ :: _, [], h => by simp at h
  | a :: p, b :: q, h => by
    simp only [pwK, List.map_cons, List.cons.injEq, Sum.inl.injEq] at h
    rw [pwK_inj (p := p) (q := q) h.2]
    congr 1
    omega
/-- the powers p stand at a -/
def PwV (H : Hp) (v : V) (p : List Nat) : Prop := ∃ a, v = .ref a ∧ H a = some (.tup (pwV p))
/-- the term t stands at v -/
def TmV (H : Hp) (v : V) (t : List Nat × Int) : Prop := ∃ a p, v = .ref a ∧ H a = some (.tup [.ref p, .int t.2]) ∧ H p = some (.tup (pwV t.1))
/-- the form f stands at v -/
def FmV (H : Hp) (v : V) (f : Form) : Prop := ∃ a xs, v = .ref a ∧ H a = some (.tup xs) ∧ Paired (TmV H) xs f
theorem PwV.mono {H H' : Hp} {v : V} {p : List Nat} (s : Tups H H') : PwV H v p → PwV H' v p := fun ⟨a, e, h⟩ => ⟨a, e, s _ _ h⟩
theorem TmV.mono {H H' : Hp} {v : V} {t : List Nat × Int} (s : Tups H H') : TmV H v t → TmV H' v t := fun ⟨a, p, e, h1, h2⟩ => ⟨a, p, e, s _ _ h1, s _ _ h2⟩
theorem FmV.mono {H H' : Hp} {v : V} {f : Form} (s : Tups H H') : FmV H v f → FmV H' v f := fun ⟨a, xs, e, h1, h2⟩ => ⟨a, xs, e, s _ _ h1, Paired.imp (fun _ _ => TmV.mono s) h2⟩
abbrev FmsV (H : Hp) (vs : List V) (fs : List Form) : Prop := Paired (FmV H) vs fs
theorem FmsV.mono {H H' : Hp} {vs : List V} {fs : List Form} (s : Tups H H') (h : FmsV H vs fs) : FmsV H' vs fs := Paired.imp (fun _ _ => FmV.mono s) h

/-! ### promises -/
/-- the module's name x holds a def that keeps the promise sp -/
def Prom (P : Program) (w : World) (K : PySem.W.Frag) (mg : Str → Option Value) (base : Heap) (CX : CXT) (k : Nat) (x : Str) (ps : List Str) (sp : Sp) : Prop :=
  ∃ f fd, mg x = some (.ref f) ∧ PySem.W.keepIn K (.ref f) = true ∧ Binds K fd ps [] ∧ FnOk P w K mg base CX k f fd ps sp
/-- the module's name x holds the def that stands at st -/
def Has (K : PySem.W.Frag) (mg : Str → Option Value) (x : Str) (ps : List Str) (st : Stmt) : Prop := ∃ f fd, mg x = some (.ref f) ∧ Binds K fd ps [] ∧ Fun K x x st f fd
theorem Has.prom {P : Program} {w : World} {K : PySem.W.Frag} {mg : Str → Option Value} {base : Heap} {CX : CXT} {k : Nat} {x : Str} {ps : List Str} {st : Stmt} {sp : Sp} (h : Has K mg x ps st)
    (ok : ∀ f fd, Fun K x x st f fd → FnOk P w K mg base CX k f fd ps sp) : Prom P w K mg base CX k x ps sp := by
  obtain ⟨f, fd, g, b, F⟩ := h
  exact ⟨f, fd, g, F.kp, b, ok f fd F⟩
theorem has_mk {K : PySem.W.Frag} {h : Heap} {mg : Str → Option Value} {x : Str} {ps : List Str} {st : Stmt} {f : Addr} {oc : Value} {od an : Option Addr} {osl : Array (Option Value)} {kV doc pm cdv ct : Value} (X : K.In h) (G : h.Ns mainGlobals mg)
    (a : PySem.W.nsIn K mainGlobals x = some (some (.ref f)))
    (l : K.lookup f = some ⟨oc, od, .func (PySem.W.fnOf x x (defArgs st) (defBody st) (defScope st) .none kV doc pm an cdv ct), osl⟩) (c : PySem.W.codeIn K cdv x = true) (k : PySem.W.keepIn K (.ref f) = true)
    (b : ∀ (kV doc pm : Value) (an : Option Addr) (cdv ct : Value) (us : List Value), us.length = ps.length → bindArgs (PySem.W.fnOf x x (defArgs st) (defBody st) (defScope st) .none kV doc pm an cdv ct) ⟨us, []⟩ = pure (ps.zip us)) : Has K mg x ps st :=
  ⟨f, _, PySem.W.mg_of X G a, (fun_mk (st := st) l c k).binds b, fun_mk (st := st) l c k⟩
end Mv

set_option Elab.async false
set_option linter.all false
set_option maxRecDepth 100000
set_option maxHeartbeats 4000000
/-! Operations on whole numbers that hand on a letter. -/
namespace Mv
open PySem PySem.Spec PyProof.Rows L2
theorem opMono {X : Cx} {f : Value → Value → Sem Value} {r r' : R2} (h : OpR X f r) (m : ∀ x y H Q, r' x y H Q → r x y H Q) : OpR X f r' := fun pins s σ H x y v u Q I rx ry q => h pins s σ H x y v u Q I rx ry (m x y H Q q)
section
variable {X : Cx}
def rModR : R2 := fun x y H Q => ∃ i j : Int, x = .int i ∧ y = .int j ∧ 0 < j ∧ ∀ r : Int, 0 ≤ r → r < j → r = i % j → Q (.int r) H
theorem op_modR : OpR X (binaryOp .Mod) rModR := opMono op_modN fun x y H Q ⟨i, j, e1, e2, hj, q⟩ => by
  have e : i.fmod j = i % j := Int.fmod_eq_emod_of_nonneg i (by omega)
  refine ⟨i, j, e1, e2, by show j ≠ 0; omega, ?_⟩
  show Q (.int (i.fmod j)) H
  rw [e]
  exact q _ (Int.emod_nonneg i (by omega)) (Int.emod_lt_of_pos i hj) rfl
def rDivR : R2 := fun x y H Q => ∃ i j : Int, x = .int i ∧ y = .int j ∧ 0 < j ∧ j ≤ 4611686018427387904 ∧ ∀ z : Int, z = i / j → (0 ≤ i → 0 ≤ z) → Q (.int z) H
theorem op_divR : OpR X (binaryOp .FloorDiv) rDivR := opMono op_fdivW fun x y H Q ⟨i, j, e1, e2, hj, hb, q⟩ =>
  ⟨i, j, e1, e2, wide_div hj (b := 63) (Nat.lt_of_lt_of_le (show j.natAbs < 4611686018427387905 by omega) (by decide)) (by decide) (by decide), q _ rfl fun h => Int.ediv_nonneg h (by omega)⟩
/-- i ** j of small numbers -/
def rPowR : R2 := fun x y H Q => ∃ i j : Int, x = .int i ∧ y = .int j ∧ CPow i j ∧ ∀ z : Int, z = i ^ j.toNat → Q (.int z) H
theorem op_powR : OpR X (binaryOp .Pow) rPowR := opMono op_pow fun x y H Q ⟨i, j, e1, e2, hc, q⟩ => ⟨i, j, e1, e2, hc, q _ rfl⟩
/-- i * j, one of both small -/
def rMulR : R2 := fun x y H Q => ∃ i j : Int, x = .int i ∧ y = .int j ∧ CMul i j ∧ ∀ z : Int, z = i * j → Q (.int z) H
theorem op_mulR : OpR X (binaryOp .Mult) rMulR := opMono op_mul fun x y H Q ⟨i, j, e1, e2, hc, q⟩ => ⟨i, j, e1, e2, hc, q _ rfl⟩
/-- i + j -/
def rAddR : R2 := fun x y H Q => ∃ i j : Int, x = .int i ∧ y = .int j ∧ ∀ z : Int, z = i + j → Q (.int z) H
theorem op_addR : OpR X (binaryOp .Add) rAddR := opMono op_add fun x y H Q ⟨i, j, e1, e2, q⟩ => ⟨i, j, e1, e2, q _ rfl⟩
def rSubR : R2 := fun x y H Q => ∃ i j : Int, x = .int i ∧ y = .int j ∧ ∀ z : Int, z = i - j → Q (.int z) H
theorem op_subR : OpR X (binaryOp .Sub) rSubR := opMono op_sub fun x y H Q ⟨i, j, e1, e2, q⟩ => ⟨i, j, e1, e2, q _ rfl⟩
/-- i * j of any size that fits -/
def rMulWR : R2 := fun x y H Q => ∃ i j : Int, x = .int i ∧ y = .int j ∧ CMulW i j ∧ ∀ z : Int, z = i * j → Q (.int z) H
theorem op_mulWR : OpR X (binaryOp .Mult) rMulWR := opMono op_mulW fun x y H Q ⟨i, j, e1, e2, hc, q⟩ => ⟨i, j, e1, e2, hc, q _ rfl⟩
end
/-! ### the rules with the written part named -/
section
variable {X : Cx} {K : PySem.W.Frag}
/-- tuple(xs), list(xs), len(xs) -/
def rTupOf (K : PySem.W.Frag) : List V → Hp → VK → Prop := fun xs H Q => ∃ p ys, xs = [.ref p] ∧ ((SqL K H p ys ∧ ∀ l, H l = none → Q (.ref l) (upd H l (.tup ys))) ∨ (SqT K H p ys ∧ Q (.ref p) H))
theorem cr_tupOf (h : X.K = K) : CallR X (.type "tuple") (rTupOf K) := by subst h; exact call_tuple_of
def rLstOf (K : PySem.W.Frag) : List V → Hp → VK → Prop := fun xs H Q => ∃ p ys, xs = [.ref p] ∧ (SqL K H p ys ∨ SqT K H p ys) ∧ ∀ l, H l = none → Q (.ref l) (upd H l (.lst ys))
theorem cr_lstOf (h : X.K = K) : CallR X (.type "list") (rLstOf K) := by subst h; exact call_list_of
def rLenOf (K : PySem.W.Frag) : List V → Hp → VK → Prop := fun xs H Q => ∃ p ys, xs = [.ref p] ∧ (SqL K H p ys ∨ SqT K H p ys) ∧ Q (.int ys.length) H
theorem cr_lenOf (h : X.K = K) : CallR X (.builtin "len") (rLenOf K) := by subst h; exact call_len_seq
theorem cr_sumK (h : X.K = K) (hc : X.calm = true) : CallR X (.builtin "sum") (rSum K) := by subst h; exact cr_sum hc
theorem cr_maxK (h : X.K = K) (hc : X.calm = true) : CallR X (.builtin "max") (rMax K) := by subst h; exact cr_max hc
theorem cr_minK' (h : X.K = K) (hc : X.calm = true) : CallR X (.builtin "min") (rMin K) := by subst h; exact cr_min hc
theorem ix_listK (h : X.K = K) : IxR X (rIxL K) := by subst h; exact ix_list
theorem ix_tupK (h : X.K = K) : IxR X (rIxT K) := by subst h; exact ix_tup
theorem sl_listK (h : X.K = K) : SlR X (rSlL K) := by subst h; exact sl_list
theorem sl_tupAK (h : X.K = K) : SlR X (rSlA K) := by subst h; exact sl_tupA
theorem op_catAK (h : X.K = K) : OpR X (binaryOp .Add) (rCatA K) := by subst h; exact op_catA
theorem op_eqDK (h : X.K = K) (hu : X.A.units + 64 < cLine) : OpR X (compareOp .Eq) (rEqD K) := by subst h; exact op_eqD hu
theorem op_neDK (h : X.K = K) (hu : X.A.units + 64 < cLine) : OpR X (compareOp .NotEq) (rNeD K) := by subst h; exact op_neD hu
theorem op_inDK (h : X.K = K) (hu : X.A.units + 65 < cLine) : OpR X (compareOp .In) (rInD K) := by subst h; exact op_inD hu
theorem op_notInDK (h : X.K = K) (hu : X.A.units + 65 < cLine) : OpR X (compareOp .NotIn) (rNotInD K) := by subst h; exact op_notInD hu
theorem op_inK (h : X.K = K) : OpR X (compareOp .In) (rIn K false) := by subst h; exact op_in_seq
theorem op_notInK (h : X.K = K) : OpR X (compareOp .NotIn) (rIn K true) := by subst h; exact op_notIn_seq
theorem cr_isiK (h : X.K = K) : CallR X (.builtin "isinstance") (rIsi K) := by subst h; exact call_isi
theorem mt_indexDK (h : X.K = K) (hu : X.A.units + 65 < cLine) : MtR X "list.index" (rIndexD K) := by subst h; exact mt_indexD hu
theorem pi_listK {tg l : Expr} {tl : TE} (h : X.K = K) (hl : PE X l tl) : PI X tg l (iList K tl) := by subst h; exact pi_list hl
theorem pi_tupK {tg l : Expr} {tl : TE} (h : X.K = K) (hl : PE X l tl) : PI X tg l (iTup K tl) := by subst h; exact pi_tup hl
end
theorem u65 {k : Nat} {A : Around} (r : Room k A) : A.units + 65 < cLine := by have := r.un; omega
theorem u64 {k : Nat} {A : Around} (r : Room k A) : A.units + 64 < cLine := by have := r.un; omega
end Mv

set_option Elab.async false
set_option linter.all false
set_option maxRecDepth 100000
set_option maxHeartbeats 4000000
/-! Terms gathered in a dict; slices and sums of tuples. -/
namespace Mv
open PySem PySem.Spec PyProof.Rows L2
/-- what a dict keeps, as the dict's pairs -/
abbrev kvF (g : Form) : List (List Key × V) := g.map fun t => (pwK t.1, V.int t.2)
theorem valV_kvF : ∀ {g : Form} {k : List Nat}, (g.map (·.1)).Nodup → k ∈ g.map (·.1) → valV (kvF g) (pwK k) = some (.int (coef g k))
  | [], k, _, h => by simp at h
  | t :: g, k, nd, h => by
    have nd' := List.nodup_cons.mp nd
    by_cases e : t.1 = k
    · subst e
      have := coef_mem nd (t := t) (by simp)
      rw [this]
      exact valV_pos rfl
    · have h' : k ∈ g.map (·.1) := (List.mem_cons.mp h).resolve_left fun z => e z.symm
      rw [coef_cons, if_neg e, Int.zero_add, ← valV_kvF (List.nodup_cons.mp nd).2 h']
      exact valV_neg fun z => e (pwK_inj z)
theorem valV_kvF_no : ∀ {g : Form} {k : List Nat}, k ∉ g.map (·.1) → valV (kvF g) (pwK k) = none
  | [], k, _ => rfl
  | t :: g, k, h => by
    simp only [List.map_cons, List.mem_cons, not_or] at h
    rw [← valV_kvF_no h.2]
    exact valV_neg fun z => h.1 (pwK_inj z).symm
/-- kept.get(k, 0) -/
theorem getD_kvF {g : Form} {k : List Nat} (nd : (g.map (·.1)).Nodup) : (valV (kvF g) (pwK k)).getD (.int 0) = .int (coef g k) := by
  by_cases h : k ∈ g.map (·.1)
  · rw [valV_kvF nd h]
    rfl
  · rw [valV_kvF_no h, coef_not g k h]
    rfl
/-- a term added to what a dict keeps -/
def addT (g : Form) (t : List Nat × Int) : Form :=
  if t.1 ∈ g.map (·.1) then g.map (fun u => if u.1 = t.1 then (u.1, coef g t.1 + t.2) else u) else g ++ [(t.1, coef g t.1 + t.2)]
theorem kvF_addT (g : Form) (t : List Nat × Int) : putK (kvF g) (pwK t.1) (.int (coef g t.1 + t.2)) = kvF (addT g t) := by
  have e : ((kvF g).any fun kv => decide (kv.1 = pwK t.1)) = decide (t.1 ∈ g.map (·.1)) := by
    induction g with
    | nil => simp
    | cons u g ih =>
      simp only [kvF, List.map_cons, List.any_cons] at ih ⊢
      rw [ih]
      by_cases c : u.1 = t.1
      · simp [c]
      · have : ¬ pwK u.1 = pwK t.1 := fun z => c (pwK_inj z)
        simp [this, Ne.symm c]
  unfold putK addT
  rw [e]
  by_cases c : t.1 ∈ g.map (·.1)
  · rw [if_pos (decide_eq_true c), if_pos c]
    generalize coef g t.1 + t.2 = z
    unfold kvF
    rw [List.map_map, List.map_map]
    refine List.map_congr_left fun u hu => ?_
    show (if pwK u.1 = pwK t.1 then (pwK u.1, V.int z) else (pwK u.1, V.int u.2)) = (pwK (if u.1 = t.1 then (u.1, z) else u).1, V.int (if u.1 = t.1 then (u.1, z) else u).2)
    by_cases d : u.1 = t.1
    · rw [if_pos d, if_pos (congrArg pwK d)]
    · rw [if_neg d, if_neg (fun w => d (pwK_inj w))]
  · rw [if_neg (by simpa using c), if_neg c]
    simp [kvF]
theorem addT_keys (g : Form) (t : List Nat × Int) : (addT g t).map (·.1) = if t.1 ∈ g.map (·.1) then g.map (·.1) else g.map (·.1) ++ [t.1] := by
  unfold addT
  by_cases c : t.1 ∈ g.map (·.1)
  · rw [if_pos c, if_pos c, List.map_map]
    refine List.map_congr_left fun u hu => ?_
    show (if u.1 = t.1 then (u.1, coef g t.1 + t.2) else u).1 = u.1
    split <;> rfl
  · rw [if_neg c, if_neg c]
    simp
theorem addT_nd {g : Form} (t : List Nat × Int) (nd : (g.map (·.1)).Nodup) : ((addT g t).map (·.1)).Nodup := by
  rw [addT_keys]
  split
  · exact nd
  · rename_i c
    exact nd_snoc nd c
theorem addT_len (g : Form) (t : List Nat × Int) : (addT g t).length ≤ g.length + 1 := by
  unfold addT
  split <;> simp
theorem addT_coef {g : Form} (t : List Nat × Int) (nd : (g.map (·.1)).Nodup) (k : List Nat) : coef (addT g t) k = coef g k + (if t.1 = k then t.2 else 0) := by
  unfold addT
  by_cases c : t.1 ∈ g.map (·.1)
  · rw [if_pos c]
    generalize hz : coef g t.1 + t.2 = z
    by_cases hk : t.1 = k
    · subst hk
      rw [if_pos rfl, hz]
      obtain ⟨u, hu, e⟩ := List.mem_map.mp c
      have nd2 : ((g.map fun u => if u.1 = t.1 then (u.1, z) else u).map (·.1)).Nodup := by
        have e2 : (g.map fun u => if u.1 = t.1 then (u.1, z) else u).map (·.1) = g.map (·.1) := by
          rw [List.map_map]
          refine List.map_congr_left fun u hu => ?_
          show (if u.1 = t.1 then (u.1, z) else u).1 = u.1
          split <;> rfl
        rw [e2]
        exact nd
      have hm : (t.1, z) ∈ g.map fun u => if u.1 = t.1 then (u.1, z) else u := List.mem_map.mpr ⟨u, hu, by rw [if_pos e, e]⟩
      exact coef_mem nd2 hm
    · rw [if_neg hk, Int.add_zero]
      clear nd c hz
      induction g with
      | nil => rfl
      | cons u g ih =>
        rw [List.map_cons, coef_cons, coef_cons, ih]
        congr 1
        by_cases d : u.1 = t.1
        · rw [if_pos d]
          have : ¬ u.1 = k := fun w => hk (d.symm.trans w)
          simp [this]
        · rw [if_neg d]
  · rw [if_neg c, coef_append, coef_not g t.1 c, coef_cons, coef_nil]
    show coef g k + ((if t.1 = k then 0 + t.2 else 0) + 0) = _
    simp
/-- terms gathered, from the left -/
def gather (ts : Form) : Form := ts.foldl addT []
theorem gather_snoc (ts : Form) (t : List Nat × Int) : gather (ts ++ [t]) = addT (gather ts) t := by simp [gather, List.foldl_append]
theorem snoc_ind {α : Type} {p : List α → Prop} (h0 : p []) (h1 : ∀ l a, p l → p (l ++ [a])) (l : List α) : p l := by
  have : ∀ n, ∀ l : List α, l.length = n → p l := by
    intro n
    induction n with
    | zero =>
      intro l e
      rw [List.eq_nil_of_length_eq_zero e]
      exact h0
    | succ n ih =>
      intro l e
      have ne : l ≠ [] := fun z => by simp [z] at e
      rw [← List.dropLast_concat_getLast ne]
      exact h1 _ _ (ih _ (by simp [e]))
  exact this _ l rfl
structure Gath (ts g : Form) : Prop where
  nd : (g.map (·.1)).Nodup
  co : ∀ k, coef g k = coef ts k
  len : g.length ≤ ts.length
  keys : ∀ k ∈ g.map (·.1), k ∈ ts.map (·.1)
theorem gath (ts : Form) : Gath ts (gather ts) := by
  refine snoc_ind (p := fun ts => Gath ts (gather ts)) ⟨List.nodup_nil, fun _ => rfl, Nat.le_refl _, fun k h => h⟩ (fun l t ih => ?_) ts
  rw [gather_snoc]
  refine ⟨addT_nd t ih.nd, fun k => ?_, ?_, fun k h => ?_⟩
  · rw [addT_coef t ih.nd, ih.co, coef_append, coef_cons, coef_nil]
    omega
  · have := addT_len (gather l) t
    have := ih.len
    simp
    omega
  · rw [addT_keys] at h
    rw [List.map_append]
    split at h
    · exact List.mem_append_left _ (ih.keys k h)
    · rcases List.mem_append.mp h with h | h
      · exact List.mem_append_left _ (ih.keys k h)
      · rw [List.mem_singleton.mp h]
        simp
theorem Canon.of_gath {ts g0 g : Form} (h : Gath ts g0) (c : Canon g0 g) : Canon ts g := ⟨c.nd, c.nz, fun k => (c.co k).trans (h.co k)⟩

/-! ### slices and sums of tuples -/
theorem cut_whole (xs : List V) (lo hi : Option Int) (h : HT.sIx xs.length 0 lo = 0 ∧ HT.sIx xs.length xs.length hi = xs.length) : cutV xs lo hi = xs := by
  unfold cutV
  rw [h.1, h.2]
  simp
theorem sl_any {K : PySem.W.Frag} {H : Hp} {a : Addr} {xs : List V} {lo hi : Option Int} {Q : VK} (h : H a = some (.tup xs)) (q : ∀ p H', Same H H' → H' p = some (.tup (cutV xs lo hi)) → Q (.ref p) H') : rSlA K (.ref a) lo hi H Q :=
  ⟨a, xs, rfl, sqT h, fun w => q a H (Same.refl H) (by rw [cut_whole xs lo hi w]; exact h), fun _ p hp => q p _ (same_new hp) upd_same⟩
theorem sl_from {K : PySem.W.Frag} {σ : L2.St} {H : Hp} {a : Addr} {xs : List V} {lo : Option Int} {Q : VK} (h : H a = some (.tup xs)) (q : ∀ p H', Same H H' → H' p = some (.tup (cutV xs lo none)) → Q (.ref p) H') : tNoPart σ H (fun u H3 => rSlA K (.ref a) lo u H3 Q) :=
  sl_any h q
theorem cat_any {K : PySem.W.Frag} {H : Hp} {a b : Addr} {xs ys : List V} {Q : VK} (h : H a = some (.tup xs)) (h2 : H b = some (.tup ys)) (hl : xs.length + ys.length ≤ 1000000) (q : ∀ p H', Same H H' → H' p = some (.tup (xs ++ ys)) → Q (.ref p) H') :
    rCatA K (.ref a) (.ref b) H Q :=
  ⟨a, b, xs, ys, rfl, rfl, sqT h, sqT h2, sz hl, fun e => q b H (Same.refl H) (by rw [e]; exact h2), fun _ e => q a H (Same.refl H) (by rw [e, List.append_nil]; exact h), fun _ _ p hp => q p _ (same_new hp) upd_same⟩
theorem cut_to (xs : List V) (n : Nat) (h : n ≤ xs.length) : cutV xs none (some (n : Int)) = xs.take n := by
  unfold cutV
  rw [HT.sIx_none, HT.sIx_nat, Nat.min_eq_left h]
  simp
theorem cut_from (xs : List V) (n : Nat) (h : n ≤ xs.length) : cutV xs (some (n : Int)) none = xs.drop n := by
  unfold cutV
  rw [HT.sIx_none, HT.sIx_nat, Nat.min_eq_left h]
  rw [List.take_of_length_le]
  simp
end Mv

set_option Elab.async false
set_option linter.all false
set_option maxRecDepth 100000
set_option maxHeartbeats 4000000
/-! Loops over any iterator; enumerate. -/
namespace Mv
open PySem PySem.Spec PyProof.Rows L2
theorem for_it {J : It} {g : TG} {tb : TS} {D : Ends} {σ : L2.St} {H : Hp} (n : Nat) (Pv : Nat → L2.St → Hp → Prop) (h0 : Pv 0 σ H) (hgo : ∀ i σ H, i < n → Pv i σ H → J.go i H) (hst : ∀ σ H, Pv n σ H → J.stop n H)
    (hs : ∀ i σ H, i < n → Pv i σ H → ∀ x H', J.yld i H x H' → g x σ H' fun σ2 H2 => tb { D with nx := Pv (i + 1), ct := Pv (i + 1), bk := D.nx } σ2 H2) (hd : ∀ σ H, Pv n σ H → D.nx σ H) :
    ∃ W : Nat → Nat → L2.St → Hp → Prop, (∃ m, W 0 m σ H) ∧ ∀ i m σ H, W i m σ H →
      (J.stop i H ∧ D.nx σ H) ∨ (J.go i H ∧ ∃ N : L2.St → Hp → Prop, (∀ σ' H', N σ' H' → ∃ m', m' < m ∧ W (i + 1) m' σ' H') ∧ ∀ x H', J.yld i H x H' → g x σ H' fun σ2 H2 => tb { D with nx := N, ct := N, bk := D.nx } σ2 H2) := by
  refine ⟨fun i m σ H => m = n - i ∧ i ≤ n ∧ Pv i σ H, ⟨n, by simp, Nat.zero_le _, h0⟩, ?_⟩
  rintro i m σ H ⟨rfl, hi, p⟩
  by_cases hlt : i < n
  · exact .inr ⟨hgo i σ H hlt p, Pv (i + 1), fun σ' H' p' => ⟨n - (i + 1), by omega, rfl, hlt, p'⟩, fun x H' y => hs i σ H hlt p x H' y⟩
  · have e : i = n := by omega
    subst e
    exact .inl ⟨hst σ H p, hd σ H p⟩
/-- for i, x in enumerate(xs) -/
theorem for_enum {K : PySem.W.Frag} {a : Addr} {xs : List V} {g : TG} {tb : TS} {D : Ends} {σ : L2.St} {H : Hp} (Pv : Nat → L2.St → Hp → Prop) (h0 : Pv 0 σ H) (hl : ∀ i σ H, i ≤ xs.length → Pv i σ H → SqL K H a xs)
    (hs : ∀ i x T σ H, xs[i]? = some x → Pv i σ H → H T = none → g (.ref T) σ (upd H T (.tup [.int (i : Nat), x])) fun σ2 H2 => tb { D with nx := Pv (i + 1), ct := Pv (i + 1), bk := D.nx } σ2 H2) (hd : ∀ σ H, Pv xs.length σ H → D.nx σ H) :
    ∃ W : Nat → Nat → L2.St → Hp → Prop, (∃ m, W 0 m σ H) ∧ ∀ i m σ H, W i m σ H →
      ((Ite K a).stop i H ∧ D.nx σ H) ∨ ((Ite K a).go i H ∧ ∃ N : L2.St → Hp → Prop, (∀ σ' H', N σ' H' → ∃ m', m' < m ∧ W (i + 1) m' σ' H') ∧ ∀ x H', (Ite K a).yld i H x H' → g x σ H' fun σ2 H2 => tb { D with nx := N, ct := N, bk := D.nx } σ2 H2) := by
  refine for_it xs.length Pv h0 (fun i σ H hi p => ⟨xs, xs[i], hl i σ H (Nat.le_of_lt hi) p, List.getElem?_eq_getElem hi⟩) (fun σ H p => ⟨xs, hl _ σ H (Nat.le_refl _) p, Nat.le_refl _⟩) (fun i σ H hi p x H' y => ?_) hd
  obtain ⟨T, x', rfl, nT, rfl, f⟩ := y
  exact hs i x' T σ H (f xs (hl i σ H (Nat.le_of_lt hi) p)) p nT
theorem lc_it {J : It} {g : TG} {tt : TT} {te : TE} {vs : List Nat} {σ : L2.St} {H1 : Hp} {D : Addr} {Qd : Hp → Prop} (n : Nat) (Pv : Nat → Hp → Prop) (h0 : Pv 0 (upd H1 D (.lst []))) (hgo : ∀ i H, i < n → Pv i H → J.go i H) (hst : ∀ H, Pv n H → J.stop n H)
    (hs : ∀ i H, i < n → Pv i H → ∀ x H', J.yld i H x H' → g x (wipe σ vs) H' fun σ2 H2 => wipe σ2 vs = wipe σ vs ∧ tt σ2 H2 fun b H3 =>
      if b = true then te σ2 H3 fun y H4 => ∃ acc, H4 D = some (.lst acc) ∧ acc.length < sizeLine ∧ Pv (i + 1) (upd H4 D (.lst (acc ++ [y]))) else Pv (i + 1) H3) (hd : ∀ H, Pv n H → Qd H) :
    ∃ W : Nat → Nat → Hp → Prop, (∃ m, W 0 m (upd H1 D (.lst []))) ∧ ∀ i m H, W i m H →
      (J.stop i H ∧ Qd H) ∨ (J.go i H ∧ ∃ Nx : Hp → Prop, (∀ H', Nx H' → ∃ m', m' < m ∧ W (i + 1) m' H') ∧ ∀ x H', J.yld i H x H' → g x (wipe σ vs) H' fun σ2 H2 => wipe σ2 vs = wipe σ vs ∧ tt σ2 H2 fun b H3 =>
        if b = true then te σ2 H3 fun y H4 => ∃ acc, H4 D = some (.lst acc) ∧ acc.length < sizeLine ∧ Nx (upd H4 D (.lst (acc ++ [y]))) else Nx H3) := by
  refine ⟨fun i m H => m = n - i ∧ i ≤ n ∧ Pv i H, ⟨n, by simp, Nat.zero_le _, h0⟩, ?_⟩
  rintro i m H ⟨rfl, hi, p⟩
  by_cases hlt : i < n
  · exact .inr ⟨hgo i H hlt p, Pv (i + 1), fun H' p' => ⟨n - (i + 1), by omega, rfl, hlt, p'⟩, fun x H' y => hs i H hlt p x H' y⟩
  · have e : i = n := by omega
    subst e
    exact .inl ⟨hst H p, hd H p⟩
end Mv

set_option Elab.async false
set_option linter.all false
set_option maxRecDepth 100000
set_option maxHeartbeats 4000000
/-! Own errors of one field. -/
namespace Mv
open PySem PySem.Spec PyProof.Rows L2
/-- what the top has left of an own error class x at C: its __init__ stands at st and stores its argument as fld -/
structure ErrC (K : PySem.W.Frag) (mg : Str → Option Value) (x fld : Str) (ps : List Str) (st : Stmt) (C : Addr) : Prop where
  gC : mg x = some (.ref C)
  oex : OexC K C
  ini : ∃ fI fd q, PySem.W.findIn K (.ref C) "__init__" = some (some (.ref fI)) ∧ PySem.W.typeIn K (.ref fI) = some (.type "function") ∧ Fun K "__init__" q st fI fd ∧ Binds K fd ps []
  noF : PySem.W.findIn K (.ref C) fld = some none
  xf : XfC K C
  te : PySem.W.exmOne K (.ref C) (.ref C) = some true
/-- __init__(self, v): self.fld = v -/
def spIni (C : Addr) (fld : Str) : Sp := fun vs H Q _ => ∃ (a : Addr) (v : V), vs = [.ref a, v] ∧ H a = some (exo a C none) ∧ ∀ dx, H dx = none → dx ≠ a → Q .non (upd (upd H dx (exd dx [(fld, v)])) a (exo a C (some dx)))
/-- behind C(v): its own dict stands at d -/
theorem mkO_same {H : Hp} {a d C : Addr} {fld : Str} {v : V} (ha : H a = none) (hd : H d = none) : Same H (upd (del (upd (upd (upd H a (exo a C none)) d (exd d [(fld, v)])) a (exo a C (some d))) a) d (.xd [(fld, v)])) := fun b o e => by
  have n1 : b ≠ a := ne_of_none e ha
  have n2 : b ≠ d := ne_of_none e hd
  rw [upd_ne n2, del_ne n1, upd_ne n1, upd_ne n2, upd_ne n1]
  exact e
/-- what C(v) asks: the way out at a new dict d that bears v -/
theorem mkO_ask {C : Addr} {fld : Str} {H : Hp} {v : V} {Q : XK} (q : ∀ d H', H d = none → Same H H' → H' d = some (.xd [(fld, v)]) → Q (.ref C) (some d) H') :
    ([v] : List V).length ≤ 1000 ∧ ∀ a, H a = none → spIni C fld (.ref a :: ([v] ++ [])) (upd H a (exo a C none))
      (fun v H2 => v = .non ∧ ∃ (d : Addr) (fs : List (Str × V)), H2 a = some (exo a C (some d)) ∧ H2 d = some (exd d fs) ∧ H d = none ∧ Q (.ref C) (some d) (upd (del H2 a) d (.xd fs))) (fun _ _ _ => False) := by
  refine ⟨by simp, fun a ha => ⟨a, v, rfl, upd_same, fun dx hdx ne => ⟨rfl, dx, [(fld, v)], upd_same, ?_, ?_, ?_⟩⟩⟩
  · rw [upd_ne ne, upd_same]
  · rw [upd_ne ne] at hdx
    exact hdx
  · have hd0 : H dx = none := by
      rw [upd_ne ne] at hdx
      exact hdx
    exact q dx _ hd0 (mkO_same ha hd0) upd_same
/-- isinstance(e, c), e the exception that the suite holds, with its own dict -/
def rIsX (K : PySem.W.Frag) (D a : Addr) (cls : Value) (d : Option Addr) : List V → Hp → VK → Prop := fun xs H Q => ∃ (c : V) (cv : Value) (b : Bool) (dd : Addr) (fs : List (Str × V)), xs = [.ref a, c] ∧ cls = .ref D ∧ (∀ u, RelV c u → u = cv) ∧ PySem.W.kitOne K (.ref D) cv = some b ∧ d = some dd ∧ H dd = some (.xd fs) ∧ Q (.bl b) H
theorem cr_isX {X : Cx} {K : PySem.W.Frag} {a D : Addr} {cls : Value} {d : Option Addr} {oe : Obj} {pn : List (Addr × Obj)} (hK : X.K = K) (C : ExcC K D) (hz : Zc cls d oe) (hf : ∃ vs, oe.data = .fields vs) : CallR (X.suite a ((a, oe) :: pn)) (.builtin "isinstance") (rIsX K D a cls d) := by
  subst hK
  intro pins s σ H xs us Q I r h
  obtain ⟨c, cv, b, dd, fs, rfl, hc, hcv, e, ed, ea, q⟩ := h
  subst ed hc
  cases r with
  | cons rx rr =>
    cases rr with
    | cons rt rr =>
      cases rr
      cases rx
      have ec := hcv _ rt
      subst ec
      obtain ⟨hget, _⟩ := I.pin (a, oe) (List.mem_append.mpr (.inl List.mem_cons_self))
      obtain ⟨vs, hv⟩ := hf
      have hx : ObjOk X.prog X.w H s.heap dd (.xd fs) := I.hok dd _ ea
      obtain ⟨mA, hns, _⟩ := hx
      obtain ⟨od, ho, _⟩ := lookIn_ns hns
      have J : PySem.W.InstAt s.heap a oe D (some od) := ⟨hget, hz.1, by unfold PySem.W.notCls; rw [hv] <;> rfl, by rw [hz.2]; exact ho⟩
      have hcl : (PySem.W.clsIn X.K D).isSome = true := by
        obtain ⟨cd, hcd, _⟩ := PySem.W.any_some C.hd
        rw [hcd]
        rfl
      exact PySem.W.kia_one (PySem.W.kitx_exc (od := some od) hcl C.hg C.hk C.hs C.ha C.hn C.ht C.hm) I.kIn J e (fun z => nomatch z) fun tk => ⟨.bl b, H, I.kept (t' := tk) fun _ _ z => z, rfl, q⟩
end Mv

set_option Elab.async false
set_option linter.all false
set_option maxRecDepth 100000
set_option maxHeartbeats 4000000
/-! Forms as data that are compared. -/
namespace Mv
open PySem PySem.Spec PyProof.Rows L2
def pwD (p : List Nat) : PyData := .tuple (p.map fun (n : Nat) => PyData.int n)
def tmD (t : List Nat × Int) : PyData := .tuple [pwD t.1, .int t.2]
def fmD (f : Form) : PyData := .tuple (f.map tmD)
theorem lay_all {α : Type} (g : α → PyData) (h : ∀ a, (g a).canLay0 = true) : ∀ l : List α, PyData.canLayAll0 (l.map g) = true
  | [] => by simp [PyData.canLayAll0]
  | a :: l => by simp [PyData.canLayAll0, h a, lay_all g h l]
theorem depth_all {α : Type} (g : α → PyData) (n : Nat) (h : ∀ a, (g a).depth ≤ n) : ∀ l : List α, PyData.depthAll (l.map g) ≤ n
  | [] => by simp [PyData.depthAll]
  | a :: l => by
    have h1 := h a
    have h2 := depth_all g n h l
    simp only [List.map_cons, PyData.depthAll]
    omega
theorem pwD_lay (p : List Nat) : (pwD p).canLay0 = true := by
  simp only [pwD, PyData.canLay0]
  exact lay_all (fun (n : Nat) => PyData.int n) (fun _ => by simp [PyData.canLay0]) p
theorem pwD_depth (p : List Nat) : (pwD p).depth ≤ 1 := by
  have := depth_all (fun (n : Nat) => PyData.int n) 0 (fun _ => by simp [PyData.depth]) p
  simp only [pwD, PyData.depth]
  omega
theorem tmD_lay (t : List Nat × Int) : (tmD t).canLay0 = true := by simp [tmD, PyData.canLay0, PyData.canLayAll0, pwD_lay]
theorem tmD_depth (t : List Nat × Int) : (tmD t).depth ≤ 2 := by
  have := pwD_depth t.1
  simp only [tmD, PyData.depth, PyData.depthAll]
  omega
theorem fmD_lay (f : Form) : (fmD f).canLay0 = true := by
  simp only [fmD, PyData.canLay0]
  exact lay_all tmD tmD_lay f
theorem fmD_depth (f : Form) : (fmD f).depth ≤ 3 := by
  have := depth_all tmD 2 tmD_depth f
  simp only [fmD, PyData.depth]
  omega
theorem shaped_of {d : PyData} (h : d.canLay0 = true) (h2 : d.depth ≤ 64) : SeqAt.shaped d = true := by
  show (d.canLay0 && decide (d.depth ≤ 64)) = true
  rw [h, decide_eq_true h2]
  rfl
theorem fmD_shaped (f : Form) : SeqAt.shaped (fmD f) = true := shaped_of (fmD_lay f) (Nat.le_trans (fmD_depth f) (by decide))
theorem fmsD_shaped (fs : List Form) : SeqAt.shaped (.list (fs.map fmD)) = true := by
  have := depth_all fmD 3 fmD_depth fs
  refine shaped_of (by simp only [PyData.canLay0]; exact lay_all fmD fmD_lay fs) ?_
  simp only [PyData.depth]
  omega
theorem nil_shaped : SeqAt.shaped (.tuple []) = true := fmD_shaped []
theorem fmD_nil (f : Form) : PyData.eqv (fmD f) (.tuple []) = decide (f = []) := by
  cases f with
  | nil => simp [fmD, PyData.eqv, PyData.eqvAll]
  | cons t f => simp [fmD, PyData.eqv, PyData.eqvAll]
theorem any_nil (fs : List Form) : ((fs.map fmD).any fun z => PyData.eqv z (.tuple [])) = decide ([] ∈ fs) := by
  rw [List.any_map]
  apply Bool.eq_iff_iff.mpr
  simp only [List.any_eq_true, Function.comp, fmD_nil, decide_eq_true_eq]
  constructor
  · rintro ⟨f, hf, e⟩
    rw [← e]
    exact hf
  · intro h
    exact ⟨[], h, rfl⟩
section
variable {K : PySem.W.Frag} {H : Hp}
theorem dp_ints : ∀ (p : List Nat), DpAll K H (pwV p) (p.map fun (n : Nat) => PyData.int n)
  | [] => .nil
  | _ :: p => .cons (.int _) (dp_ints p)
theorem dp_tm {v : V} {t : List Nat × Int} : TmV H v t → Dp K H v (tmD t) := fun ⟨a, p, e, h1, h2⟩ => by
  subst e
  exact .tup (sqT h1) (.cons (.tup (sqT h2) (dp_ints t.1)) (.cons (.int _) .nil))
theorem dp_tms : ∀ {vs : List V} {ts : Form}, Paired (TmV H) vs ts → DpAll K H vs (ts.map tmD)
  | _, _, .nil => .nil
  | _, _, .cons h t => .cons (dp_tm h) (dp_tms t)
theorem dp_fm {v : V} {f : Form} : FmV H v f → Dp K H v (fmD f) := fun ⟨a, xs, e, h1, h2⟩ => by
  subst e
  exact .tup (sqT h1) (dp_tms h2)
theorem dp_fms : ∀ {vs : List V} {fs : List Form}, FmsV H vs fs → DpAll K H vs (fs.map fmD)
  | _, _, .nil => .nil
  | _, _, .cons h t => .cons (dp_fm h) (dp_fms t)
theorem dp_list {a : Addr} {vs : List V} {fs : List Form} (h : H a = some (.lst vs)) (hf : FmsV H vs fs) : Dp K H (.ref a) (.list (fs.map fmD)) := .lst (sqL h) (dp_fms hf)
theorem dp_nil {a : Addr} (h : H a = some (.tup [])) : Dp K H (.ref a) (.tuple []) := .tup (sqT h) .nil
end
end Mv

set_option Elab.async false
set_option linter.all false
set_option maxRecDepth 100000
set_option maxHeartbeats 4000000
/-! sorted(d) of a dict whose keys are tuples of whole numbers, all of one length, any number of them. -/
namespace Mv
open PySem PySem.Spec PyProof.Rows L2
/-- earlier, as tuples of one length are ordered -/
def lexL : List Nat → List Nat → Bool
  | a :: p, b :: q => decide (a < b) || (decide (a = b) && lexL p q)
  | _, _ => false
theorem lexL_code (B : Int) : ∀ (p q : List Nat), p.length = q.length → TS.Bd B (p.map Int.ofNat) → TS.Bd B (q.map Int.ofNat) → lexL p q = decide (TS.code B (p.map Int.ofNat) < TS.code B (q.map Int.ofNat))
  | [], [], _, _, _ => by simp [lexL]
  | a :: p, b :: q, hl, h1, h2 => by
    have hl' : (p.map Int.ofNat).length = (q.map Int.ofNat).length := by simpa using hl
    have ih := lexL_code B p q (by simpa using hl) (TS.Bd.tail h1) (TS.Bd.tail h2)
    by_cases e : a = b
    · subst e
      have d : decide (TS.code B ((a :: p).map Int.ofNat) < TS.code B ((a :: q).map Int.ofNat)) = decide (TS.code B (p.map Int.ofNat) < TS.code B (q.map Int.ofNat)) := decide_eq_decide.mpr (TS.code_same hl')
      rw [d, ← ih]
      simp [lexL]
    · have d : decide (TS.code B ((a :: p).map Int.ofNat) < TS.code B ((b :: q).map Int.ofNat)) = decide (a < b) := by
        refine decide_eq_decide.mpr ⟨fun x => ?_, fun x => TS.code_lt hl' (TS.Bd.tail h1) (TS.Bd.tail h2) (by show (a : Int) < (b : Int); omega)⟩
        rcases Nat.lt_trichotomy a b with y | y | y
        · exact y
        · exact absurd y e
        · have := TS.code_lt (B := B) hl'.symm (TS.Bd.tail h2) (TS.Bd.tail h1) (show (b : Int) < (a : Int) by omega)
          simp only [List.map_cons] at x
          have x' : TS.code B ((a : Int) :: p.map Int.ofNat) < TS.code B ((b : Int) :: q.map Int.ofNat) := x
          omega
      rw [d]
      simp [lexL, e]
  | [], _ :: _, hl, _, _ => by simp at hl
  | _ :: _, [], hl, _, _ => by simp at hl
theorem bound_all : ∀ ps : List (List Nat), ∃ B : Nat, ∀ p ∈ ps, ∀ n ∈ p, n < B
  | [] => ⟨0, fun p h => by simp at h⟩
  | p :: ps => by
    obtain ⟨B, h⟩ := bound_all ps
    have one : ∀ p : List Nat, ∃ B : Nat, ∀ n ∈ p, n < B := by
      intro p
      induction p with
      | nil => exact ⟨0, fun n h => by simp at h⟩
      | cons a p ih =>
        obtain ⟨B, h⟩ := ih
        refine ⟨a + 1 + B, fun n hn => ?_⟩
        rcases List.mem_cons.mp hn with e | hn
        · omega
        · have := h n hn
          omega
    obtain ⟨B2, h2⟩ := one p
    refine ⟨B + B2, fun q hq n hn => ?_⟩
    rcases List.mem_cons.mp hq with e | hq
    · subst e
      have := h2 n hn
      omega
    · have := h q hq n hn
      omega
theorem pwV_int (p : List Nat) : pwV p = (p.map Int.ofNat).map V.int := by simp [pwV]

/-- values by the code of their ints in a heap -/
def ltC (B : Int) (h : Heap) (v u : Value) : Bool := decide (TS.code B (TS.intsOf h v) < TS.code B (TS.intsOf h u))
theorem swoC (B : Int) (h : Heap) : SrtO.Swo (ltC B h) := by
  refine ⟨fun x y h1 => ?_, fun x y z h1 h2 => ?_⟩
  · have a := of_decide_eq_true h1
    exact decide_eq_false (by omega)
  · have a := of_decide_eq_false h1
    have b := of_decide_eq_false h2
    exact decide_eq_false (by omega)
theorem tups_sortable {prog : Program} {w : World} {A : Around} {s : Shared} {a : Addr} {d : Nat} {B : Int} {vs : List Value} {h0 : Heap} (hd : 1 ≤ d) (h2 : 2 ≤ vs.length) (x : TS.TupsOk s.heap d B vs) (ha : ∀ o, s.heap.get? a = some o → o.cls ≠ .type "tuple")
    (hh : ∀ v ∈ vs, TS.intsOf h0 v = TS.intsOf s.heap v) : SrtO.SortableO prog w A s a vs (ltC B h0) := by
  intro h' keep
  have keep' : ∀ b o, s.heap.get? b = some o → o.cls = .type "tuple" → h'.get? b = some o := fun b o e hc => keep b o (fun z => by subst z; exact ha o e hc) e
  have x' := x.keeps keep'
  obtain ⟨fs, k, hl, hi⟩ := TS.firsts_of hd vs x'
  refine ⟨tuples' true, fun Q E hq => ?_, fun p q hp hq => ?_⟩
  · refine PySem.W.kat_kind (T := .type "int") k (by omega) (fun f hm => ?_) (by rfl) ?_
    · obtain ⟨n, t, rfl⟩ := hi f hm
      exact PySem.W.Looks.now
    · have e : (Value.type "int" != Value.type "tuple") = true := by first | decide +kernel | rfl | decide
      rw [e]
      exact hq
  · obtain ⟨n1, t1, l1, b1⟩ := x' p.1 hp
    obtain ⟨n2, t2, l2, b2⟩ := x' q.1 hq
    have i1 : TS.intsOf h0 p.1 = n1 := by
      obtain ⟨m1, u1, _⟩ := x p.1 hp
      rw [hh _ hp, u1.ints, ← (u1.keeps keep').ints, t1.ints]
    have i2 : TS.intsOf h0 q.1 = n2 := by
      obtain ⟨m1, u1, _⟩ := x q.1 hq
      rw [hh _ hq, u1.ints, ← (u1.keeps keep').ints, t2.ints]
    show wpAny (model prog w) A (keyLt' (tuples' true) p.1 q.1) (fun r s' => s' = { s with heap := h' } ∧ r = ltC B h0 p.1 q.1) (fun _ _ => False) { s with heap := h' }
    obtain ⟨a1, xs1, e1, ⟨o1, ho1, hc1, c1, hd1⟩, j1⟩ := t1
    obtain ⟨a2, xs2, e2, ⟨o2, ho2, hc2, c2, hd2⟩, j2⟩ := t2
    unfold ltC
    rw [i1, i2, e1, e2]
    refine PySem.W.kat_lt ho1 hd1 ho2 hd2 ?_
    have hs : decide (xs1.size < xs2.size) = false := by
      have q1 := j1.length
      have q2 := j2.length
      rw [Array.length_toList] at q1 q2
      exact decide_eq_false (by omega)
    rw [hs]
    exact TS.lex_ints 0 j1 j2 (by omega) b1 b2 ⟨rfl, rfl⟩
section
variable {X : Cx}
/-- sorted(d): a new list of the keys, in their order -/
def rSortedDT : List V → Hp → VK → Prop := fun vs H Q => ∃ (a : Addr) (kvs : List (List Key × V)) (ps : List (List Nat)) (m : Nat), vs = [.ref a] ∧ Rd H a (.dT kvs) ∧ kvs.map (·.1) = ps.map pwK ∧ (∀ p ∈ ps, p.length = m) ∧
  ∀ (zs : List (Addr × List Nat)) (l : Addr), (zs.map (·.2)).Perm ps → zs.Pairwise (fun x y => lexL y.2 x.2 = false) → (∀ z ∈ zs, H z.1 = some (.tup (pwV z.2))) → H l = none → Q (.ref l) (upd H l (.lst (zs.map fun z => V.ref z.1)))
theorem tupI_raw' {pins : List (Addr × Obj)} {σ : L2.St} {H : Hp} {s : Shared} (I : L2.Inv X pins σ H s) {t : Addr} {ns : List Int} (h : SqT X.K H t (ns.map V.int)) : TS.TupInts s.heap (.ref t) ns := by
  obtain ⟨its, rv, hT, _⟩ := I.tuple h
  exact ⟨t, its.toArray, rfl, hT, by simpa using rv.ints⟩
theorem kt_keys {H : Hp} : ∀ {kvs : List (List Key × V)} {xs : List (List Key × Addr × Value)}, KT H kvs xs → kvs.map (·.1) = xs.map (·.1)
  | _, _, .nil => rfl
  | _, _, .cons h t => by rw [List.map_cons, List.map_cons, kt_keys t, h.1]
theorem kt_zip {H : Hp} : ∀ {kvs : List (List Key × V)} {xs : List (List Key × Addr × Value)} {ps : List (List Nat)}, KT H kvs xs → kvs.map (·.1) = ps.map pwK → ∀ z ∈ (xs.map (·.2.1)).zip ps, H z.1 = some (.tup (pwV z.2))
  | [], [], [], _, _, z, hz => by simp at hz
  | [], [], _ :: _, _, e, _, _ => by simp at e
  | _ :: _, _ :: _, [], .cons _ _, e, _, _ => by simp at e
  | kv :: kvs, x :: xs, p :: ps, .cons h t, e, z, hz => by
    simp only [List.map_cons, List.cons.injEq] at e
    simp only [List.map_cons, List.zip_cons_cons, List.mem_cons] at hz
    rcases hz with rfl | hz
    · have := h.2.1
      rw [e.1, pwK_V] at this
      exact this
    · exact kt_zip t e.2 z hz
theorem cr_sortedDT (hcalm : X.calm = true) : CallR X (.builtin "sorted") rSortedDT := by
  intro pins s σ H vs us Q I r h
  obtain ⟨a, kvs, ps, m, rfl, hd, hk, hm, q⟩ := h
  obtain rfl := Vals.ref1 r
  obtain ⟨z, lo, xs, rel, o, es, ep, ho, hx, hdat, hes, his, hn⟩ := dt_rd I.hok hd
  have l1 : kvs.length = xs.length := Paired.length rel
  have lp : ps.length = xs.length := by
    have e := congrArg List.length hk
    simp only [List.length_map] at e
    omega
  have l2 : es.size = xs.length := by
    have e := congrArg List.length hes
    simpa using e
  have hz : es.size ≤ sizeLine := by rw [l2, ← l1]; exact z
  refine Calls.call_function_entry PyProof.Rows.kind_sorted PyProof.Rows.plain_sorted PyProof.Rows.entry_sorted (PyProof.Rows.args_sorted1 _) ?_
  unfold Builtin.«sorted»
  refine wpAny_bind (m := checkCount "sorted" 1 1 _) (wpAny_pure ?_)
  refine wpAny_bind (PySem.W.kdu_collect (A := X.A.in1) (KdlSrc.rawDict (es := es) (ep := ep) lo) (I.ok.hd hcalm) ⟨o, ho, hx, hdat⟩ hz fun h' tk acc hk' hacc => ?_)
  -- what was collected
  have hw : acc.toList = ((xs.map (·.2.1)).zip ps).map fun z => Value.ref z.1 := by
    have e0 : (((xs.map (·.2.1)).zip ps).map fun z => Value.ref z.1) = xs.map fun x => Value.ref x.2.1 := by
      have e1 : ((xs.map (·.2.1)).zip ps).map (·.1) = xs.map (·.2.1) := List.map_fst_zip (by simp; omega)
      have e2 := congrArg (List.map Value.ref) e1
      rw [List.map_map, List.map_map] at e2
      exact e2
    rw [e0]
    apply List.ext_getElem?
    intro j
    rw [Array.getElem?_toList]
    cases q1 : acc[j]? with
    | none =>
      have : acc.size ≤ j := by simpa using q1
      rw [hacc.1] at this
      exact (List.getElem?_eq_none (by simp; omega)).symm
    | some v =>
      obtain ⟨hi, e⟩ := hacc.2 j v q1
      have hj : j < xs.length := by omega
      have e3 : es.toList[j]? = (xs.map (entryOfKey (tupleKind (mixKind X.prog X.w))))[j]? := by rw [hes]
      rw [Array.getElem?_toList, Array.getElem?_eq_getElem hi, List.getElem?_map, List.getElem?_eq_getElem hj] at e3
      have e4 : es[j] = entryOfKey (tupleKind (mixKind X.prog X.w)) xs[j] := Option.some.inj e3
      rw [List.getElem?_map, List.getElem?_eq_getElem hj, e, e4]
      rfl
  have hws := kt_zip rel hk
  generalize hW : (xs.map (·.2.1)).zip ps = W at hw hws
  have lW : W.length = ps.length := by
    rw [← hW, List.length_zip, List.length_map]
    omega
  have sW : W.map (·.2) = ps := by
    rw [← hW]
    exact List.map_snd_zip (by simp; omega)
  obtain ⟨B0, hB⟩ := bound_all ps
  have I1 : Inv X pins σ H { s with heap := h', toks := tk } := I.kept hk'
  have hal : acc.toList.length = ps.length := by rw [hw, List.length_map, lW]
  have hsz : acc.toList.length ≤ sizeLine := by rw [hal, lp, ← l1]; exact z
  refine wpAny_bind (wpAny_newList ?_ hsz)
  have hoL : (h'.push (seqObj "list" acc.toList.toArray 0)).get? h'.objs.size = some (seqObj "list" acc.toList.toArray 0) := Heap.get?_push_size _ rfl
  show wpAny _ _ _ _ _ { s with heap := h'.push (seqObj "list" acc.toList.toArray 0), toks := tk }
  have tI : ∀ z ∈ W, TS.TupInts (h'.push (seqObj "list" acc.toList.toArray 0)) (.ref z.1) (z.2.map Int.ofNat) := fun z hz => by
    have e := hws z hz
    rw [pwV_int] at e
    exact TS.TupInts.keeps (h := h') (tupI_raw' I1 (sqT e)) fun b o' e' _ => Heap.get?_push_of_some _ e'
  have hmem : ∀ z ∈ W, z.2 ∈ ps := fun z hz => by
    rw [← sW]
    exact List.mem_map_of_mem hz
  have ok : TS.TupsOk (h'.push (seqObj "list" acc.toList.toArray 0)) m (B0 : Int) acc.toList := fun v hv => by
    rw [hw] at hv
    obtain ⟨z, hz, rfl⟩ := List.mem_map.mp hv
    refine ⟨_, tI z hz, by rw [List.length_map]; exact hm _ (hmem z hz), fun n hn => ?_⟩
    obtain ⟨k, hk2, rfl⟩ := List.mem_map.mp hn
    have := hB _ (hmem z hz) k hk2
    constructor
    · exact Int.natCast_nonneg k
    · show (k : Int) < (B0 : Int)
      omega
  refine wpAny_bind (wpAny_holding (wpAny_call_entry PyProof.Rows.slot_list_sort ⟨_, hoL, rfl⟩ PyProof.Rows.entry_list_sort
    (SrtO.list_sort_ord (s := { s with heap := h'.push (seqObj "list" acc.toList.toArray 0), toks := tk }) (swoC (B0 : Int) (h'.push (seqObj "list" acc.toList.toArray 0))) hoL hsz (fun h2 => ?_) fun out h1 h2 => ⟨.none, rfl, ?_⟩) (PyProof.Rows.args_list_sort _)))
  · have hm1 : 1 ≤ m := by
      refine Nat.pos_of_ne_zero fun e => ?_
      subst e
      rw [hal] at h2
      -- two unlike keys of no parts
      have nd : (kvs.map (·.1)).Nodup := by
        have e1 := kt_keys rel
        rw [e1]
        exact hn
      rw [hk] at nd
      match ps, hm, h2, nd with
      | p1 :: p2 :: _, hm, _, nd =>
        have z1 : p1 = [] := List.eq_nil_of_length_eq_zero (hm p1 (by simp))
        have z2 : p2 = [] := List.eq_nil_of_length_eq_zero (hm p2 (by simp))
        subst z1 z2
        simp at nd
      | [], _, h, _ => simp at h
      | [_], _, h, _ => simp at h
    refine tups_sortable (s := { s with heap := h'.push (seqObj "list" acc.toList.toArray 0), toks := tk }) hm1 h2 ok (fun o e => ?_) fun _ _ => rfl
    have e' : some o = some (seqObj "list" acc.toList.toArray 0) := e.symm.trans hoL
    cases e'
    intro c
    exact absurd (Value.type.inj c) (by decide)
  · obtain ⟨e', he'⟩ := PyProof.Rows.sortedHeap_at (vs := acc.toList) (out := out.toArray) hoL
    obtain ⟨zs, pz, ez⟩ := perm_lift (fun z : Addr × List Nat => Value.ref z.1) h2.perm W hw.symm
    have rv : Vals (zs.map fun z => V.ref z.1) out := by
      rw [← ez]
      clear ez pz h1 h2
      induction zs with
      | nil => exact .nil
      | cons z zs ih => exact .cons rfl ih
    have hlen : (zs.map fun z => V.ref z.1).length ≤ sizeLine := by
      rw [List.length_map, pz.length_eq, lW, ← hal]
      exact hsz
    have srt : zs.Pairwise (fun x y => lexL y.2 x.2 = false) := by
      rw [← ez] at h1
      have h1' := List.pairwise_map.mp h1
      refine List.Pairwise.imp_of_mem (fun {x y} hx hy hh => ?_) h1'
      have mx := pz.mem_iff.mp hx
      have my := pz.mem_iff.mp hy
      have c1 : TS.Bd (B0 : Int) (x.2.map Int.ofNat) := fun n hn => by
        obtain ⟨k, hk2, rfl⟩ := List.mem_map.mp hn
        have := hB _ (hmem x mx) k hk2
        exact ⟨Int.natCast_nonneg k, by show (k : Int) < (B0 : Int); omega⟩
      have c2 : TS.Bd (B0 : Int) (y.2.map Int.ofNat) := fun n hn => by
        obtain ⟨k, hk2, rfl⟩ := List.mem_map.mp hn
        have := hB _ (hmem y my) k hk2
        exact ⟨Int.natCast_nonneg k, by show (k : Int) < (B0 : Int); omega⟩
      rw [lexL_code (B0 : Int) y.2 x.2 (by rw [hm _ (hmem x mx), hm _ (hmem y my)]) c2 c1]
      have hh' : decide (TS.code (B0 : Int) (TS.intsOf (h'.push (seqObj "list" acc.toList.toArray 0)) (.ref y.1)) < TS.code (B0 : Int) (TS.intsOf (h'.push (seqObj "list" acc.toList.toArray 0)) (.ref x.1))) = false := hh
      rw [(tI y my).ints, (tI x mx).ints] at hh'
      exact hh'
    have hn0 : H h'.objs.size = none := I1.hok.fresh (Nat.le_refl _)
    refine wpAny_pure ⟨_, rfl, .ref h'.objs.size, upd H h'.objs.size (.lst (zs.map fun z => V.ref z.1)), I1.laid (t' := tk) (fun b u e => ?_) (Nat.le_refl _)
      (show ObjOk X.prog X.w _ _ _ (.lst (zs.map fun z => V.ref z.1)) from ⟨hlen, out, e', rv, he'⟩), rfl, q zs _ (by rw [← sW]; exact pz.map _) srt (fun z hz => hws z (pz.mem_iff.mp hz)) hn0⟩
    have hb : b < h'.objs.size := Heap.lt_size e
    rw [PyProof.Rows.sortedHeap_old (Nat.ne_of_lt hb) (by rw [PyProof.Rows.size_push']; exact Nat.lt_succ_of_lt hb)]
    exact Heap.get?_push_of_some _ e
end
end Mv

set_option Elab.async false
set_option linter.all false
set_option maxRecDepth 100000
set_option maxHeartbeats 4000000
/-! The form of the terms that a dict keeps: tuple([(p, kept[p]) for p in sorted(kept) if kept[p] != 0]). -/
namespace Mv
open PySem PySem.Spec PyProof.Rows L2
/-- the terms of a form, in the order of some keys, the noughts left out -/
def pick (g0 : Form) (zs : List (List Nat)) : Form := zs.filterMap fun k => if coef g0 k = 0 then none else some (k, coef g0 k)
theorem pick_snoc0 {g0 : Form} {zs : List (List Nat)} {k : List Nat} (h : coef g0 k = 0) : pick g0 (zs ++ [k]) = pick g0 zs := by simp [pick, h]
theorem pick_snoc1 {g0 : Form} {zs : List (List Nat)} {k : List Nat} (h : coef g0 k ≠ 0) : pick g0 (zs ++ [k]) = pick g0 zs ++ [(k, coef g0 k)] := by simp [pick, h]
theorem pick_keys (g0 : Form) : ∀ (zs : List (List Nat)), (pick g0 zs).map (·.1) = zs.filter fun k => decide (coef g0 k ≠ 0)
  | [] => rfl
  | k :: zs => by
    have ih := pick_keys g0 zs
    by_cases h : coef g0 k = 0
    · simp [pick, h] at ih ⊢
      exact ih
    · simp [pick, h] at ih ⊢
      exact ih
theorem pick_canon {g0 : Form} {zs : List (List Nat)} (nd : (g0.map (·.1)).Nodup) (hp : zs.Perm (g0.map (·.1))) : Canon g0 (pick g0 zs) := by
  have ndz : zs.Nodup := hp.nodup_iff.mpr nd
  have ndk : ((pick g0 zs).map (·.1)).Nodup := by rw [pick_keys]; exact ndz.filter _
  have mem : ∀ t ∈ pick g0 zs, t.2 = coef g0 t.1 ∧ coef g0 t.1 ≠ 0 := fun t ht => by
    obtain ⟨k, hk, e⟩ := List.mem_filterMap.mp ht
    by_cases h : coef g0 k = 0
    · rw [if_pos h] at e
      cases e
    · rw [if_neg h] at e
      cases e
      exact ⟨rfl, h⟩
  refine ⟨ndk, fun t ht => ?_, fun k => ?_⟩
  · rw [(mem t ht).1]
    exact (mem t ht).2
  · by_cases hk : k ∈ (pick g0 zs).map (·.1)
    · obtain ⟨t, ht, rfl⟩ := List.mem_map.mp hk
      rw [coef_mem ndk ht, (mem t ht).1]
    · rw [coef_not _ _ hk]
      rw [pick_keys, List.mem_filter] at hk
      by_cases hz : k ∈ g0.map (·.1)
      · have : ¬ (decide (coef g0 k ≠ 0) = true) := fun c => hk ⟨hp.mem_iff.mpr hz, c⟩
        simp at this
        exact this.symm
      · exact (coef_not _ _ hz).symm
theorem take_snoc {α : Type} {l : List α} {i : Nat} {x : α} (h : l[i]? = some x) : l.take (i + 1) = l.take i ++ [x] := by
  rw [List.take_add_one, h]
  rfl
/-- the expression's reading: the dict in slot i, the comprehension's own name in slot j -/
def tTerms (K : PySem.W.Frag) (i j : Nat) : TE := tCB (rTupOf K) (tCons (tLc (iList K (tCB rSortedDT (tCons (tVar i) tNil))) (gName j) (tTest (tOp rNe (tDGet (tVar i) (tVar j)) (tC (.int 0)))) (tTup (tCons (tVar j) (tCons (tDGet (tVar i) (tVar j)) tNil))) [j]) tNil)
theorem terms_read {K : PySem.W.Frag} {σ : L2.St} {H : Hp} {Q : VK} {i j m : Nat} {d : Addr} {g0 : Form} (hi : σ[i]? = some (some (.ref d))) (hij : j ≠ i) (hj : j < σ.length) (hd : H d = some (.dT (kvF g0))) (nd : (g0.map (·.1)).Nodup) (hm : ∀ t ∈ g0, t.1.length = m) (hl : g0.length ≤ 1000000)
    (q : ∀ H' v g, Same H H' → FmV H' v g → Canon g0 g → (g.map (·.1)).Pairwise (fun p q => lexL q p = false) → Q v H') : tTerms K i j σ H Q := by
  refine ⟨_, hi, d, kvF g0, g0.map (·.1), m, rfl, .inl hd, by simp, fun p hp => ?_, fun zs l pz srt hz hl0 => ?_⟩
  · obtain ⟨t, ht, rfl⟩ := List.mem_map.mp hp
    exact hm t ht
  · have s1 : Same H (upd H l (.lst (zs.map fun z => V.ref z.1))) := same_new hl0
    refine ⟨l, rfl, ⟨_, sqL upd_same⟩, fun D hD => ?_⟩
    have hlen : zs.length = g0.length := by
      have := pz.length_eq
      simpa using this
    refine lc_list (K := K) (a := l) (xs := zs.map fun z => V.ref z.1) (fun i H' => Same (upd H l (.lst (zs.map fun z => V.ref z.1))) H' ∧ ∃ acc, H' D = some (.lst acc) ∧ acc.length ≤ i ∧ Paired (TmV H') acc (pick g0 ((zs.take i).map (·.2)))) ?_ ?_ ?_ ?_
    · exact ⟨same_new hD, [], upd_same, Nat.le_refl _, .nil⟩
    · rintro n H' hn ⟨s2, _⟩
      exact sqL (s2 _ _ upd_same)
    · rintro n x H' hx ⟨s2, acc, ha, hal, hp⟩
      rw [List.getElem?_map] at hx
      obtain ⟨z, hz', rfl⟩ := Option.map_eq_some_iff.mp hx
      have mz : z ∈ zs := List.mem_of_getElem? hz'
      have kz : z.2 ∈ g0.map (·.1) := pz.mem_iff.mp (List.mem_map_of_mem mz)
      have hdd : H' d = some (.dT (kvF g0)) := s2 _ _ (s1 _ _ hd)
      have hzz : H' z.1 = some (.tup ((pwK z.2).map kV)) := by rw [pwK_V]; exact s2 _ _ (s1 _ _ (hz z mz))
      have gt := DGet.t hdd hzz
      rw [valV_kvF nd kz] at gt
      have hn : n < zs.length := (List.getElem?_eq_some_iff.mp hz').1
      have vi : ((wipe σ [j]).set j (some (V.ref z.1)))[i]? = some (some (.ref d)) := by
        show ((σ.set j none).set j (some (V.ref z.1)))[i]? = _
        rw [List.getElem?_set_ne hij, List.getElem?_set_ne hij]
        exact hi
      have vj : ((wipe σ [j]).set j (some (V.ref z.1)))[j]? = some (some (V.ref z.1)) := by
        show ((σ.set j none).set j (some (V.ref z.1)))[j]? = _
        rw [List.getElem?_set_self (by rw [List.length_set]; exact hj)]
      refine ⟨?_, _, vi, _, vj, d, _, rfl, gt, rfl, _, rfl, ite2 (fun e => ?_) (fun e => ?_)⟩
      · show ((σ.set j none).set j (some (V.ref z.1))).set j none = σ.set j none
        rw [List.set_set, List.set_set]
      · have e0 : coef g0 z.2 ≠ 0 := fun c => by simp [c] at e
        refine ⟨_, vj, _, vi, _, vj, d, _, rfl, gt, (by show 2 ≤ sizeLine; decide), fun t ht => ?_⟩
        have nD : D ≠ t := ne_of_none ha ht
        refine ⟨acc, by rw [upd_ne nD]; exact ha, szl (by omega), fun b o e => ?_, _, upd_same, by simp; omega, ?_⟩
        · have nb : b ≠ D := ne_of_none e hD
          rw [upd_ne nb]
          exact same_new ht _ _ (s2 _ _ e)
        · rw [take_snoc hz', List.map_append]
          show Paired _ _ (pick g0 ((zs.take n).map (·.2) ++ [z.2]))
          rw [pick_snoc1 e0]
          have tp : Tups H' (upd (upd H' t (.tup [.ref z.1, .int (coef g0 z.2)])) D (.lst (acc ++ [.ref t]))) :=
            (tups_new ht).trans (tups_upd (u := .lst acc) (by rw [upd_ne nD]; exact ha) (by intro xs c; cases c))
          refine Paired.snoc' ?_ (Paired.imp (fun _ _ => TmV.mono tp) hp)
          refine ⟨t, z.1, rfl, ?_, ?_⟩
          · rw [upd_ne nD.symm, upd_same]
          · exact tp _ _ (by rw [← pwK_V]; exact hzz)
      · have e0 : coef g0 z.2 = 0 := by simpa using e
        refine ⟨s2, acc, ha, by omega, ?_⟩
        rw [take_snoc hz', List.map_append]
        show Paired _ _ (pick g0 ((zs.take n).map (·.2) ++ [z.2]))
        rw [pick_snoc0 e0]
        exact hp
    · rintro H' ⟨s2, acc, ha, hal, hp⟩
      rw [List.length_map, List.take_length] at hp
      refine ⟨D, acc, rfl, .inl ⟨sqL ha, fun r hr0 => ?_⟩⟩
      refine q _ _ _ ((s1.trans s2).trans (same_new hr0)) ⟨r, acc, rfl, upd_same, Paired.imp (fun _ _ => TmV.mono (tups_new hr0)) hp⟩ (pick_canon nd pz) ?_
      rw [pick_keys]
      refine List.Pairwise.filter _ ?_
      exact List.pairwise_map.mpr srt
end Mv

set_option Elab.async false
set_option linter.all false
set_option maxRecDepth 100000
set_option maxHeartbeats 4000000
namespace Mv
open PySem PySem.Spec PyProof.Rows L2
def topS (i : Nat) : Stmt := PySem.Challenge.pw_movebook_k73_off_nought.main.body.getD i (.Pass ⟨0, 0, 0, 0⟩)
abbrev sPowerOf : Stmt := topS 4
abbrev nPowerOf : List Str := ["number", "count", "total", "step"]
abbrev pPowerOf : List Str := ["number", "count"]
theorem scPowerOf : FnScope nPowerOf pPowerOf (defScope sPowerOf) := ⟨rfl, rfl, rfl, by decide +kernel, rfl, by decide +kernel, by decide +kernel⟩
abbrev sFormOfTerms : Stmt := topS 5
abbrev nFormOfTerms : List Str := ["kept", "powers"]
abbrev pFormOfTerms : List Str := ["kept"]
theorem scFormOfTerms : FnScope nFormOfTerms pFormOfTerms (defScope sFormOfTerms) := ⟨rfl, rfl, rfl, by decide +kernel, rfl, by decide +kernel, by decide +kernel⟩
abbrev sPutIn : Stmt := topS 6
abbrev nPutIn : List Str := ["form", "at", "number", "kept", "powers", "count", "rest"]
abbrev pPutIn : List Str := ["form", "at", "number"]
theorem scPutIn : FnScope nPutIn pPutIn (defScope sPutIn) := ⟨rfl, rfl, rfl, by decide +kernel, rfl, by decide +kernel, by decide +kernel⟩
abbrev sOffNought : Stmt := topS 7
abbrev nOffNought : List Str := ["many", "forms", "at", "form", "left", "numbers", "number", "tried"]
abbrev pOffNought : List Str := ["many", "forms"]
theorem scOffNought : FnScope nOffNought pOffNought (defScope sOffNought) := ⟨rfl, rfl, rfl, by decide +kernel, rfl, by decide +kernel, by decide +kernel⟩
abbrev sLawPool : Stmt := topS 9
abbrev nLawPool : List Str := ["_law_script", "_law_at", "_law_cell", "_law_digits"]
abbrev pLawPool : List Str := ["_law_script", "_law_at"]
theorem scLawPool : FnScope nLawPool pLawPool (defScope sLawPool) := ⟨rfl, rfl, rfl, by decide +kernel, rfl, by decide +kernel, by decide +kernel⟩
abbrev sLawTake : Stmt := topS 10
abbrev nLawTake : List Str := ["_law_pool_here", "_law_wide", "_law_found", "_law_seed"]
abbrev pLawTake : List Str := ["_law_pool_here", "_law_wide"]
theorem scLawTake : FnScope nLawTake pLawTake (defScope sLawTake) := ⟨rfl, rfl, rfl, by decide +kernel, rfl, by decide +kernel, by decide +kernel⟩
abbrev sLawWhole : Stmt := topS 11
abbrev nLawWhole : List Str := ["_law_found"]
abbrev pLawWhole : List Str := ["_law_found"]
theorem scLawWhole : FnScope nLawWhole pLawWhole (defScope sLawWhole) := ⟨rfl, rfl, rfl, by decide +kernel, rfl, by decide +kernel, by decide +kernel⟩
abbrev sLawGather : Stmt := topS 12
abbrev nLawGather : List Str := ["_law_terms", "_law_kept", "_law_powers", "_law_number"]
abbrev pLawGather : List Str := ["_law_terms"]
theorem scLawGather : FnScope nLawGather pLawGather (defScope sLawGather) := ⟨rfl, rfl, rfl, by decide +kernel, rfl, by decide +kernel, by decide +kernel⟩
abbrev sLawProduct : Stmt := topS 13
abbrev nLawProduct : List Str := ["_law_one", "_law_other", "_law_terms", "_law_powers", "_law_number", "_law_others", "_law_count", "_law_k"]
abbrev pLawProduct : List Str := ["_law_one", "_law_other"]
theorem scLawProduct : FnScope nLawProduct pLawProduct (defScope sLawProduct) := ⟨rfl, rfl, rfl, by decide +kernel, rfl, by decide +kernel, by decide +kernel⟩
abbrev sLawPower : Stmt := topS 14
abbrev nLawPower : List Str := ["_law_number", "_law_count", "_law_total", "_law_k"]
abbrev pLawPower : List Str := ["_law_number", "_law_count"]
theorem scLawPower : FnScope nLawPower pLawPower (defScope sLawPower) := ⟨rfl, rfl, rfl, by decide +kernel, rfl, by decide +kernel, by decide +kernel⟩
abbrev sLawUnit : Stmt := topS 15
abbrev nLawUnit : List Str := ["_law_many", "_law_at", "_law_number", "_law_k"]
abbrev pLawUnit : List Str := ["_law_many", "_law_at", "_law_number"]
theorem scLawUnit : FnScope nLawUnit pLawUnit (defScope sLawUnit) := ⟨rfl, rfl, rfl, by decide +kernel, rfl, by decide +kernel, by decide +kernel⟩
abbrev sLawFactor : Stmt := topS 16
abbrev nLawFactor : List Str := ["_law_pool_here", "_law_many", "_law_way", "_law_flat", "_law_at", "_law_other"]
abbrev pLawFactor : List Str := ["_law_pool_here", "_law_many"]
theorem scLawFactor : FnScope nLawFactor pLawFactor (defScope sLawFactor) := ⟨rfl, rfl, rfl, by decide +kernel, rfl, by decide +kernel, by decide +kernel⟩
abbrev sLawLadder : Stmt := topS 17
abbrev nLawLadder : List Str := ["_law_many", "_law_at", "_law_low", "_law_count", "_law_form", "_law_k"]
abbrev pLawLadder : List Str := ["_law_many", "_law_at", "_law_low", "_law_count"]
theorem scLawLadder : FnScope nLawLadder pLawLadder (defScope sLawLadder) := ⟨rfl, rfl, rfl, by decide +kernel, rfl, by decide +kernel, by decide +kernel⟩
abbrev sLawRungs : Stmt := topS 18
abbrev nLawRungs : List Str := ["_law_pool_here", "_law_many", "_law_at", "_law_count", "_law_begin", "_law_forms_here", "_law_k", "_law_number"]
abbrev pLawRungs : List Str := ["_law_pool_here", "_law_many"]
theorem scLawRungs : FnScope nLawRungs pLawRungs (defScope sLawRungs) := ⟨rfl, rfl, rfl, by decide +kernel, rfl, by decide +kernel, by decide +kernel⟩
abbrev sLawForms : Stmt := topS 19
abbrev nLawForms : List Str := ["_law_pool_here", "_law_many", "_law_ladders", "_law_holes", "_law_forms_here", "_law_k", "_law_form", "_law_j", "_law_low", "_law_at", "_law_count"]
abbrev pLawForms : List Str := ["_law_pool_here", "_law_many"]
theorem scLawForms : FnScope nLawForms pLawForms (defScope sLawForms) := ⟨rfl, rfl, rfl, by decide +kernel, rfl, by decide +kernel, by decide +kernel⟩
abbrev sLawThere : Stmt := topS 20
abbrev nLawThere : List Str := ["_law_form", "_law_numbers", "_law_total", "_law_powers", "_law_number", "_law_k"]
abbrev pLawThere : List Str := ["_law_form", "_law_numbers"]
theorem scLawThere : FnScope nLawThere pLawThere (defScope sLawThere) := ⟨rfl, rfl, rfl, by decide +kernel, rfl, by decide +kernel, by decide +kernel⟩
abbrev sLawEnds : Stmt := topS 21
abbrev nLawEnds : List Str := ["_law_found", "_law_many", "_law_forms_here", "_law_number", "_law_most", "_law_form", "_law_powers"]
abbrev pLawEnds : List Str := ["_law_found", "_law_many", "_law_forms_here"]
theorem scLawEnds : FnScope nLawEnds pLawEnds (defScope sLawEnds) := ⟨rfl, rfl, rfl, by decide +kernel, rfl, by decide +kernel, by decide +kernel⟩
abbrev sLaw : Stmt := topS 22
abbrev nLaw : List Str := ["_law_script", "_law_pool_here", "_law_many", "_law_forms_here", "_law_handed", "_law_found", "_law_place", "_law_kind", "e", "_law_again", "_law_k"]
abbrev pLaw : List Str := ["_law_script"]
theorem scLaw : FnScope nLaw pLaw (defScope sLaw) := ⟨rfl, rfl, rfl, by decide +kernel, rfl, by decide +kernel, by decide +kernel⟩
abbrev sNoughtInit : Stmt := inClass (topS 2) 0
abbrev nNoughtInit : List Str := ["self", "number"]
abbrev pNoughtInit : List Str := ["self", "number"]
theorem scNoughtInit : FnScope nNoughtInit pNoughtInit (defScope sNoughtInit) := ⟨rfl, rfl, rfl, by decide +kernel, rfl, by decide +kernel, by decide +kernel⟩
/-- what the top has left -/
structure Txt (K : PySem.W.Frag) (mg : Str → Option Value) (C1 C2 : Addr) : Prop where
  eNought : ErrC K mg "Nought" "number" pNoughtInit sNoughtInit C1
  gBook : mg "BookError" = some (.ref C2)
  isBook : PySem.W.kitOne K (.ref C1) (.ref C2) = some true
  exc : ExcC K C1
  n_range : mg "range" = none
  n_tuple : mg "tuple" = none
  n_list : mg "list" = none
  n_sorted : mg "sorted" = none
  n_enumerate : mg "enumerate" = none
  n_len : mg "len" = none
  n_isinstance : mg "isinstance" = none
  n_int : mg "int" = none
  n_bool : mg "bool" = none
  n_max : mg "max" = none
  n_min : mg "min" = none
  n_sum : mg "sum" = none
  dPowerOf : Has K mg "power_of" pPowerOf sPowerOf
  dFormOfTerms : Has K mg "form_of_terms" pFormOfTerms sFormOfTerms
  dPutIn : Has K mg "put_in" pPutIn sPutIn
  dOffNought : Has K mg "off_nought" pOffNought sOffNought
  dLawPool : Has K mg "_law_pool" pLawPool sLawPool
  dLawTake : Has K mg "_law_take" pLawTake sLawTake
  dLawWhole : Has K mg "_law_whole" pLawWhole sLawWhole
  dLawGather : Has K mg "_law_gather" pLawGather sLawGather
  dLawProduct : Has K mg "_law_product" pLawProduct sLawProduct
  dLawPower : Has K mg "_law_power" pLawPower sLawPower
  dLawUnit : Has K mg "_law_unit" pLawUnit sLawUnit
  dLawFactor : Has K mg "_law_factor" pLawFactor sLawFactor
  dLawLadder : Has K mg "_law_ladder" pLawLadder sLawLadder
  dLawRungs : Has K mg "_law_rungs" pLawRungs sLawRungs
  dLawForms : Has K mg "_law_forms" pLawForms sLawForms
  dLawThere : Has K mg "_law_there" pLawThere sLawThere
  dLawEnds : Has K mg "_law_ends" pLawEnds sLawEnds
end Mv

set_option Elab.async false
set_option linter.all false
set_option maxRecDepth 100000
set_option maxHeartbeats 4000000
namespace Mv
open PySem PySem.Spec PyProof.Rows L2
/-- a whole number to a power -/
def spPower : Sp := fun vs H Q _ => ∃ (n : Int) (c B : Nat), vs = [.int n, .int c] ∧ n.natAbs ≤ 2 ^ B ∧ B * c + B + c ≤ 500000 ∧ Q (.int (n ^ c)) H
theorem pow_step {n : Int} {c B i : Nat} (hn : n.natAbs ≤ 2 ^ B) (hB : B * c + B + c ≤ 500000) (hi : i < c) : CMulW (n ^ i) n := by
  have h1 : (n ^ i).natAbs ≤ 2 ^ (B * i) := by
    rw [Int.natAbs_pow, Nat.pow_mul]
    exact Nat.pow_le_pow_left hn i
  have h2 : B * i ≤ B * c := Nat.mul_le_mul_left _ (Nat.le_of_lt hi)
  have lt : ∀ k : Nat, 2 ^ k < 2 ^ (k + 1) := fun k => Nat.pow_lt_pow_right (by decide) (Nat.lt_succ_self k)
  exact wide_mul (a := B * i + 1) (b := B + 1) (Nat.lt_of_le_of_lt h1 (lt _)) (Nat.lt_of_le_of_lt hn (lt _)) (by omega) (by omega) (by omega)
section
variable {P : Program} {w : World} {K : PySem.W.Frag} {mg : Str → Option Value} {base : Heap} {C1 C2 : Addr}
theorem pr_power_of (T : Txt K mg C1 C2) : Prom P w K mg base CX0 1 "power_of" pPowerOf spPower := by
  refine T.dPowerOf.prom fun f fd F => F.ok scPowerOf (fun vs H Q E h => ?_) (fun cdv A outer s H vs Q E hr h => ?_)
  · obtain ⟨n, c, B, rfl, _⟩ := h
    rfl
  · obtain ⟨n, c, B, rfl, hn, hB, q⟩ := h
    refine ⟨_, (pss_cons (ps_set (i := 2) scPowerOf.nd rfl (Or.inl rfl) pe_int)
  (pss_cons (ps_for PassesOwn.never rfl (pi_range1 (by rfl) T.n_range (pa_cons (pv 1) pa_nil)) (pg_name (i := 3) scPowerOf.nd rfl (Or.inl rfl))
    (pss_one (ps_set (i := 2) scPowerOf.nd rfl (Or.inl rfl) (pe_op op_mulW (pv 2) (pv 0)))))
  (pss_one (ps_ret (pv 2))))), ?_⟩
    refine ⟨_, rfl, c, rfl, by omega, by omega, ?_⟩
    refine for_range (lo := 0) (n := c) (fun i σ H' => H' = H ∧ ∃ z, σ = [some (.int n), some (.int c), some (.int (n ^ i)), z]) ⟨rfl, none, by rw [Int.pow_zero]; rfl⟩ ?_ ?_
    · rintro i σ H' hi ⟨rfl, z, rfl⟩
      exact ⟨_, rfl, _, rfl, _, _, rfl, rfl, pow_step hn hB hi, rfl, _, by rw [Int.pow_succ]; rfl⟩
    · rintro σ H' ⟨rfl, z, rfl⟩
      exact ⟨_, rfl, q⟩
end
end Mv

set_option Elab.async false
set_option linter.all false
set_option maxRecDepth 100000
set_option maxHeartbeats 4000000
namespace Mv
open PySem PySem.Spec PyProof.Rows L2
/-- the form of the terms that a dict keeps -/
def spOfTerms : Sp := fun vs H Q _ => ∃ (d : Addr) (g0 : Form) (m : Nat), vs = [.ref d] ∧ H d = some (.dT (kvF g0)) ∧ (g0.map (·.1)).Nodup ∧ (∀ t ∈ g0, t.1.length = m) ∧ g0.length ≤ 1000000 ∧
  ∀ H' v g, Same H H' → FmV H' v g → Canon g0 g → (g.map (·.1)).Pairwise (fun p q => lexL q p = false) → Q v H'
section
variable {P : Program} {w : World} {K : PySem.W.Frag} {mg : Str → Option Value} {base : Heap} {C1 C2 : Addr}
theorem pr_form_of_terms (T : Txt K mg C1 C2) : Prom P w K mg base CX0 1 "form_of_terms" pFormOfTerms spOfTerms := by
  refine T.dFormOfTerms.prom fun f fd F => F.ok scFormOfTerms (fun vs H Q E h => ?_) (fun cdv A outer s H vs Q E hr h => ?_)
  · obtain ⟨d, g0, m, rfl, _⟩ := h
    rfl
  · obtain ⟨d, g0, m, rfl, hd, nd, hm, hl, q⟩ := h
    refine ⟨_, (pss_one (ps_ret (pe_callTy (cr_tupOf (K := K) rfl) (by rfl) T.n_tuple (by decide +kernel) (pa_cons (pe_lc (own := [("powers", 1)]) (g := (gName 1)) (tt := _) rfl scFormOfTerms.nd (pi_listK (K := K) rfl (pe_callB (cr_sortedDT rfl) (by rfl) T.n_sorted (by decide +kernel) (pa_cons (pv 0) pa_nil))) (blkOk_by (own := [("powers", 1)]) (N := nFormOfTerms) (sc := defScope sFormOfTerms) (by decide +kernel)) (fun _ _ _ _ _ => (pg_name (i := 1) scFormOfTerms.nd rfl (Or.inl rfl))) (fun _ _ _ _ _ => pts_one (pt_cmpR op_ne (pe_dget (hu_of hr) (pv 0) (pv 1) (fun _ _ => rfl)) pe_int (nomark _))) (fun _ _ _ _ _ => (pe_tup (pa_cons (pv 1) (pa_cons (pe_dget (hu_of hr) (pv 0) (pv 1) (fun _ _ => rfl)) pa_nil))))) pa_nil)))), ?_⟩
    exact terms_read (K := K) (i := 0) (j := 1) (m := m) rfl (by decide) (by show 1 < 2; decide) hd nd hm hl q
end
end Mv

set_option Elab.async false
set_option linter.all false
set_option maxRecDepth 100000
set_option maxHeartbeats 4000000
namespace Mv
open PySem PySem.Spec PyProof.Rows L2
/-- a number put in for one unknown -/
def spPutIn : Sp := fun vs H Q _ => ∃ (v : V) (f : Form) (i m T b D B s : Nat) (n : Int), vs = [v, .int i, .int n] ∧ FmV H v f ∧ FF m T b D f ∧ i < m ∧ n.natAbs ≤ 2 ^ B ∧ T ≤ 100000 ∧ m ≤ 1000 ∧ b + B * D + B + D + s ≤ 400000 ∧
  ∀ H' v' g, Same H H' → FmV H' v' g → Canon (f.map (putT i n)) g → Q v' H'
theorem set_split {p : List Nat} {i : Nat} (h : i < p.length) : pwV (p.take i) ++ [V.int 0] ++ pwV (p.drop (i + 1)) = pwV (p.set i 0) := by
  rw [List.set_eq_take_append_cons_drop, if_pos h]
  simp [pwV]
section
variable {P : Program} {w : World} {K : PySem.W.Frag} {mg : Str → Option Value} {base : Heap} {C1 C2 : Addr}
theorem pr_put_in (T : Txt K mg C1 C2) : Prom P w K mg base CX0 2 "put_in" pPutIn spPutIn := by
  obtain ⟨f1, d1, gPowerOf, kPowerOf, bPowerOf, GPowerOf⟩ := pr_power_of (P := P) (w := w) (base := base) T
  obtain ⟨f2, d2, gFormOfTerms, kFormOfTerms, bFormOfTerms, GFormOfTerms⟩ := pr_form_of_terms (P := P) (w := w) (base := base) T
  refine T.dPutIn.prom fun f fd F => F.ok scPutIn (fun vs H Q E h => ?_) (fun cdv A outer s H vs Q E hr h => ?_)
  · obtain ⟨v, f, i, m, T, b, D, B, s, n, rfl, _⟩ := h
    rfl
  · obtain ⟨v, f, i, m, Tt, b, D, B, s', n, rfl, hv, hf, hi, hn, hT, hm, hz, q⟩ := h
    refine ⟨_, (pss_cons (ps_set (i := 3) scPutIn.nd rfl (Or.inl rfl) pe_dnewT)
  (pss_cons (ps_for PassesOwn.never rfl (pi_tupK (K := K) rfl (pv 0)) (pg_tup rfl (pgs_cons (pg_name (i := 4) scPutIn.nd rfl (Or.inl rfl)) (pgs_cons (pg_name (i := 5) scPutIn.nd rfl (Or.inl rfl)) pgs_nil)))
    (pss_cons (ps_set (i := 6) scPutIn.nd rfl (Or.inl rfl) (pe_op (op_catAK (K := K) rfl) (pe_op (op_catAK (K := K) rfl) (pe_slice (sl_tupAK (K := K) rfl) (pv 4) po_none (po_some (pv 1))) (pe_tup (pa_cons pe_int pa_nil))) (pe_slice (sl_tupAK (K := K) rfl) (pv 4) (po_some (pe_op op_add (pv 1) pe_int)) po_none)))
    (pss_one (ps_dput (hu_of hr) (pv 3) (pv 6) (pe_op op_add (pe_dget2 (hu_of hr) (pv 3) (pv 6) pe_int ⟨rfl, rfl, rfl, rfl⟩) (pe_op op_mulW (pv 5) (pe_call GPowerOf (hr.mono (by decide)) (by rfl) gPowerOf kPowerOf bPowerOf .nil pass0 (pa_cons (pv 2) (pa_cons (pe_ix (ix_tupK (K := K) rfl) (pv 4) (pv 1) (fun _ _ => rfl)) pa_nil))))) rfl))))
  (pss_one (ps_ret (pe_call GFormOfTerms (hr.mono (by decide)) (by rfl) gFormOfTerms kFormOfTerms bFormOfTerms .nil pass0 (pa_cons (pv 3) pa_nil)))))), ?_⟩
    obtain ⟨a, xs, rfl, ha, hp⟩ := hv
    have lx : xs.length = f.length := Paired.len hp
    intro d hd
    refine ⟨_, rfl, a, rfl, ⟨xs, sqT (same_new hd _ _ ha)⟩, for_tup (K := K) (a := a) (xs := xs) (fun j σ H' => ∃ y4 y5 y6, σ = [some (.ref a), some (.int i), some (.int n), some (.ref d), y4, y5, y6] ∧ Same H H' ∧ H' d = some (.dT (kvF (gather ((f.take j).map (putT i n)))))) ?_ ?_ ?_ ?_⟩
    · exact ⟨none, none, none, rfl, same_new hd, upd_same⟩
    · rintro j σ H' hj ⟨_, _, _, _, s1, _⟩
      exact sqT (s1 _ _ ha)
    · rintro j x σ H' hx ⟨y4, y5, y6, rfl, s1, hd'⟩
      obtain ⟨t, ht, tx⟩ := Paired.get hp hx
      obtain ⟨c, pa, rfl, hc, hpa⟩ := tx
      have mt : t ∈ f := List.mem_of_getElem? ht
      have hc' := s1 _ _ hc
      have hpa' := s1 _ _ hpa
      have lt1 := hf.ar t mt
      have lp : (pwV t.1).length = t.1.length := by simp
      -- powers, count = the term
      refine ⟨c, _, rfl, sqT hc', rfl, .ref pa, _, rfl, _, [], rfl, rfl, ?_⟩
      -- powers[:at]
      refine ⟨_, rfl, _, rfl, i, rfl, sl_any hpa' fun p1 H1 s2 h1 => ?_⟩
      rw [cut_to _ _ (by rw [lp]; omega)] at h1
      refine ⟨(by show 1 ≤ sizeLine; decide), fun p2 n2 => ?_⟩
      have s3 := s2.trans (same_new (o := .tup [V.int 0]) n2)
      have h1' := same_new (o := .tup [V.int 0]) n2 _ _ h1
      refine cat_any h1' upd_same (by simp; omega) fun p3 H3 s4 h3 => ?_
      have s5 := s3.trans s4
      refine ⟨_, rfl, _, rfl, _, _, rfl, rfl, _, rfl, ?_⟩
      refine sl_from (s5 _ _ hpa') fun p4 H4 s6 h4 => ?_
      have e1 : ((i : Int) + 1) = ((i + 1 : Nat) : Int) := by omega
      rw [e1, cut_from _ _ (by rw [lp]; omega)] at h4
      have s7 := s5.trans s6
      refine cat_any (s6 _ _ h3) h4 (by simp; omega) fun p5 H5 s8 h5 => ?_
      have s9 := s7.trans s8
      have h5' : H5 p5 = some (.tup (pwV (t.1.set i 0))) := by
        rw [← set_split (by omega), h5]
        simp [pwV]
      have h5k : H5 p5 = some (.tup ((pwK (t.1.set i 0)).map kV)) := by rw [pwK_V]; exact h5'
      have hd5 := s9 _ _ hd'
      have G := gath ((f.take j).map (putT i n))
      have Dt := DGet.t hd5 h5k
      -- the number
      refine ⟨_, rfl, d, rfl, .inr ⟨_, .inl hd5⟩, _, rfl, _, Dt, ?_⟩
      rw [getD_kvF G.nd]
      obtain ⟨e, hge⟩ : ∃ e, t.1[i]? = some e := ⟨t.1[i], List.getElem?_eq_getElem (by omega)⟩
      have hDe : e ≤ D := hf.deg t mt e (List.mem_of_getElem? hge)
      have hBe : B * e ≤ B * D := Nat.mul_le_mul_left _ hDe
      have hgD : t.1.getD i 0 = e := by rw [List.getD_eq_getElem?_getD, hge]; rfl
      refine ⟨_, rfl, _, rfl, _, rfl, _, rfl, pa, pwV t.1, i, .int e, rfl, rfl, sqT (s9 _ _ hpa'), atI_nat (by simp [pwV, hge]), ?_⟩
      refine ⟨n, e, B, rfl, hn, by omega, ?_⟩
      have hw : CMulW t.2 (n ^ e) := by
        refine wide_mul (a := b + 1) (b := B * e + 1) (Nat.lt_trans (hf.cf t mt) (Nat.pow_lt_pow_right (by decide) (Nat.lt_succ_self b))) (Nat.lt_of_le_of_lt (pow_abs_le hn (Nat.le_refl e)) (Nat.pow_lt_pow_right (by decide) (Nat.lt_succ_self _))) (by omega) (by omega) (by omega)
      refine ⟨_, _, rfl, rfl, hw, _, _, rfl, rfl, ?_⟩
      -- kept[rest] = ..
      have hlen : (kvF (gather ((f.take j).map (putT i n)))).length < sizeLine := by
        have := G.len
        have := hf.len
        simp only [List.length_map, List.length_take] at this ⊢
        exact szl (by rw [List.length_map, List.length_take] at *; omega)
      refine ⟨_, rfl, _, rfl, d, _, rfl, DPut.t hd5 h5k hlen, ?_⟩
      refine ⟨_, _, _, rfl, same_mut (fun b o hb => s9 _ _ (s1 _ _ hb)) hd, ?_⟩
      rw [upd_same, take_snoc ht, List.map_append]
      show _ = some (HO.dT (kvF (gather ((f.take j).map (putT i n) ++ [putT i n t]))))
      rw [gather_snoc, ← kvF_addT]
      unfold putT
      rw [hgD]
    · rintro σ H' ⟨y4, y5, y6, rfl, s1, hd'⟩
      rw [lx, List.take_length] at hd'
      have G := gath (f.map (putT i n))
      have hfl := hf.len
      refine ⟨_, rfl, d, _, m, rfl, hd', G.nd, fun t ht => ?_, ?_, fun H2 v2 g s2 h2 c2 _ => q H2 v2 g (s1.trans s2) h2 (c2.of_gath G)⟩
      · obtain ⟨u, hu, e⟩ := List.mem_map.mp (G.keys t.1 (List.mem_map_of_mem ht))
        obtain ⟨x, hx, rfl⟩ := List.mem_map.mp hu
        rw [← e]
        show (x.1.set i 0).length = m
        rw [List.length_set, hf.ar x hx]
      · have := G.len
        rw [List.length_map] at this
        omega
end
end Mv

set_option Elab.async false
set_option linter.all false
set_option maxRecDepth 100000
set_option maxHeartbeats 4000000
namespace Mv
open PySem PySem.Spec PyProof.Rows L2
section
variable {P : Program} {w : World} {K : PySem.W.Frag} {mg : Str → Option Value} {base : Heap} {C1 C2 : Addr}
theorem ok_nought_init (E1 : ErrC K mg "Nought" "number" pNoughtInit sNoughtInit C1) {q : Str} {fI : Addr} {fd : FuncData} (F : Fun K "__init__" q sNoughtInit fI fd) : FnOk P w K mg base CX0 1 fI fd pNoughtInit (spIni C1 "number") := by
  refine F.ok scNoughtInit (fun vs H Q E h => ?_) (fun cdv A outer s H vs Q E hr h => ?_)
  · obtain ⟨a, v, rfl, _⟩ := h
    rfl
  · obtain ⟨a, v, rfl, ha, q⟩ := h
    refine ⟨_, (pss_one (ps_ost (pv 0) (pv 1))), ?_⟩
    exact ⟨_, rfl, _, rfl, a, C1, rfl, E1.oex, E1.noF, .inl ⟨ha, fun dx h1 h2 => q dx h1 h2⟩⟩
/-- whole numbers with which no form is nought -/
def spOff (C1 : Addr) : Sp := fun vs H Q E => ∃ (l : Addr) (xs : List V) (fs : List Form) (many T b D B s : Nat), vs = [.int many, .ref l] ∧ H l = some (.lst xs) ∧ FmsV H xs fs ∧ xs.length ≤ 100000 ∧
  (∀ f ∈ fs, (f.map (·.1)).Nodup ∧ (∀ t ∈ f, t.2 ≠ 0) ∧ FF many T b D f) ∧ T ≤ 100000 ∧ T ≤ 2 ^ s ∧ (fs.map mp).sum + 1 ≤ 2 ^ B ∧ many ≤ 1000 ∧ b + many * (B * D + s) + B * D + B + D + s ≤ 400000 ∧
  (∀ (i : Nat), fs[i]? = some [] → (∀ j, j < i → fs[j]? ≠ some []) → ∀ d H', H d = none → Same H H' → H' d = some (.xd [("number", .int i)]) → E (.ref C1) (some d) H') ∧
  ([] ∉ fs → ∀ nums H' p, Good many fs nums → Same H H' → H p = none → H' p = some (.lst (nums.map V.int)) → Q (.ref p) H')
/-- [put_in(form, at, number) for form in left] -/
theorem tried_comp {H : Hp} {Q : VK} {k n many T b D B s : Nat} {s0 s1 s3 s5 s7 : Option V} {L : Addr} {vs : List V} {gs : List Form} (hL : H L = some (.lst vs)) (hv : FmsV H vs gs) (hff : ∀ g ∈ gs, FF many T b D g) (hk : k < many) (hn : n ≤ 2 ^ B)
    (hT : T ≤ 100000) (hm : many ≤ 1000) (hb : b + B * D + B + D + s ≤ 400000) (hl : vs.length ≤ 100000)
    (q : ∀ H' T' ts vs', Same H H' → H T' = none → H' T' = some (.lst vs') → FmsV H' vs' ts → Paired (fun g t => Canon (g.map (putT k (n : Int))) t) gs ts → Q (.ref T') H') :
    tLc (iList K (tVar 4)) (gName 3) tYes (tCall spPutIn [] E0 (tCons (tVar 3) (tCons (tVar 2) (tCons (tVar 6) tNil)))) [3] [s0, s1, some (.int k), s3, some (.ref L), s5, some (.int n), s7] H Q := by
  refine ⟨_, rfl, L, rfl, ⟨vs, sqL hL⟩, fun T' hT' => ?_⟩
  have lg : vs.length = gs.length := Paired.len hv
  refine lc_list (K := K) (a := L) (xs := vs) (fun i H' => Same H H' ∧ ∃ acc ts, H' T' = some (.lst acc) ∧ FmsV H' acc ts ∧ Paired (fun g t => Canon (g.map (putT k (n : Int))) t) (gs.take i) ts) ?_ ?_ ?_ ?_
  · exact ⟨same_new hT', [], [], upd_same, .nil, .nil⟩
  · rintro i H' hi ⟨s1, _⟩
    exact sqL (s1 _ _ hL)
  · rintro i x H' hx ⟨s1, acc, ts, ha, hf, hp⟩
    obtain ⟨g, hg, fx⟩ := Paired.get hv hx
    have mg := List.mem_of_getElem? hg
    refine ⟨rfl, _, rfl, _, rfl, _, rfl, ?_⟩
    refine ⟨x, g, k, many, T, b, D, B, s, n, rfl, fx.mono (tups_of_same s1), hff g mg, hk, by simpa using hn, hT, hm, hb, fun H2 v' g' s2 h2 c2 => ?_⟩
    have ha2 := s2 _ _ ha
    have tp : Tups H2 (upd H2 T' (.lst (acc ++ [v']))) := tups_upd ha2 (by intro xs c; cases c)
    have la : acc.length = (gs.take i).length := (Paired.len hf).trans (Paired.len hp).symm
    refine ⟨acc, ha2, szl ?_, same_mut (s1.trans s2) hT', acc ++ [v'], ts ++ [g'], upd_same, Paired.snoc' (h2.mono tp) (FmsV.mono ((tups_of_same s2).trans tp) hf), ?_⟩
    · rw [la, List.length_take]
      omega
    · rw [take_snoc hg]
      exact Paired.snoc' (F := fun (g t : Form) => Canon (g.map (putT k (n : Int))) t) c2 hp
  · rintro H' ⟨s1, acc, ts, ha, hf, hp⟩
    rw [lg, List.take_length] at hp
    exact q H' T' ts acc s1 hT' ha hf hp
theorem pairedAll {α β : Type} {F : α → β → Prop} : ∀ {l : List α} {m : List β}, Paired F l m → ∀ q ∈ l.zip m, F q.1 q.2
  | _, _, .nil, q, h => by simp at h
  | _, _, .cons f t, q, h => by
    rw [List.zip_cons_cons] at h
    rcases List.mem_cons.mp h with rfl | h
    · exact f
    · exact pairedAll t q h
theorem paired_join {α β γ : Type} {F : α → β → Prop} {G : β → γ → Prop} {R : α → γ → Prop} (h : ∀ a b c, F a b → G b c → c ∈ ([] : List γ) ∨ R a c) : ∀ {l : List α} {m : List β} {n : List γ}, Paired F l m → Paired G m n → Paired R l n
  | _, _, _, .nil, .nil => .nil
  | _, _, _, .cons f t, .cons g u => .cons ((h _ _ _ f g).resolve_left (by simp)) (paired_join h t u)
theorem paired_join' {α β γ : Type} {F : α → β → Prop} {G : β → γ → Prop} {R : α → γ → Prop} : ∀ {l : List α} {m : List β} {n : List γ}, (∀ a b c, c ∈ n → F a b → G b c → R a c) → Paired F l m → Paired G m n → Paired R l n
  | _, _, _, _, .nil, .nil => .nil
  | _, _, _, h, .cons f t, .cons g u => .cons (h _ _ _ (by simp) f g) (paired_join' (fun a b c hc => h a b c (by simp [hc])) t u)
theorem zip_mp : ∀ {fs gs : List Form}, fs.length = gs.length → ((fs.zip gs).map fun q => mp q.1).sum = (fs.map mp).sum
  | [], _, _ => by simp
  | f :: fs, [], h => by simp at h
  | f :: fs, g :: gs, h => by
    have ih := zip_mp (fs := fs) (gs := gs) (by simpa using h)
    simp [ih]
theorem paired_zip {α β : Type} {F : α → β → Prop} {l : List α} {m : List β} (hl : l.length = m.length) (h : ∀ q ∈ l.zip m, F q.1 q.2) : Paired F l m := by
  induction l generalizing m with
  | nil =>
    cases m with
    | nil => exact .nil
    | cons _ _ => simp at hl
  | cons a l ih =>
    cases m with
    | nil => simp at hl
    | cons b m => exact .cons (h (a, b) (by simp)) (ih (by simpa using hl) fun q hq => h q (by simp [hq]))
theorem pr_off_nought (T : Txt K mg C1 C2) : Prom P w K mg base (L2.CX P w) 3 "off_nought" pOffNought (spOff C1) := by
  obtain ⟨f1, d1, gPutIn, kPutIn, bPutIn, GPutIn⟩ := pr_put_in (P := P) (w := w) (base := base) T
  have E1 := T.eNought
  obtain ⟨fI, fdI, qI, iN, tN, FN, bN⟩ := E1.ini
  have GN := ok_nought_init (P := P) (w := w) (base := base) E1 FN
  refine T.dOffNought.prom fun f fd F => F.okX scOffNought (fun vs H Q E h => ?_) (fun cdv A outer s H vs Q E hr h => ?_)
  · obtain ⟨l, xs, fs, many, T, b, D, B, s, rfl, _⟩ := h
    rfl
  · obtain ⟨l, xs, fs, many, Tt, b, D, B, s', rfl, hl, hf, hxl, hall, hT, hTs, hS, hm, hz, qE, qQ⟩ := h
    refine ⟨_, (pss_cons (ps_for (passes_of rfl) rfl (pi_enum (by rfl) T.n_enumerate (pa_cons (pv 1) pa_nil)) (pg_tup rfl (pgs_cons (pg_name (i := 2) scOffNought.nd rfl (Or.inr rfl)) (pgs_cons (pg_name (i := 3) scOffNought.nd rfl (Or.inl rfl)) pgs_nil)))
    (pss_one (ps_if (pt_cmpR (op_eqDK (K := K) rfl (u64 hr)) (pv 3) (pe_tup pa_nil) (nomark _)) (pss_one (ps_raise rfl (takes_of rfl rfl rfl rfl) (pmk_oex E1.oex iN tN GN (hr.mono (by decide)) bN .nil (fun _ _ _ _ _ _ _ h => h.elim) (by rfl) E1.gC (pa_cons (pv 2) pa_nil)))) pss_nil)))
  (pss_cons (ps_set (i := 4) scOffNought.nd rfl (Or.inl rfl) (pe_callTy (cr_lstOf (K := K) rfl) (by rfl) T.n_list (by decide +kernel) (pa_cons (pv 1) pa_nil)))
  (pss_cons (ps_set (i := 5) scOffNought.nd rfl (Or.inl rfl) (pe_lst pa_nil))
  (pss_cons (ps_for (passes_of rfl) rfl (pi_range1 (by rfl) T.n_range (pa_cons (pv 0) pa_nil)) (pg_name (i := 2) scOffNought.nd rfl (Or.inr rfl))
    (pss_cons (ps_set (i := 6) scOffNought.nd rfl (Or.inr rfl) pe_int)
    (pss_cons (ps_setLc (i := 7) (own := [("form", 3)]) (g := (gName 3)) (tt := tYes) rfl scOffNought.nd rfl rfl (sw_true rfl rfl rfl (by decide +kernel)) (pi_listK (K := K) rfl (pv 4)) (blkOk_by (own := [("form", 3)]) (N := nOffNought) (sc := defScope sOffNought) (by decide +kernel)) (fun _ _ _ _ _ => (pg_name (i := 3) scOffNought.nd rfl (Or.inl rfl))) (fun _ _ _ _ _ => pts_nil) (fun _ _ _ _ _ => (pe_call GPutIn (hr.mono (by decide)) (by rfl) gPutIn kPutIn bPutIn .nil pass0 (pa_cons (pv 3) (pa_cons (pv 2) (pa_cons (pv 6) pa_nil))))))
    (pss_cons (ps_while (passes_of rfl) (pt_cmpR (op_inDK (K := K) rfl (u65 hr)) (pe_tup pa_nil) (pv 7) rfl)
      (pss_cons (ps_set (i := 6) scOffNought.nd rfl (Or.inr rfl) (pe_op op_add (pv 6) pe_int))
      (pss_one (ps_setLc (i := 7) (own := [("form", 3)]) (g := (gName 3)) (tt := tYes) rfl scOffNought.nd rfl rfl (sw_true rfl rfl rfl (by decide +kernel)) (pi_listK (K := K) rfl (pv 4)) (blkOk_by (own := [("form", 3)]) (N := nOffNought) (sc := defScope sOffNought) (by decide +kernel)) (fun _ _ _ _ _ => (pg_name (i := 3) scOffNought.nd rfl (Or.inl rfl))) (fun _ _ _ _ _ => pts_nil) (fun _ _ _ _ _ => (pe_call GPutIn (hr.mono (by decide)) (by rfl) gPutIn kPutIn bPutIn .nil pass0 (pa_cons (pv 3) (pa_cons (pv 2) (pa_cons (pv 6) pa_nil)))))))))
    (pss_cons (ps_set (i := 4) scOffNought.nd rfl (Or.inl rfl) (pv 7))
    (pss_one (ps_expr (pe_bm PySem.F.plainAttrs_list PySem.F.slot_list_append PySem.F.type_list_append mt_append (pv 5) (pa_cons (pv 6) pa_nil)))))))))
  (pss_one (ps_ret (pv 5))))))), ?_⟩
    have lx : xs.length = fs.length := Paired.len hf
    -- for at, form in enumerate(forms)
    refine ⟨_, rfl, l, xs, rfl, sqL hl, for_enum (K := K) (a := l) (xs := xs) (fun i σ H' => Same H H' ∧ (∀ j, j < i → fs[j]? ≠ some []) ∧ ∃ z2 z3, σ = [some (.int many), some (.ref l), z2, z3, none, none, none, none]) ?_ ?_ ?_ ?_⟩
    · exact ⟨Same.refl H, fun j hj => absurd hj (Nat.not_lt_zero j), none, none, rfl⟩
    · rintro i σ H' hi ⟨s1, _⟩
      exact sqL (s1 _ _ hl)
    · rintro i x T1 σ H' hx ⟨s1, hno, z2, z3, rfl⟩ nT
      obtain ⟨g, hg, fx⟩ := Paired.get hf hx
      have s2 : Same H (upd H' T1 (.tup [.int (i : Nat), x])) := s1.trans (same_new nT)
      refine ⟨T1, _, rfl, sqT upd_same, rfl, _, _, rfl, _, [], rfl, rfl, _, rfl, (by show 0 ≤ sizeLine; decide), fun p np => ?_⟩
      have s3 : Same H (upd (upd H' T1 (.tup [.int (i : Nat), x])) p (.tup [])) := s2.trans (same_new np)
      refine ⟨fmD g, .tuple [], dp_fm (fx.mono (tups_of_same s3)), dp_nil upd_same, fmD_shaped g, nil_shaped, _, rfl, ?_⟩
      rw [fmD_nil]
      refine ite2 (fun e => ?_) (fun e => ?_)
      · have e0 : g = [] := of_decide_eq_true e
        subst e0
        refine ⟨_, rfl, mkO_ask fun d H2 nd s4 hd => ?_⟩
        exact qE i hg hno d H2 (Same.free s3 nd) (s3.trans s4) hd
      · refine ⟨s3, fun j hj => ?_, _, _, rfl⟩
        by_cases hji : j = i
        · subst hji
          rw [hg]
          intro c
          exact e (decide_eq_true (Option.some.inj c))
        · exact hno j (by omega)
    · rintro σ H1 ⟨s1, hno, z2, z3, rfl⟩
      have hne : [] ∉ fs := fun h => by
        obtain ⟨j, hj, e⟩ := List.getElem_of_mem h
        exact hno j (by omega) (by rw [List.getElem?_eq_getElem hj, e])
      -- left = list(forms); numbers = []
      refine ⟨_, rfl, l, xs, rfl, .inl (sqL (s1 _ _ hl)), fun L0 nL0 => ?_⟩
      refine ⟨(by show 0 ≤ sizeLine; decide), fun N nN => ?_⟩
      have s2 : Same H (upd (upd H1 L0 (.lst xs)) N (.lst [])) := (s1.trans (same_new nL0)).trans (same_new nN)
      have nNL : L0 ≠ N := fun e => by
        rw [← e, upd_same] at nN
        cases nN
      have nN0 : H N = none := Same.free (s1.trans (same_new nL0)) nN
      -- for at in range(many)
      refine ⟨_, rfl, many, rfl, by omega, by omega, ?_⟩
      refine for_range (lo := 0) (n := many) (fun k σ H' => Same H H' ∧ ∃ z2 z3 z6 z7 L ls gs nums, σ = [some (.int many), some (.ref l), z2, z3, some (.ref L), some (.ref N), z6, z7] ∧ H' L = some (.lst ls) ∧ FmsV H' ls gs ∧ H' N = some (.lst (nums.map V.int)) ∧ L ≠ N ∧
        nums.length = k ∧ (∀ n : Int, n ∈ nums → 0 ≤ n ∧ n ≤ (((fs.map mp).sum : Nat) : Int)) ∧ Paired (fun f g => Stp many k Tt (b + k * (B * D + s')) D nums f g) fs gs) ?_ ?_ ?_
      · refine ⟨s2, z2, z3, none, none, L0, xs, fs, [], rfl, ?_, hf.mono (tups_of_same s2), upd_same, nNL, rfl, fun n hn => by simp at hn, ?_⟩
        · rw [upd_ne nNL, upd_same]
        · refine paired_zip rfl fun q hq => ?_
          obtain ⟨j, hj, e⟩ := List.getElem_of_mem hq
          rw [List.getElem_zip] at e
          subst e
          have hjl : j < fs.length := by
            rw [List.length_zip] at hj
            omega
          obtain ⟨a1, a2, a3⟩ := hall fs[j] (List.getElem_mem hjl)
          have := stp_start a1 a2 (fun c => hne (c ▸ List.getElem_mem hjl)) a3
          simpa using this
      · rintro k σ H2 hk ⟨s3, z2, z3, z6, z7, L, ls, gs, nums, rfl, hL, hls, hN, hLN, hnl, hnb, hst⟩
        have hbk : b + k * (B * D + s') + B * D + B + D + s' ≤ 400000 := by
          have : k * (B * D + s') ≤ many * (B * D + s') := Nat.mul_le_mul_right _ (Nat.le_of_lt hk)
          omega
        have lgs : fs.length = gs.length := Paired.len hst
        have lls : ls.length = gs.length := Paired.len hls
        have hff : ∀ g ∈ gs, FF many Tt (b + k * (B * D + s')) D g := fun g hg => by
          obtain ⟨j, hj, rfl⟩ := List.getElem_of_mem hg
          obtain ⟨f', _, h'⟩ := Paired.getR hst (List.getElem?_eq_getElem hj)
          exact h'.ff
        have few := fun (N : Nat) (hb : ∀ m : Nat, m < N → ∃ q ∈ fs.zip gs, ∀ key, coef (q.2.map (putT k (m : Int))) key = 0) => by
          have := stp_few hk N (fs.zip gs) (pairedAll hst) hb
          rw [zip_mp lgs] at this
          exact this
        have nil_bad : ∀ (n : Nat) (ts : List Form), Paired (fun g t => Canon (g.map (putT k (n : Int))) t) gs ts → [] ∈ ts → ∃ q ∈ fs.zip gs, ∀ key, coef (q.2.map (putT k (n : Int))) key = 0 := fun n ts hp hm => by
          obtain ⟨j, hj, e⟩ := List.getElem_of_mem hm
          obtain ⟨g, hg, c⟩ := Paired.getR hp (List.getElem?_eq_getElem hj)
          have hjg : j < gs.length := by
            rw [Paired.len hp]
            exact hj
          refine ⟨(fs[j]'(by omega), gs[j]), ?_, ?_⟩
          · have : (fs.zip gs)[j]'(by rw [List.length_zip]; omega) = (fs[j]'(by omega), gs[j]) := List.getElem_zip
            rw [← this]
            exact List.getElem_mem _
          · rw [List.getElem?_eq_getElem hjg] at hg
            have eg : gs[j] = g := Option.some.inj hg
            show ∀ key, coef (gs[j].map (putT k (n : Int))) key = 0
            rw [eg]
            rw [e] at c
            exact (c.nil_iff).mp rfl
        have hk0 : V.int (0 + (k : Int)) = V.int (k : Nat) := by rw [Int.zero_add]
        -- at = k; number = 0; tried = ..
        show (gName 2 (V.int (0 + (k : Int))) _ _ _)
        rw [hk0]
        dsimp only [gName, tSeq, tAsg, tC]
        refine tried_comp (n := 0) (B := B) (many := many) (s := s') hL hls hff hk (Nat.zero_le _) hT hm hbk (by omega) fun H3 T3 ts vs3 s4 nT3 hT3 hv3 hp3 => ?_
        -- while () in tried
        refine ⟨fun m σ H' => ∃ n T' vs' ts, m = 2 ^ B - n ∧ n < 2 ^ B ∧ σ = [some (.int many), some (.ref l), some (.int k), z3, some (.ref L), some (.ref N), some (.int (n : Nat)), some (.ref T')] ∧ Same H2 H' ∧ H2 T' = none ∧ H' T' = some (.lst vs') ∧ FmsV H' vs' ts ∧
          Paired (fun g t => Canon (g.map (putT k (n : Int))) t) gs ts ∧ ∀ m : Nat, m < n → ∃ q ∈ fs.zip gs, ∀ key, coef (q.2.map (putT k (m : Int))) key = 0, ⟨2 ^ B, 0, T3, vs3, ts, by simp, Nat.pow_pos (by decide), rfl, s4, nT3, hT3, hv3, hp3, fun m hm => absurd hm (Nat.not_lt_zero m)⟩, ?_⟩
        rintro m σ H4 ⟨n, T', vs', ts, rfl, hn, rfl, s5, nT', hT', hv', hp', hbad⟩
        refine ⟨(by show 0 ≤ sizeLine; decide), fun p np => ?_⟩
        have s6 : Same H4 (upd H4 p (.tup [])) := same_new np
        refine ⟨_, rfl, .tuple [], ts.map fmD, dp_nil upd_same, dp_list (s6 _ _ hT') (hv'.mono (tups_of_same s6)), nil_shaped, fmsD_shaped ts, _, rfl, ?_⟩
        rw [any_nil]
        refine ite2 (fun e => ?_) (fun e => ?_)
        · have hmem : [] ∈ ts := of_decide_eq_true e
          have hbad' : ∀ m : Nat, m < n + 1 → ∃ q ∈ fs.zip gs, ∀ key, coef (q.2.map (putT k (m : Int))) key = 0 := fun m hm => by
            by_cases hmn : m = n
            · subst hmn
              exact nil_bad m ts hp' hmem
            · exact hbad m (by omega)
          have hfew := few (n + 1) hbad'
          refine ⟨fun σ' H' => ∃ T' vs' ts, σ' = [some (.int many), some (.ref l), some (.int k), z3, some (.ref L), some (.ref N), some (.int ((n + 1 : Nat) : Int)), some (.ref T')] ∧ Same H2 H' ∧ H2 T' = none ∧ H' T' = some (.lst vs') ∧ FmsV H' vs' ts ∧
            Paired (fun g t => Canon (g.map (putT k ((n + 1 : Nat) : Int))) t) gs ts, ?_, ?_⟩
          · rintro σ' H' ⟨T5, vs5, ts5, e5, a1, a2, a3, a4, a5⟩
            exact ⟨2 ^ B - (n + 1), by omega, n + 1, T5, vs5, ts5, rfl, by omega, e5, a1, a2, a3, a4, a5, hbad'⟩
          · refine ⟨_, rfl, _, _, rfl, rfl, ?_⟩
            have s7 := s5.trans s6
            have e1 : V.int ((n : Int) + 1) = V.int ((n + 1 : Nat) : Int) := by
              congr 1
            dsimp only [gName, tSeq, tAsg, tC]
            rw [e1]
            refine tried_comp (n := n + 1) (B := B) (many := many) (s := s') (s7 _ _ hL) (hls.mono (tups_of_same s7)) hff hk (by omega) hT hm hbk (by omega) fun H5 T5 ts5 vs5 s8 nT5 hT5 hv5 hp5 => ?_
            exact ⟨T5, vs5, ts5, rfl, s7.trans s8, Same.free s7 nT5, hT5, hv5, hp5⟩
        · have hmem : [] ∉ ts := fun h => e (decide_eq_true h)
          have s7 := s5.trans s6
          -- left = tried; numbers.append(number)
          have hN6 := s7 _ _ hN
          refine ⟨_, rfl, _, rfl, .inl ⟨rfl, _, sqL hN6⟩, _, rfl, N, _, _, rfl, rfl, hN6, ?_, ?_⟩
          · rw [List.length_map]
            exact szl (by omega)
          · have hnS : n ≤ (fs.map mp).sum := few n hbad
            have nT'N : T' ≠ N := fun c => by
              rw [c, hN] at nT'
              cases nT'
            refine ⟨same_mut (s3.trans s7) nN0, _, _, _, _, T', vs', ts, nums ++ [(n : Int)], rfl, ?_, ?_, ?_, nT'N, by simp [hnl], fun x hx => ?_, ?_⟩
            · rw [upd_ne nT'N]
              exact s6 _ _ hT'
            · exact hv'.mono ((tups_of_same s6).trans (tups_upd hN6 (by intro xs c; cases c)))
            · rw [upd_same, List.map_append]
              rfl
            · rcases List.mem_append.mp hx with hx | hx
              · exact hnb x hx
              · rw [List.mem_singleton.mp hx]
                omega
            · have e2 : b + (k + 1) * (B * D + s') = b + k * (B * D + s') + B * D + s' := by
                rw [Nat.succ_mul]
                omega
              rw [e2]
              refine paired_join' (fun f g t ht h1 h2 => ?_) hst hp'
              exact stp_put h1 hk hnl (by simp; omega) hTs h2 (fun c => hmem (c ▸ ht))
      · rintro σ H2 ⟨s3, z2, z3, z6, z7, L, ls, gs, nums, rfl, hL, hls, hN, hLN, hnl, hnb, hst⟩
        refine ⟨_, rfl, qQ hne nums H2 N ⟨hnl, hnb, fun f hf => ?_⟩ s3 nN0 hN⟩
        obtain ⟨j, hj, rfl⟩ := List.getElem_of_mem hf
        obtain ⟨g, _, h'⟩ := Paired.get hst (List.getElem?_eq_getElem hj)
        exact stp_end h' hnl
end
end Mv

set_option Elab.async false
set_option linter.all false
set_option maxRecDepth 100000
set_option maxHeartbeats 4000000
namespace Mv
open PySem PySem.Spec PyProof.Rows L2
/-- a pool of draws stands at p -/
def PoolV (H : Hp) (p : Addr) (n : Nat) : Prop := ∃ d c : Int, 0 ≤ d ∧ H p = some (.lst [.int d, .int n, .int c])
/-- all but the pool at p is as it was, and the pool has given up to k draws more -/
def PoolStep (H H' : Hp) (p : Addr) (n k : Nat) : Prop := (∀ b o, b ≠ p → H b = some o → H' b = some o) ∧ ∃ n', n' ≤ n + k ∧ PoolV H' p n'
def spPool (K : PySem.W.Frag) : Sp := fun vs H Q _ => ∃ (s : Addr) (ns : List Int) (i : Nat), vs = [.ref s, .int i] ∧ SqL K H s (ns.map V.int) ∧ ns.length ≤ 63 ∧ i ≤ 1000 ∧
  ∀ p H', H p = none → Same H H' → PoolV H' p (1000 * i) → Q (.ref p) H'
def spTake : Sp := fun vs H Q _ => ∃ (p : Addr) (n w : Nat), vs = [.ref p, .int w] ∧ PoolV H p n ∧ n ≤ 1000000000 ∧ 0 < w ∧ w ≤ 1000000000 ∧
  ∀ (r : Nat) H', r < w → PoolStep H H' p n 1 → Q (.int r) H'
theorem pool_step_upd {H : Hp} {p : Addr} {n n' : Nat} {d c : Int} (hd : 0 ≤ d) (h : n' ≤ n + 1) : PoolStep H (upd H p (.lst [.int d, .int n', .int c])) p n 1 :=
  ⟨fun b o nb e => by rw [upd_ne nb]; exact e, n', h, d, c, hd, upd_same⟩
section
variable {P : Program} {w : World} {K : PySem.W.Frag} {mg : Str → Option Value} {base : Heap} {C1 C2 : Addr}
theorem pr_pool (T : Txt K mg C1 C2) : Prom P w K mg base CX0 1 "_law_pool" pLawPool (spPool K) := by
  refine T.dLawPool.prom fun f fd F => F.ok scLawPool (fun vs H Q E h => ?_) (fun cdv A outer s H vs Q E hr h => ?_)
  · obtain ⟨s, ns, i, rfl, _⟩ := h
    rfl
  · obtain ⟨s, ns, i, rfl, hs, hl, hi, q⟩ := h
    refine ⟨_, (pss_cons (ps_set (i := 2) scLawPool.nd rfl (Or.inl rfl) pe_int)
  (C8.pss_cut (ps_if (pt_cmpR op_gt (pe_callB (cr_lenOf (K := K) rfl) (by rfl) T.n_len PySem.boot_len (pa_cons (pv 0) pa_nil)) pe_int (nomark _)) (pss_one (ps_set (i := 2) scLawPool.nd rfl (Or.inl rfl) (pe_ix (ix_listK (K := K) rfl) (pv 0) (pe_op op_modR (pv 1) (pe_callB (cr_lenOf (K := K) rfl) (by rfl) T.n_len PySem.boot_len (pa_cons (pv 0) pa_nil))) (fun _ _ => rfl)))) pss_nil)
  (pss_cons (ps_set (i := 3) scLawPool.nd rfl (Or.inl rfl) pe_int)
  (C8.pss_cut (ps_if (PW.pt (pw_and (pt_cmpR op_ge (pv 2) (pe_op op_powR pe_int pe_int) (nomark _)) (pw_and1 (pt_cmpR op_lt (pv 1) (pe_callB (cr_lenOf (K := K) rfl) (by rfl) T.n_len PySem.boot_len (pa_cons (pv 0) pa_nil)) (nomark _))))) (pss_one (ps_set (i := 3) scLawPool.nd rfl (Or.inl rfl) (pv 2))) pss_nil)
  (pss_one (ps_ret (pe_lst (pa_cons (pv 3) (pa_cons (pe_op op_mulR pe_int (pv 1)) (pa_cons (pv 2) pa_nil)))))))))), ?_⟩
    -- the cell
    refine ⟨fun σ' H' => H' = H ∧ ∃ c : Int, σ' = [some (.ref s), some (.int i), some (.int c), none], ⟨_, rfl, s, ns.map V.int, rfl, .inl hs, _, _, rfl, rfl, _, rfl, ite2 (fun e => ?_) (fun e => ⟨rfl, 0, rfl⟩)⟩, ?_⟩
    · have l0 : 0 < ns.length := by
        have := of_decide_eq_true e
        rw [List.length_map] at this
        omega
      refine ⟨_, rfl, _, rfl, _, rfl, s, ns.map V.int, rfl, .inl hs, _, _, rfl, rfl, by rw [List.length_map]; omega, fun r r0 r1 er => ?_⟩
      rw [List.length_map] at r1
      have hr1 : r.toNat < ns.length := by omega
      refine ⟨s, _, _, .int ns[r.toNat], rfl, rfl, hs, ?_, rfl, ns[r.toNat], rfl⟩
      have er2 : r = ((r.toNat : Nat) : Int) := by omega
      exact at_of er2 (by rw [List.getElem?_map, List.getElem?_eq_getElem hr1]; rfl)
    · rintro σ' H' ⟨rfl, c, rfl⟩
      -- the digits
      refine ⟨fun σ' H2 => H2 = H' ∧ ∃ d : Int, 0 ≤ d ∧ σ' = [some (.ref s), some (.int i), some (.int c), some (.int d)], ?_, ?_⟩
      · refine ⟨_, rfl, _, _, rfl, rfl, ⟨by decide, by decide, by decide⟩, fun z ez => ⟨_, _, rfl, rfl, _, rfl, ite2 (fun e => ?_) (fun e => ?_)⟩⟩
        · have hc : z ≤ c := of_decide_eq_true e
          rw [ez] at hc
          have h0 : (0 : Int) ≤ c := Int.le_trans (by decide) hc
          refine ⟨_, rfl, _, rfl, s, ns.map V.int, rfl, .inl hs, _, _, rfl, rfl, _, rfl, ite2 (fun e => ?_) (fun e => ?_)⟩
          · exact ⟨_, rfl, rfl, c, h0, rfl⟩
          · exact ⟨rfl, 0, by decide, rfl⟩
        · exact iteF ⟨rfl, 0, by decide, rfl⟩
      · rintro σ' H2 ⟨rfl, d, hd, rfl⟩
        refine ⟨_, rfl, _, rfl, _, _, rfl, rfl, .inl ⟨by decide, by decide⟩, fun z ez => ⟨_, rfl, (by show 3 ≤ sizeLine; decide), fun p hp => ?_⟩⟩
        refine q p _ hp (same_new hp) ⟨d, c, hd, ?_⟩
        rw [upd_same, ez]
        have : ((1000 * i : Nat) : Int) = 1000 * (i : Int) := by omega
        rw [this]
theorem pr_take (T : Txt K mg C1 C2) : Prom P w K mg base CX0 1 "_law_take" pLawTake spTake := by
  refine T.dLawTake.prom fun f fd F => F.ok scLawTake (fun vs H Q E h => ?_) (fun cdv A outer s H vs Q E hr h => ?_)
  · obtain ⟨p, n, w, rfl, _⟩ := h
    rfl
  · obtain ⟨p, n, w, rfl, ⟨d, c, hd, hp⟩, hn, hw, hw2, q⟩ := h
    refine ⟨_, (pss_cons (ps_if (pt_cmpR op_gt (pe_ix (ix_listK (K := K) rfl) (pv 0) pe_int (fun _ _ => rfl)) pe_int (nomark _)) (pss_cons (ps_set (i := 2) scLawTake.nd rfl (Or.inl rfl) (pe_op op_modR (pe_ix (ix_listK (K := K) rfl) (pv 0) pe_int (fun _ _ => rfl)) (pv 1)))
    (pss_cons (ps_asg (pe_op op_divR (pe_ix (ix_listK (K := K) rfl) (pv 0) pe_int (fun _ _ => rfl)) (pv 1)) (pg_sub (pv 0) pe_int set_list))
    (pss_one (ps_ret (pv 2))))) pss_nil)
  (pss_cons (ps_asg (pe_op op_addR (pe_ix (ix_listK (K := K) rfl) (pv 0) pe_int (fun _ _ => rfl)) pe_int) (pg_sub (pv 0) pe_int set_list))
  (pss_cons (ps_set (i := 3) scLawTake.nd rfl (Or.inl rfl) (pe_op op_modR (pe_op op_powR (pe_op op_addR (pe_op op_modR (pe_ix (ix_listK (K := K) rfl) (pv 0) pe_int (fun _ _ => rfl)) pe_int) (pe_op op_mulR pe_int (pe_ix (ix_listK (K := K) rfl) (pv 0) pe_int (fun _ _ => rfl)))) pe_int) pe_int))
  (pss_cons (ps_set (i := 3) scLawTake.nd rfl (Or.inl rfl) (pe_op op_addR (pe_op op_mulR (pv 3) pe_int) (pe_op op_mulR (pe_op op_mulR (pe_ix (ix_listK (K := K) rfl) (pv 0) pe_int (fun _ _ => rfl)) (pe_ix (ix_listK (K := K) rfl) (pv 0) pe_int (fun _ _ => rfl))) pe_int)))
  (pss_one (ps_ret (pe_op op_modR (pe_op op_divR (pe_op op_modR (pe_op op_addR (pv 3) (pe_op op_divR (pe_ix (ix_listK (K := K) rfl) (pv 0) pe_int (fun _ _ => rfl)) pe_int)) pe_int) pe_int) (pv 1)))))))), ?_⟩
    refine ⟨_, rfl, p, _, 0, .int d, rfl, rfl, sqL hp, rfl, _, _, rfl, rfl, _, rfl, ite2 (fun e => ?_) (fun e => ?_)⟩
    · refine ⟨_, rfl, p, _, 0, .int d, rfl, rfl, sqL hp, rfl, _, rfl, _, _, rfl, rfl, by omega, fun r r0 r1 _ => ?_⟩
      refine ⟨_, rfl, p, _, 0, .int d, rfl, rfl, sqL hp, rfl, _, rfl, _, _, rfl, rfl, by omega, by omega, fun d2 _ hd2 => ⟨_, rfl, p, _, 0, 0, rfl, rfl, hp, rfl, ?_⟩⟩
      refine ⟨_, rfl, ?_⟩
      have er : r = ((r.toNat : Nat) : Int) := by omega
      rw [er]
      exact q r.toNat _ (by omega) (pool_step_upd (n' := n) (hd2 hd) (by omega))
    · -- pool[1] = pool[1] + 1
      refine ⟨_, rfl, p, _, 1, .int n, rfl, rfl, sqL hp, rfl, _, _, rfl, rfl, fun n1 en => ⟨_, rfl, p, _, 1, 1, rfl, rfl, hp, rfl, ?_⟩⟩
      have hp2 : upd H p (.lst [.int d, .int n1, .int c]) p = some (.lst [.int d, .int n1, .int c]) := upd_same
      -- the seed
      refine ⟨_, rfl, p, _, 2, .int c, rfl, rfl, sqL hp2, rfl, _, _, rfl, rfl, by decide, fun x x0 x1 _ => ?_⟩
      refine ⟨_, rfl, p, _, 1, .int n1, rfl, rfl, sqL hp2, rfl, _, _, rfl, rfl, .inl ⟨by decide, by decide⟩, fun y ey => ⟨_, _, rfl, rfl, fun y2 ey2 => ⟨_, _, rfl, rfl, ⟨by decide, by decide, by omega⟩, fun y3 _ => ⟨_, _, rfl, rfl, by decide, fun z z0 z1 _ => ?_⟩⟩⟩⟩
      refine ⟨_, rfl, _, _, rfl, rfl, .inl ⟨by omega, by omega⟩, fun a1 _ => ⟨_, rfl, p, _, 1, .int n1, rfl, rfl, sqL hp2, rfl, _, rfl, p, _, 1, .int n1, rfl, rfl, sqL hp2, rfl, _, _, rfl, rfl, .inl ⟨by omega, by omega⟩, fun a2 _ => ⟨_, _, rfl, rfl, .inr ⟨by decide, by decide⟩, fun a3 _ => ⟨_, _, rfl, rfl, fun a4 _ => ?_⟩⟩⟩⟩
      refine ⟨_, rfl, _, rfl, p, _, 2, .int c, rfl, rfl, sqL hp2, rfl, _, _, rfl, rfl, by decide, by decide, fun b1 _ _ => ⟨_, _, rfl, rfl, fun b2 _ => ⟨_, _, rfl, rfl, by decide, fun b3 c0 c1 _ => ⟨_, _, rfl, rfl, by decide, by decide, fun b4 _ _ => ⟨_, rfl, _, _, rfl, rfl, by omega, fun r r0 r1 _ => ?_⟩⟩⟩⟩⟩
      have er : r = ((r.toNat : Nat) : Int) := by omega
      have en1 : n1 = ((n + 1 : Nat) : Int) := by omega
      rw [er]
      rw [en1]
      exact q r.toNat _ (by omega) (pool_step_upd (n' := n + 1) hd (by omega))
end
end Mv

set_option Elab.async false
set_option linter.all false
set_option maxRecDepth 100000
set_option maxHeartbeats 4000000
namespace Mv
open PySem PySem.Spec PyProof.Rows L2
/-- terms gathered -/
def spGather : Sp := fun vs H Q _ => ∃ (l : Addr) (xs : List V) (ts : Form) (m : Nat), vs = [.ref l] ∧ H l = some (.lst xs) ∧ Paired (TmV H) xs ts ∧ (∀ t ∈ ts, t.1.length = m) ∧ ts.length ≤ 900000 ∧
  ∀ H' v g, Same H H' → FmV H' v g → Canon ts g → Q v H'
def spProduct : Sp := fun vs H Q _ => ∃ (v u : V) (f g : Form) (m T b D T' b' D' : Nat), vs = [v, u] ∧ FmV H v f ∧ FmV H u g ∧ FF m T b D f ∧ FF m T' b' D' g ∧ T * T' ≤ 900000 ∧ m ≤ 1000 ∧ b + b' ≤ 400000 ∧
  ∀ H' w h, Same H H' → FmV H' w h → Canon (mulT f g) h → Q w H'
def unitP (m i : Nat) : List Nat := (List.range m).map fun k => if k = i then 1 else 0
/-- a term of one unknown (or of none) -/
def spUnit : Sp := fun vs H Q _ => ∃ (m i : Nat) (c : Int), vs = [.int m, .int i, .int c] ∧ m ≤ 1000 ∧ ∀ H' v, Same H H' → TmV H' v (unitP m i, c) → Q v H'
theorem mulT_snoc (f g : Form) (t : List Nat × Int) : mulT (f ++ [t]) g = mulT f g ++ g.map fun u => (List.zipWith (· + ·) t.1 u.1, t.2 * u.2) := by simp [mulT]
section
variable {P : Program} {w : World} {K : PySem.W.Frag} {mg : Str → Option Value} {base : Heap} {C1 C2 : Addr}
theorem pr_gather (T : Txt K mg C1 C2) : Prom P w K mg base CX0 1 "_law_gather" pLawGather spGather := by
  refine T.dLawGather.prom fun f fd F => F.ok scLawGather (fun vs H Q E h => ?_) (fun cdv A outer s H vs Q E hr h => ?_)
  · obtain ⟨l, xs, ts, m, rfl, _⟩ := h
    rfl
  · obtain ⟨l, xs, ts, m, rfl, hl, hp, hm, hz, q⟩ := h
    refine ⟨_, (pss_cons (ps_set (i := 1) scLawGather.nd rfl (Or.inr rfl) pe_dnewT)
  (pss_cons (ps_for PassesOwn.never rfl (pi_listK (K := K) rfl (pv 0)) (pg_tup rfl (pgs_cons (pg_name (i := 2) scLawGather.nd rfl (Or.inl rfl)) (pgs_cons (pg_name (i := 3) scLawGather.nd rfl (Or.inl rfl)) pgs_nil)))
    (pss_one (ps_dput (hu_of hr) (pv 1) (pv 2) (pe_op op_add (pe_dget2 (hu_of hr) (pv 1) (pv 2) pe_int ⟨rfl, rfl, rfl, rfl⟩) (pv 3)) rfl)))
  (pss_one (ps_ret (pe_callTy (cr_tupOf (K := K) rfl) (by rfl) T.n_tuple (by decide +kernel) (pa_cons (pe_lc (own := [("_law_powers", 2)]) (g := (gName 2)) (tt := _) rfl scLawGather.nd (pi_listK (K := K) rfl (pe_callB (cr_sortedDT rfl) (by rfl) T.n_sorted (by decide +kernel) (pa_cons (pv 1) pa_nil))) (blkOk_by (own := [("_law_powers", 2)]) (N := nLawGather) (sc := defScope sLawGather) (by decide +kernel)) (fun _ _ _ _ _ => (pg_name (i := 2) scLawGather.nd rfl (Or.inl rfl))) (fun _ _ _ _ _ => pts_one (pt_cmpR op_ne (pe_dget (hu_of hr) (pv 1) (pv 2) (fun _ _ => rfl)) pe_int (nomark _))) (fun _ _ _ _ _ => (pe_tup (pa_cons (pv 2) (pa_cons (pe_dget (hu_of hr) (pv 1) (pv 2) (fun _ _ => rfl)) pa_nil))))) pa_nil)))))), ?_⟩
    have lx : xs.length = ts.length := Paired.len hp
    intro d hd
    refine ⟨_, rfl, l, rfl, ⟨xs, sqL (same_new hd _ _ hl)⟩, for_list (K := K) (a := l) (xs := xs) (fun j σ H' => ∃ y2 y3, σ = [some (.ref l), some (.ref d), y2, y3] ∧ Same H H' ∧ H' d = some (.dT (kvF (gather (ts.take j))))) ?_ ?_ ?_ ?_⟩
    · exact ⟨none, none, rfl, same_new hd, upd_same⟩
    · rintro j σ H' hj ⟨_, _, _, s1, _⟩
      exact sqL (s1 _ _ hl)
    · rintro j x σ H' hx ⟨y2, y3, rfl, s1, hd'⟩
      obtain ⟨t, ht, tx⟩ := Paired.get hp hx
      obtain ⟨c, pa, rfl, hc, hpa⟩ := tx
      have hc' := s1 _ _ hc
      have hpa' := s1 _ _ hpa
      have hpk : H' pa = some (.tup ((pwK t.1).map kV)) := by rw [pwK_V]; exact hpa'
      have G := gath (ts.take j)
      have Dt := DGet.t hd' hpk
      refine ⟨c, _, rfl, sqT hc', rfl, .ref pa, _, rfl, _, [], rfl, rfl, ?_⟩
      refine ⟨_, rfl, d, rfl, .inr ⟨_, .inl hd'⟩, _, rfl, _, Dt, ?_⟩
      rw [getD_kvF G.nd]
      refine ⟨_, rfl, _, _, rfl, rfl, ?_⟩
      have hlen : (kvF (gather (ts.take j))).length < sizeLine := by
        have := G.len
        refine szl ?_
        rw [List.length_map]
        rw [List.length_take] at this
        omega
      refine ⟨_, rfl, _, rfl, d, _, rfl, DPut.t hd' hpk hlen, _, _, rfl, same_mut s1 hd, ?_⟩
      rw [upd_same, take_snoc ht, gather_snoc, ← kvF_addT]
    · rintro σ H' ⟨y2, y3, rfl, s1, hd'⟩
      rw [lx, List.take_length] at hd'
      have G := gath ts
      refine terms_read (K := K) (i := 1) (j := 2) (m := m) rfl (by decide) (by show 2 < 4; decide) hd' G.nd (fun t ht => ?_) (by have := G.len; omega) fun H2 v g s2 h2 c2 _ => q H2 v g (s1.trans s2) h2 (c2.of_gath G)
      obtain ⟨u, hu, e⟩ := List.mem_map.mp (G.keys t.1 (List.mem_map_of_mem ht))
      rw [← e]
      exact hm u hu
theorem pr_lpower (T : Txt K mg C1 C2) : Prom P w K mg base CX0 1 "_law_power" pLawPower spPower := by
  refine T.dLawPower.prom fun f fd F => F.ok scLawPower (fun vs H Q E h => ?_) (fun cdv A outer s H vs Q E hr h => ?_)
  · obtain ⟨n, c, B, rfl, _⟩ := h
    rfl
  · obtain ⟨n, c, B, rfl, hn, hB, q⟩ := h
    refine ⟨_, (pss_cons (ps_set (i := 2) scLawPower.nd rfl (Or.inl rfl) pe_int)
  (pss_cons (ps_for PassesOwn.never rfl (pi_range1 (by rfl) T.n_range (pa_cons (pv 1) pa_nil)) (pg_name (i := 3) scLawPower.nd rfl (Or.inl rfl))
    (pss_one (ps_set (i := 2) scLawPower.nd rfl (Or.inl rfl) (pe_op op_mulW (pv 2) (pv 0)))))
  (pss_one (ps_ret (pv 2))))), ?_⟩
    refine ⟨_, rfl, c, rfl, by omega, by omega, ?_⟩
    refine for_range (lo := 0) (n := c) (fun i σ H' => H' = H ∧ ∃ z, σ = [some (.int n), some (.int c), some (.int (n ^ i)), z]) ⟨rfl, none, by rw [Int.pow_zero]; rfl⟩ ?_ ?_
    · rintro i σ H' hi ⟨rfl, z, rfl⟩
      exact ⟨_, rfl, _, rfl, _, _, rfl, rfl, pow_step hn hB hi, rfl, _, by rw [Int.pow_succ]; rfl⟩
    · rintro σ H' ⟨rfl, z, rfl⟩
      exact ⟨_, rfl, q⟩
theorem pr_unit (T : Txt K mg C1 C2) : Prom P w K mg base CX0 1 "_law_unit" pLawUnit spUnit := by
  refine T.dLawUnit.prom fun f fd F => F.ok scLawUnit (fun vs H Q E h => ?_) (fun cdv A outer s H vs Q E hr h => ?_)
  · obtain ⟨m, i, c, rfl, _⟩ := h
    rfl
  · obtain ⟨m, i, c, rfl, hm, q⟩ := h
    refine ⟨_, (pss_one (ps_ret (pe_tup (pa_cons (pe_callTy (cr_tupOf (K := K) rfl) (by rfl) T.n_tuple (by decide +kernel) (pa_cons (pe_lc (own := [("_law_k", 3)]) (g := (gName 3)) (tt := tYes) rfl scLawUnit.nd (pi_range1 (by rfl) T.n_range (pa_cons (pv 0) pa_nil)) (blkOk_by (own := [("_law_k", 3)]) (N := nLawUnit) (sc := defScope sLawUnit) (by decide +kernel)) (fun _ _ _ _ _ => (pg_name (i := 3) scLawUnit.nd rfl (Or.inl rfl))) (fun _ _ _ _ _ => pts_nil) (fun _ _ _ _ _ => (pe_callTy call_int1 (by rfl) T.n_int (by decide +kernel) (pa_cons (pe_cmpR op_eq (pv 3) (pv 1) (nomark _)) pa_nil)))) pa_nil)) (pa_cons (pv 2) pa_nil))))), ?_⟩
    refine ⟨_, rfl, m, rfl, by omega, by omega, fun D hD => ?_⟩
    refine lc_range (lo := 0) (n := m) (fun k H' => Same H H' ∧ H' D = some (.lst (pwV ((List.range k).map fun k => if k = i then 1 else 0)))) ⟨same_new hD, upd_same⟩ ?_ ?_
    · rintro k H' hk ⟨s1, ha⟩
      refine ⟨rfl, _, rfl, _, rfl, rfl, .inr ⟨_, rfl, _, ha, szl (by simp; omega), same_mut s1 hD, ?_⟩⟩
      rw [upd_same, List.range_succ]
      have e1 : (0 + (k : Int)) = k := by omega
      have e2 : decide (V.int (0 + (k : Int)) = V.int (i : Int)) = decide (k = i) := by
        rw [e1]
        refine decide_eq_decide.mpr ⟨fun z => ?_, fun z => by rw [z]⟩
        injection z with z
        omega
      rw [e2]
      by_cases z : k = i
      · simp [z, pwV]
      · simp [z, pwV]
    · rintro H' ⟨s1, ha⟩
      refine ⟨D, _, rfl, .inl ⟨sqL ha, fun t ht => ⟨_, rfl, (by show 2 ≤ sizeLine; decide), fun r hr0 => ?_⟩⟩⟩
      refine q _ _ ((s1.trans (same_new ht)).trans (same_new hr0)) ⟨r, t, rfl, upd_same, ?_⟩
      rw [upd_ne (ne_fresh hr0), upd_same]
      rfl
theorem pr_product (T : Txt K mg C1 C2) : Prom P w K mg base CX0 2 "_law_product" pLawProduct spProduct := by
  obtain ⟨f1, d1, gLawGather, kLawGather, bLawGather, GLawGather⟩ := pr_gather (P := P) (w := w) (base := base) T
  refine T.dLawProduct.prom fun f fd F => F.ok scLawProduct (fun vs H Q E h => ?_) (fun cdv A outer s H vs Q E hr h => ?_)
  · obtain ⟨v, u, f, g, m, T, b, D, T', b', D', rfl, _⟩ := h
    rfl
  · obtain ⟨v, u, f, g, m, T1, b, D, T2, b', D', rfl, hv, hu, hf, hg, hT, hm, hb, q⟩ := h
    refine ⟨_, (pss_cons (ps_set (i := 2) scLawProduct.nd rfl (Or.inl rfl) (pe_lst pa_nil))
  (pss_cons (ps_for PassesOwn.never rfl (pi_tupK (K := K) rfl (pv 0)) (pg_tup rfl (pgs_cons (pg_name (i := 3) scLawProduct.nd rfl (Or.inr rfl)) (pgs_cons (pg_name (i := 4) scLawProduct.nd rfl (Or.inl rfl)) pgs_nil)))
    (pss_one (ps_for PassesOwn.never rfl (pi_tupK (K := K) rfl (pv 1)) (pg_tup rfl (pgs_cons (pg_name (i := 5) scLawProduct.nd rfl (Or.inr rfl)) (pgs_cons (pg_name (i := 6) scLawProduct.nd rfl (Or.inl rfl)) pgs_nil)))
      (pss_one (ps_expr (pe_bm PySem.F.plainAttrs_list PySem.F.slot_list_append PySem.F.type_list_append mt_append (pv 2) (pa_cons (pe_tup (pa_cons (pe_callTy (cr_tupOf (K := K) rfl) (by rfl) T.n_tuple (by decide +kernel) (pa_cons (pe_lc (own := [("_law_k", 7)]) (g := (gName 7)) (tt := tYes) rfl scLawProduct.nd (pi_range1 (by rfl) T.n_range (pa_cons (pe_callB (cr_lenOf (K := K) rfl) (by rfl) T.n_len PySem.boot_len (pa_cons (pv 3) pa_nil)) pa_nil)) (blkOk_by (own := [("_law_k", 7)]) (N := nLawProduct) (sc := defScope sLawProduct) (by decide +kernel)) (fun _ _ _ _ _ => (pg_name (i := 7) scLawProduct.nd rfl (Or.inl rfl))) (fun _ _ _ _ _ => pts_nil) (fun _ _ _ _ _ => (pe_op op_add (pe_ix (ix_tupK (K := K) rfl) (pv 3) (pv 7) (fun _ _ => rfl)) (pe_ix (ix_tupK (K := K) rfl) (pv 5) (pv 7) (fun _ _ => rfl))))) pa_nil)) (pa_cons (pe_op op_mulWR (pv 4) (pv 6)) pa_nil))) pa_nil)))))))
  (pss_one (ps_ret (pe_call GLawGather (hr.mono (by decide)) (by rfl) gLawGather kLawGather bLawGather .nil pass0 (pa_cons (pv 2) pa_nil)))))), ?_⟩
    obtain ⟨a, xs, rfl, ha, hp⟩ := hv
    obtain ⟨c, ys, rfl, hc, hq⟩ := hu
    have lx : xs.length = f.length := Paired.len hp
    have ly : ys.length = g.length := Paired.len hq
    have FM := hf.mul hg
    refine ⟨(by show 0 ≤ sizeLine; decide), fun l hl => ?_⟩
    have s0 : Same H (upd H l (.lst [])) := same_new hl
    have hsz : ∀ k, ∀ (fs : Form), (∀ t ∈ fs, t ∈ f) → fs.length + 1 ≤ f.length → k ≤ g.length → (mulT fs g).length + k ≤ T1 * T2 := fun k fs _ h1 h2 => by
      have e : (mulT fs g).length = fs.length * g.length := by
        unfold mulT
        clear h1
        induction fs with
        | nil => simp
        | cons t fs ih => rw [List.flatMap_cons, List.length_append, ih (fun t ht => by simp_all)]; simp [Nat.succ_mul, Nat.add_comm]
      rw [e]
      have h3 : (fs.length + 1) * g.length ≤ f.length * g.length := Nat.mul_le_mul_right _ h1
      have h4 : f.length * g.length ≤ T1 * T2 := Nat.mul_le_mul hf.len hg.len
      rw [Nat.succ_mul] at h3
      omega
    refine ⟨_, rfl, a, rfl, ⟨xs, sqT (s0 _ _ ha)⟩, for_tup (K := K) (a := a) (xs := xs) (fun i σ H' => ∃ y3 y4 y5 y6 acc, σ = [some (.ref a), some (.ref c), some (.ref l), y3, y4, y5, y6, none] ∧ Same H H' ∧ H' l = some (.lst acc) ∧ Paired (TmV H') acc (mulT (f.take i) g)) ?_ ?_ ?_ ?_⟩
    · exact ⟨none, none, none, none, [], rfl, s0, upd_same, .nil⟩
    · rintro i σ H' hi ⟨_, _, _, _, _, _, s1, _⟩
      exact sqT (s1 _ _ ha)
    · rintro i x σ H1 hx ⟨y3, y4, y5, y6, acc, rfl, s1, hl1, hacc⟩
      obtain ⟨t, ht, tx⟩ := Paired.get hp hx
      obtain ⟨at1, p1, rfl, hat1, hp1⟩ := tx
      have mt := List.mem_of_getElem? ht
      have hi : i < f.length := (List.getElem?_eq_some_iff.mp ht).1
      refine ⟨at1, _, rfl, sqT (s1 _ _ hat1), rfl, .ref p1, _, rfl, _, [], rfl, rfl, ?_⟩
      refine ⟨_, rfl, c, rfl, ⟨ys, sqT (s1 _ _ hc)⟩, for_tup (K := K) (a := c) (xs := ys) (fun j σ H' => ∃ y5 y6 acc, σ = [some (.ref a), some (.ref c), some (.ref l), some (.ref p1), some (.int t.2), y5, y6, none] ∧ Same H H' ∧ H' l = some (.lst acc) ∧
        Paired (TmV H') acc (mulT (f.take i) g ++ (g.take j).map fun u => (List.zipWith (· + ·) t.1 u.1, t.2 * u.2))) ?_ ?_ ?_ ?_⟩
      · exact ⟨y5, y6, acc, rfl, s1, hl1, by simpa using hacc⟩
      · rintro j σ H' hj ⟨_, _, _, _, s2, _⟩
        exact sqT (s2 _ _ hc)
      · rintro j x σ H2 hx2 ⟨z5, z6, acc2, rfl, s2, hl2, hacc2⟩
        obtain ⟨u, hu, ux⟩ := Paired.get hq hx2
        obtain ⟨at2, p2, rfl, hat2, hp2⟩ := ux
        have mu := List.mem_of_getElem? hu
        have hj : j < g.length := (List.getElem?_eq_some_iff.mp hu).1
        have l1 := hf.ar t mt
        have l2 := hg.ar u mu
        have hp1' := s2 _ _ hp1
        have hp2' := s2 _ _ hp2
        refine ⟨at2, _, rfl, sqT (s2 _ _ hat2), rfl, .ref p2, _, rfl, _, [], rfl, rfl, ?_⟩
        refine ⟨_, rfl, .inl ⟨rfl, _, sqL hl2⟩, _, rfl, p1, _, rfl, .inr (sqT hp1'), m, by simp [l1], by omega, by omega, fun Dl hDl => ?_⟩
        refine lc_range (lo := 0) (n := m) (fun k H' => Same H2 H' ∧ H' Dl = some (.lst (pwV ((List.zipWith (· + ·) t.1 u.1).take k)))) ⟨same_new hDl, by rw [upd_same]; rfl⟩ ?_ ?_
        · rintro k H' hk ⟨s3, hD⟩
          have g1 : (pwV t.1)[k]? = some (.int (t.1[k]'(by omega) : Nat)) := by simp [pwV, List.getElem?_eq_getElem (show k < t.1.length by omega)]
          have g2 : (pwV u.1)[k]? = some (.int (u.1[k]'(by omega) : Nat)) := by simp [pwV, List.getElem?_eq_getElem (show k < u.1.length by omega)]
          have e1 : (0 + (k : Int)) = k := by omega
          refine ⟨rfl, _, rfl, _, rfl, p1, _, _, _, rfl, rfl, sqT (s3 _ _ hp1'), at_of e1 g1, _, rfl, _, rfl, p2, _, _, _, rfl, rfl, sqT (s3 _ _ hp2'), at_of e1 g2, _, _, rfl, rfl, _, hD, ?_, same_mut s3 hDl, ?_⟩
          · refine szl ?_
            simp
            omega
          · have hz : (List.zipWith (· + ·) t.1 u.1)[k]? = some (t.1[k]'(by omega) + u.1[k]'(by omega)) := by
              rw [List.getElem?_eq_getElem (by simp; omega)]
              simp
            rw [upd_same, take_snoc hz]
            simp [pwV]
        · rintro H3 ⟨s3, hD⟩
          rw [List.take_of_length_le (by simp; omega)] at hD
          refine ⟨Dl, _, rfl, .inl ⟨sqL hD, fun pt hpt => ?_⟩⟩
          have s4 : Same H2 (upd H3 pt (.tup (pwV (List.zipWith (· + ·) t.1 u.1)))) := s3.trans (same_new hpt)
          have hw : CMulW t.2 u.2 := by
            refine wide_mul (a := b + 1) (b := b' + 1) (Nat.lt_trans (hf.cf t mt) (Nat.pow_lt_pow_right (by decide) (Nat.lt_succ_self b))) (Nat.lt_trans (hg.cf u mu) (Nat.pow_lt_pow_right (by decide) (Nat.lt_succ_self b'))) (by omega) (by omega) (by omega)
          refine ⟨_, rfl, _, rfl, _, _, rfl, rfl, hw, fun z ez => ⟨(by show 2 ≤ sizeLine; decide), fun tt htt => ?_⟩⟩
          have s5 : Same H2 (upd (upd H3 pt (.tup (pwV (List.zipWith (· + ·) t.1 u.1)))) tt (.tup [.ref pt, .int z])) := s4.trans (same_new htt)
          have hl3 := s5 _ _ hl2
          have la : acc2.length = (mulT (f.take i) g).length + j := by
            rw [Paired.len hacc2, List.length_append, List.length_map, List.length_take]
            omega
          have lz := hsz (j + 1) (f.take i) (fun t ht => List.mem_of_mem_take ht) (by rw [List.length_take]; omega) (by omega)
          refine ⟨l, acc2, _, rfl, rfl, hl3, szl (by omega), _, _, acc2 ++ [.ref tt], rfl, same_mut (s2.trans s5) hl, upd_same, ?_⟩
          have tp : Tups H2 (upd (upd (upd H3 pt (.tup (pwV (List.zipWith (· + ·) t.1 u.1)))) tt (.tup [.ref pt, .int z])) l (.lst (acc2 ++ [.ref tt]))) := (tups_of_same s5).trans (tups_upd hl3 (by intro xs c; cases c))
          rw [take_snoc hu, List.map_append, ← List.append_assoc]
          refine Paired.snoc' ?_ (Paired.imp (fun _ _ => TmV.mono tp) hacc2)
          have nl : l ≠ tt := ne_of_none (s4 _ _ hl2) htt
          have nl2 : l ≠ pt := ne_of_none (s3 _ _ hl2) hpt
          refine ⟨tt, pt, rfl, ?_, ?_⟩
          · rw [upd_ne nl.symm, upd_same, ez]
          · rw [upd_ne nl2.symm, upd_ne (ne_fresh htt), upd_same]
      · rintro σ H2 ⟨z5, z6, acc2, rfl, s2, hl2, hacc2⟩
        rw [ly, List.take_length, ← mulT_snoc, ← take_snoc ht] at hacc2
        exact ⟨_, _, _, _, acc2, rfl, s2, hl2, hacc2⟩
    · rintro σ H1 ⟨y3, y4, y5, y6, acc, rfl, s1, hl1, hacc⟩
      rw [lx, List.take_length] at hacc
      refine ⟨_, rfl, l, acc, mulT f g, m, rfl, hl1, hacc, FM.ar, Nat.le_trans FM.len hT, fun H2 v g s2 h2 c2 => q H2 v g (s1.trans s2) h2 c2⟩
end
end Mv

set_option Elab.async false
set_option linter.all false
set_option maxRecDepth 100000
set_option maxHeartbeats 4000000
namespace Mv
open PySem PySem.Spec PyProof.Rows L2
/-- a form as the law draws them -/
structure LF (m T b D : Nat) (f : Form) : Prop where
  nd : (f.map (·.1)).Nodup
  nz : ∀ t ∈ f, t.2 ≠ 0
  ff : FF m T b D f
theorem LF.mono {m T b D T' b' D' : Nat} {f : Form} (h : LF m T b D f) (h1 : T ≤ T') (h2 : b ≤ b') (h3 : D ≤ D') : LF m T' b' D' f := ⟨h.nd, h.nz, h.ff.mono h1 h2 h3⟩
theorem lf_of {m T b D s : Nat} {ts g : Form} (c : Canon ts g) (h : FF m T b D ts) (hs : T ≤ 2 ^ s) : LF m T (b + s) D g := ⟨c.nd, c.nz, c.ff h hs⟩
theorem unit_len (m i : Nat) : (unitP m i).length = m := by simp [unitP]
theorem unit_le (m i : Nat) : ∀ p ∈ unitP m i, p ≤ 1 := fun p hp => by
  obtain ⟨k, _, rfl⟩ := List.mem_map.mp hp
  split <;> omega
/-- all but the object at p is as it was -/
def Keep (p : Addr) (H H' : Hp) : Prop := ∀ b o, b ≠ p → H b = some o → H' b = some o
theorem Keep.refl (p : Addr) (H : Hp) : Keep p H H := fun _ _ _ h => h
theorem Keep.trans {p : Addr} {H H1 H2 : Hp} (a : Keep p H H1) (b : Keep p H1 H2) : Keep p H H2 := fun c o n h => b c o n (a c o n h)
theorem Keep.same {p : Addr} {H H1 : Hp} (s : Same H H1) : Keep p H H1 := fun c o _ h => s c o h
theorem PoolV.keep {H H' : Hp} {p : Addr} {n : Nat} (s : Same H H') : PoolV H p n → PoolV H' p n := fun ⟨d, c, h1, h2⟩ => ⟨d, c, h1, s _ _ h2⟩
theorem PoolV.ne {H : Hp} {p a : Addr} {n : Nat} {xs : List V} (h : PoolV H p n) (ha : H a = some (.tup xs)) : a ≠ p := fun e => by
  obtain ⟨d, c, _, h2⟩ := h
  rw [e, h2] at ha
  cases ha
theorem Keep.tups {p : Addr} {H H' : Hp} {n : Nat} (h : PoolV H p n) (k : Keep p H H') : Tups H H' := fun a xs ha => k a _ (h.ne ha) ha
theorem PoolV.there {H : Hp} {p : Addr} {n : Nat} (h : PoolV H p n) : H p ≠ none := fun e => by
  obtain ⟨d, c, _, h2⟩ := h
  rw [e] at h2
  cases h2
theorem PoolV.new {H : Hp} {p l : Addr} {n : Nat} {o : HO} (h : PoolV H p n) (hl : H l = none) : PoolV (upd H l o) p n := h.keep (same_new hl)
theorem keep_mut {p l : Addr} {H H' : Hp} {o : HO} (k : Keep p H H') (hl : H l = none) : Keep p H (upd H' l o) := fun b x nb e => by
  rw [upd_ne (ne_of_none e hl)]
  exact k b x nb e
def spWhole : Sp := fun vs H Q _ => ∃ i : Int, vs = [.int i] ∧ Q (.bl true) H
def spFactor : Sp := fun vs H Q _ => ∃ (p : Addr) (m n : Nat), vs = [.ref p, .int m] ∧ m ≤ 6 ∧ PoolV H p n ∧ n + 5 ≤ 1000000000 ∧
  ∀ H' v f n', Keep p H H' → PoolV H' p n' → n' ≤ n + 5 → FmV H' v f → LF m 3 6 1 f → Q v H'
def spLadder : Sp := fun vs H Q _ => ∃ (m i low c : Nat), vs = [.int m, .int i, .int low, .int c] ∧ i < m ∧ m ≤ 6 ∧ low ≤ 12 ∧ c ≤ 12 ∧
  ∀ H' v f, Same H H' → FmV H' v f → LF m 4096 400 12 f → Q v H'
def spRungs : Sp := fun vs H Q _ => ∃ (p : Addr) (m n : Nat), vs = [.ref p, .int m] ∧ 0 < m ∧ m ≤ 6 ∧ PoolV H p n ∧ n + 3 ≤ 1000000000 ∧
  ∀ H' l xs fs n', Keep p H H' → PoolV H' p n' → n' ≤ n + 3 → H l = none → H' l = some (.lst xs) → FmsV H' xs fs → (∀ f ∈ fs, LF m 4096 400 12 f) → fs.length ≤ 60 → Q (.ref l) H'
section
variable {P : Program} {w : World} {K : PySem.W.Frag} {mg : Str → Option Value} {base : Heap} {C1 C2 : Addr}
theorem pr_whole (T : Txt K mg C1 C2) : Prom P w K mg base CX0 1 "_law_whole" pLawWhole spWhole := by
  refine T.dLawWhole.prom fun f fd F => F.ok scLawWhole (fun vs H Q E h => ?_) (fun cdv A outer s H vs Q E hr h => ?_)
  · obtain ⟨i, rfl, _⟩ := h
    rfl
  · obtain ⟨i, rfl, q⟩ := h
    refine ⟨_, (pss_one (ps_ret (pe_and (pe_callB (cr_isiK (K := K) rfl) (by rfl) T.n_isinstance (by decide +kernel) (pa_cons (pv 0) (pa_cons (pe_bltn (v := .ty "int") (u := .type "int") (by rfl) T.n_int (by decide +kernel) rfl) pa_nil))) (pe_one (pe_not (pe_callB (cr_isiK (K := K) rfl) (by rfl) T.n_isinstance (by decide +kernel) (pa_cons (pv 0) (pa_cons (pe_bltn (v := .ty "bool") (u := .type "bool") (by rfl) T.n_bool (by decide +kernel) rfl) pa_nil)))))))), ?_⟩
    refine ⟨_, rfl, _, _, _, _, true, rfl, .ty "int", .base (.int i), kit_ty (by decide +kernel), true, rfl, iteT ?_⟩
    exact ⟨_, rfl, _, _, _, _, false, rfl, .ty "bool", .base (.int i), kit_ty (by decide +kernel), false, rfl, q⟩
theorem tm_ff {m D b : Nat} {ts : Form} (h : ∀ t ∈ ts, t.1.length = m ∧ (∀ p ∈ t.1, p ≤ D) ∧ t.2.natAbs < 2 ^ b) : FF m ts.length b D ts := ⟨Nat.le_refl _, fun t ht => (h t ht).1, fun t ht => (h t ht).2.1, fun t ht => (h t ht).2.2⟩
theorem unit_ok {m i : Nat} {c : Int} {b : Nat} (h : c.natAbs < 2 ^ b) : (unitP m i, c).1.length = m ∧ (∀ p ∈ (unitP m i, c).1, p ≤ 1) ∧ (unitP m i, c).2.natAbs < 2 ^ b := ⟨unit_len m i, unit_le m i, h⟩
theorem pr_factor (T : Txt K mg C1 C2) : Prom P w K mg base CX0 2 "_law_factor" pLawFactor spFactor := by
  obtain ⟨f1, d1, gLawTake, kLawTake, bLawTake, GLawTake⟩ := pr_take (P := P) (w := w) (base := base) T
  obtain ⟨f2, d2, gLawUnit, kLawUnit, bLawUnit, GLawUnit⟩ := pr_unit (P := P) (w := w) (base := base) T
  obtain ⟨f3, d3, gLawGather, kLawGather, bLawGather, GLawGather⟩ := pr_gather (P := P) (w := w) (base := base) T
  refine T.dLawFactor.prom fun f fd F => F.ok scLawFactor (fun vs H Q E h => ?_) (fun cdv A outer s H vs Q E hr h => ?_)
  · obtain ⟨p, m, n, rfl, _⟩ := h
    rfl
  · obtain ⟨p, m, n, rfl, hm, hp, hn, q⟩ := h
    refine ⟨_, (pss_cons (ps_set (i := 2) scLawFactor.nd rfl (Or.inl rfl) (pe_call GLawTake (hr.mono (by decide)) (by rfl) gLawTake kLawTake bLawTake .nil pass0 (pa_cons (pv 0) (pa_cons pe_int pa_nil))))
  (pss_cons (ps_set (i := 3) scLawFactor.nd rfl (Or.inl rfl) (pe_call GLawUnit (hr.mono (by decide)) (by rfl) gLawUnit kLawUnit bLawUnit .nil pass0 (pa_cons (pv 1) (pa_cons (pv 1) (pa_cons (pe_op op_add pe_int (pe_call GLawTake (hr.mono (by decide)) (by rfl) gLawTake kLawTake bLawTake .nil pass0 (pa_cons (pv 0) (pa_cons pe_int pa_nil)))) pa_nil)))))
  (pss_cons (ps_if (PW.pt (pw_or (pt_cmpR op_eq (pv 1) pe_int (nomark _)) (pw_or1 (pt_cmpR op_eq (pv 2) pe_int (nomark _))))) (pss_one (ps_ret (pe_call GLawGather (hr.mono (by decide)) (by rfl) gLawGather kLawGather bLawGather .nil pass0 (pa_cons (pe_lst (pa_cons (pe_tup (pa_cons (pe_ix (ix_tupK (K := K) rfl) (pv 3) pe_int (fun _ _ => rfl)) (pa_cons (pe_ix (ix_listK (K := K) rfl) (pe_lst (pa_cons (pe_ix (ix_tupK (K := K) rfl) (pv 3) pe_int (fun _ _ => rfl)) (pa_cons (pe_un un_neg (pe_ix (ix_tupK (K := K) rfl) (pv 3) pe_int (fun _ _ => rfl))) pa_nil))) (pe_call GLawTake (hr.mono (by decide)) (by rfl) gLawTake kLawTake bLawTake .nil pass0 (pa_cons (pv 0) (pa_cons pe_int pa_nil))) (fun _ _ => rfl)) pa_nil))) pa_nil)) pa_nil)))) pss_nil)
  (pss_cons (ps_set (i := 4) scLawFactor.nd rfl (Or.inl rfl) (pe_call GLawTake (hr.mono (by decide)) (by rfl) gLawTake kLawTake bLawTake .nil pass0 (pa_cons (pv 0) (pa_cons (pv 1) pa_nil))))
  (pss_cons (ps_set (i := 5) scLawFactor.nd rfl (Or.inl rfl) (pe_call GLawTake (hr.mono (by decide)) (by rfl) gLawTake kLawTake bLawTake .nil pass0 (pa_cons (pv 0) (pa_cons (pv 1) pa_nil))))
  (pss_cons (ps_if (pt_cmpR op_lt (pv 2) pe_int (nomark _)) (pss_one (ps_ret (pe_call GLawGather (hr.mono (by decide)) (by rfl) gLawGather kLawGather bLawGather .nil pass0 (pa_cons (pe_lst (pa_cons (pe_call GLawUnit (hr.mono (by decide)) (by rfl) gLawUnit kLawUnit bLawUnit .nil pass0 (pa_cons (pv 1) (pa_cons (pv 4) (pa_cons pe_int pa_nil)))) (pa_cons (pe_tup (pa_cons (pe_ix (ix_tupK (K := K) rfl) (pv 3) pe_int (fun _ _ => rfl)) (pa_cons (pe_op op_sub pe_int (pe_ix (ix_tupK (K := K) rfl) (pv 3) pe_int (fun _ _ => rfl))) pa_nil))) pa_nil))) pa_nil)))) pss_nil)
  (pss_cons (ps_if (PW.pt (pw_and (pt_cmpR op_lt (pv 2) pe_int (nomark _)) (pw_and1 (pt_cmpR op_ne (pv 4) (pv 5) (nomark _))))) (pss_one (ps_ret (pe_call GLawGather (hr.mono (by decide)) (by rfl) gLawGather kLawGather bLawGather .nil pass0 (pa_cons (pe_lst (pa_cons (pe_call GLawUnit (hr.mono (by decide)) (by rfl) gLawUnit kLawUnit bLawUnit .nil pass0 (pa_cons (pv 1) (pa_cons (pv 4) (pa_cons pe_int pa_nil)))) (pa_cons (pe_call GLawUnit (hr.mono (by decide)) (by rfl) gLawUnit kLawUnit bLawUnit .nil pass0 (pa_cons (pv 1) (pa_cons (pv 5) (pa_cons (pe_un un_neg pe_int) pa_nil)))) pa_nil))) pa_nil)))) pss_nil)
  (pss_one (ps_ret (pe_call GLawGather (hr.mono (by decide)) (by rfl) gLawGather kLawGather bLawGather .nil pass0 (pa_cons (pe_lst (pa_cons (pe_call GLawUnit (hr.mono (by decide)) (by rfl) gLawUnit kLawUnit bLawUnit .nil pass0 (pa_cons (pv 1) (pa_cons (pv 4) (pa_cons pe_int pa_nil)))) (pa_cons (pe_call GLawUnit (hr.mono (by decide)) (by rfl) gLawUnit kLawUnit bLawUnit .nil pass0 (pa_cons (pv 1) (pa_cons (pv 5) (pa_cons pe_int pa_nil)))) (pa_cons (pe_tup (pa_cons (pe_ix (ix_tupK (K := K) rfl) (pv 3) pe_int (fun _ _ => rfl)) (pa_cons (pe_op op_sub pe_int (pe_ix (ix_tupK (K := K) rfl) (pv 3) pe_int (fun _ _ => rfl))) pa_nil))) pa_nil)))) pa_nil))))))))))), ?_⟩
    -- way
    refine ⟨_, rfl, p, n, 8, rfl, hp, by omega, by decide, by decide, fun way H1 hw st1 => ?_⟩
    obtain ⟨k1, n1, b1, p1⟩ := st1
    -- flat
    refine ⟨_, rfl, _, rfl, _, rfl, p, n1, 9, rfl, p1, by omega, by decide, by decide, fun r1 H2 hr1 st2 => ?_⟩
    obtain ⟨k2, n2, b2, p2⟩ := st2
    refine ⟨_, _, rfl, rfl, m, m, 1 + (r1 : Int), rfl, by omega, fun H3 v3 s3 t3 => ?_⟩
    obtain ⟨a3, pa3, rfl, h3, h3p⟩ := t3
    have p3 := p2.keep s3
    have kk3 : Keep p H H3 := (Keep.trans k1 k2).trans (Keep.same s3)
    have hfin : ∀ (H4 : Hp) (l : Addr) (xs : List V) (ts : Form) (n4 : Nat), Keep p H H4 → PoolV H4 p n4 → n4 ≤ n + 5 → H4 l = some (.lst xs) → Paired (TmV H4) xs ts → ts.length ≤ 3 → (∀ t ∈ ts, t.1.length = m ∧ (∀ p ∈ t.1, p ≤ 1) ∧ t.2.natAbs < 2 ^ 4) → spGather [.ref l] H4 Q E0 := fun H4 l xs ts n4 k4 p4 b4 hl hx ht hts =>
      ⟨l, xs, ts, m, rfl, hl, hx, fun t h => (hts t h).1, by omega, fun H5 v g s5 hv c => q H5 v g n4 (k4.trans (Keep.same s5)) (p4.keep s5) b4 hv ((lf_of (s := 2) c ((tm_ff hts).mono ht (Nat.le_refl _) (Nat.le_refl _)) (by decide)).mono (Nat.le_refl _) (by decide) (Nat.le_refl _))⟩
    -- gather([(flat[0], [flat[1], -flat[1]][take 2])])
    have goes : tRet (tCall spGather [] E0 (tCons (tLst (tCons (tTup (tCons (tOp (rIxT K) (tVar 3) (tC (.int 0))) (tCons (tOp (rIxL K) (tLst (tCons (tOp (rIxT K) (tVar 3) (tC (.int 1))) (tCons (tUn (rU fun i => .int (-i)) (tOp (rIxT K) (tVar 3) (tC (.int 1)))) tNil))) (tCall spTake [] E0 (tCons (tVar 0) (tCons (tC (.int 2)) tNil)))) tNil))) tNil)) tNil))
        { nx := fun _ H' => Q .non H', rt := Q } [some (.ref p), some (.int m), some (.int way), some (.ref a3), none, none] H3 := by
      refine ⟨_, rfl, a3, _, _, _, rfl, rfl, sqT h3, rfl, ?_⟩
      refine ⟨_, rfl, a3, _, _, _, rfl, rfl, sqT h3, rfl, ?_⟩
      refine ⟨_, rfl, a3, _, _, _, rfl, rfl, sqT h3, rfl, _, rfl, (by show 2 ≤ sizeLine; decide), fun l1 hl1 => ?_⟩
      have s4 : Same H3 (upd H3 l1 (.lst [.int (1 + (r1 : Int)), .int (-(1 + (r1 : Int)))])) := same_new hl1
      refine ⟨_, rfl, p, n2, 2, rfl, p3.new hl1, by omega, by decide, by decide, fun r2 H4 hr2 st4 => ?_⟩
      obtain ⟨k4, n4, b4, p4⟩ := st4
      have nl1 : l1 ≠ p := fun e => by
        have := p3.there
        rw [← e] at this
        exact this hl1
      have hl4 : H4 l1 = some (.lst [.int (1 + (r1 : Int)), .int (-(1 + (r1 : Int)))]) := k4 _ _ nl1 upd_same
      have tp4 : Tups H3 H4 := (tups_of_same s4).trans (Keep.tups (p3.new hl1) k4)
      have kk4 : Keep p H H4 := kk3.trans (Keep.trans (Keep.same s4) k4)
      obtain ⟨c, hc1, hc2⟩ : ∃ c : Int, atI [V.int (1 + (r1 : Int)), V.int (-(1 + (r1 : Int)))] (r2 : Int) = some (.int c) ∧ c.natAbs < 2 ^ 4 := by
        match r2, hr2 with
        | 0, _ => exact ⟨_, rfl, by omega⟩
        | 1, _ => exact ⟨_, rfl, by omega⟩
      refine ⟨l1, _, _, _, rfl, rfl, sqL hl4, hc1, (by show 2 ≤ sizeLine; decide), fun t5 ht5 => ⟨(by show 1 ≤ sizeLine; decide), fun l5 hl5 => ?_⟩⟩
      have s5 : Same H4 (upd H4 t5 (.tup [.ref pa3, .int c])) := same_new ht5
      have s6 := s5.trans (same_new (o := .lst [.ref t5]) hl5)
      refine hfin _ l5 [.ref t5] [(unitP m m, c)] n4 (kk4.trans (Keep.same s6)) (p4.keep s6) (by omega) upd_same (.cons ⟨t5, pa3, rfl, ?_, ?_⟩ .nil) (by simp) (fun t ht => ?_)
      · rw [upd_ne (ne_fresh hl5), upd_same]
      · exact s6 _ _ (tp4 _ _ h3p)
      · rw [List.mem_singleton.mp ht]
        exact unit_ok hc2
    -- many == 0 or way == 0
    refine ⟨_, rfl, rfl, _, rfl, ite2 (fun e => goes) (fun e => ?_)⟩
    refine ⟨_, rfl, rfl, _, rfl, ite2 (fun e2 => goes) (fun e2 => ?_)⟩
    have hm0 : 0 < m := Nat.pos_of_ne_zero fun z => by
      subst z
      exact e (decide_eq_true rfl)
    -- at, other
    refine ⟨_, rfl, _, rfl, p, n2, m, rfl, p3, by omega, hm0, by omega, fun i H4 hi st4 => ?_⟩
    obtain ⟨k4, n4, b4, p4⟩ := st4
    refine ⟨_, rfl, _, rfl, p, n4, m, rfl, p4, by omega, hm0, by omega, fun j H5 hj st5 => ?_⟩
    obtain ⟨k5, n5, b5, p5⟩ := st5
    have kk5 : Keep p H H5 := kk3.trans (Keep.trans k4 k5)
    have tp5 : Tups H3 H5 := (Keep.tups p3 k4).trans (Keep.tups p4 k5)
    have h35 := tp5 _ _ h3
    have hp5 := tp5 _ _ h3p
    have un : ∀ (i : Nat) (c : Int), c.natAbs < 2 ^ 4 → (unitP m i, c).1.length = m ∧ (∀ p ∈ (unitP m i, c).1, p ≤ 1) ∧ (unitP m i, c).2.natAbs < 2 ^ 4 := fun i c hc => unit_ok hc
    have e3c : ((1 : Int) - (1 + (r1 : Int))).natAbs < 2 ^ 4 := by omega
    -- if way < 4
    refine ⟨_, rfl, _, _, rfl, rfl, _, rfl, ite2 (fun e => ?_) (fun e => ?_)⟩
    · refine ⟨_, rfl, _, rfl, m, i, 1, rfl, by omega, fun H6 v6 s6 t6 => ?_⟩
      refine ⟨_, rfl, a3, _, _, _, rfl, rfl, sqT (s6 _ _ h35), rfl, _, rfl, a3, _, _, _, rfl, rfl, sqT (s6 _ _ h35), rfl, _, _, rfl, rfl, (by show 2 ≤ sizeLine; decide), fun t7 ht7 => ⟨(by show 2 ≤ sizeLine; decide), fun l8 hl8 => ?_⟩⟩
      have s7 : Same H6 (upd H6 t7 (.tup [.ref pa3, .int (1 - (1 + (r1 : Int)))])) := same_new ht7
      have s8 := s7.trans (same_new (o := .lst [v6, .ref t7]) hl8)
      refine hfin _ l8 _ [(unitP m i, 1), (unitP m m, 1 - (1 + (r1 : Int)))] n5 (kk5.trans (Keep.same (s6.trans s8))) (p5.keep (s6.trans s8)) (by omega) upd_same (.cons (t6.mono (tups_of_same s8)) (.cons ⟨t7, pa3, rfl, ?_, s8 _ _ (s6 _ _ hp5)⟩ .nil)) (by simp) (fun t ht => ?_)
      · rw [upd_ne (ne_fresh hl8), upd_same]
      · simp only [List.mem_cons, List.not_mem_nil, or_false] at ht
        rcases ht with rfl | rfl
        · exact un i 1 (by decide)
        · exact un m _ e3c
    · -- if way < 6 and at != other
      have last : tRet (tCall spGather [] E0 (tCons (tLst (tCons (tCall spUnit [] E0 (tCons (tVar 1) (tCons (tVar 4) (tCons (tC (.int 1)) tNil)))) (tCons (tCall spUnit [] E0 (tCons (tVar 1) (tCons (tVar 5) (tCons (tC (.int 1)) tNil)))) (tCons (tTup (tCons (tOp (rIxT K) (tVar 3) (tC (.int 0))) (tCons (tOp (rI0 fun i j => .int (i - j)) (tC (.int 1)) (tOp (rIxT K) (tVar 3) (tC (.int 1)))) tNil))) tNil)))) tNil))
          { nx := fun _ H' => Q .non H', rt := Q } [some (.ref p), some (.int m), some (.int way), some (.ref a3), some (.int i), some (.int j)] H5 := by
        refine ⟨_, rfl, _, rfl, m, i, 1, rfl, by omega, fun H6 v6 s6 t6 => ?_⟩
        refine ⟨_, rfl, _, rfl, m, j, 1, rfl, by omega, fun H7 v7 s7 t7 => ?_⟩
        have s67 := s6.trans s7
        refine ⟨_, rfl, a3, _, _, _, rfl, rfl, sqT (s67 _ _ h35), rfl, _, rfl, a3, _, _, _, rfl, rfl, sqT (s67 _ _ h35), rfl, _, _, rfl, rfl, (by show 2 ≤ sizeLine; decide), fun t8 ht8 => ⟨(by show 3 ≤ sizeLine; decide), fun l8 hl8 => ?_⟩⟩
        have s8 : Same H7 (upd H7 t8 (.tup [.ref pa3, .int (1 - (1 + (r1 : Int)))])) := same_new ht8
        have s9 := s8.trans (same_new (o := .lst [v6, v7, .ref t8]) hl8)
        refine hfin _ l8 _ [(unitP m i, 1), (unitP m j, 1), (unitP m m, 1 - (1 + (r1 : Int)))] n5 (kk5.trans (Keep.same (s67.trans s9))) (p5.keep (s67.trans s9)) (by omega) upd_same
          (.cons (t6.mono (tups_of_same (s7.trans s9))) (.cons (t7.mono (tups_of_same s9)) (.cons ⟨t8, pa3, rfl, ?_, s9 _ _ (s67 _ _ hp5)⟩ .nil))) (by simp) (fun t ht => ?_)
        · rw [upd_ne (ne_fresh hl8), upd_same]
        · simp only [List.mem_cons, List.not_mem_nil, or_false] at ht
          rcases ht with rfl | rfl | rfl
          · exact un i 1 (by decide)
          · exact un j 1 (by decide)
          · exact un m _ e3c
      refine ⟨_, rfl, _, _, rfl, rfl, _, rfl, ite2 (fun e => ?_) (fun e => iteF last)⟩
      refine ⟨_, rfl, _, rfl, rfl, _, rfl, ite2 (fun e => ?_) (fun e => last)⟩
      refine ⟨_, rfl, _, rfl, m, i, 1, rfl, by omega, fun H6 v6 s6 t6 => ?_⟩
      refine ⟨_, rfl, _, rfl, _, rfl, m, j, -1, rfl, by omega, fun H7 v7 s7 t7 => ⟨(by show 2 ≤ sizeLine; decide), fun l8 hl8 => ?_⟩⟩
      have s67 := s6.trans s7
      have s9 : Same H7 (upd H7 l8 (.lst [v6, v7])) := same_new hl8
      refine hfin _ l8 _ [(unitP m i, 1), (unitP m j, -1)] n5 (kk5.trans (Keep.same (s67.trans s9))) (p5.keep (s67.trans s9)) (by omega) upd_same
        (.cons (t6.mono (tups_of_same (s7.trans s9))) (.cons (t7.mono (tups_of_same s9)) .nil)) (by simp) (fun t ht => ?_)
      simp only [List.mem_cons, List.not_mem_nil, or_false] at ht
      rcases ht with rfl | rfl
      · exact un i 1 (by decide)
      · exact un j (-1) (by decide)
end
end Mv

set_option Elab.async false
set_option linter.all false
set_option maxRecDepth 100000
set_option maxHeartbeats 4000000
namespace Mv
open PySem PySem.Spec PyProof.Rows L2
section
variable {P : Program} {w : World} {K : PySem.W.Frag} {mg : Str → Option Value} {base : Heap} {C1 C2 : Addr}
theorem two_ff {m i b : Nat} {c : Int} (hb : 0 < b) (hc : c.natAbs < 2 ^ b) : FF m 2 b 1 [(unitP m i, 1), (unitP m m, c)] :=
  (tm_ff (m := m) (D := 1) (b := b) (ts := [(unitP m i, 1), (unitP m m, c)]) fun t ht => by
    simp only [List.mem_cons, List.not_mem_nil, or_false] at ht
    rcases ht with rfl | rfl
    · refine unit_ok ?_
      show 1 < 2 ^ b
      exact Nat.one_lt_two_pow (by omega)
    · exact unit_ok hc).mono (Nat.le_refl _) (Nat.le_refl _) (Nat.le_refl _)
theorem ladder_step {m j : Nat} {f g h : Form} {c : Int} {i : Nat} (hj : j < 12) (hf : LF m (2 ^ j) (1 + 18 * j) j f) (hg : LF m 2 6 1 g) (ch : Canon (mulT f g) h) : LF m (2 ^ (j + 1)) (1 + 18 * (j + 1)) (j + 1) h := by
  have := lf_of (s := j + 1) ch (hf.ff.mul hg.ff) (by rw [Nat.pow_succ]; exact Nat.le_refl _)
  exact this.mono (by rw [Nat.pow_succ]; exact Nat.le_refl _) (by omega) (Nat.le_refl _)
theorem pr_ladder (T : Txt K mg C1 C2) : Prom P w K mg base CX0 3 "_law_ladder" pLawLadder spLadder := by
  obtain ⟨f2, d2, gLawUnit, kLawUnit, bLawUnit, GLawUnit⟩ := pr_unit (P := P) (w := w) (base := base) T
  obtain ⟨f3, d3, gLawGather, kLawGather, bLawGather, GLawGather⟩ := pr_gather (P := P) (w := w) (base := base) T
  obtain ⟨f4, d4, gLawProduct, kLawProduct, bLawProduct, GLawProduct⟩ := pr_product (P := P) (w := w) (base := base) T
  refine T.dLawLadder.prom fun f fd F => F.ok scLawLadder (fun vs H Q E h => ?_) (fun cdv A outer s H vs Q E hr h => ?_)
  · obtain ⟨m, i, low, c, rfl, _⟩ := h
    rfl
  · obtain ⟨m, i, low, c, rfl, hi, hm, hlow, hc, q⟩ := h
    refine ⟨_, (pss_cons (ps_set (i := 4) scLawLadder.nd rfl (Or.inl rfl) (pe_call GLawGather (hr.mono (by decide)) (by rfl) gLawGather kLawGather bLawGather .nil pass0 (pa_cons (pe_lst (pa_cons (pe_call GLawUnit (hr.mono (by decide)) (by rfl) gLawUnit kLawUnit bLawUnit .nil pass0 (pa_cons (pv 0) (pa_cons (pv 0) (pa_cons pe_int pa_nil)))) pa_nil)) pa_nil)))
  (pss_cons (ps_for PassesOwn.never rfl (pi_range2 (by rfl) T.n_range (pa_cons (pv 2) (pa_cons (pe_op op_add (pv 2) (pv 3)) pa_nil))) (pg_name (i := 5) scLawLadder.nd rfl (Or.inl rfl))
    (pss_one (ps_set (i := 4) scLawLadder.nd rfl (Or.inl rfl) (pe_call GLawProduct (hr.mono (by decide)) (by rfl) gLawProduct kLawProduct bLawProduct .nil pass0 (pa_cons (pv 4) (pa_cons (pe_call GLawGather (hr.mono (by decide)) (by rfl) gLawGather kLawGather bLawGather .nil pass0 (pa_cons (pe_lst (pa_cons (pe_call GLawUnit (hr.mono (by decide)) (by rfl) gLawUnit kLawUnit bLawUnit .nil pass0 (pa_cons (pv 0) (pa_cons (pv 1) (pa_cons pe_int pa_nil)))) (pa_cons (pe_call GLawUnit (hr.mono (by decide)) (by rfl) gLawUnit kLawUnit bLawUnit .nil pass0 (pa_cons (pv 0) (pa_cons (pv 0) (pa_cons (pe_un un_neg (pv 5)) pa_nil)))) pa_nil))) pa_nil)) pa_nil))))))
  (pss_one (ps_ret (pv 4))))), ?_⟩
    -- gather([unit(many, many, 1)])
    refine ⟨_, rfl, _, rfl, m, m, 1, rfl, by omega, fun H1 v1 s1 t1 => ⟨(by show 1 ≤ sizeLine; decide), fun l2 hl2 => ?_⟩⟩
    have s2 : Same H1 (upd H1 l2 (.lst [v1])) := same_new hl2
    refine ⟨l2, [v1], [(unitP m m, 1)], m, rfl, upd_same, .cons (t1.mono (tups_of_same s2)) .nil, fun t ht => by rw [List.mem_singleton.mp ht]; exact unit_len m m, by simp, fun H3 v3 g3 s3 f3 c3 => ?_⟩
    have lf0 : LF m (2 ^ 0) (1 + 18 * 0) 0 g3 := by
      have z : FF m 1 1 0 [(unitP m m, 1)] := ⟨Nat.le_refl _, fun t ht => by rw [List.mem_singleton.mp ht]; exact unit_len m m, fun t ht p hp => by
        rw [List.mem_singleton.mp ht] at hp
        obtain ⟨k, hk, rfl⟩ := List.mem_map.mp hp
        have := List.mem_range.mp hk
        rw [if_neg (by omega)]
        exact Nat.le_refl _, fun t ht => by rw [List.mem_singleton.mp ht]; show (1 : Int).natAbs < 2 ^ 1; decide⟩
      exact (lf_of (s := 0) c3 z (by decide)).mono (by decide) (by decide) (Nat.le_refl _)
    have s13 := (s1.trans s2).trans s3
    have e : ((low : Int) + c - low).toNat = c := by omega
    refine ⟨_, rfl, _, rfl, _, rfl, _, _, rfl, rfl, (low : Int), (low : Int) + c, rfl, ⟨by omega, by omega, by omega, by omega⟩, ?_⟩
    rw [e]
    refine for_range (lo := low) (n := c) (fun j σ H' => ∃ z v f, σ = [some (.int m), some (.int i), some (.int low), some (.int c), some v, z] ∧ Same H H' ∧ FmV H' v f ∧ LF m (2 ^ j) (1 + 18 * j) j f) ?_ ?_ ?_
    · exact ⟨none, v3, g3, rfl, s13, f3, lf0⟩
    · rintro j σ H4 hj ⟨z, v, f, rfl, s4, fv, lf⟩
      refine ⟨_, rfl, _, rfl, _, rfl, m, i, 1, rfl, by omega, fun H5 v5 s5 t5 => ?_⟩
      refine ⟨_, rfl, _, rfl, _, rfl, _, rfl, m, m, -((low : Int) + j), rfl, by omega, fun H6 v6 s6 t6 => ⟨(by show 2 ≤ sizeLine; decide), fun l7 hl7 => ?_⟩⟩
      have s7 : Same H6 (upd H6 l7 (.lst [v5, v6])) := same_new hl7
      have ff2 : FF m 2 5 1 [(unitP m i, 1), (unitP m m, -((low : Int) + j))] := two_ff (by decide) (by
        show (-((low : Int) + j)).natAbs < 32
        omega)
      refine ⟨l7, [v5, v6], [(unitP m i, 1), (unitP m m, -((low : Int) + j))], m, rfl, upd_same, .cons (t5.mono (tups_of_same (s6.trans s7))) (.cons (t6.mono (tups_of_same s7)) .nil), ff2.ar, by simp, fun H8 v8 g8 s8 f8 c8 => ?_⟩
      have lf8 : LF m 2 6 1 g8 := lf_of (s := 1) c8 ff2 (by decide)
      have s58 := ((s5.trans s6).trans s7).trans s8
      refine ⟨v, v8, f, g8, m, 2 ^ j, 1 + 18 * j, j, 2, 6, 1, rfl, fv.mono (tups_of_same s58), f8, lf.ff, lf8.ff, ?_, by omega, by omega, fun H9 v9 g9 s9 f9 c9 => ?_⟩
      · have : 2 ^ j ≤ 2 ^ 12 := Nat.pow_le_pow_right (by decide) (by omega)
        omega
      · exact ⟨_, v9, g9, rfl, (s4.trans s58).trans s9, f9, ladder_step (c := 0) (i := 0) (by omega) lf lf8 c9⟩
    · rintro σ H4 ⟨z, v, f, rfl, s4, fv, lf⟩
      refine ⟨_, rfl, q H4 v f s4 fv (lf.mono ?_ (by omega) (by omega))⟩
      have : 2 ^ c ≤ 2 ^ 12 := Nat.pow_le_pow_right (by decide) hc
      exact this
theorem pr_rungs (T : Txt K mg C1 C2) : Prom P w K mg base CX0 2 "_law_rungs" pLawRungs spRungs := by
  obtain ⟨f1, d1, gLawTake, kLawTake, bLawTake, GLawTake⟩ := pr_take (P := P) (w := w) (base := base) T
  obtain ⟨f2, d2, gLawUnit, kLawUnit, bLawUnit, GLawUnit⟩ := pr_unit (P := P) (w := w) (base := base) T
  obtain ⟨f3, d3, gLawGather, kLawGather, bLawGather, GLawGather⟩ := pr_gather (P := P) (w := w) (base := base) T
  refine T.dLawRungs.prom fun f fd F => F.ok scLawRungs (fun vs H Q E h => ?_) (fun cdv A outer s H vs Q E hr h => ?_)
  · obtain ⟨p, m, n, rfl, _⟩ := h
    rfl
  · obtain ⟨p, m, n, rfl, hm0, hm, hp, hn, q⟩ := h
    refine ⟨_, (pss_cons (ps_set (i := 2) scLawRungs.nd rfl (Or.inl rfl) (pe_call GLawTake (hr.mono (by decide)) (by rfl) gLawTake kLawTake bLawTake .nil pass0 (pa_cons (pv 0) (pa_cons (pv 1) pa_nil))))
  (pss_cons (ps_set (i := 3) scLawRungs.nd rfl (Or.inl rfl) (pe_op op_add pe_int (pe_call GLawTake (hr.mono (by decide)) (by rfl) gLawTake kLawTake bLawTake .nil pass0 (pa_cons (pv 0) (pa_cons pe_int pa_nil)))))
  (pss_cons (ps_set (i := 4) scLawRungs.nd rfl (Or.inl rfl) (pe_call GLawTake (hr.mono (by decide)) (by rfl) gLawTake kLawTake bLawTake .nil pass0 (pa_cons (pv 0) (pa_cons (pv 3) pa_nil))))
  (pss_cons (ps_set (i := 5) scLawRungs.nd rfl (Or.inl rfl) (pe_lst pa_nil))
  (pss_cons (ps_for PassesOwn.never rfl (pi_range1 (by rfl) T.n_range (pa_cons (pv 3) pa_nil)) (pg_name (i := 6) scLawRungs.nd rfl (Or.inl rfl))
    (pss_cons (ps_set (i := 7) scLawRungs.nd rfl (Or.inl rfl) (pe_op op_modR (pe_op op_add (pv 4) (pe_op op_mulR (pv 6) pe_int)) (pv 3)))
    (pss_one (ps_expr (pe_bm PySem.F.plainAttrs_list PySem.F.slot_list_append PySem.F.type_list_append mt_append (pv 5) (pa_cons (pe_call GLawGather (hr.mono (by decide)) (by rfl) gLawGather kLawGather bLawGather .nil pass0 (pa_cons (pe_lst (pa_cons (pe_call GLawUnit (hr.mono (by decide)) (by rfl) gLawUnit kLawUnit bLawUnit .nil pass0 (pa_cons (pv 1) (pa_cons (pv 2) (pa_cons pe_int pa_nil)))) (pa_cons (pe_call GLawUnit (hr.mono (by decide)) (by rfl) gLawUnit kLawUnit bLawUnit .nil pass0 (pa_cons (pv 1) (pa_cons (pv 1) (pa_cons (pe_un un_neg (pv 7)) pa_nil)))) pa_nil))) pa_nil)) pa_nil))))))
  (pss_one (ps_ret (pv 5)))))))), ?_⟩
    refine ⟨_, rfl, _, rfl, p, n, m, rfl, hp, by omega, hm0, by omega, fun i H1 hi st1 => ?_⟩
    obtain ⟨k1, n1, b1, p1⟩ := st1
    refine ⟨_, rfl, p, n1, 60, rfl, p1, by omega, by decide, by decide, fun r H2 hr2 st2 => ?_⟩
    obtain ⟨k2, n2, b2, p2⟩ := st2
    have e1 : ((1 : Int) + r) = ((1 + r : Nat) : Int) := by omega
    refine ⟨_, _, rfl, rfl, _, rfl, _, rfl, p, n2, 1 + r, ?_, p2, by omega, by omega, by omega, fun b H3 hb st3 => ?_⟩
    · show [V.ref p, V.int ((1 : Int) + r)] ++ [] = _
      rw [e1]
      rfl
    obtain ⟨k3, n3, b3, p3⟩ := st3
    have k13 : Keep p H H3 := (Keep.trans k1 k2).trans k3
    refine ⟨(by show 0 ≤ sizeLine; decide), fun l hl => ?_⟩
    have hlp : l ≠ p := fun e => by
      have := p3.there
      rw [← e] at this
      exact this hl
    have hl0 : H l = none := by
      cases e : H l with
      | none => rfl
      | some o =>
        rw [k13 l o hlp e] at hl
        cases hl
    refine ⟨_, rfl, _, rfl, by omega, by omega, ?_⟩
    have e2 : ((1 : Int) + r).toNat = 1 + r := by omega
    rw [e2]
    refine for_range (lo := 0) (n := 1 + r) (fun j σ H' => ∃ z6 z7 xs fs, σ = [some (.ref p), some (.int m), some (.int i), some (.int (1 + (r : Int))), some (.int b), some (.ref l), z6, z7] ∧ Keep p H H' ∧ PoolV H' p n3 ∧ H' l = some (.lst xs) ∧ FmsV H' xs fs ∧ (∀ f ∈ fs, LF m 4096 400 12 f) ∧ fs.length = j) ?_ ?_ ?_
    · exact ⟨none, none, [], [], rfl, k13.trans (Keep.same (same_new hl)), p3.new hl, upd_same, .nil, fun f hf => by simp at hf, rfl⟩
    · rintro j σ H4 hj ⟨z6, z7, xs, fs, rfl, k4, p4, hl4, hf4, lf4, ln4⟩
      refine ⟨_, rfl, _, rfl, _, _, rfl, rfl, .inr ⟨by decide, by decide⟩, fun x ex => ⟨_, _, rfl, rfl, _, rfl, _, _, rfl, rfl, by omega, fun y y0 y1 _ => ?_⟩⟩
      refine ⟨_, rfl, .inl ⟨rfl, _, sqL hl4⟩, ?_⟩
      refine ⟨_, rfl, _, rfl, m, i, 1, rfl, by omega, fun H5 v5 s5 t5 => ?_⟩
      refine ⟨_, rfl, _, rfl, _, rfl, _, rfl, m, m, -y, rfl, by omega, fun H6 v6 s6 t6 => ⟨(by show 2 ≤ sizeLine; decide), fun l7 hl7 => ?_⟩⟩
      have s7 : Same H6 (upd H6 l7 (.lst [v5, v6])) := same_new hl7
      have ff2 : FF m 2 6 1 [(unitP m i, 1), (unitP m m, -y)] := two_ff (by decide) (by
        show (-y).natAbs < 64
        omega)
      refine ⟨l7, [v5, v6], [(unitP m i, 1), (unitP m m, -y)], m, rfl, upd_same, .cons (t5.mono (tups_of_same (s6.trans s7))) (.cons (t6.mono (tups_of_same s7)) .nil), ff2.ar, by simp, fun H8 v8 g8 s8 f8 c8 => ?_⟩
      have lf8 : LF m 4096 400 12 g8 := (lf_of (s := 1) c8 ff2 (by decide)).mono (by decide) (by decide) (by decide)
      have s58 := ((s5.trans s6).trans s7).trans s8
      have hl8 := s58 _ _ hl4
      have lx : xs.length = fs.length := Paired.len hf4
      refine ⟨l, xs, v8, rfl, rfl, hl8, szl (by omega), _, _, xs ++ [v8], fs ++ [g8], rfl, keep_mut (k4.trans (Keep.same s58)) hl0, ?_, upd_same, ?_, fun f hf => ?_, by simp [ln4]⟩
      · obtain ⟨d, c, h1, h2⟩ := p4.keep s58
        exact ⟨d, c, h1, by rw [upd_ne hlp.symm]; exact h2⟩
      · have tp : Tups H8 (upd H8 l (.lst (xs ++ [v8]))) := tups_upd hl8 (by intro xs c; cases c)
        exact Paired.snoc' (f8.mono tp) (FmsV.mono ((tups_of_same s58).trans tp) hf4)
      · rcases List.mem_append.mp hf with hf | hf
        · exact lf4 f hf
        · rw [List.mem_singleton.mp hf]
          exact lf8
    · rintro σ H4 ⟨z6, z7, xs, fs, rfl, k4, p4, hl4, hf4, lf4, ln4⟩
      exact ⟨_, rfl, q H4 l xs fs n3 k4 p4 (by omega) hl0 hl4 hf4 lf4 (by omega)⟩
end
end Mv

set_option Elab.async false
set_option linter.all false
set_option maxRecDepth 100000
set_option maxHeartbeats 4000000
namespace Mv
open PySem PySem.Spec PyProof.Rows L2
abbrev LFm (m : Nat) (f : Form) : Prop := LF m 4096 400 12 f
theorem lf_nil (m : Nat) : LFm m [] := ⟨List.nodup_nil, fun t h => by simp at h, Nat.zero_le _, fun t h => by simp at h, fun t h => by simp at h, fun t h => by simp at h⟩
/-- the list l of the forms that were drawn so far, the pool p within n draws -/
structure FState (p l : Addr) (H H' : Hp) (m n : Nat) (fs : List Form) : Prop where
  keep : Keep p H H'
  pool : ∃ n', n' ≤ n ∧ PoolV H' p n'
  lst : ∃ xs, H' l = some (.lst xs) ∧ FmsV H' xs fs
  lf : ∀ f ∈ fs, LFm m f
  ne : l ≠ p
  new : H l = none
theorem FState.step {p l : Addr} {H H1 H2 : Hp} {m n n2 n' n0 : Nat} {fs : List Form} (h : FState p l H H1 m n fs) (p1 : PoolV H1 p n0) (k : Keep p H1 H2) (pv : PoolV H2 p n') (hn : n' ≤ n2) : FState p l H H2 m n2 fs := by
  obtain ⟨xs, hl, hf⟩ := h.lst
  exact ⟨h.keep.trans k, ⟨n', hn, pv⟩, ⟨xs, k _ _ h.ne hl, hf.mono (Keep.tups p1 k)⟩, h.lf, h.ne, h.new⟩
theorem FState.same {p l : Addr} {H H1 H2 : Hp} {m n : Nat} {fs : List Form} (h : FState p l H H1 m n fs) (s : Same H1 H2) : FState p l H H2 m n fs := by
  obtain ⟨xs, hl, hf⟩ := h.lst
  obtain ⟨n', hn, pv⟩ := h.pool
  exact ⟨h.keep.trans (Keep.same s), ⟨n', hn, pv.keep s⟩, ⟨xs, s _ _ hl, hf.mono (tups_of_same s)⟩, h.lf, h.ne, h.new⟩
theorem FState.put {p l : Addr} {H H1 : Hp} {m n : Nat} {fs gs : List Form} {ys : List V} (h : FState p l H H1 m n fs) (hf : FmsV H1 ys gs) (lf : ∀ f ∈ gs, LFm m f) : FState p l H (upd H1 l (.lst ys)) m n gs := by
  obtain ⟨xs, hl, _⟩ := h.lst
  obtain ⟨n', hn, d, c, h1, h2⟩ := h.pool
  exact ⟨keep_mut h.keep h.new, ⟨n', hn, d, c, h1, by rw [upd_ne h.ne.symm]; exact h2⟩, ⟨ys, upd_same, hf.mono (tups_upd hl (by intro xs c; cases c))⟩, lf, h.ne, h.new⟩
theorem FState.more {p l : Addr} {H H1 : Hp} {m n n2 : Nat} {fs : List Form} (h : FState p l H H1 m n fs) (hn : n ≤ n2) : FState p l H H1 m n2 fs := by
  obtain ⟨n', hn', pv⟩ := h.pool
  exact ⟨h.keep, ⟨n', by omega, pv⟩, h.lst, h.lf, h.ne, h.new⟩
def spForms : Sp := fun vs H Q _ => ∃ (p : Addr) (m n : Nat), vs = [.ref p, .int m] ∧ m ≤ 6 ∧ PoolV H p n ∧ n ≤ 100000000 ∧
  ∀ H' l xs fs, Keep p H H' → H l = none → l ≠ p → H' l = some (.lst xs) → FmsV H' xs fs → (∀ f ∈ fs, LFm m f) → fs.length ≤ 60 → Q (.ref l) H'
theorem prod_lf {m j : Nat} {f g h : Form} (hj : j < 2) (hf : LF m (3 ^ (j + 1)) (6 + 11 * j) (j + 1) f) (hg : LF m 3 6 1 g) (ch : Canon (mulT f g) h) : LF m (3 ^ (j + 2)) (6 + 11 * (j + 1)) (j + 2) h := by
  have := lf_of (s := 5) ch (hf.ff.mul hg.ff) (by
    match j, hj with
    | 0, _ => decide
    | 1, _ => decide)
  exact this.mono (by rw [Nat.pow_succ 3 (j + 1)]; exact Nat.le_refl _) (by omega) (Nat.le_refl _)
section
variable {P : Program} {w : World} {K : PySem.W.Frag} {mg : Str → Option Value} {base : Heap} {C1 C2 : Addr}
theorem pr_forms (T : Txt K mg C1 C2) : Prom P w K mg base CX0 4 "_law_forms" pLawForms spForms := by
  obtain ⟨f1, d1, gLawTake, kLawTake, bLawTake, GLawTake⟩ := pr_take (P := P) (w := w) (base := base) T
  obtain ⟨f2, d2, gLawRungs, kLawRungs, bLawRungs, GLawRungs⟩ := pr_rungs (P := P) (w := w) (base := base) T
  obtain ⟨f3, d3, gLawFactor, kLawFactor, bLawFactor, GLawFactor⟩ := pr_factor (P := P) (w := w) (base := base) T
  obtain ⟨f4, d4, gLawProduct, kLawProduct, bLawProduct, GLawProduct⟩ := pr_product (P := P) (w := w) (base := base) T
  obtain ⟨f5, d5, gLawLadder, kLawLadder, bLawLadder, GLawLadder⟩ := pr_ladder (P := P) (w := w) (base := base) T
  refine T.dLawForms.prom fun f fd F => F.ok scLawForms (fun vs H Q E h => ?_) (fun cdv A outer s H vs Q E hr h => ?_)
  · obtain ⟨p, m, n, rfl, _⟩ := h
    rfl
  · obtain ⟨p, m, n, rfl, hm, hp, hn, q⟩ := h
    refine ⟨_, (C8.pss_cut (ps_if (PW.pt (pw_and (pt_cmpR op_eq (pe_call GLawTake (hr.mono (by decide)) (by rfl) gLawTake kLawTake bLawTake .nil pass0 (pa_cons (pv 0) (pa_cons pe_int pa_nil))) pe_int (nomark _)) (pw_and1 (pt_cmpR op_gt (pv 1) pe_int (nomark _))))) (pss_one (ps_ret (pe_call GLawRungs (hr.mono (by decide)) (by rfl) gLawRungs kLawRungs bLawRungs .nil pass0 (pa_cons (pv 0) (pa_cons (pv 1) pa_nil))))) pss_nil)
  (pss_cons (ps_set (i := 2) scLawForms.nd rfl (Or.inl rfl) (pe_call GLawTake (hr.mono (by decide)) (by rfl) gLawTake kLawTake bLawTake .nil pass0 (pa_cons (pv 0) (pa_cons pe_int pa_nil))))
  (pss_cons (ps_set (i := 3) scLawForms.nd rfl (Or.inl rfl) (pe_call GLawTake (hr.mono (by decide)) (by rfl) gLawTake kLawTake bLawTake .nil pass0 (pa_cons (pv 0) (pa_cons pe_int pa_nil))))
  (pss_cons (ps_set (i := 4) scLawForms.nd rfl (Or.inl rfl) (pe_lst pa_nil))
  (pss_cons (ps_for PassesOwn.never rfl (pi_range1 (by rfl) T.n_range (pa_cons (pe_call GLawTake (hr.mono (by decide)) (by rfl) gLawTake kLawTake bLawTake .nil pass0 (pa_cons (pv 0) (pa_cons pe_int pa_nil))) pa_nil)) (pg_name (i := 5) scLawForms.nd rfl (Or.inl rfl))
    (pss_cons (ps_set (i := 6) scLawForms.nd rfl (Or.inl rfl) (pe_call GLawFactor (hr.mono (by decide)) (by rfl) gLawFactor kLawFactor bLawFactor .nil pass0 (pa_cons (pv 0) (pa_cons (pv 1) pa_nil))))
    (pss_cons (ps_for PassesOwn.never rfl (pi_range1 (by rfl) T.n_range (pa_cons (pe_call GLawTake (hr.mono (by decide)) (by rfl) gLawTake kLawTake bLawTake .nil pass0 (pa_cons (pv 0) (pa_cons pe_int pa_nil))) pa_nil)) (pg_name (i := 7) scLawForms.nd rfl (Or.inl rfl))
      (pss_one (ps_set (i := 6) scLawForms.nd rfl (Or.inl rfl) (pe_call GLawProduct (hr.mono (by decide)) (by rfl) gLawProduct kLawProduct bLawProduct .nil pass0 (pa_cons (pv 6) (pa_cons (pe_call GLawFactor (hr.mono (by decide)) (by rfl) gLawFactor kLawFactor bLawFactor .nil pass0 (pa_cons (pv 0) (pa_cons (pv 1) pa_nil))) pa_nil))))))
    (pss_one (ps_expr (pe_bm PySem.F.plainAttrs_list PySem.F.slot_list_append PySem.F.type_list_append mt_append (pv 4) (pa_cons (pv 6) pa_nil)))))))
  (pss_cons (ps_set (i := 8) scLawForms.nd rfl (Or.inl rfl) pe_int)
  (pss_cons (ps_set (i := 9) scLawForms.nd rfl (Or.inl rfl) (pe_call GLawTake (hr.mono (by decide)) (by rfl) gLawTake kLawTake bLawTake .nil pass0 (pa_cons (pv 0) (pa_cons (pe_callB (call_max2 rfl) (by rfl) T.n_max (by decide +kernel) (pa_cons pe_int (pa_cons (pv 1) pa_nil))) pa_nil))))
  (pss_cons (ps_for PassesOwn.never rfl (pi_range1 (by rfl) T.n_range (pa_cons (pe_callB (call_min2 rfl) (by rfl) T.n_min (by decide +kernel) (pa_cons pe_int (pa_cons (pv 2) pa_nil))) pa_nil)) (pg_name (i := 5) scLawForms.nd rfl (Or.inl rfl))
    (pss_cons (ps_set (i := 10) scLawForms.nd rfl (Or.inl rfl) (pe_op op_add pe_int (pe_call GLawTake (hr.mono (by decide)) (by rfl) gLawTake kLawTake bLawTake .nil pass0 (pa_cons (pv 0) (pa_cons pe_int pa_nil)))))
    (C8.pss_cut (ps_if (pt_cmpR op_gt (pv 1) pe_int (nomark _)) (pss_one (ps_expr (pe_bm PySem.F.plainAttrs_list PySem.F.slot_list_insert PySem.F.type_list_insert mt_insert (pv 4) (pa_cons (pe_call GLawTake (hr.mono (by decide)) (by rfl) gLawTake kLawTake bLawTake .nil pass0 (pa_cons (pv 0) (pa_cons (pe_op op_add (pe_callB (cr_lenOf (K := K) rfl) (by rfl) T.n_len PySem.boot_len (pa_cons (pv 4) pa_nil)) pe_int) pa_nil))) (pa_cons (pe_call GLawLadder (hr.mono (by decide)) (by rfl) gLawLadder kLawLadder bLawLadder .nil pass0 (pa_cons (pv 1) (pa_cons (pv 9) (pa_cons (pv 8) (pa_cons (pv 10) pa_nil))))) pa_nil))))) pss_nil)
    (pss_one (ps_set (i := 8) scLawForms.nd rfl (Or.inl rfl) (pe_op op_add (pv 8) (pv 10)))))))
  (C8.pss_cut (ps_if (PW.pt (pw_and (pt_cmpR op_eq (pv 3) pe_int (nomark _)) (pw_and1 (pt_cmpR op_gt (pe_callB (cr_lenOf (K := K) rfl) (by rfl) T.n_len PySem.boot_len (pa_cons (pv 4) pa_nil)) pe_int (nomark _))))) (pss_one (ps_for PassesOwn.never rfl (pi_range1 (by rfl) T.n_range (pa_cons (pe_op op_add pe_int (pe_call GLawTake (hr.mono (by decide)) (by rfl) gLawTake kLawTake bLawTake .nil pass0 (pa_cons (pv 0) (pa_cons pe_int pa_nil)))) pa_nil)) (pg_name (i := 5) scLawForms.nd rfl (Or.inl rfl))
      (pss_one (ps_asg (pe_tup pa_nil) (pg_sub (pv 4) (pe_call GLawTake (hr.mono (by decide)) (by rfl) gLawTake kLawTake bLawTake .nil pass0 (pa_cons (pv 0) (pa_cons (pe_callB (cr_lenOf (K := K) rfl) (by rfl) T.n_len PySem.boot_len (pa_cons (pv 4) pa_nil)) pa_nil))) set_list))))) pss_nil)
  (pss_one (ps_ret (pv 4)))))))))))), ?_⟩
    -- rungs
    refine ⟨fun σ' H' => σ' = [some (.ref p), some (.int m), none, none, none, none, none, none, none, none, none] ∧ Keep p H H' ∧ ∃ n1, n1 ≤ n + 1 ∧ PoolV H' p n1, ?_, ?_⟩
    · refine ⟨_, rfl, p, n, 8, rfl, hp, by omega, by decide, by decide, fun r H1 hr1 st1 => ?_⟩
      obtain ⟨k1, n1, b1, p1⟩ := st1
      refine ⟨rfl, _, rfl, ite2 (fun e => ?_) (fun e => iteF ⟨rfl, k1, n1, b1, p1⟩)⟩
      refine ⟨_, rfl, _, _, rfl, rfl, _, rfl, ite2 (fun e2 => ?_) (fun e2 => ⟨rfl, k1, n1, b1, p1⟩)⟩
      have hm0 : 0 < m := by
        have := of_decide_eq_true e2
        omega
      refine ⟨_, rfl, _, rfl, p, m, n1, rfl, hm0, hm, p1, by omega, fun H2 l xs fs n2 k2 p2 b2 hl0 hl hf lf ln => ?_⟩
      have hlp : l ≠ p := fun e => p1.there (e ▸ hl0)
      refine q H2 l xs fs (Keep.trans k1 k2) ?_ hlp hl hf lf ln
      cases e : H l with
      | none => rfl
      | some o =>
        rw [k1 l o hlp e] at hl0
        cases hl0
    · rintro σ' H1 ⟨rfl, k1, n1, b1, p1⟩
      -- ladders, holes
      refine ⟨_, rfl, p, n1, 4, rfl, p1, by omega, by decide, by decide, fun lad H2 hlad st2 => ?_⟩
      obtain ⟨k2, n2, b2, p2⟩ := st2
      refine ⟨_, rfl, p, n2, 3, rfl, p2, by omega, by decide, by decide, fun hol H3 hhol st3 => ?_⟩
      obtain ⟨k3, n3, b3, p3⟩ := st3
      have kk3 : Keep p H H3 := k1.trans (Keep.trans k2 k3)
      refine ⟨(by show 0 ≤ sizeLine; decide), fun l hl => ?_⟩
      have hlp : l ≠ p := fun e => p3.there (e ▸ hl)
      have hl0 : H l = none := by
        cases e : H l with
        | none => rfl
        | some o =>
          rw [kk3 l o hlp e] at hl
          cases hl
      have F0 : FState p l H (upd H3 l (.lst [])) m (n + 3) [] := ⟨kk3.trans (Keep.same (same_new hl)), ⟨n3, by omega, p3.new hl⟩, ⟨[], upd_same, .nil⟩, fun f hf => by simp at hf, hlp, hl0⟩
      -- the products
      obtain ⟨n4, b4, p4⟩ := F0.pool
      refine ⟨_, rfl, p, n4, 5, rfl, p4, by omega, by decide, by decide, fun c5 H5 hc5 st5 => ?_⟩
      obtain ⟨k5, n5, b5, p5⟩ := st5
      have F5 := F0.step (n2 := n + 4) p4 k5 p5 (by omega)
      refine ⟨c5, rfl, by omega, by omega, ?_⟩
      refine for_range (lo := 0) (n := c5) (fun j σ H' => ∃ z5 z6 z7 fs, σ = [some (.ref p), some (.int m), some (.int lad), some (.int hol), some (.ref l), z5, z6, z7, none, none, none] ∧ FState p l H H' m (n + 4 + 20 * j) fs ∧ fs.length = j) ?_ ?_ ?_
      · exact ⟨none, none, none, [], rfl, F5, rfl⟩
      · rintro j σ H6 hj ⟨z5, z6, z7, fs, rfl, F6, ln6⟩
        obtain ⟨n6, b6, p6⟩ := F6.pool
        refine ⟨_, rfl, _, rfl, p, m, n6, rfl, hm, p6, by omega, fun H7 v7 f7 n7 k7 p7 b7 fv7 lf7 => ?_⟩
        have F7 := F6.step (n2 := n + 4 + 20 * j + 5) p6 k7 p7 (by omega)
        refine ⟨_, rfl, p, n7, 3, rfl, p7, by omega, by decide, by decide, fun c8 H8 hc8 st8 => ?_⟩
        obtain ⟨k8, n8, b8, p8⟩ := st8
        have F8 := F7.step (n2 := n + 4 + 20 * j + 6) p7 k8 p8 (by omega)
        refine ⟨c8, rfl, by omega, by omega, ?_⟩
        refine for_range (lo := 0) (n := c8) (fun i σ H' => ∃ y5 y7 v f, σ = [some (.ref p), some (.int m), some (.int lad), some (.int hol), some (.ref l), y5, some v, y7, none, none, none] ∧ FState p l H H' m (n + 4 + 20 * j + 6 + 5 * i) fs ∧ FmV H' v f ∧ LF m (3 ^ (i + 1)) (6 + 11 * i) (i + 1) f) ?_ ?_ ?_
        · exact ⟨_, z7, v7, f7, rfl, F8, fv7.mono (Keep.tups p7 k8), lf7⟩
        · rintro i σ H9 hi ⟨y5, y7, v, f, rfl, F9, fv9, lf9⟩
          obtain ⟨n9, b9, p9⟩ := F9.pool
          refine ⟨_, rfl, _, rfl, _, rfl, p, m, n9, rfl, hm, p9, by omega, fun Ha va fa na ka pa ba fva lfa => ?_⟩
          have Fa := F9.step (n2 := n + 4 + 20 * j + 6 + 5 * (i + 1)) p9 ka pa (by omega)
          refine ⟨v, va, f, fa, m, 3 ^ (i + 1), 6 + 11 * i, i + 1, 3, 6, 1, rfl, fv9.mono (Keep.tups p9 ka), fva, lf9.ff, lfa.ff, ?_, by omega, by omega, fun Hb vb fb sb fvb cb => ?_⟩
          · have : 3 ^ (i + 1) ≤ 3 ^ 3 := Nat.pow_le_pow_right (by decide) (by omega)
            omega
          · exact ⟨y5, _, vb, fb, rfl, Fa.same sb, fvb, prod_lf (by omega) lf9 lfa cb⟩
        · rintro σ H9 ⟨y5, y7, v, f, rfl, F9, fv9, lf9⟩
          obtain ⟨xs, hx, hfx⟩ := F9.lst
          have lx : xs.length = fs.length := Paired.len hfx
          refine ⟨_, rfl, .inl ⟨rfl, _, sqL hx⟩, _, rfl, l, xs, v, rfl, rfl, hx, szl (by omega), y5, _, y7, fs ++ [f], rfl, ?_, by simp [ln6]⟩
          refine (F9.put (Paired.snoc' fv9 hfx) fun g hg => ?_).more (by omega)
          rcases List.mem_append.mp hg with hg | hg
          · exact F9.lf g hg
          · rw [List.mem_singleton.mp hg]
            refine lf9.mono ?_ (by omega) (by omega)
            have : 3 ^ (c8 + 1) ≤ 3 ^ 3 := Nat.pow_le_pow_right (by decide) (by omega)
            omega
      · rintro σ H6 ⟨z5, z6, z7, fs, rfl, F6, ln6⟩
        obtain ⟨n6, b6, p6⟩ := F6.pool
        -- low, at
        refine ⟨_, rfl, _, rfl, _, _, rfl, p, n6, max 1 m, ?_, p6, by omega, by omega, by omega, fun at_ H7 hat st7 => ?_⟩
        · show [V.ref p, V.int (if (m : Int) > 1 then (m : Int) else 1)] ++ [] = _
          have : (if (m : Int) > 1 then (m : Int) else 1) = ((max 1 m : Nat) : Int) := by
            split <;> omega
          rw [this]
          rfl
        obtain ⟨k7, n7, b7, p7⟩ := st7
        have F7 := F6.step (n2 := n + 85) p6 k7 p7 (by omega)
        -- the ladders
        refine ⟨_, rfl, _, _, rfl, _, rfl, by split <;> omega, by split <;> omega, ?_⟩
        have e2 : (if (lad : Int) < 2 then (lad : Int) else 2).toNat = min 2 lad := by
          split <;> omega
        rw [e2]
        refine for_range (lo := 0) (n := min 2 lad) (fun j σ H' => ∃ y5 y10 fs low, σ = [some (.ref p), some (.int m), some (.int lad), some (.int hol), some (.ref l), y5, z6, z7, some (.int (low : Nat)), some (.int at_), y10] ∧ FState p l H H' m (n + 85 + 2 * j) fs ∧ fs.length ≤ 4 + j ∧ low ≤ 12 * j) ?_ ?_ ?_
        · exact ⟨z5, none, fs, 0, rfl, F7, by omega, by omega⟩
        · rintro j σ H8 hj ⟨y5, y10, fs, low, rfl, F8, ln8, hlow⟩
          obtain ⟨n8, b8, p8⟩ := F8.pool
          refine ⟨_, rfl, p, n8, 12, rfl, p8, by omega, by decide, by decide, fun c9 H9 hc9 st9 => ⟨_, _, rfl, rfl, ?_⟩⟩
          obtain ⟨k9, n9, b9, p9⟩ := st9
          have F9 := F8.step (n2 := n + 86 + 2 * j) p8 k9 p9 (by omega)
          have e3 : ((1 : Int) + c9) = ((1 + c9 : Nat) : Int) := by omega
          refine ⟨fun σ' H' => ∃ fs, σ' = [some (.ref p), some (.int m), some (.int lad), some (.int hol), some (.ref l), some (.int (0 + (j : Int))), z6, z7, some (.int (low : Nat)), some (.int at_), some (.int ((1 + c9 : Nat) : Int))] ∧ FState p l H H' m (n + 87 + 2 * j) fs ∧ fs.length ≤ 4 + (j + 1), ?_, ?_⟩
          · refine ⟨_, rfl, _, _, rfl, rfl, _, rfl, ite2 (fun e => ?_) (fun e => ⟨fs, ?_, F9.more (by omega), by omega⟩)⟩
            · have hm0 : 0 < m := by
                have := of_decide_eq_true e
                omega
              obtain ⟨xs, hx, hfx⟩ := F9.lst
              have lx : xs.length = fs.length := Paired.len hfx
              refine ⟨_, rfl, .inl ⟨rfl, _, sqL hx⟩, ?_⟩
              refine ⟨_, rfl, _, rfl, l, xs, rfl, .inl (sqL hx), _, _, rfl, rfl, p, n9, xs.length + 1, rfl, p9, by omega, by omega, by omega, fun r Ha hra sta => ?_⟩
              obtain ⟨ka, na, ba, pa⟩ := sta
              have Fa := F9.step (n2 := n + 87 + 2 * j) p9 ka pa (by omega)
              refine ⟨_, rfl, _, rfl, _, rfl, _, rfl, m, at_, low, 1 + c9, ?_, by omega, hm, by omega, by omega, fun Hb vb fb sb fvb lfb => ?_⟩
              · show [V.int m, V.int at_, V.int low, V.int ((1 : Int) + c9)] ++ [] = _
                rw [e3]
                rfl
              have Fb := Fa.same sb
              obtain ⟨ys, hy, hfy⟩ := Fb.lst
              have ly : ys.length = fs.length := Paired.len hfy
              refine ⟨l, ys, (r : Int), vb, rfl, rfl, hy, szl (by omega), by omega, by omega, fs.take r ++ [fb] ++ fs.drop r, ?_, ?_, ?_⟩
              · rw [← e3]
                rfl
              · refine Fb.put ?_ fun g hg => ?_
                · rw [Int.toNat_natCast]
                  exact Paired.app' (Paired.drop' r hfy) (Paired.app' (.cons fvb .nil) (Paired.take' r hfy))
                · simp only [List.mem_append, List.mem_singleton] at hg
                  rcases hg with (hg | hg) | hg
                  · exact Fb.lf g (List.mem_of_mem_take hg)
                  · rw [hg]
                    exact lfb
                  · exact Fb.lf g (List.mem_of_mem_drop hg)
              · simp
                omega
            · rw [← e3]
              rfl
          · rintro σ' Ha ⟨fs2, rfl, Fa, lna⟩
            refine ⟨_, rfl, _, rfl, _, _, rfl, rfl, some (.int (0 + (j : Int))), some (.int ((1 + c9 : Nat) : Int)), fs2, low + (1 + c9), ?_, Fa.more (by omega), by omega, by omega⟩
            have : ((low : Int) + ((1 + c9 : Nat) : Int)) = ((low + (1 + c9) : Nat) : Int) := by omega
            show List.set _ 8 (some (V.int ((low : Int) + ((1 + c9 : Nat) : Int)))) = _
            rw [this]
            rfl
        · rintro σ H8 ⟨y5, y10, fs, low, rfl, F8, ln8, hlow⟩
          -- the holes
          refine ⟨fun σ' H' => ∃ y5 fs, σ' = [some (.ref p), some (.int m), some (.int lad), some (.int hol), some (.ref l), y5, z6, z7, some (.int (low : Nat)), some (.int at_), y10] ∧ FState p l H H' m (n + 100) fs ∧ fs.length ≤ 6, ?_, ?_⟩
          · obtain ⟨n8, b8, p8⟩ := F8.pool
            refine ⟨_, rfl, rfl, _, rfl, ite2 (fun e => ?_) (fun e => iteF ⟨y5, fs, rfl, F8.more (by omega), by omega⟩)⟩
            obtain ⟨xs, hx, hfx⟩ := F8.lst
            have lx : xs.length = fs.length := Paired.len hfx
            refine ⟨_, rfl, l, xs, rfl, .inl (sqL hx), _, _, rfl, rfl, _, rfl, ite2 (fun e => ?_) (fun e => ⟨y5, fs, rfl, F8.more (by omega), by omega⟩)⟩
            have l0 : 0 < fs.length := by
              have := of_decide_eq_true e
              omega
            refine ⟨_, rfl, p, n8, 2, rfl, p8, by omega, by decide, by decide, fun c9 H9 hc9 st9 => ⟨_, _, rfl, rfl, ?_⟩⟩
            obtain ⟨k9, n9, b9, p9⟩ := st9
            have F9 := F8.step (n2 := n + 90) p8 k9 p9 (by omega)
            refine ⟨_, rfl, by omega, by omega, ?_⟩
            have e4 : ((1 : Int) + c9).toNat = 1 + c9 := by omega
            rw [e4]
            refine for_range (lo := 0) (n := 1 + c9) (fun j σ H' => ∃ y5 gs, σ = [some (.ref p), some (.int m), some (.int lad), some (.int hol), some (.ref l), y5, z6, z7, some (.int (low : Nat)), some (.int at_), y10] ∧ FState p l H H' m (n + 90 + j) gs ∧ gs.length = fs.length) ?_ ?_ ?_
            · exact ⟨y5, fs, rfl, F9, rfl⟩
            · rintro j σ Ha hj ⟨y5, gs, rfl, Fa, lna⟩
              refine ⟨(by show 0 ≤ sizeLine; decide), fun t ht => ?_⟩
              have st : Same Ha (upd Ha t (.tup [])) := same_new ht
              have Fb := Fa.same st
              obtain ⟨ys, hy, hfy⟩ := Fb.lst
              have ly : ys.length = gs.length := Paired.len hfy
              obtain ⟨nb, bb, pb⟩ := Fb.pool
              refine ⟨_, rfl, _, rfl, _, rfl, l, ys, rfl, .inl (sqL hy), p, nb, ys.length, rfl, pb, by omega, by omega, by omega, fun r Hc hrc stc => ?_⟩
              obtain ⟨kc, nc, bc, pc⟩ := stc
              have Fc := Fb.step (n2 := n + 90 + (j + 1)) pb kc pc (by omega)
              obtain ⟨zs, hz, hfz⟩ := Fc.lst
              have lz : zs.length = gs.length := Paired.len hfz
              have htc : Hc t = some (.tup []) := Keep.tups pb kc _ _ upd_same
              refine ⟨l, zs, _, r, rfl, rfl, hz, ixN_lt (by omega), _, gs.set r [], rfl, Fc.put (Paired.set' ⟨t, [], rfl, htc, .nil⟩ r hfz) fun g hg => ?_, by simp [lna]⟩
              rcases List.mem_or_eq_of_mem_set hg with z | z
              · exact Fc.lf g z
              · rw [z]
                exact lf_nil m
            · rintro σ Ha ⟨y5, gs, rfl, Fa, lna⟩
              exact ⟨y5, gs, rfl, Fa.more (by omega), by omega⟩
          · rintro σ' H9 ⟨y5, fs, rfl, F9, ln9⟩
            obtain ⟨xs, hx, hfx⟩ := F9.lst
            exact ⟨_, rfl, q H9 l xs fs F9.keep F9.new F9.ne hx hfx F9.lf (by omega)⟩
end
end Mv

set_option Elab.async false
set_option linter.all false
set_option maxRecDepth 100000
set_option maxHeartbeats 4000000
namespace Mv
open PySem PySem.Spec PyProof.Rows L2
/-- a form's worth at whole numbers -/
def spThere (K : PySem.W.Frag) : Sp := fun vs H Q _ => ∃ (v : V) (f : Form) (l : Addr) (nums : List Int) (m T b D B : Nat), vs = [v, .ref l] ∧ FmV H v f ∧ FF m T b D f ∧ SqL K H l (nums.map V.int) ∧ nums.length = m ∧ (∀ n ∈ nums, n.natAbs ≤ 2 ^ B) ∧ m ≤ 1000 ∧ b + m * (B * D) + B * D + B + D ≤ 400000 ∧ Q (.int (ev f nums)) H
theorem mon_snoc : ∀ (p : List Nat) (x : List Int) (k : Nat) (a : Nat) (n : Int), p[k]? = some a → x[k]? = some n → mon (p.take (k + 1)) (x.take (k + 1)) = mon (p.take k) (x.take k) * n ^ a
  | [], _, k, _, _, h, _ => by simp at h
  | _ :: _, [], k, _, _, _, h => by simp at h
  | p :: ps, x :: xs, 0, a, n, h1, h2 => by
    simp only [List.getElem?_cons_zero, Option.some.injEq] at h1 h2
    subst h1 h2
    simp [mon]
  | p :: ps, x :: xs, k + 1, a, n, h1, h2 => by
    simp only [List.getElem?_cons_succ] at h1 h2
    have ih := mon_snoc ps xs k a n h1 h2
    simp only [List.take_succ_cons, mon] at ih ⊢
    rw [ih]
    grind
theorem ev_snoc (f : Form) (t : List Nat × Int) (x : List Int) : ev (f ++ [t]) x = ev f x + t.2 * mon t.1 x := by rw [ev_append, ev_cons, ev_nil]; omega
theorem max_of {ns : List Nat} {m : Int} (h : m ∈ ((0 :: ns).map fun (n : Nat) => (n : Int))) (h2 : ∀ y ∈ ((0 :: ns).map fun (n : Nat) => (n : Int)), y ≤ m) : m = (mxl ns : Nat) := by
  obtain ⟨a, ha, rfl⟩ := List.mem_map.mp h
  have h1 : a ≤ mxl ns := by
    rcases List.mem_cons.mp ha with e | e
    · omega
    · exact mxl_mem e
  have h3 : mxl ns ≤ a := mxl_le fun p hp => by
    have := h2 p (List.mem_map.mpr ⟨p, by simp [hp], rfl⟩)
    omega
  congr 1
  omega
theorem mp_sum_le {D : Nat} : ∀ fs : List Form, (∀ f ∈ fs, ∀ t ∈ f, ∀ p ∈ t.1, p ≤ D) → (fs.map mp).sum ≤ fs.length * D
  | [], _ => by simp
  | f :: fs, h => by
    have h1 := mp_sum_le fs fun g hg => h g (by simp [hg])
    have h2 : mp f ≤ D := mp_le (h f (by simp))
    simp only [List.map_cons, List.sum_cons, List.length_cons, Nat.succ_mul]
    omega
/-- what is told is as the law asks -/
def spEnds (K : PySem.W.Frag) : Sp := fun vs H Q _ => ∃ (l fl : Addr) (nums : List Int) (xs : List V) (fs : List Form) (m : Nat), vs = [.ref l, .int m, .ref fl] ∧ H l = some (.lst (nums.map V.int)) ∧ H fl = some (.lst xs) ∧ FmsV H xs fs ∧ (∀ f ∈ fs, LFm m f) ∧ fs.length ≤ 60 ∧ m ≤ 6 ∧ Good m fs nums ∧
  ∀ H', Same H H' → Q (.bl true) H'
section
variable {P : Program} {w : World} {K : PySem.W.Frag} {mg : Str → Option Value} {base : Heap} {C1 C2 : Addr}
theorem pr_there (T : Txt K mg C1 C2) : Prom P w K mg base CX0 2 "_law_there" pLawThere (spThere K) := by
  obtain ⟨f1, d1, gLawPower, kLawPower, bLawPower, GLawPower⟩ := pr_lpower (P := P) (w := w) (base := base) T
  refine T.dLawThere.prom fun f fd F => F.ok scLawThere (fun vs H Q E h => ?_) (fun cdv A outer s H vs Q E hr h => ?_)
  · obtain ⟨v, f, l, nums, m, T, b, D, B, rfl, _⟩ := h
    rfl
  · obtain ⟨v, f, l, nums, m, T1, b, D, B, rfl, hv, hf, hl, hn, hB, hm, hz, q⟩ := h
    obtain ⟨a, xs, rfl, ha, hp⟩ := hv
    have lx : xs.length = f.length := Paired.len hp
    refine ⟨_, (pss_cons (ps_set (i := 2) scLawThere.nd rfl (Or.inl rfl) pe_int)
  (pss_cons (ps_for PassesOwn.never rfl (pi_tupK (K := K) rfl (pv 0)) (pg_tup rfl (pgs_cons (pg_name (i := 3) scLawThere.nd rfl (Or.inl rfl)) (pgs_cons (pg_name (i := 4) scLawThere.nd rfl (Or.inl rfl)) pgs_nil)))
    (pss_cons (ps_for PassesOwn.never rfl (pi_range1 (by rfl) T.n_range (pa_cons (pe_callB (cr_lenOf (K := K) rfl) (by rfl) T.n_len PySem.boot_len (pa_cons (pv 1) pa_nil)) pa_nil)) (pg_name (i := 5) scLawThere.nd rfl (Or.inl rfl))
      (pss_one (ps_set (i := 4) scLawThere.nd rfl (Or.inl rfl) (pe_op op_mulWR (pv 4) (pe_call GLawPower (hr.mono (by decide)) (by rfl) gLawPower kLawPower bLawPower .nil pass0 (pa_cons (pe_ix (ix_listK (K := K) rfl) (pv 1) (pv 5) (fun _ _ => rfl)) (pa_cons (pe_ix (ix_tupK (K := K) rfl) (pv 3) (pv 5) (fun _ _ => rfl)) pa_nil)))))))
    (pss_one (ps_set (i := 2) scLawThere.nd rfl (Or.inl rfl) (pe_op op_add (pv 2) (pv 4))))))
  (pss_one (ps_ret (pv 2))))), ?_⟩
    refine ⟨_, rfl, a, rfl, ⟨xs, sqT ha⟩, for_tup (K := K) (a := a) (xs := xs) (fun i σ H' => H' = H ∧ ∃ y3 y4 y5, σ = [some (.ref a), some (.ref l), some (.int (ev (f.take i) nums)), y3, y4, y5]) ⟨rfl, none, none, none, rfl⟩ ?_ ?_ ?_⟩
    · rintro i σ H' hi ⟨rfl, _⟩
      exact sqT ha
    · rintro i x σ H' hx ⟨rfl, y3, y4, y5, rfl⟩
      obtain ⟨t, ht, tx⟩ := Paired.get hp hx
      obtain ⟨at1, p1, rfl, hat1, hp1⟩ := tx
      have mt := List.mem_of_getElem? ht
      have lt := hf.ar t mt
      refine ⟨at1, _, rfl, sqT hat1, rfl, .ref p1, _, rfl, _, [], rfl, rfl, ?_⟩
      refine ⟨_, rfl, l, _, rfl, .inl hl, m, by rw [List.length_map, hn], by omega, by omega, ?_⟩
      refine for_range (lo := 0) (n := m) (fun k σ H2 => H2 = H' ∧ ∃ y5, σ = [some (.ref a), some (.ref l), some (.int (ev (f.take i) nums)), some (.ref p1), some (.int (t.2 * mon (t.1.take k) (nums.take k))), y5] ∧ (t.2 * mon (t.1.take k) (nums.take k)).natAbs < 2 ^ (b + k * (B * D))) ?_ ?_ ?_
      · refine ⟨rfl, y5, by simp [mon], ?_⟩
        have := hf.cf t mt
        simpa [mon] using this
      · rintro k σ H2 hk ⟨rfl, y5, rfl, hb⟩
        have g1 : nums[k]? = some (nums[k]'(by omega)) := List.getElem?_eq_getElem (by omega)
        have g2 : t.1[k]? = some (t.1[k]'(by omega)) := List.getElem?_eq_getElem (by omega)
        have e1 : (0 + (k : Int)) = k := by omega
        have hnk := hB _ (List.getElem_mem (show k < nums.length by omega))
        have hDk := hf.deg t mt _ (List.getElem_mem (show k < t.1.length by omega))
        have hBD : B * t.1[k] ≤ B * D := Nat.mul_le_mul_left _ hDk
        have hkm : k * (B * D) ≤ m * (B * D) := Nat.mul_le_mul_right _ (Nat.le_of_lt hk)
        refine ⟨_, rfl, _, rfl, _, rfl, l, _, _, _, rfl, rfl, hl, at_of e1 (by rw [List.getElem?_map, g1]; rfl), _, rfl, _, rfl, p1, _, _, _, rfl, rfl, sqT hp1, at_of e1 (by rw [List.getElem?_map, g2]; rfl), ?_⟩
        refine ⟨_, _, B, rfl, hnk, by omega, ?_⟩
        have hw : CMulW (t.2 * mon (t.1.take k) (nums.take k)) (nums[k] ^ t.1[k]) := by
          refine wide_mul (a := b + k * (B * D) + 1) (b := B * D + 1) (Nat.lt_trans hb (Nat.pow_lt_pow_right (by decide) (Nat.lt_succ_self _))) (Nat.lt_of_le_of_lt (pow_abs_le hnk hDk) (Nat.pow_lt_pow_right (by decide) (Nat.lt_succ_self _))) (by omega) (by omega) (by omega)
        refine ⟨_, _, rfl, rfl, hw, fun z ez => ?_⟩
        have ez2 : z = t.2 * mon (t.1.take (k + 1)) (nums.take (k + 1)) := by
          rw [mon_snoc _ _ k _ _ g2 g1, ez, Int.mul_assoc]
        refine ⟨rfl, _, by rw [ez2]; rfl, ?_⟩
        rw [← ez2, ez]
        have := mul_lt_pow hb (pow_abs_le hnk hDk)
        rw [show b + (k + 1) * (B * D) = b + k * (B * D) + B * D by rw [Nat.succ_mul]; omega]
        exact this
      · rintro σ H2 ⟨rfl, y5, rfl, hb⟩
        rw [List.take_of_length_le (l := t.1) (by omega), List.take_of_length_le (l := nums) (by omega)]
        refine ⟨_, rfl, _, rfl, _, _, rfl, rfl, rfl, some (.ref p1), some (.int (t.2 * mon t.1 nums)), y5, ?_⟩
        rw [take_snoc ht, ev_snoc]
        rfl
    · rintro σ H' ⟨rfl, y3, y4, y5, rfl⟩
      rw [lx, List.take_length]
      exact ⟨_, rfl, q⟩
/-- max([0] + list(powers)) -/
theorem inner_max {σ : L2.St} {H : Hp} {Q : VK} {i : Nat} {p : Addr} {ns : List Nat} (hi : σ[i]? = some (some (.ref p))) (hp : H p = some (.tup (pwV ns))) (hl : ns.length ≤ 1000) (q : ∀ H', Same H H' → Q (.int (mxl ns : Nat)) H') :
    tCB (rMax K) (tCons (tOp rCat (tLst (tCons (tC (.int 0)) tNil)) (tCB (rLstOf K) (tCons (tVar i) tNil))) tNil) σ H Q := by
  refine ⟨(by show 1 ≤ sizeLine; decide), fun u hu => ?_⟩
  have s1 : Same H (upd H u (.lst [.int 0])) := same_new hu
  refine ⟨_, hi, p, _, rfl, .inr (sqT (s1 _ _ hp)), fun v hv => ?_⟩
  have nuv : u ≠ v := ne_fresh hv
  refine ⟨u, v, _, _, rfl, rfl, by rw [upd_ne nuv, upd_same], upd_same, sz (by simp; omega), fun w hw => ?_⟩
  have e : ([V.int 0] ++ pwV ns) = (((0 :: ns).map fun (n : Nat) => (n : Int)).map V.int) := by
    simp [pwV]
  refine ⟨w, (0 :: ns).map fun (n : Nat) => (n : Int), rfl, ?_, by simp, fun m hm hle => ?_⟩
  · rw [← e]
    exact sqL upd_same
  · rw [max_of hm hle]
    exact q _ ((s1.trans (same_new hv)).trans (same_new hw))
theorem pr_ends (T : Txt K mg C1 C2) : Prom P w K mg base CX0 3 "_law_ends" pLawEnds (spEnds K) := by
  obtain ⟨f1, d1, gLawWhole, kLawWhole, bLawWhole, GLawWhole⟩ := pr_whole (P := P) (w := w) (base := base) T
  obtain ⟨f2, d2, gLawThere, kLawThere, bLawThere, GLawThere⟩ := pr_there (P := P) (w := w) (base := base) T
  refine T.dLawEnds.prom fun f fd F => F.ok scLawEnds (fun vs H Q E h => ?_) (fun cdv A outer s H vs Q E hr h => ?_)
  · obtain ⟨l, fl, nums, xs, fs, m, rfl, _⟩ := h
    rfl
  · obtain ⟨l, fl, nums, xs, fs, m, rfl, hl, hfl, hf, hlf, hfs, hm, G, q⟩ := h
    have lx : xs.length = fs.length := Paired.len hf
    refine ⟨_, (pss_cons (ps_set (i := 4) scLawEnds.nd rfl (Or.inl rfl) (pe_callB (cr_sumK (K := K) rfl rfl) (by rfl) T.n_sum (by decide +kernel) (pa_cons (pe_lc (own := [("_law_form", 5)]) (g := (gName 5)) (tt := tYes) rfl scLawEnds.nd (pi_listK (K := K) rfl (pv 2)) (blkOk_by (own := [("_law_form", 5)]) (N := nLawEnds) (sc := defScope sLawEnds) (by decide +kernel)) (fun _ _ _ _ _ => (pg_name (i := 5) scLawEnds.nd rfl (Or.inl rfl))) (fun _ _ _ _ _ => pts_nil) (fun _ _ _ _ _ => (pe_callB (cr_maxK (K := K) rfl rfl) (by rfl) T.n_max (by decide +kernel) (pa_cons (pe_op op_cat (pe_lst (pa_cons pe_int pa_nil)) (pe_lc (own := [("_law_powers", 6), ("_law_number", 3)]) (g := (gTup K 2 (gCons (gName 6) (gCons (gName 3) gNil)))) (tt := tYes) rfl scLawEnds.nd (pi_tupK (K := K) rfl (pv 5)) (blkOk_by (own := [("_law_powers", 6), ("_law_number", 3)]) (N := nLawEnds) (sc := { kind := ScopeKind.function, names := [(".0", NameKind.local), ("_law_form", NameKind.local), ("max", NameKind.globalImplicit)], isGenerator := false, isCoroutine := false }) (by decide +kernel)) (fun _ _ _ _ _ => (pg_tup rfl (pgs_cons (pg_name (i := 6) scLawEnds.nd rfl (Or.inl rfl)) (pgs_cons (pg_name (i := 3) scLawEnds.nd rfl (Or.inl rfl)) pgs_nil)))) (fun _ _ _ _ _ => pts_nil) (fun _ _ _ _ _ => (pe_callB (cr_maxK (K := K) rfl rfl) (by rfl) T.n_max (by decide +kernel) (pa_cons (pe_op op_cat (pe_lst (pa_cons pe_int pa_nil)) (pe_callTy (cr_lstOf (K := K) rfl) (by rfl) T.n_list (by decide +kernel) (pa_cons (pv 6) pa_nil))) pa_nil))))) pa_nil)))) pa_nil)))
  (pss_cons (ps_if (PW.pt (pw_or (pt_not (pt_val (pe_callB (cr_isiK (K := K) rfl) (by rfl) T.n_isinstance (by decide +kernel) (pa_cons (pv 0) (pa_cons (pe_bltn (v := .ty "list") (u := .type "list") (by rfl) T.n_list (by decide +kernel) rfl) pa_nil))))) (pw_or1 (pt_cmpR op_ne (pe_callB (cr_lenOf (K := K) rfl) (by rfl) T.n_len PySem.boot_len (pa_cons (pv 0) pa_nil)) (pv 1) (nomark _))))) (pss_one (ps_ret pe_bl)) pss_nil)
  (pss_cons (ps_for PassesOwn.never rfl (pi_listK (K := K) rfl (pv 0)) (pg_name (i := 3) scLawEnds.nd rfl (Or.inl rfl))
    (pss_one (ps_if (PW.pt (pw_or (pt_not (pt_val (pe_call GLawWhole (hr.mono (by decide)) (by rfl) gLawWhole kLawWhole bLawWhole .nil pass0 (pa_cons (pv 3) pa_nil)))) (pw_or (pt_cmpR op_lt (pv 3) pe_int (nomark _)) (pw_or1 (pt_cmpR op_gt (pv 3) (pv 4) (nomark _)))))) (pss_one (ps_ret pe_bl)) pss_nil)))
  (pss_one (ps_ret (pe_cmpR (op_notInK (K := K) rfl) pe_int (pe_lc (own := [("_law_form", 5)]) (g := (gName 5)) (tt := tYes) rfl scLawEnds.nd (pi_listK (K := K) rfl (pv 2)) (blkOk_by (own := [("_law_form", 5)]) (N := nLawEnds) (sc := defScope sLawEnds) (by decide +kernel)) (fun _ _ _ _ _ => (pg_name (i := 5) scLawEnds.nd rfl (Or.inl rfl))) (fun _ _ _ _ _ => pts_nil) (fun _ _ _ _ _ => (pe_call GLawThere (hr.mono (by decide)) (by rfl) gLawThere kLawThere bLawThere .nil pass0 (pa_cons (pv 5) (pa_cons (pv 0) pa_nil))))) rfl)))))), ?_⟩
    -- the greatest powers, added up
    refine ⟨_, rfl, fl, rfl, ⟨xs, sqL hfl⟩, fun D hD => ?_⟩
    refine lc_list (K := K) (a := fl) (xs := xs) (fun i H' => Same H H' ∧ H' D = some (.lst (((fs.take i).map fun f => ((mp f : Nat) : Int)).map V.int))) ⟨same_new hD, by rw [upd_same]; rfl⟩ ?_ ?_ ?_
    · rintro i H' hi ⟨s1, _⟩
      exact sqL (s1 _ _ hfl)
    · rintro i x H1 hx ⟨s1, hD1⟩
      obtain ⟨f, hf1, fx⟩ := Paired.get hf hx
      obtain ⟨fa, ts, rfl, hfa, hts⟩ := fx
      have lf := hlf f (List.mem_of_getElem? hf1)
      have lts : ts.length = f.length := Paired.len hts
      refine ⟨rfl, ?_⟩
      refine ⟨(by show 1 ≤ sizeLine; decide), fun u hu => ?_⟩
      have s2 : Same H1 (upd H1 u (.lst [.int 0])) := same_new hu
      refine ⟨_, rfl, fa, rfl, ⟨ts, sqT (s2 _ _ (s1 _ _ hfa))⟩, fun D2 hD2 => ?_⟩
      refine lc_tup (K := K) (a := fa) (xs := ts) (fun j H' => Same (upd H1 u (.lst [.int 0])) H' ∧ H' D2 = some (.lst (((f.take j).map fun t => ((mxl t.1 : Nat) : Int)).map V.int))) ⟨same_new hD2, by rw [upd_same]; rfl⟩ ?_ ?_ ?_
      · rintro j H' hj ⟨s3, _⟩
        exact sqT (s3 _ _ (s2 _ _ (s1 _ _ hfa)))
      · rintro j x H2 hx2 ⟨s3, hD2'⟩
        obtain ⟨t, ht, tx⟩ := Paired.get hts hx2
        obtain ⟨at1, p1, rfl, hat1, hp1⟩ := tx
        have s03 := (s1.trans s2).trans s3
        refine ⟨at1, _, rfl, sqT (s03 _ _ hat1), rfl, .ref p1, _, rfl, _, [], rfl, rfl, ?_⟩
        refine ⟨rfl, ?_⟩
        have lt := lf.ff.ar t (List.mem_of_getElem? ht)
        refine inner_max (i := 6) rfl (s03 _ _ hp1) (by omega) fun H3 s4 => ⟨_, s4 _ _ hD2', szl ?_, same_mut (s3.trans s4) hD2, ?_⟩
        · have := lf.ff.len
          simp
          omega
        · rw [upd_same, take_snoc ht, List.map_append, List.map_append]
          rfl
      · rintro H2 ⟨s3, hD2'⟩
        rw [lts, List.take_length] at hD2'
        have nu : u ≠ D2 := ne_fresh hD2
        refine ⟨u, D2, _, _, rfl, rfl, s3 _ _ upd_same, hD2', sz (by have := lf.ff.len; simp; omega), fun w hw => ?_⟩
        have e : ([V.int 0] ++ (f.map fun t => ((mxl t.1 : Nat) : Int)).map V.int) = (((0 :: f.map fun t => mxl t.1).map fun (n : Nat) => (n : Int)).map V.int) := by
          simp
        refine ⟨w, (0 :: f.map fun t => mxl t.1).map fun (n : Nat) => (n : Int), rfl, ?_, by simp, fun m hm hle => ?_⟩
        · rw [← e]
          exact sqL upd_same
        · rw [max_of hm hle]
          have s5 := ((s2.trans s3).trans (same_new (o := .lst ([V.int 0] ++ (f.map fun t => ((mxl t.1 : Nat) : Int)).map V.int)) hw))
          refine ⟨_, s5 _ _ hD1, szl ?_, same_mut (s1.trans s5) hD, ?_⟩
          · simp
            omega
          · rw [upd_same, take_snoc hf1, List.map_append, List.map_append]
            rfl
    · rintro H1 ⟨s1, hD1⟩
      rw [lx, List.take_length] at hD1
      refine ⟨D, _, rfl, sqL hD1, ?_⟩
      have esum : (fs.map fun f => ((mp f : Nat) : Int)).sum = (((fs.map mp).sum : Nat) : Int) := by
        clear hf hlf hfs G lx hD1
        induction fs with
        | nil => rfl
        | cons f fs ih =>
          simp only [List.map_cons, List.sum_cons]
          rw [ih]
          omega
      rw [esum]
      generalize hS : (((fs.map mp).sum : Nat) : Int) = S
      -- isinstance(found, list), its length
      refine ⟨_, rfl, _, _, _, _, true, rfl, .ty "list", .base (.lst (s1 _ _ hl)), kit_ty (by decide +kernel), true, rfl, iteF ?_⟩
      refine ⟨_, rfl, l, _, rfl, .inl (sqL (s1 _ _ hl)), _, rfl, rfl, _, rfl, ?_⟩
      rw [List.length_map, G.len]
      have e1 : (!decide (V.int (m : Int) = V.int (m : Int))) = false := by simp
      rw [e1]
      refine iteF ?_
      -- each number
      refine ⟨_, rfl, l, rfl, ⟨_, sqL (s1 _ _ hl)⟩, for_list (K := K) (a := l) (xs := nums.map V.int) (fun i σ H' => H' = H1 ∧ ∃ y3, σ = [some (.ref l), some (.int m), some (.ref fl), y3, some (.int S), none, none]) ⟨rfl, none, rfl⟩ ?_ ?_ ?_⟩
      · rintro i σ H' hi ⟨rfl, _⟩
        exact sqL (s1 _ _ hl)
      · rintro i x σ H' hx ⟨rfl, y3, rfl⟩
        rw [List.getElem?_map] at hx
        obtain ⟨n, hn, rfl⟩ := Option.map_eq_some_iff.mp hx
        obtain ⟨g1, g2⟩ := G.bd n (List.mem_of_getElem? hn)
        rw [hS] at g2
        refine ⟨_, rfl, n, rfl, true, rfl, iteF ?_⟩
        refine ⟨_, rfl, _, _, rfl, rfl, _, rfl, ?_⟩
        rw [decide_eq_false (show ¬ n < 0 by omega)]
        refine iteF ⟨_, rfl, _, rfl, _, _, rfl, rfl, _, rfl, ?_⟩
        rw [decide_eq_false (show ¬ S < n by omega)]
        exact iteF ⟨rfl, _, rfl⟩
      · rintro σ H' ⟨rfl, y3, rfl⟩
        -- 0 not in the worths
        refine ⟨_, rfl, fl, rfl, ⟨xs, sqL (s1 _ _ hfl)⟩, fun D3 hD3 => ?_⟩
        refine lc_list (K := K) (a := fl) (xs := xs) (fun i H2 => Same H' H2 ∧ H2 D3 = some (.lst (((fs.take i).map fun f => ev f nums).map V.int))) ⟨same_new hD3, by rw [upd_same]; rfl⟩ ?_ ?_ ?_
        · rintro i H2 hi ⟨s2, _⟩
          exact sqL (s2 _ _ (s1 _ _ hfl))
        · rintro i x H2 hx ⟨s2, hD3'⟩
          obtain ⟨f, hf1, fx⟩ := Paired.get hf hx
          have lf := hlf f (List.mem_of_getElem? hf1)
          have s12 := s1.trans s2
          refine ⟨rfl, _, rfl, _, rfl, x, f, l, nums, m, 4096, 400, 12, 10, rfl, fx.mono (tups_of_same s12), lf.ff, sqL (s12 _ _ hl), G.len, fun n hn => ?_, by omega, by omega, _, hD3', szl (by simp; omega), same_mut s2 hD3, ?_⟩
          · obtain ⟨g1, g2⟩ := G.bd n hn
            have h3 := mp_sum_le fs fun f hf => (hlf f hf).ff.deg
            show n.natAbs ≤ 1024
            omega
          · rw [upd_same, take_snoc hf1, List.map_append, List.map_append]
            rfl
        · rintro H2 ⟨s2, hD3'⟩
          rw [lx, List.take_length] at hD3'
          refine ⟨D3, _, rfl, .inl (sqL hD3'), rfl, ?_, ?_⟩
          · rw [List.all_map, List.all_map]
            exact List.all_eq_true.mpr fun f _ => rfl
          · have e2 : inV (V.int 0) ((fs.map fun f => ev f nums).map V.int) = false := by
              refine Bool.eq_false_iff.mpr fun c => ?_
              obtain ⟨y, hy, e3⟩ := List.any_eq_true.mp c
              rw [List.map_map] at hy
              obtain ⟨f, hf2, rfl⟩ := List.mem_map.mp hy
              exact G.ok f hf2 (by simpa [eqV] using e3)
            rw [e2]
            exact q _ (s1.trans s2)
end
end Mv

set_option Elab.async false
set_option linter.all false
set_option maxRecDepth 100000
set_option maxHeartbeats 4000000
namespace Mv
open PySem PySem.Spec PyProof.Rows L2
/-- the law says True -/
def spLaw (K : PySem.W.Frag) : Sp := fun vs H Q _ => ∃ (a : Addr) (ns : List Int), vs = [.ref a] ∧ SqL K H a (ns.map V.int) ∧ ns.length ≤ 63 ∧ ∀ H', Q (.bl true) H'
theorem nought_nums {m : Nat} {nums : List Int} (G : Good m [] nums) : nums.map V.int = List.replicate m (V.int 0) := by
  rw [← G.len]
  have : ∀ n ∈ nums, n = 0 := fun n hn => by
    have := G.bd n hn
    simp at this
    omega
  clear G
  induction nums with
  | nil => rfl
  | cons n nums ih => rw [List.map_cons, List.length_cons, List.replicate_succ, ih fun n hn => this n (by simp [hn]), this n (by simp)]
theorem dp_zeros {K : PySem.W.Frag} {H : Hp} : ∀ m : Nat, DpAll K H (List.replicate m (V.int 0)) (List.replicate m (PyData.int 0))
  | 0 => .nil
  | m + 1 => by
    rw [List.replicate_succ, List.replicate_succ]
    exact .cons (.int _) (dp_zeros m)
def zerosD (m : Nat) : PyData := .list (List.replicate m (PyData.int 0))
theorem zeros_lay : ∀ m : Nat, PyData.canLayAll0 (List.replicate m (PyData.int 0)) = true
  | 0 => rfl
  | m + 1 => by
    rw [List.replicate_succ]
    simp [PyData.canLayAll0, PyData.canLay0, zeros_lay m]
theorem zeros_depth : ∀ m : Nat, PyData.depthAll (List.replicate m (PyData.int 0)) ≤ 1
  | 0 => by simp [PyData.depthAll]
  | m + 1 => by
    have := zeros_depth m
    rw [List.replicate_succ]
    simp only [PyData.depthAll, PyData.depth]
    omega
theorem zerosD_lay (m : Nat) : (zerosD m).canLay0 = true := by simp [zerosD, PyData.canLay0, zeros_lay]
theorem zerosD_shaped (m : Nat) : SeqAt.shaped (zerosD m) = true := shaped_of (zerosD_lay m) (by
  have := zeros_depth m
  simp only [zerosD, PyData.depth]
  omega)
/-- what off_nought asks of the law's forms -/
theorem off_ask {H : Hp} {l : Addr} {xs : List V} {fs : List Form} {m : Nat} {Q : VK} {E : XK} {C1 : Addr} (hl : H l = some (.lst xs)) (hf : FmsV H xs fs) (hlf : ∀ f ∈ fs, LFm m f) (hn : fs.length ≤ 60) (hm : m ≤ 6)
    (qE : ∀ (i : Nat), fs[i]? = some [] → (∀ j, j < i → fs[j]? ≠ some []) → ∀ d H', H d = none → Same H H' → H' d = some (.xd [("number", .int i)]) → E (.ref C1) (some d) H')
    (qQ : [] ∉ fs → ∀ nums H' p, Good m fs nums → Same H H' → H p = none → H' p = some (.lst (nums.map V.int)) → Q (.ref p) H') : spOff C1 [.int m, .ref l] H Q E := by
  have h3 := mp_sum_le fs fun f hf => (hlf f hf).ff.deg
  have lx : xs.length = fs.length := Paired.len hf
  refine ⟨l, xs, fs, m, 4096, 400, 12, 10, 12, rfl, hl, hf, by omega, fun f h => ⟨(hlf f h).nd, (hlf f h).nz, (hlf f h).ff⟩, by decide, by decide, ?_, by omega, by omega, qE, qQ⟩
  show (fs.map mp).sum + 1 ≤ 1024
  omega
section
variable {P : Program} {w : World} {K : PySem.W.Frag} {mg : Str → Option Value} {base : Heap} {C1 C2 : Addr}
theorem pr_law (T : Txt K mg C1 C2) {f : Addr} {fd : FuncData} {x q : Str} (F : Fun K x q sLaw f fd) : FnOk P w K mg base CX0 5 f fd pLaw (spLaw K) := by
  obtain ⟨f1, d1, gLawPool, kLawPool, bLawPool, GLawPool⟩ := pr_pool (P := P) (w := w) (base := base) T
  obtain ⟨f2, d2, gLawTake, kLawTake, bLawTake, GLawTake⟩ := pr_take (P := P) (w := w) (base := base) T
  obtain ⟨f3, d3, gLawForms, kLawForms, bLawForms, GLawForms⟩ := pr_forms (P := P) (w := w) (base := base) T
  obtain ⟨f4, d4, gOffNought, kOffNought, bOffNought, GOffNought⟩ := pr_off_nought (P := P) (w := w) (base := base) T
  obtain ⟨f5, d5, gLawWhole, kLawWhole, bLawWhole, GLawWhole⟩ := pr_whole (P := P) (w := w) (base := base) T
  obtain ⟨f6, d6, gLawEnds, kLawEnds, bLawEnds, GLawEnds⟩ := pr_ends (P := P) (w := w) (base := base) T
  have E1 := T.eNought
  refine F.ok scLaw (fun vs H Q E h => ?_) (fun cdv A outer s H vs Q E hr h => ?_)
  · obtain ⟨a, ns, rfl, _⟩ := h
    rfl
  · obtain ⟨a, ns, rfl, ha, hn, q⟩ := h
    refine ⟨_, (pss_cons (ps_set (i := 1) scLaw.nd rfl (Or.inl rfl) (pe_call GLawPool (hr.mono (by decide)) (by rfl) gLawPool kLawPool bLawPool .nil pass0 (pa_cons (pv 0) (pa_cons pe_int pa_nil))))
  (pss_cons (ps_set (i := 2) scLaw.nd rfl (Or.inl rfl) (pe_call GLawTake (hr.mono (by decide)) (by rfl) gLawTake kLawTake bLawTake .nil pass0 (pa_cons (pv 1) (pa_cons pe_int pa_nil))))
  (pss_cons (ps_set (i := 3) scLaw.nd rfl (Or.inl rfl) (pe_call GLawForms (hr.mono (by decide)) (by rfl) gLawForms kLawForms bLawForms .nil pass0 (pa_cons (pe_call GLawPool (hr.mono (by decide)) (by rfl) gLawPool kLawPool bLawPool .nil pass0 (pa_cons (pv 0) (pa_cons pe_int pa_nil))) (pa_cons (pv 2) pa_nil))))
  (pss_cons (ps_set (i := 4) scLaw.nd rfl (Or.inl rfl) (pe_callTy (cr_lstOf (K := K) rfl) (by rfl) T.n_list (by decide +kernel) (pa_cons (pv 3) pa_nil)))
  (pss_cons (ps_set (i := 5) scLaw.nd rfl (Or.inl rfl) pe_non)
  (pss_cons (ps_set (i := 6) scLaw.nd rfl (Or.inl rfl) pe_non)
  (pss_cons (ps_set (i := 7) scLaw.nd rfl (Or.inl rfl) pe_bl)
  (C8.pss_cut (ps_try_as (i := 8) (Wout := fun _ _ _ _ => False) rfl rfl scLaw.nd rfl rfl ⟨rfl, by decide, .inl E1.gC⟩ takes0
    (fun W pn xe tk _ => (pss_one (ps_set (i := 5) scLaw.nd rfl (Or.inl rfl) (pe_callS GOffNought (hr.mono (by decide)) (by rfl) gOffNought kOffNought bOffNought (fun σ => passAt tk σ) (pa_cons (pv 2) (pa_cons (pv 4) pa_nil))))))
    (fun a oe cls d pn hz hf => (pss_cons (ps_set (i := 6) scLaw.nd rfl (Or.inl rfl) (pe_xf E1.xf E1.noF hz hf (pv 8)))
    (pss_one (ps_set (i := 7) scLaw.nd rfl (Or.inl rfl) (pe_callB (cr_isX (K := K) rfl T.exc hz hf) (by rfl) T.n_isinstance (by decide +kernel) (pa_cons (pv 8) (pa_cons (pe_glob (v := .ref C2) (by rfl) T.gBook rfl) pa_nil))))))))
  (pss_cons (ps_if (pt_cmpR (op_neDK (K := K) rfl (u64 hr)) (pv 4) (pv 3) (nomark _)) (pss_one (ps_ret pe_bl)) pss_nil)
  (pss_cons (ps_if (pt_cmpR (op_inDK (K := K) rfl (u65 hr)) (pe_tup pa_nil) (pv 3) rfl) (pss_one (ps_ret (pe_and (pv 7) (pe_and (pe_call GLawWhole (hr.mono (by decide)) (by rfl) gLawWhole kLawWhole bLawWhole .nil pass0 (pa_cons (pv 6) pa_nil)) (pe_one (pe_cmpR op_eq (pv 6) (pe_bm PySem.F.plainAttrs_list PySem.F.slot_list_index PySem.F.type_list_index (mt_indexDK (K := K) rfl (u65 hr)) (pv 3) (pa_cons (pe_tup pa_nil) pa_nil)) (nomark _))))))) pss_nil)
  (pss_cons (ps_if (PW.pt (pw_or (pt_cmp (pc_notN (pv 6))) (pw_or1 (pt_not (pt_val (pe_call GLawEnds (hr.mono (by decide)) (by rfl) gLawEnds kLawEnds bLawEnds .nil pass0 (pa_cons (pv 5) (pa_cons (pv 2) (pa_cons (pv 3) pa_nil))))))))) (pss_one (ps_ret pe_bl)) pss_nil)
  (pss_cons (ps_expr (pe_bm PySem.F.plainAttrs_list PySem.F.slot_list_append PySem.F.type_list_append mt_append (pv 5) (pa_cons pe_int pa_nil)))
  (pss_cons (ps_asg pe_int (pg_sub (pv 5) pe_int set_list))
  (pss_cons (ps_expr (pe_bm0 PySem.F.plainAttrs_list PySem.F.slot_list_clear PySem.F.type_list_clear mt_clear (pv 4)))
  (pss_cons (ps_set (i := 9) scLaw.nd rfl (Or.inl rfl) (pe_call GOffNought (hr.mono (by decide)) (by rfl) gOffNought kOffNought bOffNought .nil passL (pa_cons (pv 2) (pa_cons (pe_callTy (cr_lstOf (K := K) rfl) (by rfl) T.n_list (by decide +kernel) (pa_cons (pv 3) pa_nil)) pa_nil))))
  (pss_one (ps_ret (pe_and (pe_call GLawEnds (hr.mono (by decide)) (by rfl) gLawEnds kLawEnds bLawEnds .nil pass0 (pa_cons (pv 9) (pa_cons (pv 2) (pa_cons (pv 3) pa_nil)))) (pe_one (pe_cmpR (op_eqDK (K := K) rfl (u64 hr)) (pe_call GOffNought (hr.mono (by decide)) (by rfl) gOffNought kOffNought bOffNought .nil passL (pa_cons (pv 2) (pa_cons (pe_lst pa_nil) pa_nil))) (pe_lc (own := [("_law_k", 10)]) (g := (gName 10)) (tt := tYes) rfl scLaw.nd (pi_range1 (by rfl) T.n_range (pa_cons (pv 2) pa_nil)) (blkOk_by (own := [("_law_k", 10)]) (N := nLaw) (sc := defScope sLaw) (by decide +kernel)) (fun _ _ _ _ _ => (pg_name (i := 10) scLaw.nd rfl (Or.inl rfl))) (fun _ _ _ _ _ => pts_nil) (fun _ _ _ _ _ => pe_int)) (nomark _))))))))))))))))))))), ?_⟩
    refine ⟨_, rfl, a, ns, 0, rfl, ha, hn, by decide, fun p1 H1 np1 s1 pv1 => ?_⟩
    refine ⟨_, rfl, p1, 0, 7, rfl, pv1, by decide, by decide, by decide, fun m H2 hm7 st => ?_⟩
    have hm : m ≤ 6 := by omega
    have s2 : Same H H2 := fun b o e => st.1 b o (ne_of_none e np1) (s1 b o e)
    refine ⟨_, rfl, a, ns, 1, rfl, s2.seq ha, hn, by decide, fun p2 H3 np2 s3 pv2 => ?_⟩
    refine ⟨_, rfl, p2, m, 1000, rfl, hm, pv2, by decide, fun H4 l xs fs k4 nl nlp hl hf hlf hfl => ?_⟩
    refine ⟨_, rfl, l, xs, rfl, .inl (sqL hl), fun h nh => ?_⟩
    have s5 : Same H4 (upd H4 h (.lst xs)) := same_new nh
    have hh : upd H4 h (.lst xs) h = some (.lst xs) := upd_same
    have hl5 := s5 _ _ hl
    have hf5 := hf.mono (tups_of_same s5)
    have nlh : l ≠ h := ne_of_none hl nh
    revert s5 hh hl5 hf5
    generalize upd H4 h (.lst xs) = H5
    intro s5 hh hl5 hf5
    refine ⟨fun σ' H' => Same H5 H' ∧ (([] ∉ fs ∧ ∃ p nums, Good m fs nums ∧ H5 p = none ∧ H' p = some (.lst (nums.map V.int)) ∧ σ' = [some (.ref a), some (.ref p1), some (.int m), some (.ref l), some (.ref h), some (.ref p), some .non, some (.bl false), none, none, none]) ∨
      (∃ i : Nat, fs[i]? = some [] ∧ (∀ j, j < i → fs[j]? ≠ some []) ∧ σ' = [some (.ref a), some (.ref p1), some (.int m), some (.ref l), some (.ref h), some .non, some (.int i), some (.bl true), none, none, none])), ?_, ?_⟩
    · refine ⟨_, rfl, _, rfl, ?_⟩
      dsimp only [tNil]
      refine off_ask hh hf5 hlf hfl hm (fun i hi hno d H' nd s hd => ?_) (fun hne nums H' p G s np hp => ?_)
      · refine ⟨true, E1.te, fun _ a' ha' => ?_, fun q => nomatch q⟩
        refine ⟨_, rfl, rfl, rfl, d, _, .int i, rfl, hd, rfl, ?_⟩
        refine ⟨_, rfl, .ref C2, .ref C2, true, d, _, rfl, rfl, fun u r => r, T.isBook, rfl, hd, ?_⟩
        exact ⟨s, .inr ⟨i, hi, hno, rfl⟩⟩
      · exact ⟨s, .inl ⟨hne, p, nums, G, np, hp, rfl⟩⟩
    · rintro σ' H6 ⟨s6, hc⟩
      have hl6 := s6 _ _ hl5
      have hh6 := s6 _ _ hh
      have hf6 := hf5.mono (tups_of_same s6)
      have er : PyData.eqv (.list (fs.map fmD)) (.list (fs.map fmD)) = true := SeqAt.eqv_refl _ (by simp only [PyData.canLay0]; exact lay_all fmD fmD_lay fs)
      rcases hc with ⟨hne, p, nums, G, np, hp, rfl⟩ | ⟨i, hi, hno, rfl⟩
      · refine ⟨_, rfl, _, rfl, .list (fs.map fmD), .list (fs.map fmD), dp_list hh6 hf6, dp_list hl6 hf6, fmsD_shaped fs, fmsD_shaped fs, _, rfl, ?_⟩
        rw [er]
        refine iteF ?_
        refine ⟨(by show 0 ≤ sizeLine; decide), fun t nt => ?_⟩
        have s7 : Same H6 (upd H6 t (.tup [])) := same_new nt
        refine ⟨_, rfl, .tuple [], fs.map fmD, dp_nil upd_same, dp_list (s7 _ _ hl6) (hf6.mono (tups_of_same s7)), nil_shaped, fmsD_shaped fs, _, rfl, ?_⟩
        rw [any_nil, decide_eq_false hne]
        refine iteF ?_
        have hp7 := s7 _ _ hp
        have hl7 := s7 _ _ hl6
        have hh7 := s7 _ _ hh6
        have hf7 := hf6.mono (tups_of_same s7)
        refine ⟨_, rfl, false, by simp, iteF ?_⟩
        refine ⟨_, rfl, _, rfl, _, rfl, p, l, nums, xs, fs, m, rfl, hp7, hl7, hf7, hlf, hfl, hm, G, fun H8 s8 => ⟨true, rfl, iteF ?_⟩⟩
        have hp8 := s8 _ _ hp7
        have hl8 := s8 _ _ hl7
        have hh8 := s8 _ _ hh7
        have hf8 := hf7.mono (tups_of_same s8)
        have nlp : l ≠ p := ne_of_none hl5 np
        have nhp : h ≠ p := ne_of_none hh np
        have hnl := G.len
        refine ⟨_, rfl, .inl ⟨rfl, _, sqL hp8⟩, p, _, _, rfl, rfl, hp8, szl (by rw [List.length_map]; omega), ?_⟩
        refine ⟨_, rfl, p, _, 0, 0, rfl, rfl, upd_same, ixN_lt (j := 0) (by simp), ?_⟩
        refine ⟨_, rfl, .inl ⟨rfl, _, sqL (by rw [upd_ne nhp, upd_ne nhp]; exact hh8)⟩, h, xs, rfl, rfl, by rw [upd_ne nhp, upd_ne nhp]; exact hh8, ?_⟩
        have eH : ∀ b o, b ≠ h → b ≠ p → H8 b = some o → upd (upd (upd H8 p (.lst (nums.map V.int ++ [V.int 3]))) p (.lst ((nums.map V.int ++ [V.int 3]).set 0 (V.int 100000)))) h (.lst []) b = some o := fun b o n1 n2 e => by
          rw [upd_ne n1, upd_ne n2, upd_ne n2]
          exact e
        have tH : Tups H8 (upd (upd (upd H8 p (.lst (nums.map V.int ++ [V.int 3]))) p (.lst ((nums.map V.int ++ [V.int 3]).set 0 (V.int 100000)))) h (.lst [])) := fun b o e => eH b _ (fun z => by subst z; rw [hh8] at e; cases e) (fun z => by subst z; rw [hp8] at e; cases e) e
        have hl9 := eH l _ nlh nlp hl8
        have hf9 := hf8.mono tH
        revert hl9 hf9
        generalize (upd (upd (upd H8 p (.lst (nums.map V.int ++ [V.int 3]))) p (.lst ((nums.map V.int ++ [V.int 3]).set 0 (V.int 100000)))) h (.lst [])) = H9
        intro hl9 hf9
        refine ⟨_, rfl, _, rfl, l, xs, rfl, .inl (sqL hl9), fun l2 nl2 => ?_⟩
        dsimp only [tNil]
        have s10 : Same H9 (upd H9 l2 (.lst xs)) := same_new nl2
        refine off_ask upd_same (hf9.mono (tups_of_same s10)) hlf hfl hm (fun i hi hno => absurd (List.mem_of_getElem? hi) hne) (fun hne2 nums2 HA pA GA sA npA hpA => ?_)
        have hlA := sA _ _ (s10 _ _ hl9)
        have hfA := (hf9.mono (tups_of_same s10)).mono (tups_of_same sA)
        refine ⟨_, rfl, _, rfl, _, rfl, pA, l, nums2, xs, fs, m, rfl, hpA, hlA, hfA, hlf, hfl, hm, GA, fun HB sB => ⟨true, rfl, iteT ?_⟩⟩
        refine ⟨_, rfl, (by show 0 ≤ sizeLine; decide), fun e ne => ?_⟩
        dsimp only [tNil]
        refine off_ask (fs := []) upd_same .nil (fun f hf => nomatch hf) (by simp) hm (fun i hi => by simp at hi) (fun _ nums3 HC pC GC sC npC hpC => ?_)
        refine ⟨_, rfl, m, rfl, by omega, by omega, fun D hD => ?_⟩
        refine lc_range (lo := 0) (n := m) (fun k H' => Same HC H' ∧ H' D = some (.lst (List.replicate k (V.int 0)))) ⟨same_new hD, upd_same⟩ ?_ ?_
        · rintro k H' hk ⟨sD, hD'⟩
          refine ⟨rfl, _, hD', szl (by simp; omega), same_mut sD hD, ?_⟩
          rw [upd_same, List.replicate_succ']
        · rintro H' ⟨sD, hD'⟩
          have hpD := sD _ _ hpC
          rw [nought_nums GC] at hpD
          refine ⟨zerosD m, zerosD m, .lst (sqL hpD) (dp_zeros m), .lst (sqL hD') (dp_zeros m), zerosD_shaped m, zerosD_shaped m, ?_⟩
          rw [SeqAt.eqv_refl _ (zerosD_lay m)]
          exact q _
      · refine ⟨_, rfl, _, rfl, .list (fs.map fmD), .list (fs.map fmD), dp_list hh6 hf6, dp_list hl6 hf6, fmsD_shaped fs, fmsD_shaped fs, _, rfl, ?_⟩
        rw [er]
        refine iteF ?_
        refine ⟨(by show 0 ≤ sizeLine; decide), fun t nt => ?_⟩
        have s7 : Same H6 (upd H6 t (.tup [])) := same_new nt
        refine ⟨_, rfl, .tuple [], fs.map fmD, dp_nil upd_same, dp_list (s7 _ _ hl6) (hf6.mono (tups_of_same s7)), nil_shaped, fmsD_shaped fs, _, rfl, ?_⟩
        rw [any_nil, decide_eq_true (List.mem_of_getElem? hi)]
        refine iteT ?_
        have hl7 := s7 _ _ hl6
        have hf7 := hf6.mono (tups_of_same s7)
        refine ⟨_, rfl, true, rfl, iteT ?_⟩
        refine ⟨_, rfl, i, rfl, true, rfl, iteT ?_⟩
        refine ⟨_, rfl, _, rfl, .inl ⟨rfl, _, sqL hl7⟩, (by show 0 ≤ sizeLine; decide), fun t2 nt2 => ?_⟩
        have s8 : Same (upd H6 t (.tup [])) (upd (upd H6 t (.tup [])) t2 (.tup [])) := same_new nt2
        refine ⟨l, .ref t2, .tuple [], fs.map fmD, i, fmD [], rfl, rfl, dp_list (s8 _ _ hl7) (hf7.mono (tups_of_same s8)), dp_nil upd_same, fmsD_shaped fs, nil_shaped, by rw [List.getElem?_map, hi]; rfl, (fmD_nil []).trans (by simp), fun j z' hj hz => ?_, rfl, ?_⟩
        · rw [List.getElem?_map] at hz
          obtain ⟨f, hf, rfl⟩ := Option.map_eq_some_iff.mp hz
          rw [fmD_nil]
          exact decide_eq_false fun c => hno j hj (by rw [hf, c])
        · rw [decide_eq_true rfl]
          exact q _
end
end Mv

set_option Elab.async false
set_option linter.all false
set_option maxRecDepth 100000
set_option maxHeartbeats 4000000
namespace Mv
open PySem PySem.Spec PyProof.Rows L2
/-- an error of the class at S is what «except S» names -/
theorem exm_self {K : PySem.W.Frag} {S : Addr} (h1 : PySem.W.subIn K (.ref S) (.type "BaseException") = some true) (h2 : PySem.W.isClsIn K S = true) (h3 : PySem.W.typeIn K (.ref S) = some (.type "type")) (h4 : PySem.W.subIn K (.ref S) (.ref S) = some true) :
    PySem.W.exmOne K (.ref S) (.ref S) = some true := by
  have e1 : (PySem.W.subIn K (.ref S) (.type "BaseException") == some true) = true := by rw [h1] <;> rfl
  have e2 : ((PySem.W.clsIn K S).isSome && PySem.W.typeIn K (.ref S) == some (.type "type")) = true := by
    have h2' : (PySem.W.clsIn K S).isSome = true := h2
    rw [h2', h3] <;> rfl
  show (if (PySem.W.subIn K (.ref S) (.type "BaseException") == some true) = true then (if ((PySem.W.clsIn K S).isSome && PySem.W.typeIn K (.ref S) == some (.type "type")) = true then PySem.W.subIn K (.ref S) (.ref S) else none) else none) = some true
  rw [if_pos e1, if_pos e2]
  exact h4
end Mv
namespace Mv
open PySem PySem.Spec PyProof.Rows L2
theorem all_mk {P : Program} {w : World} {K : PySem.W.Frag} {h : Heap} {mg : Str → Option Value} {fa C1 C2 f1 f17 f18 f19 f20 f21 f22 f23 f24 f25 f26 f27 f28 f29 f30 f31 f32 f33 f34 : Addr} (X : K.In h) (G : h.Ns mainGlobals mg) (hfa : mg "law" = some (.ref fa))
    {nm_C1 q_C1 : Str} {N_C1 : Addr} {bs_C1 : List Value} {sn_C1 : List Str} {sub_C1 : List Value} {ab_C1 : Bool} {col_C1 : Option Bool} {dd_C1 : Option Addr} {m0_C1 m1_C1 m2_C1 m3_C1 m5_C1 : Option Value}
    {oc1 kV1 dc1 pm1 cd1 ct1 : Value} {od1 an1 : Option Addr} {sl1 : Array (Option Value)}
    {oc17 kV17 dc17 pm17 cd17 ct17 : Value} {od17 an17 : Option Addr} {sl17 : Array (Option Value)}
    {oc18 kV18 dc18 pm18 cd18 ct18 : Value} {od18 an18 : Option Addr} {sl18 : Array (Option Value)}
    {oc19 kV19 dc19 pm19 cd19 ct19 : Value} {od19 an19 : Option Addr} {sl19 : Array (Option Value)}
    {oc20 kV20 dc20 pm20 cd20 ct20 : Value} {od20 an20 : Option Addr} {sl20 : Array (Option Value)}
    {oc21 kV21 dc21 pm21 cd21 ct21 : Value} {od21 an21 : Option Addr} {sl21 : Array (Option Value)}
    {oc22 kV22 dc22 pm22 cd22 ct22 : Value} {od22 an22 : Option Addr} {sl22 : Array (Option Value)}
    {oc23 kV23 dc23 pm23 cd23 ct23 : Value} {od23 an23 : Option Addr} {sl23 : Array (Option Value)}
    {oc24 kV24 dc24 pm24 cd24 ct24 : Value} {od24 an24 : Option Addr} {sl24 : Array (Option Value)}
    {oc25 kV25 dc25 pm25 cd25 ct25 : Value} {od25 an25 : Option Addr} {sl25 : Array (Option Value)}
    {oc26 kV26 dc26 pm26 cd26 ct26 : Value} {od26 an26 : Option Addr} {sl26 : Array (Option Value)}
    {oc27 kV27 dc27 pm27 cd27 ct27 : Value} {od27 an27 : Option Addr} {sl27 : Array (Option Value)}
    {oc28 kV28 dc28 pm28 cd28 ct28 : Value} {od28 an28 : Option Addr} {sl28 : Array (Option Value)}
    {oc29 kV29 dc29 pm29 cd29 ct29 : Value} {od29 an29 : Option Addr} {sl29 : Array (Option Value)}
    {oc30 kV30 dc30 pm30 cd30 ct30 : Value} {od30 an30 : Option Addr} {sl30 : Array (Option Value)}
    {oc31 kV31 dc31 pm31 cd31 ct31 : Value} {od31 an31 : Option Addr} {sl31 : Array (Option Value)}
    {oc32 kV32 dc32 pm32 cd32 ct32 : Value} {od32 an32 : Option Addr} {sl32 : Array (Option Value)}
    {oc33 kV33 dc33 pm33 cd33 ct33 : Value} {od33 an33 : Option Addr} {sl33 : Array (Option Value)}
    {oc34 kV34 dc34 pm34 cd34 ct34 : Value} {od34 an34 : Option Addr} {sl34 : Array (Option Value)}
    (aC_C1 : PySem.W.nsIn K mainGlobals "Nought" = some (some (.ref C1)))
    (xL_C1 : K.lookup C1 = some (excClassObj nm_C1 q_C1 C1 N_C1 bs_C1 [.ref C2, .type "ValueError", .type "Exception", .type "BaseException", .type "object"] true sn_C1 sub_C1 ab_C1 col_C1 dd_C1 m0_C1 m1_C1 m2_C1 m3_C1 m5_C1 "ValueError.__new__"))
    (sa_C1 : PySem.W.findIn K (.ref C1) "__setattr__" = some (some (.builtin "object.__setattr__")))
    (ga_C1 : PySem.W.findIn K (.ref C1) "__getattribute__" = some (some (.builtin "BaseException.__getattribute__")))
    (gg_C1 : PySem.W.findIn K (.ref C1) "__getattr__" = some none)
    (nb_C1 : PySem.W.findIn K (.ref C1) "number" = some none)
    (kC_C1 : PySem.W.keepIn K (.ref C1) = true)
    (eC_C1 : PySem.W.subIn K (.ref C1) (.type "BaseException") = some true)
    (tC_C1 : PySem.W.typeIn K (.ref C1) = some (.type "type"))
    (hC_C1 : PySem.W.hasDictIn K C1 = true)
    (iC_C1 : PySem.W.isClsIn K C1 = true)
    (sC_C1 : PySem.W.subIn K (.ref C1) (.ref C1) = some true)
    (a1 : PySem.W.findIn K (.ref C1) "__init__" = some (some (.ref f1)))
    (t1 : PySem.W.typeIn K (.ref f1) = some (.type "function"))
    (l1 : K.lookup f1 = some ⟨oc1, od1, .func (PySem.W.fnOf "__init__" "Nought.__init__" (defArgs sNoughtInit) (defBody sNoughtInit) (defScope sNoughtInit) .none kV1 dc1 pm1 an1 cd1 ct1), sl1⟩)
    (c1 : PySem.W.codeIn K cd1 "Nought.__init__" = true)
    (k1 : PySem.W.keepIn K (.ref f1) = true)
    (g2 : PySem.W.nsIn K mainGlobals "BookError" = some (some (.ref C2)))
    (b3 : PySem.W.kitOne K (.ref C1) (.ref C2) = some true)
    (xa4 : PySem.W.findIn K (.ref C1) "__class__" = some (some (.builtin "object.__class__")))
    (xn4 : PySem.W.specialIn K (.builtin "object.__class__") "__get__" = some (some (.builtin "getset_descriptor.__get__")))
    (xt4 : PySem.W.takesIn K (.builtin "object.__class__") = some true)
    (xm4 : PySem.W.mroIn K C1 (.type "object") = some true)
    (n5 : PySem.W.nsIn K mainGlobals "range" = some none)
    (n6 : PySem.W.nsIn K mainGlobals "tuple" = some none)
    (n7 : PySem.W.nsIn K mainGlobals "list" = some none)
    (n8 : PySem.W.nsIn K mainGlobals "sorted" = some none)
    (n9 : PySem.W.nsIn K mainGlobals "enumerate" = some none)
    (n10 : PySem.W.nsIn K mainGlobals "len" = some none)
    (n11 : PySem.W.nsIn K mainGlobals "isinstance" = some none)
    (n12 : PySem.W.nsIn K mainGlobals "int" = some none)
    (n13 : PySem.W.nsIn K mainGlobals "bool" = some none)
    (n14 : PySem.W.nsIn K mainGlobals "max" = some none)
    (n15 : PySem.W.nsIn K mainGlobals "min" = some none)
    (n16 : PySem.W.nsIn K mainGlobals "sum" = some none)
    (a17 : PySem.W.nsIn K mainGlobals "power_of" = some (some (.ref f17)))
    (l17 : K.lookup f17 = some ⟨oc17, od17, .func (PySem.W.fnOf "power_of" "power_of" (defArgs sPowerOf) (defBody sPowerOf) (defScope sPowerOf) .none kV17 dc17 pm17 an17 cd17 ct17), sl17⟩)
    (c17 : PySem.W.codeIn K cd17 "power_of" = true)
    (k17 : PySem.W.keepIn K (.ref f17) = true)
    (a18 : PySem.W.nsIn K mainGlobals "form_of_terms" = some (some (.ref f18)))
    (l18 : K.lookup f18 = some ⟨oc18, od18, .func (PySem.W.fnOf "form_of_terms" "form_of_terms" (defArgs sFormOfTerms) (defBody sFormOfTerms) (defScope sFormOfTerms) .none kV18 dc18 pm18 an18 cd18 ct18), sl18⟩)
    (c18 : PySem.W.codeIn K cd18 "form_of_terms" = true)
    (k18 : PySem.W.keepIn K (.ref f18) = true)
    (a19 : PySem.W.nsIn K mainGlobals "put_in" = some (some (.ref f19)))
    (l19 : K.lookup f19 = some ⟨oc19, od19, .func (PySem.W.fnOf "put_in" "put_in" (defArgs sPutIn) (defBody sPutIn) (defScope sPutIn) .none kV19 dc19 pm19 an19 cd19 ct19), sl19⟩)
    (c19 : PySem.W.codeIn K cd19 "put_in" = true)
    (k19 : PySem.W.keepIn K (.ref f19) = true)
    (a20 : PySem.W.nsIn K mainGlobals "off_nought" = some (some (.ref f20)))
    (l20 : K.lookup f20 = some ⟨oc20, od20, .func (PySem.W.fnOf "off_nought" "off_nought" (defArgs sOffNought) (defBody sOffNought) (defScope sOffNought) .none kV20 dc20 pm20 an20 cd20 ct20), sl20⟩)
    (c20 : PySem.W.codeIn K cd20 "off_nought" = true)
    (k20 : PySem.W.keepIn K (.ref f20) = true)
    (a21 : PySem.W.nsIn K mainGlobals "_law_pool" = some (some (.ref f21)))
    (l21 : K.lookup f21 = some ⟨oc21, od21, .func (PySem.W.fnOf "_law_pool" "_law_pool" (defArgs sLawPool) (defBody sLawPool) (defScope sLawPool) .none kV21 dc21 pm21 an21 cd21 ct21), sl21⟩)
    (c21 : PySem.W.codeIn K cd21 "_law_pool" = true)
    (k21 : PySem.W.keepIn K (.ref f21) = true)
    (a22 : PySem.W.nsIn K mainGlobals "_law_take" = some (some (.ref f22)))
    (l22 : K.lookup f22 = some ⟨oc22, od22, .func (PySem.W.fnOf "_law_take" "_law_take" (defArgs sLawTake) (defBody sLawTake) (defScope sLawTake) .none kV22 dc22 pm22 an22 cd22 ct22), sl22⟩)
    (c22 : PySem.W.codeIn K cd22 "_law_take" = true)
    (k22 : PySem.W.keepIn K (.ref f22) = true)
    (a23 : PySem.W.nsIn K mainGlobals "_law_whole" = some (some (.ref f23)))
    (l23 : K.lookup f23 = some ⟨oc23, od23, .func (PySem.W.fnOf "_law_whole" "_law_whole" (defArgs sLawWhole) (defBody sLawWhole) (defScope sLawWhole) .none kV23 dc23 pm23 an23 cd23 ct23), sl23⟩)
    (c23 : PySem.W.codeIn K cd23 "_law_whole" = true)
    (k23 : PySem.W.keepIn K (.ref f23) = true)
    (a24 : PySem.W.nsIn K mainGlobals "_law_gather" = some (some (.ref f24)))
    (l24 : K.lookup f24 = some ⟨oc24, od24, .func (PySem.W.fnOf "_law_gather" "_law_gather" (defArgs sLawGather) (defBody sLawGather) (defScope sLawGather) .none kV24 dc24 pm24 an24 cd24 ct24), sl24⟩)
    (c24 : PySem.W.codeIn K cd24 "_law_gather" = true)
    (k24 : PySem.W.keepIn K (.ref f24) = true)
    (a25 : PySem.W.nsIn K mainGlobals "_law_product" = some (some (.ref f25)))
    (l25 : K.lookup f25 = some ⟨oc25, od25, .func (PySem.W.fnOf "_law_product" "_law_product" (defArgs sLawProduct) (defBody sLawProduct) (defScope sLawProduct) .none kV25 dc25 pm25 an25 cd25 ct25), sl25⟩)
    (c25 : PySem.W.codeIn K cd25 "_law_product" = true)
    (k25 : PySem.W.keepIn K (.ref f25) = true)
    (a26 : PySem.W.nsIn K mainGlobals "_law_power" = some (some (.ref f26)))
    (l26 : K.lookup f26 = some ⟨oc26, od26, .func (PySem.W.fnOf "_law_power" "_law_power" (defArgs sLawPower) (defBody sLawPower) (defScope sLawPower) .none kV26 dc26 pm26 an26 cd26 ct26), sl26⟩)
    (c26 : PySem.W.codeIn K cd26 "_law_power" = true)
    (k26 : PySem.W.keepIn K (.ref f26) = true)
    (a27 : PySem.W.nsIn K mainGlobals "_law_unit" = some (some (.ref f27)))
    (l27 : K.lookup f27 = some ⟨oc27, od27, .func (PySem.W.fnOf "_law_unit" "_law_unit" (defArgs sLawUnit) (defBody sLawUnit) (defScope sLawUnit) .none kV27 dc27 pm27 an27 cd27 ct27), sl27⟩)
    (c27 : PySem.W.codeIn K cd27 "_law_unit" = true)
    (k27 : PySem.W.keepIn K (.ref f27) = true)
    (a28 : PySem.W.nsIn K mainGlobals "_law_factor" = some (some (.ref f28)))
    (l28 : K.lookup f28 = some ⟨oc28, od28, .func (PySem.W.fnOf "_law_factor" "_law_factor" (defArgs sLawFactor) (defBody sLawFactor) (defScope sLawFactor) .none kV28 dc28 pm28 an28 cd28 ct28), sl28⟩)
    (c28 : PySem.W.codeIn K cd28 "_law_factor" = true)
    (k28 : PySem.W.keepIn K (.ref f28) = true)
    (a29 : PySem.W.nsIn K mainGlobals "_law_ladder" = some (some (.ref f29)))
    (l29 : K.lookup f29 = some ⟨oc29, od29, .func (PySem.W.fnOf "_law_ladder" "_law_ladder" (defArgs sLawLadder) (defBody sLawLadder) (defScope sLawLadder) .none kV29 dc29 pm29 an29 cd29 ct29), sl29⟩)
    (c29 : PySem.W.codeIn K cd29 "_law_ladder" = true)
    (k29 : PySem.W.keepIn K (.ref f29) = true)
    (a30 : PySem.W.nsIn K mainGlobals "_law_rungs" = some (some (.ref f30)))
    (l30 : K.lookup f30 = some ⟨oc30, od30, .func (PySem.W.fnOf "_law_rungs" "_law_rungs" (defArgs sLawRungs) (defBody sLawRungs) (defScope sLawRungs) .none kV30 dc30 pm30 an30 cd30 ct30), sl30⟩)
    (c30 : PySem.W.codeIn K cd30 "_law_rungs" = true)
    (k30 : PySem.W.keepIn K (.ref f30) = true)
    (a31 : PySem.W.nsIn K mainGlobals "_law_forms" = some (some (.ref f31)))
    (l31 : K.lookup f31 = some ⟨oc31, od31, .func (PySem.W.fnOf "_law_forms" "_law_forms" (defArgs sLawForms) (defBody sLawForms) (defScope sLawForms) .none kV31 dc31 pm31 an31 cd31 ct31), sl31⟩)
    (c31 : PySem.W.codeIn K cd31 "_law_forms" = true)
    (k31 : PySem.W.keepIn K (.ref f31) = true)
    (a32 : PySem.W.nsIn K mainGlobals "_law_there" = some (some (.ref f32)))
    (l32 : K.lookup f32 = some ⟨oc32, od32, .func (PySem.W.fnOf "_law_there" "_law_there" (defArgs sLawThere) (defBody sLawThere) (defScope sLawThere) .none kV32 dc32 pm32 an32 cd32 ct32), sl32⟩)
    (c32 : PySem.W.codeIn K cd32 "_law_there" = true)
    (k32 : PySem.W.keepIn K (.ref f32) = true)
    (a33 : PySem.W.nsIn K mainGlobals "_law_ends" = some (some (.ref f33)))
    (l33 : K.lookup f33 = some ⟨oc33, od33, .func (PySem.W.fnOf "_law_ends" "_law_ends" (defArgs sLawEnds) (defBody sLawEnds) (defScope sLawEnds) .none kV33 dc33 pm33 an33 cd33 ct33), sl33⟩)
    (c33 : PySem.W.codeIn K cd33 "_law_ends" = true)
    (k33 : PySem.W.keepIn K (.ref f33) = true)
    (a34 : PySem.W.nsIn K mainGlobals "law" = some (some (.ref f34)))
    (l34 : K.lookup f34 = some ⟨oc34, od34, .func (PySem.W.fnOf "law" "law" (defArgs sLaw) (defBody sLaw) (defScope sLaw) .none kV34 dc34 pm34 an34 cd34 ct34), sl34⟩)
    (c34 : PySem.W.codeIn K cd34 "law" = true)
    (k34 : PySem.W.keepIn K (.ref f34) = true) :
    ∃ fd : FuncData, (∀ (s : Shared) (u : Value), BindsTo s fd ⟨[u], []⟩ [("_law_script", u)]) ∧ ∀ base : Heap, K.In base → base.Ns mainGlobals mg → FnOk P w K mg base CX0 5 fa fd ["_law_script"] (spLaw K) := by
  have e := hfa.symm.trans (PySem.W.mg_of X G a34)
  cases e
  have T : Txt K mg C1 C2 := {
    eNought := { gC := PySem.W.mg_of X G aC_C1, oex := ⟨⟨nm_C1, q_C1, N_C1, bs_C1, _, sn_C1, sub_C1, ab_C1, col_C1, dd_C1, m0_C1, m1_C1, m2_C1, m3_C1, m5_C1, xL_C1, rfl⟩, sa_C1, eC_C1, tC_C1, kC_C1⟩, ini := ⟨_, _, _, a1, t1, fun_mk (st := sNoughtInit) l1 c1 k1, (fun_mk (st := sNoughtInit) l1 c1 k1).binds (fun _ _ _ _ _ _ us hl => match us, hl with | [_, _], _ => rfl)⟩, noF := nb_C1, xf := ⟨ga_C1, gg_C1, eC_C1, hC_C1⟩, te := exm_self eC_C1 iC_C1 tC_C1 sC_C1 },
    gBook := PySem.W.mg_of X G g2,
    isBook := b3,
    exc := ⟨ga_C1, gg_C1, eC_C1, hC_C1, xa4, xn4, xt4, xm4⟩,
    n_range := PySem.W.mg_none_of X G n5,
    n_tuple := PySem.W.mg_none_of X G n6,
    n_list := PySem.W.mg_none_of X G n7,
    n_sorted := PySem.W.mg_none_of X G n8,
    n_enumerate := PySem.W.mg_none_of X G n9,
    n_len := PySem.W.mg_none_of X G n10,
    n_isinstance := PySem.W.mg_none_of X G n11,
    n_int := PySem.W.mg_none_of X G n12,
    n_bool := PySem.W.mg_none_of X G n13,
    n_max := PySem.W.mg_none_of X G n14,
    n_min := PySem.W.mg_none_of X G n15,
    n_sum := PySem.W.mg_none_of X G n16,
    dPowerOf := has_mk (st := sPowerOf) X G a17 l17 c17 k17 (fun _ _ _ _ _ _ us hl => match us, hl with | [_, _], _ => rfl),
    dFormOfTerms := has_mk (st := sFormOfTerms) X G a18 l18 c18 k18 (fun _ _ _ _ _ _ us hl => match us, hl with | [_], _ => rfl),
    dPutIn := has_mk (st := sPutIn) X G a19 l19 c19 k19 (fun _ _ _ _ _ _ us hl => match us, hl with | [_, _, _], _ => rfl),
    dOffNought := has_mk (st := sOffNought) X G a20 l20 c20 k20 (fun _ _ _ _ _ _ us hl => match us, hl with | [_, _], _ => rfl),
    dLawPool := has_mk (st := sLawPool) X G a21 l21 c21 k21 (fun _ _ _ _ _ _ us hl => match us, hl with | [_, _], _ => rfl),
    dLawTake := has_mk (st := sLawTake) X G a22 l22 c22 k22 (fun _ _ _ _ _ _ us hl => match us, hl with | [_, _], _ => rfl),
    dLawWhole := has_mk (st := sLawWhole) X G a23 l23 c23 k23 (fun _ _ _ _ _ _ us hl => match us, hl with | [_], _ => rfl),
    dLawGather := has_mk (st := sLawGather) X G a24 l24 c24 k24 (fun _ _ _ _ _ _ us hl => match us, hl with | [_], _ => rfl),
    dLawProduct := has_mk (st := sLawProduct) X G a25 l25 c25 k25 (fun _ _ _ _ _ _ us hl => match us, hl with | [_, _], _ => rfl),
    dLawPower := has_mk (st := sLawPower) X G a26 l26 c26 k26 (fun _ _ _ _ _ _ us hl => match us, hl with | [_, _], _ => rfl),
    dLawUnit := has_mk (st := sLawUnit) X G a27 l27 c27 k27 (fun _ _ _ _ _ _ us hl => match us, hl with | [_, _, _], _ => rfl),
    dLawFactor := has_mk (st := sLawFactor) X G a28 l28 c28 k28 (fun _ _ _ _ _ _ us hl => match us, hl with | [_, _], _ => rfl),
    dLawLadder := has_mk (st := sLawLadder) X G a29 l29 c29 k29 (fun _ _ _ _ _ _ us hl => match us, hl with | [_, _, _, _], _ => rfl),
    dLawRungs := has_mk (st := sLawRungs) X G a30 l30 c30 k30 (fun _ _ _ _ _ _ us hl => match us, hl with | [_, _], _ => rfl),
    dLawForms := has_mk (st := sLawForms) X G a31 l31 c31 k31 (fun _ _ _ _ _ _ us hl => match us, hl with | [_, _], _ => rfl),
    dLawThere := has_mk (st := sLawThere) X G a32 l32 c32 k32 (fun _ _ _ _ _ _ us hl => match us, hl with | [_, _], _ => rfl),
    dLawEnds := has_mk (st := sLawEnds) X G a33 l33 c33 k33 (fun _ _ _ _ _ _ us hl => match us, hl with | [_, _, _], _ => rfl) }
  exact ⟨_, fun s u => .of_eq rfl, fun base _ _ => pr_law (base := base) T (fun_mk (st := sLaw) l34 c34 k34)⟩
end Mv
open PySem PySem.W PyProof.Rows
set_option maxRecDepth 100000 in
set_option maxHeartbeats 0 in
theorem PySem.Challenge.cw_movebook_k73_off_nought_holds : PySem.Challenge.rw_movebook_k73_off_nought.Holds := by
  w_on; o_law; k_head; (case hw => w_witness2)
  k_fill
  refine L2.walk_ofK (l := PySem.Challenge.rw_movebook_k73_off_nought) (n := 63) (k := 5) (x := "_law_script") (CX := L2.CX0) (sp := Mv.spLaw) rfl (by decide) rfl ⟨rfl, by decide, by decide⟩ (fun w h Y => PySem.W.kIn_of Y) ?F ?S (fun _ _ _ _ h => h)
  case F =>
    intro w mg fa h KX G hmg
    refine' Mv.all_mk KX G hmg ?aC_C1 ?xL_C1 ?sa_C1 ?ga_C1 ?gg_C1 ?nb_C1 ?kC_C1 ?eC_C1 ?tC_C1 ?hC_C1 ?iC_C1 ?sC_C1 ?a1 ?t1 ?l1 ?c1 ?k1 ?g2 ?b3 ?xa4 ?xn4 ?xt4 ?xm4 ?n5 ?n6 ?n7 ?n8 ?n9 ?n10 ?n11 ?n12 ?n13 ?n14 ?n15 ?n16 ?a17 ?l17 ?c17 ?k17 ?a18 ?l18 ?c18 ?k18 ?a19 ?l19 ?c19 ?k19 ?a20 ?l20 ?c20 ?k20 ?a21 ?l21 ?c21 ?k21 ?a22 ?l22 ?c22 ?k22 ?a23 ?l23 ?c23 ?k23 ?a24 ?l24 ?c24 ?k24 ?a25 ?l25 ?c25 ?k25 ?a26 ?l26 ?c26 ?k26 ?a27 ?l27 ?c27 ?k27 ?a28 ?l28 ?c28 ?k28 ?a29 ?l29 ?c29 ?k29 ?a30 ?l30 ?c30 ?k30 ?a31 ?l31 ?c31 ?k31 ?a32 ?l32 ?c32 ?k32 ?a33 ?l33 ?c33 ?k33 ?a34 ?l34 ?c34 ?k34
    (case aC_C1 => k_is)
    (case xL_C1 => k_is)
    (case sa_C1 => k_is)
    (case ga_C1 => k_is)
    (case gg_C1 => k_is)
    (case nb_C1 => k_is)
    (case kC_C1 => k_is)
    (case eC_C1 => k_is)
    (case tC_C1 => k_is)
    (case hC_C1 => k_is)
    (case iC_C1 => k_is)
    (case sC_C1 => first | rfl | k_is)
    (case a1 => k_is)
    (case t1 => k_is)
    (case l1 => k_is)
    (case c1 => k_is)
    (case k1 => k_is)
    (case g2 => k_is)
    (case b3 => first | rfl | k_is)
    (case xa4 => k_is)
    (case xn4 => k_is)
    (case xt4 => k_is)
    (case xm4 => k_is)
    (case n5 => k_is)
    (case n6 => k_is)
    (case n7 => k_is)
    (case n8 => k_is)
    (case n9 => k_is)
    (case n10 => k_is)
    (case n11 => k_is)
    (case n12 => k_is)
    (case n13 => k_is)
    (case n14 => k_is)
    (case n15 => k_is)
    (case n16 => k_is)
    (case a17 => k_is)
    (case l17 => k_is)
    (case c17 => k_is)
    (case k17 => k_is)
    (case a18 => k_is)
    (case l18 => k_is)
    (case c18 => k_is)
    (case k18 => k_is)
    (case a19 => k_is)
    (case l19 => k_is)
    (case c19 => k_is)
    (case k19 => k_is)
    (case a20 => k_is)
    (case l20 => k_is)
    (case c20 => k_is)
    (case k20 => k_is)
    (case a21 => k_is)
    (case l21 => k_is)
    (case c21 => k_is)
    (case k21 => k_is)
    (case a22 => k_is)
    (case l22 => k_is)
    (case c22 => k_is)
    (case k22 => k_is)
    (case a23 => k_is)
    (case l23 => k_is)
    (case c23 => k_is)
    (case k23 => k_is)
    (case a24 => k_is)
    (case l24 => k_is)
    (case c24 => k_is)
    (case k24 => k_is)
    (case a25 => k_is)
    (case l25 => k_is)
    (case c25 => k_is)
    (case k25 => k_is)
    (case a26 => k_is)
    (case l26 => k_is)
    (case c26 => k_is)
    (case k26 => k_is)
    (case a27 => k_is)
    (case l27 => k_is)
    (case c27 => k_is)
    (case k27 => k_is)
    (case a28 => k_is)
    (case l28 => k_is)
    (case c28 => k_is)
    (case k28 => k_is)
    (case a29 => k_is)
    (case l29 => k_is)
    (case c29 => k_is)
    (case k29 => k_is)
    (case a30 => k_is)
    (case l30 => k_is)
    (case c30 => k_is)
    (case k30 => k_is)
    (case a31 => k_is)
    (case l31 => k_is)
    (case c31 => k_is)
    (case k31 => k_is)
    (case a32 => k_is)
    (case l32 => k_is)
    (case c32 => k_is)
    (case k32 => k_is)
    (case a33 => k_is)
    (case l33 => k_is)
    (case c33 => k_is)
    (case k33 => k_is)
    (case a34 => k_is)
    (case l34 => k_is)
    (case c34 => k_is)
    (case k34 => k_is)
  case S =>
    intro K H a ns hl _ hS
    exact ⟨a, ns, rfl, hS, hl, fun _ => rfl⟩
