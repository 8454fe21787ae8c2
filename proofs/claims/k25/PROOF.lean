import PyProof.Rows.All
import Wide.All
import OpenK.AllK
import Wide.FinOn
import HandS.ForMost
import HandS.Exc
import HandS.TryOnly
import HandS.ExcOwn
import HandS.WordsExc
import HandS.IsInst
import HandS.More
import HandS.TupAny
import HandS.FStr
import HandS.RaiseMore
import HandS.Walk
import HandS.Zip0
import HandS.Zip
import HandS.Sort
import HandS.SortInts
import HandS.Conv
import HandS.Deep
import HandS.Style
import HandS.Codes
import KE.GoesMore
import KE.GoesZip
import KE.GoesEnum
import HandS.Evl
import PySem.Challenge.RW_manypanes_k25_whole_layouts_tile_the_are
set_option Elab.async false
set_option linter.all false
set_option maxRecDepth 100000
set_option maxHeartbeats 4000000
namespace Mp
/-- a layout: a pane, or parts with their sizes; true is beside, false is below -/
inductive Lt where
  | pane (i : Int)
  | node (d : Bool) (ps : List (Lt × Int))
theorem Lt.ind {P : Lt → Prop} (h1 : ∀ i, P (.pane i)) (h2 : ∀ d ps, (∀ p ∈ ps, P p.1) → P (.node d ps)) : ∀ L, P L
  | .pane i => h1 i
  | .node d ps => h2 d ps fun p _ => Lt.ind h1 h2 p.1
termination_by L => sizeOf L
decreasing_by
  have := List.sizeOf_lt_of_mem ‹_ ∈ ps›
  cases p
  simp at *
  omega
mutual
def panes : Lt → List Int
  | .pane i => [i]
  | .node _ ps => panesL ps
def panesL : List (Lt × Int) → List Int
  | [] => []
  | (L, _) :: ps => panes L ++ panesL ps
end
theorem panesL_append (ps qs : List (Lt × Int)) : panesL (ps ++ qs) = panesL ps ++ panesL qs := by
  induction ps with
  | nil => simp [panesL]
  | cons p ps ih => cases p; simp [panesL, ih]
theorem panesL_one (p : Lt × Int) : panesL [p] = panes p.1 := by cases p; simp [panesL]
theorem mem_panesL {ps : List (Lt × Int)} {x : Int} : x ∈ panesL ps ↔ ∃ p ∈ ps, x ∈ panes p.1 := by
  induction ps with
  | nil => simp [panesL]
  | cons p ps ih => cases p; simp [panesL, ih]
theorem panes_le {ps : List (Lt × Int)} {p : Lt × Int} (h : p ∈ ps) : (panes p.1).length ≤ (panesL ps).length := by
  induction ps with
  | nil => cases h
  | cons q ps ih =>
    cases q
    rcases List.mem_cons.mp h with e | h
    · subst e; simp [panesL]
    · have := ih h; simp [panesL]; omega
theorem panesL_take_le (n : Nat) (ps : List (Lt × Int)) : (panesL (ps.take n)).length ≤ (panesL ps).length := by
  have := congrArg (fun qs => (panesL qs).length) (List.take_append_drop n ps)
  simp only [panesL_append, List.length_append] at this
  omega
def ax (d : Bool) (p : Int × Int) : Int := if d then p.1 else p.2
def mxL (ns : List Int) : Int := ns.foldr max 0
def leastN (d : Bool) (ls : List (Int × Int)) : Int × Int :=
  if d then ((ls.map (·.1)).sum + ((ls.length : Int) - 1), mxL (ls.map (·.2))) else (mxL (ls.map (·.1)), (ls.map (·.2)).sum + ((ls.length : Int) - 1))
mutual
def least : Lt → Int × Int
  | .pane _ => (2, 1)
  | .node d ps => leastN d (leastL ps)
def leastL : List (Lt × Int) → List (Int × Int)
  | [] => []
  | (L, _) :: ps => least L :: leastL ps
end
theorem leastL_eq (ps : List (Lt × Int)) : leastL ps = ps.map fun p => least p.1 := by
  induction ps with
  | nil => simp [leastL]
  | cons p ps ih => cases p; simp [leastL, ih]
/-- a layout that the program makes: two parts at least in each node, panes from 1 on, sizes that are not great -/
inductive WF (B : Int) : Lt → Prop
  | pane (i : Int) : 0 < i → WF B (.pane i)
  | node (d : Bool) (ps : List (Lt × Int)) : 2 ≤ ps.length → (∀ p ∈ ps, WF B p.1) → (∀ p ∈ ps, -B ≤ p.2 ∧ p.2 ≤ B) → WF B (.node d ps)
/-- nested less than n deep -/
def Dep : Nat → Lt → Prop
  | 0, _ => False
  | _ + 1, .pane _ => True
  | n + 1, .node _ ps => ∀ p ∈ ps, Dep n p.1
theorem Dep.mono : ∀ {n m : Nat} {L : Lt}, n ≤ m → Dep n L → Dep m L
  | 0, _, _, _, h => h.elim
  | n + 1, 0, _, h, _ => absurd h (by omega)
  | n + 1, m + 1, .pane _, _, _ => trivial
  | n + 1, m + 1, .node _ ps, h, k => fun p hp => Dep.mono (by omega) (k p hp)
theorem WF.mono {B C : Int} (hb : B ≤ C) {L : Lt} : WF B L → WF C L := by
  induction L using Lt.ind with
  | h1 i => intro h; cases h with | pane _ k => exact .pane i k
  | h2 d ps ih =>
    intro h
    cases h with
    | node _ _ a b c => exact .node d ps a (fun p hp => ih p hp (b p hp)) fun p hp => by have := c p hp; omega
theorem panes_pos {L : Lt} : WF B L → ∀ x ∈ panes L, 0 < x := by
  induction L using Lt.ind with
  | h1 i => intro h x hx; cases h; simp [panes] at hx; omega
  | h2 d ps ih =>
    intro h x hx
    cases h with
    | node _ _ _ hw _ =>
      rw [panes, mem_panesL] at hx
      obtain ⟨p, hp, hx⟩ := hx
      exact ih p hp (hw p hp) x hx
theorem panes_ne {L : Lt} : WF B L → 1 ≤ (panes L).length := by
  induction L using Lt.ind with
  | h1 i => intro _; simp [panes]
  | h2 d ps ih =>
    intro h
    cases h with
    | node _ _ h2 hw _ =>
      match ps, h2 with
      | p :: _, _ =>
        have := ih p List.mem_cons_self (hw p List.mem_cons_self)
        cases p
        simp [panes, panesL] at *
        omega
/-- each part has a pane -/
theorem panesL_len {ps : List (Lt × Int)} (h : ∀ p ∈ ps, WF B p.1) : ps.length ≤ (panesL ps).length := by
  induction ps with
  | nil => simp
  | cons p ps ih =>
    have h1 := panes_ne (h p List.mem_cons_self)
    have h2 := ih fun q hq => h q (List.mem_cons_of_mem _ hq)
    cases p
    simp [panesL] at *
    omega
theorem mem_len {ps : List (Lt × Int)} {p : Lt × Int} (h : ∀ p ∈ ps, WF B p.1) (hp : p ∈ ps) : (panes p.1).length + ps.length ≤ (panesL ps).length + 1 := by
  induction ps with
  | nil => cases hp
  | cons q ps ih =>
    have h1 := panes_ne (h q List.mem_cons_self)
    have h2 := panesL_len fun q hq => h q (List.mem_cons_of_mem _ hq)
    rcases List.mem_cons.mp hp with e | hp
    · subst e
      cases p
      simp [panesL] at *
      omega
    · have h3 := ih (fun q hq => h q (List.mem_cons_of_mem _ hq)) hp
      cases q
      simp [panesL] at *
      omega
theorem dep_of : ∀ {n : Nat} {L : Lt}, WF B L → (panes L).length ≤ n → Dep n L
  | 0, L, h, hl => by have := panes_ne h; omega
  | n + 1, .pane _, _, _ => trivial
  | n + 1, .node d ps, h, hl => by
    cases h with
    | node _ _ h2 hw _ =>
      intro p hp
      have := mem_len hw hp
      rw [panes] at hl
      exact dep_of (hw p hp) (by omega)
theorem mxL_nonneg (ns : List Int) : 0 ≤ mxL ns := by
  induction ns with
  | nil => simp [mxL]
  | cons n ns ih => simp only [mxL, List.foldr_cons] at *; omega
theorem le_mxL {ns : List Int} {n : Int} (h : n ∈ ns) : n ≤ mxL ns := by
  induction ns with
  | nil => cases h
  | cons m ns ih =>
    simp only [mxL, List.foldr_cons] at *
    rcases List.mem_cons.mp h with e | h
    · subst e; omega
    · have := ih h; omega
theorem mxL_le {ns : List Int} {k : Int} (h0 : 0 ≤ k) (h : ∀ n ∈ ns, n ≤ k) : mxL ns ≤ k := by
  induction ns with
  | nil => simpa [mxL] using h0
  | cons m ns ih =>
    simp only [mxL, List.foldr_cons] at *
    have h1 := h m List.mem_cons_self
    have h2 := ih fun n hn => h n (List.mem_cons_of_mem _ hn)
    omega
/-- the greatest, as max finds it -/
theorem mxL_is {ns : List Int} {m : Int} (h : m ∈ ns) (hm : ∀ y ∈ ns, y ≤ m) (h0 : ∀ y ∈ ns, 0 ≤ y) : m = mxL ns := by
  have h1 := le_mxL h
  have h2 := mxL_le (h0 m h) hm
  omega
theorem sum_nonneg {ns : List Int} (h0 : ∀ y ∈ ns, 0 ≤ y) : 0 ≤ ns.sum := by
  induction ns with
  | nil => simp
  | cons k ns ih2 =>
    have a := h0 k (by simp)
    have b := ih2 fun y hy => h0 y (List.mem_cons_of_mem _ hy)
    simp; omega
theorem mem_sum_le {ns : List Int} {n : Int} (h0 : ∀ y ∈ ns, 0 ≤ y) (h : n ∈ ns) : n ≤ ns.sum := by
  induction ns with
  | nil => cases h
  | cons m ns ih =>
    have hs : 0 ≤ ns.sum := sum_nonneg fun y hy => h0 y (List.mem_cons_of_mem _ hy)
    have a := h0 m List.mem_cons_self
    rw [List.sum_cons]
    rcases List.mem_cons.mp h with e | h
    · subst e; omega
    · have := ih (fun y hy => h0 y (List.mem_cons_of_mem _ hy)) h; omega
theorem sum_le_mul {ns : List Int} {k : Int} (h : ∀ y ∈ ns, y ≤ k) : ns.sum ≤ ns.length * k := by
  induction ns with
  | nil => simp
  | cons m ns ih =>
    have a := h m List.mem_cons_self
    have b := ih fun y hy => h y (List.mem_cons_of_mem _ hy)
    rw [List.sum_cons, List.length_cons]
    have e : ((ns.length + 1 : Nat) : Int) * k = ns.length * k + k := by rw [Int.natCast_add, Int.add_mul]; simp
    rw [e]; omega
/-- the least sizes, from below and above -/
theorem least_bd {L : Lt} : WF B L → 2 ≤ (least L).1 ∧ 1 ≤ (least L).2 ∧ (least L).1 + 1 ≤ 3 * (panes L).length ∧ (least L).2 + 1 ≤ 2 * (panes L).length := by
  induction L using Lt.ind with
  | h1 i => intro _; simp [least, panes]
  | h2 d ps ih =>
    intro h
    cases h with
    | node _ _ h2 hw hs =>
      have key : ∀ qs : List (Lt × Int), (∀ p ∈ qs, p ∈ ps) →
          2 * (qs.length : Int) ≤ ((leastL qs).map (·.1)).sum ∧ (qs.length : Int) ≤ ((leastL qs).map (·.2)).sum ∧
          ((leastL qs).map (·.1)).sum + qs.length ≤ 3 * (panesL qs).length ∧ ((leastL qs).map (·.2)).sum + qs.length ≤ 2 * (panesL qs).length := by
        intro qs
        induction qs with
        | nil => intro _; simp [leastL, panesL]
        | cons p qs ih2 =>
          intro hq
          have a := ih p (hq p List.mem_cons_self) (hw p (hq p List.mem_cons_self))
          have b := ih2 fun q hm => hq q (List.mem_cons_of_mem _ hm)
          cases p
          simp [leastL, panesL] at *
          omega
      have k := key ps fun _ h => h
      have hl : (leastL ps).length = ps.length := by rw [leastL_eq]; simp
      have m1 : 2 ≤ mxL ((leastL ps).map (·.1)) ∧ mxL ((leastL ps).map (·.1)) + 1 ≤ 3 * (panesL ps).length := by
        refine ⟨?_, ?_⟩
        · obtain ⟨p, hp⟩ : ∃ p, p ∈ ps := List.exists_mem_of_length_pos (by omega)
          have a := ih p hp (hw p hp)
          have b : (least p.1).1 ≤ mxL ((leastL ps).map (·.1)) := le_mxL (by rw [leastL_eq, List.map_map]; exact List.mem_map.mpr ⟨p, hp, rfl⟩)
          omega
        · have b : mxL ((leastL ps).map (·.1)) ≤ 3 * ((panesL ps).length : Int) - 1 := by
            refine mxL_le (by have := panesL_len hw; omega) fun n hn => ?_
            rw [leastL_eq, List.map_map] at hn
            obtain ⟨p, hp, e⟩ := List.mem_map.mp hn
            simp at e
            have a := ih p hp (hw p hp)
            have c := mem_len hw hp
            omega
          omega
      have m2 : 1 ≤ mxL ((leastL ps).map (·.2)) ∧ mxL ((leastL ps).map (·.2)) + 1 ≤ 2 * (panesL ps).length := by
        refine ⟨?_, ?_⟩
        · obtain ⟨p, hp⟩ : ∃ p, p ∈ ps := List.exists_mem_of_length_pos (by omega)
          have a := ih p hp (hw p hp)
          have b : (least p.1).2 ≤ mxL ((leastL ps).map (·.2)) := le_mxL (by rw [leastL_eq, List.map_map]; exact List.mem_map.mpr ⟨p, hp, rfl⟩)
          omega
        · have b : mxL ((leastL ps).map (·.2)) ≤ 2 * ((panesL ps).length : Int) - 1 := by
            refine mxL_le (by have := panesL_len hw; omega) fun n hn => ?_
            rw [leastL_eq, List.map_map] at hn
            obtain ⟨p, hp, e⟩ := List.mem_map.mp hn
            simp at e
            have a := ih p hp (hw p hp)
            have c := mem_len hw hp
            omega
          omega
      rw [least, panes, leastN, hl]
      cases d <;> simp only [Bool.false_eq_true, if_false, if_true] <;> omega
end Mp
namespace Mp
/-! ### share -/
def spare (t : Int) (ms : List Int) : Int := max 0 (t - ((ms.length : Int) - 1) - ms.sum)
def extras0 (ms ss : List Int) : List Int := List.zipWith (fun s m => max 0 (s - m)) ss ms
def extras (ms ss : List Int) : List Int := if (extras0 ms ss).sum = 0 then List.replicate ss.length 1 else extras0 ms ss
def dist : List Int → List Int → Int → List Int
  | r :: rs, e :: es, k => if 0 < e ∧ 0 < k then (r + 1) :: dist rs es (k - 1) else r :: dist rs es k
  | rs, _, _ => rs
def shares (t : Int) (ms ss : List Int) : List Int := List.zipWith (fun m e => m + spare t ms * e / (extras ms ss).sum) ms (extras ms ss)
def share (t : Int) (ms ss : List Int) : List Int := dist (shares t ms ss) (extras ms ss) (spare t ms - ((shares t ms ss).sum - ms.sum))
theorem extras_len {ms ss : List Int} (h : ms.length = ss.length) : (extras ms ss).length = ms.length := by
  unfold extras extras0
  split <;> simp [h]
theorem extras_nonneg {ms ss : List Int} : ∀ e ∈ extras ms ss, 0 ≤ e := by
  intro e he
  unfold extras at he
  split at he
  · have := (List.mem_replicate.mp he).2; omega
  · rw [extras0] at he
    obtain ⟨i, hi, rfl⟩ := List.mem_iff_getElem.mp he
    rw [List.getElem_zipWith]
    omega
theorem extras_pos {ms ss : List Int} (h : ms.length = ss.length) (h1 : 1 ≤ ms.length) : 0 < (extras ms ss).sum := by
  have h0 := sum_nonneg (extras_nonneg (ms := ms) (ss := ss))
  unfold extras at *
  split
  · rename_i e
    rw [if_pos e] at h0
    simp
    omega
  · rename_i e
    rw [if_neg e] at h0
    omega
theorem dist_len : ∀ (rs es : List Int) (k : Int), (dist rs es k).length = rs.length
  | [], es, k => by cases es <;> simp [dist]
  | r :: rs, [], k => by simp [dist]
  | r :: rs, e :: es, k => by
    rw [dist]
    split <;> simp [dist_len rs es]
theorem share_len {t : Int} {ms ss : List Int} (h : ms.length = ss.length) : (share t ms ss).length = ms.length := by
  rw [share, dist_len, shares, List.length_zipWith, extras_len h, Nat.min_self]
def cnt (es : List Int) : Int := ((es.filter fun e => decide (0 < e)).length : Int)
theorem cnt_cons (e : Int) (es : List Int) : cnt (e :: es) = (if 0 < e then 1 else 0) + cnt es := by
  unfold cnt
  rw [List.filter_cons]
  split <;> split <;> simp_all <;> omega
theorem dist_zero : ∀ (rs es : List Int), dist rs es 0 = rs
  | [], es => by cases es <;> simp [dist]
  | r :: rs, [] => by simp [dist]
  | r :: rs, e :: es => by
    rw [dist, if_neg (by omega), dist_zero rs es]
theorem dist_sum : ∀ (rs es : List Int) (k : Int), rs.length = es.length → 0 ≤ k → k ≤ cnt es → (dist rs es k).sum = rs.sum + k
  | [], [], k, _, h0, h1 => by simp [dist, cnt] at *; omega
  | r :: rs, e :: es, k, h, h0, h1 => by
    rw [cnt_cons] at h1
    simp at h
    rw [dist]
    split
    · rename_i c
      rw [if_pos c.1] at h1
      rw [List.sum_cons, dist_sum rs es (k - 1) h (by omega) (by omega), List.sum_cons]
      omega
    · rename_i c
      have : k ≤ cnt es := by
        split at h1
        · have : k = 0 := by omega
          subst this
          unfold cnt; omega
        · omega
      rw [List.sum_cons, dist_sum rs es k h h0 this, List.sum_cons]
      omega
theorem dist_ge : ∀ (rs es : List Int) (k : Int) (i : Nat) (r : Int), rs[i]? = some r → ∃ r', (dist rs es k)[i]? = some r' ∧ r ≤ r'
  | [], es, k, i, r, h => by simp at h
  | r :: rs, [], k, i, r', h => by rw [dist]; exact ⟨r', h, Int.le_refl _⟩; simp
  | r :: rs, e :: es, k, i, r', h => by
    rw [dist]
    cases i with
    | zero =>
      simp at h
      subst h
      split
      · exact ⟨r + 1, by simp, by omega⟩
      · exact ⟨r, by simp, by omega⟩
    | succ i =>
      simp at h
      split
      · obtain ⟨q, h1, h2⟩ := dist_ge rs es (k - 1) i r' h
        exact ⟨q, by simpa using h1, h2⟩
      · obtain ⟨q, h1, h2⟩ := dist_ge rs es k i r' h
        exact ⟨q, by simpa using h1, h2⟩
/-- what the floors leave -/
theorem floors (sp W : Int) (hW : 0 < W) : ∀ es : List Int, (∀ e ∈ es, 0 ≤ e) →
    ∃ R, 0 ≤ R ∧ R ≤ (W - 1) * cnt es ∧ sp * es.sum = W * (es.map fun e => sp * e / W).sum + R
  | [], _ => ⟨0, by simp [cnt]⟩
  | e :: es, h => by
    obtain ⟨R, h0, h1, h2⟩ := floors sp W hW es fun y hy => h y (List.mem_cons_of_mem _ hy)
    have he := h e List.mem_cons_self
    have q := Int.mul_ediv_add_emod (sp * e) W
    have m0 := Int.emod_nonneg (sp * e) (show W ≠ 0 by omega)
    have m1 := Int.emod_lt_of_pos (sp * e) hW
    refine ⟨sp * e % W + R, by omega, ?_, ?_⟩
    · rw [cnt_cons]
      split
      · rw [Int.mul_add]; omega
      · have : e = 0 := by omega
        subst this
        simp at *
        exact h1
    · rw [List.sum_cons, List.map_cons, List.sum_cons, Int.mul_add, Int.mul_add, h2]
      omega
theorem spare_nonneg (t : Int) (ms : List Int) : 0 ≤ spare t ms := by unfold spare; omega
theorem zip_sum : ∀ (f : Int → Int) (ms es : List Int), ms.length = es.length → (List.zipWith (fun m e => m + f e) ms es).sum = ms.sum + (es.map f).sum
  | _, [], [], _ => by simp
  | f, m :: ms, e :: es, h => by
    simp at h
    simp [zip_sum f ms es h]
    omega
theorem rest_bd {t : Int} {ms ss : List Int} (h : ms.length = ss.length) (h1 : 1 ≤ ms.length) :
    0 ≤ spare t ms - ((shares t ms ss).sum - ms.sum) ∧ spare t ms - ((shares t ms ss).sum - ms.sum) ≤ cnt (extras ms ss) := by
  have hW := extras_pos h h1
  have e : (shares t ms ss).sum = ms.sum + ((extras ms ss).map fun e => spare t ms * e / (extras ms ss).sum).sum := zip_sum _ ms _ (extras_len h).symm
  obtain ⟨R, h0, h2, h3⟩ := floors (spare t ms) (extras ms ss).sum hW _ (extras_nonneg (ms := ms) (ss := ss))
  rw [e]
  generalize (extras ms ss).sum = W at *
  generalize ((extras ms ss).map fun e => spare t ms * e / W).sum = F at *
  have hc : 0 ≤ cnt (extras ms ss) := by unfold cnt; omega
  generalize cnt (extras ms ss) = c at *
  generalize spare t ms = sp at *
  have e2 : W * (sp - F) = R := by rw [Int.mul_sub, Int.mul_comm W sp]; omega
  refine ⟨?_, ?_⟩
  · have : 0 ≤ sp - F := by
      refine Int.not_lt.mp fun hn => ?_
      have : W * (sp - F) < 0 := Int.mul_neg_of_pos_of_neg hW hn
      omega
    omega
  · have : sp - F ≤ c := by
      refine Int.not_lt.mp fun hn => ?_
      have a : W * (c + 1) ≤ W * (sp - F) := Int.mul_le_mul_of_nonneg_left (by omega) (by omega)
      have b : (W - 1) * c ≤ W * c := Int.mul_le_mul_of_nonneg_right (by omega) hc
      rw [Int.mul_add] at a
      omega
    omega
theorem share_sum {t : Int} {ms ss : List Int} (h : ms.length = ss.length) (h1 : 1 ≤ ms.length) : (share t ms ss).sum = ms.sum + spare t ms := by
  obtain ⟨a, b⟩ := rest_bd (t := t) h h1
  rw [share, dist_sum _ _ _ (by rw [shares, List.length_zipWith, extras_len h, Nat.min_self]) a b]
  omega
theorem share_ge {t : Int} {ms ss : List Int} (h : ms.length = ss.length) (h1 : 1 ≤ ms.length) {i : Nat} {m : Int} (hm : ms[i]? = some m) : ∃ r, (share t ms ss)[i]? = some r ∧ m ≤ r := by
  have hi : i < ms.length := (List.getElem?_eq_some_iff.mp hm).1
  have e : (extras ms ss)[i]? = some ((extras ms ss)[i]'(by rw [extras_len h]; exact hi)) := List.getElem?_eq_getElem _
  have hs : (shares t ms ss)[i]? = some (m + spare t ms * (extras ms ss)[i]'(by rw [extras_len h]; exact hi) / (extras ms ss).sum) := by
    rw [shares, List.getElem?_zipWith, hm, e]
  obtain ⟨r, a, b⟩ := dist_ge _ (extras ms ss) (spare t ms - ((shares t ms ss).sum - ms.sum)) i _ hs
  refine ⟨r, a, ?_⟩
  have c : 0 ≤ (extras ms ss)[i]'(by rw [extras_len h]; exact hi) := extras_nonneg _ (List.getElem_mem _)
  have d : 0 ≤ spare t ms * (extras ms ss)[i]'(by rw [extras_len h]; exact hi) / (extras ms ss).sum :=
    Int.ediv_nonneg (Int.mul_nonneg (spare_nonneg _ _) c) (Int.le_of_lt (extras_pos h h1))
  omega
theorem spare_fit {t : Int} {ms : List Int} (h : ms.sum + ((ms.length : Int) - 1) ≤ t) : ms.sum + spare t ms + ((ms.length : Int) - 1) = t := by
  unfold spare; omega
/-- shared once, shared again: the same -/
theorem share_again {t : Int} {ms ss : List Int} (h : ms.length = ss.length) (h1 : 1 ≤ ms.length) : share t ms (share t ms ss) = share t ms ss := by
  have hl := share_len (t := t) h
  have hs := share_sum (t := t) h h1
  have hg : ∀ (i : Nat) (m : Int), ms[i]? = some m → ∃ r, (share t ms ss)[i]? = some r ∧ m ≤ r := fun i m hm => share_ge h h1 hm
  generalize share t ms ss = rs at *
  have ex : ∀ (i : Nat) (m r : Int), ms[i]? = some m → rs[i]? = some r → (extras0 ms rs)[i]? = some (r - m) := fun i m r hm hr => by
    obtain ⟨r', a, b⟩ := hg i m hm
    rw [hr] at a
    have : r = r' := Option.some.inj a
    rw [extras0, List.getElem?_zipWith, hr, hm]
    simp
    omega
  have exs : (extras0 ms rs).sum = spare t ms := by
    have : ∀ (ms rs : List Int), rs.length = ms.length → (∀ (i : Nat) (m : Int), ms[i]? = some m → ∃ r, rs[i]? = some r ∧ m ≤ r) → (extras0 ms rs).sum = rs.sum - ms.sum := by
      intro ms
      induction ms with
      | nil => intro rs h _; cases rs <;> simp [extras0] at *
      | cons m ms ih =>
        intro rs h k
        cases rs with
        | nil => simp at h
        | cons r rs =>
          have a := ih rs (by simpa using h) fun i m' hm => k (i + 1) m' (by simpa using hm)
          obtain ⟨r', b, c⟩ := k 0 m (by simp)
          simp at b
          subst b
          simp [extras0] at *
          omega
    rw [this ms rs hl hg]
    omega
  by_cases h0 : spare t ms = 0
  · -- nothing to share
    have e1 : extras ms rs = List.replicate rs.length 1 := by rw [extras, if_pos (by rw [exs, h0])]
    have e2 : shares t ms rs = ms := by
      rw [shares, h0]
      apply List.ext_getElem?
      intro i
      rw [List.getElem?_zipWith]
      cases hm : ms[i]? with
      | none => simp
      | some m =>
        have hi : i < ms.length := (List.getElem?_eq_some_iff.mp hm).1
        have : (extras ms rs)[i]? = some 1 := by rw [e1, List.getElem?_replicate, if_pos (by omega)]
        rw [this]
        simp
    have e3 : rs = ms := by
      have z : (extras0 ms rs).sum = 0 := by rw [exs, h0]
      apply List.ext_getElem?
      intro i
      cases hm : ms[i]? with
      | none =>
        have : ms.length ≤ i := List.getElem?_eq_none_iff.mp hm
        exact List.getElem?_eq_none_iff.mpr (by omega)
      | some m =>
        obtain ⟨r, a, b⟩ := hg i m hm
        have c := ex i m r hm a
        have n0 : ∀ y ∈ extras0 ms rs, 0 ≤ y := by
          intro y hy
          rw [extras0] at hy
          obtain ⟨j, hj, rfl⟩ := List.mem_iff_getElem.mp hy
          rw [List.getElem_zipWith]
          omega
        have d := mem_sum_le n0 (List.mem_of_getElem? c)
        rw [a]
        congr 1
        omega
    rw [share, e2, h0, show (0 : Int) - (ms.sum - ms.sum) = 0 by omega, dist_zero, e3]
  · have e1 : extras ms rs = extras0 ms rs := by rw [extras, if_neg (by rw [exs]; exact h0)]
    have hp : 0 < spare t ms := by have := spare_nonneg t ms; omega
    have e2 : shares t ms rs = rs := by
      rw [shares, e1, exs]
      apply List.ext_getElem?
      intro i
      rw [List.getElem?_zipWith]
      cases hm : ms[i]? with
      | none =>
        have : ms.length ≤ i := List.getElem?_eq_none_iff.mp hm
        rw [List.getElem?_eq_none_iff.mpr (show rs.length ≤ i by omega)]
      | some m =>
        obtain ⟨r, a, b⟩ := hg i m hm
        rw [ex i m r hm a, a]
        simp only [Option.some.injEq]
        rw [Int.mul_ediv_cancel_left _ (by omega)]
        omega
    rw [share, e2, hs, show spare t ms - (ms.sum + spare t ms - ms.sum) = 0 by omega, dist_zero]
end Mp
namespace Mp
/-! ### fitted -/
mutual
def fitted : Lt → Int → Int → Lt
  | .pane i, _, _ => .pane i
  | .node d ps, w, h =>
    .node d (fittedL d (max w (leastN d (leastL ps)).1) (max h (leastN d (leastL ps)).2) ps
      (share (if d then max w (leastN d (leastL ps)).1 else max h (leastN d (leastL ps)).2) ((leastL ps).map (ax d)) (ps.map (·.2))))
def fittedL : Bool → Int → Int → List (Lt × Int) → List Int → List (Lt × Int)
  | d, w, h, (L, _) :: ps, s :: ss => (if d then fitted L s h else fitted L w s, s) :: fittedL d w h ps ss
  | _, _, _, [], _ => []
  | _, _, _, _ :: _, [] => []
end
/-- a part in the room of its node -/
def fit1 (d : Bool) (w h : Int) (L : Lt) (s : Int) : Lt := if d then fitted L s h else fitted L w s
theorem fittedL_eq (d : Bool) (w h : Int) : ∀ (ps : List (Lt × Int)) (ss : List Int), fittedL d w h ps ss = List.zipWith (fun p s => (fit1 d w h p.1 s, s)) ps ss
  | [], ss => by simp [fittedL]
  | _ :: _, [] => by simp [fittedL]
  | (L, x) :: ps, s :: ss => by rw [fittedL, fittedL_eq d w h ps ss]; rfl
/-- the room of a node -/
def roomW (d : Bool) (ps : List (Lt × Int)) (w : Int) : Int := max w (leastN d (leastL ps)).1
def roomH (d : Bool) (ps : List (Lt × Int)) (h : Int) : Int := max h (leastN d (leastL ps)).2
def newSizes (d : Bool) (ps : List (Lt × Int)) (w h : Int) : List Int := share (if d then roomW d ps w else roomH d ps h) ((leastL ps).map (ax d)) (ps.map (·.2))
theorem fitted_node (d : Bool) (ps : List (Lt × Int)) (w h : Int) :
    fitted (.node d ps) w h = .node d (List.zipWith (fun p s => (fit1 d (roomW d ps w) (roomH d ps h) p.1 s, s)) ps (newSizes d ps w h)) := by
  rw [fitted, fittedL_eq]; rfl
theorem newSizes_len (d : Bool) (ps : List (Lt × Int)) (w h : Int) : (newSizes d ps w h).length = ps.length := by
  rw [newSizes, share_len (by simp [leastL_eq])]; simp [leastL_eq]
theorem zip_fst {ps : List (Lt × Int)} {ss : List Int} (f : Lt → Int → Lt) (hl : ss.length = ps.length) (g : Lt → α) (h : ∀ p ∈ ps, ∀ s, g (f p.1 s) = g p.1) :
    (List.zipWith (fun p s => (f p.1 s, s)) ps ss).map (fun p => g p.1) = ps.map fun p => g p.1 := by
  induction ps generalizing ss with
  | nil => simp
  | cons p ps ih =>
    cases ss with
    | nil => simp at hl
    | cons s ss =>
      simp only [List.zipWith_cons_cons, List.map_cons]
      rw [ih (by simpa using hl) fun q hq => h q (List.mem_cons_of_mem _ hq), h p List.mem_cons_self]
theorem zip_snd {ps : List (Lt × Int)} {ss : List Int} (f : Lt → Int → Lt) (hl : ss.length = ps.length) :
    (List.zipWith (fun p s => (f p.1 s, s)) ps ss).map (·.2) = ss := by
  induction ps generalizing ss with
  | nil => cases ss <;> simp at *
  | cons p ps ih =>
    cases ss with
    | nil => simp at hl
    | cons s ss =>
      simp only [List.zipWith_cons_cons, List.map_cons]
      rw [ih (by simpa using hl)]
theorem panesL_map (ps : List (Lt × Int)) : panesL ps = (ps.map fun p => panes p.1).flatten := by
  induction ps with
  | nil => simp [panesL]
  | cons p ps ih => cases p; simp [panesL, ih]
theorem fitted_keeps (L : Lt) : ∀ w h, panes (fitted L w h) = panes L ∧ least (fitted L w h) = least L := by
  induction L using Lt.ind with
  | h1 i => intro w h; simp [fitted]
  | h2 d ps ih =>
    intro w h
    have f1 : ∀ p ∈ ps, ∀ s, panes (fit1 d (roomW d ps w) (roomH d ps h) p.1 s) = panes p.1 := fun p hp s => by
      unfold fit1; split
      · exact (ih p hp _ _).1
      · exact (ih p hp _ _).1
    have f2 : ∀ p ∈ ps, ∀ s, least (fit1 d (roomW d ps w) (roomH d ps h) p.1 s) = least p.1 := fun p hp s => by
      unfold fit1; split
      · exact (ih p hp _ _).2
      · exact (ih p hp _ _).2
    rw [fitted_node]
    refine ⟨?_, ?_⟩
    · rw [panes, panes, panesL_map, panesL_map, zip_fst _ (newSizes_len d ps w h) panes f1]
    · rw [least, least, leastL_eq, leastL_eq, zip_fst _ (newSizes_len d ps w h) least f2]
theorem fitted_dep : ∀ (n : Nat) (L : Lt) (w h : Int), Dep n L → Dep n (fitted L w h)
  | 0, _, _, _, k => k.elim
  | n + 1, .pane i, w, h, k => by rw [fitted]; exact k
  | n + 1, .node d ps, w, h, k => by
    rw [fitted_node]
    intro p hp
    obtain ⟨i, hi, rfl⟩ := List.mem_iff_getElem.mp hp
    rw [List.getElem_zipWith]
    have hm : ps[i]'(by simp at hi; omega) ∈ ps := List.getElem_mem _
    unfold fit1
    split
    · exact fitted_dep n _ _ _ (k _ hm)
    · exact fitted_dep n _ _ _ (k _ hm)
/-- a fitted layout fills a room -/
inductive Fit : Lt → Int → Int → Prop
  | pane (i w h : Int) : 2 ≤ w → 1 ≤ h → Fit (.pane i) w h
  | cols (ps : List (Lt × Int)) (w h : Int) : ps ≠ [] → (ps.map (·.2)).sum + ((ps.length : Int) - 1) = w → (∀ p ∈ ps, Fit p.1 p.2 h) → Fit (.node true ps) w h
  | rows (ps : List (Lt × Int)) (w h : Int) : ps ≠ [] → (ps.map (·.2)).sum + ((ps.length : Int) - 1) = h → (∀ p ∈ ps, Fit p.1 w p.2) → Fit (.node false ps) w h
theorem leastN_ax (d : Bool) (ls : List (Int × Int)) : ax d (leastN d ls) = (ls.map (ax d)).sum + ((ls.length : Int) - 1) := by
  cases d <;> simp [leastN, ax] <;> rfl
theorem leastN_off (d : Bool) (ls : List (Int × Int)) : ax (!d) (leastN d ls) = mxL (ls.map (ax (!d))) := by
  cases d <;> simp [leastN, ax] <;> rfl
theorem newSizes_ge {d : Bool} {ps : List (Lt × Int)} (w h : Int) (h1 : 1 ≤ ps.length) {i : Nat} {p : Lt × Int} (hp : ps[i]? = some p) : ∃ s, (newSizes d ps w h)[i]? = some s ∧ ax d (least p.1) ≤ s := by
  refine share_ge (by simp [leastL_eq]) (by simpa [leastL_eq] using h1) ?_
  rw [leastL_eq]
  simp [hp]
theorem newSizes_sum (d : Bool) (ps : List (Lt × Int)) (w h : Int) (h1 : 1 ≤ ps.length) : (newSizes d ps w h).sum + ((ps.length : Int) - 1) = if d then roomW d ps w else roomH d ps h := by
  have hl : ((leastL ps).map (ax d)).length = (ps.map (·.2)).length := by simp [leastL_eq]
  have hl2 : (((leastL ps).map (ax d)).length : Int) = ps.length := by simp [leastL_eq]
  have e := share_sum (t := if d then roomW d ps w else roomH d ps h) hl (by simpa [leastL_eq] using h1)
  have a := leastN_ax d (leastL ps)
  have b : ((leastL ps).map (ax d)).sum + ((((leastL ps).map (ax d)).length : Int) - 1) ≤ if d then roomW d ps w else roomH d ps h := by
    have : ((leastL ps).map (ax d)).sum + ((((leastL ps).map (ax d)).length : Int) - 1) = ax d (leastN d (leastL ps)) := by rw [a]; simp
    rw [this]
    cases d
    · simp [ax, roomH]; omega
    · simp [ax, roomW]; omega
  have c := spare_fit b
  rw [newSizes, e]
  rw [hl2] at c
  omega
theorem newSizes_bd {d : Bool} {ps : List (Lt × Int)} {w h : Int} (h1 : 1 ≤ ps.length) (hw : ∀ p ∈ ps, WF B p.1) (hr1 : roomW d ps w ≤ 100) (hr2 : roomH d ps h ≤ 100) : ∀ s ∈ newSizes d ps w h, 0 ≤ s ∧ s ≤ 100 := by
  have hlen := newSizes_len d ps w h
  have hsum := newSizes_sum d ps w h h1
  have nn : ∀ y ∈ newSizes d ps w h, 0 ≤ y := by
    intro y hy
    obtain ⟨j, hj, rfl⟩ := List.mem_iff_getElem.mp hy
    have hj' : j < ps.length := by omega
    obtain ⟨s, e1, e2⟩ := newSizes_ge (d := d) w h h1 (List.getElem?_eq_getElem hj')
    rw [List.getElem?_eq_getElem hj] at e1
    have e3 := Option.some.inj e1
    have b := least_bd (hw _ (List.getElem_mem hj'))
    have : 0 ≤ ax d (least ps[j].1) := by unfold ax; split <;> omega
    omega
  intro s hs
  have a := nn s hs
  have b := mem_sum_le nn hs
  refine ⟨a, ?_⟩
  split at hsum <;> omega
theorem fit_fitted (L : Lt) : WF B L → ∀ w h, (least L).1 ≤ w → (least L).2 ≤ h → Fit (fitted L w h) w h := by
  induction L using Lt.ind with
  | h1 i => intro _ w h a b; rw [fitted]; simp [least] at a b; exact .pane i w h a b
  | h2 d ps ih =>
    intro hwf w h a b
    cases hwf with
    | node _ _ h2 hw hs =>
      have ew : roomW d ps w = w := by rw [least] at a; unfold roomW; omega
      have eh : roomH d ps h = h := by rw [least] at b; unfold roomH; omega
      have hsum := newSizes_sum d ps w h (by omega)
      have hlen := newSizes_len d ps w h
      rw [fitted_node]
      rw [ew, eh] at hsum ⊢
      have ne : List.zipWith (fun p s => (fit1 d w h p.1 s, s)) ps (newSizes d ps w h) ≠ [] := by
        intro e
        have := congrArg List.length e
        simp [hlen] at this
        subst this
        simp at h2
      have esum : ((List.zipWith (fun p s => (fit1 d w h p.1 s, s)) ps (newSizes d ps w h)).map (·.2)).sum + (((List.zipWith (fun p s => (fit1 d w h p.1 s, s)) ps (newSizes d ps w h)).length : Int) - 1) = if d then w else h := by
        rw [zip_snd _ hlen, List.length_zipWith, hlen, Nat.min_self]
        exact hsum
      have low : ∀ p ∈ ps, ax (!d) (least p.1) ≤ ax (!d) (w, h) := by
        intro p hp
        have k := leastN_off d (leastL ps)
        have m : ax (!d) (least p.1) ≤ mxL ((leastL ps).map (ax (!d))) := le_mxL (by rw [leastL_eq, List.map_map]; exact List.mem_map.mpr ⟨p, hp, rfl⟩)
        rw [least] at a b
        cases d <;> simp [ax] at * <;> omega
      have each : ∀ q ∈ List.zipWith (fun p s => (fit1 d w h p.1 s, s)) ps (newSizes d ps w h), if d then Fit q.1 q.2 h else Fit q.1 w q.2 := by
        intro q hq
        obtain ⟨i, hi, rfl⟩ := List.mem_iff_getElem.mp hq
        rw [List.getElem_zipWith]
        have hi' : i < ps.length := by simp at hi; omega
        have hm : ps[i] ∈ ps := List.getElem_mem _
        obtain ⟨s, e1, e2⟩ := newSizes_ge (d := d) w h (by omega) (List.getElem?_eq_getElem hi')
        have e3 : (newSizes d ps w h)[i]'(by omega) = s := by
          rw [List.getElem?_eq_getElem (by omega)] at e1
          exact Option.some.inj e1
        rw [e3]
        have l := low _ hm
        have k := ih _ hm (hw _ hm)
        cases d
        · simp [fit1, ax] at *
          exact k _ _ l e2
        · simp [fit1, ax] at *
          exact k _ _ e2 l
      cases d
      · exact .rows _ _ _ ne (by simpa using esum) (by simpa using each)
      · exact .cols _ _ _ ne (by simpa using esum) (by simpa using each)
theorem fitted_again (L : Lt) : WF B L → ∀ w h, fitted (fitted L w h) w h = fitted L w h := by
  induction L using Lt.ind with
  | h1 i => intro _ w h; simp [fitted]
  | h2 d ps ih =>
    intro hwf w h
    cases hwf with
    | node _ _ h2 hw hs =>
      have hlen := newSizes_len d ps w h
      have kl : leastL (List.zipWith (fun p s => (fit1 d (roomW d ps w) (roomH d ps h) p.1 s, s)) ps (newSizes d ps w h)) = leastL ps := by
        rw [leastL_eq, leastL_eq, zip_fst _ hlen least]
        intro p hp s
        unfold fit1; split
        · exact (fitted_keeps _ _ _).2
        · exact (fitted_keeps _ _ _).2
      have kw : roomW d (List.zipWith (fun p s => (fit1 d (roomW d ps w) (roomH d ps h) p.1 s, s)) ps (newSizes d ps w h)) w = roomW d ps w := by
        show max w (leastN d (leastL (List.zipWith _ ps _))).1 = max w (leastN d (leastL ps)).1
        rw [kl]
      have kh : roomH d (List.zipWith (fun p s => (fit1 d (roomW d ps w) (roomH d ps h) p.1 s, s)) ps (newSizes d ps w h)) h = roomH d ps h := by
        show max h (leastN d (leastL (List.zipWith _ ps _))).2 = max h (leastN d (leastL ps)).2
        rw [kl]
      have ks : newSizes d (List.zipWith (fun p s => (fit1 d (roomW d ps w) (roomH d ps h) p.1 s, s)) ps (newSizes d ps w h)) w h = newSizes d ps w h := by
        rw [newSizes, kw, kh, kl, zip_snd _ hlen]
        exact share_again (by simp [leastL_eq]) (by simp [leastL_eq]; omega)
      rw [fitted_node, fitted_node, kw, kh, ks]
      congr 1
      apply List.ext_getElem
      · simp
      · intro i h1 h2'
        have hi' : i < ps.length := by simp at h1; omega
        have hm : ps[i] ∈ ps := List.getElem_mem _
        simp only [List.getElem_zipWith]
        congr 1
        unfold fit1
        split
        · exact ih _ hm (hw _ hm) _ _
        · exact ih _ hm (hw _ hm) _ _
/-- the sizes of a fitted layout -/
theorem wf_fitted (L : Lt) : WF B L → (least L).1 ≤ 100 → (least L).2 ≤ 100 → ∀ w h, w ≤ 100 → h ≤ 100 → WF 100 (fitted L w h) := by
  induction L using Lt.ind with
  | h1 i =>
    intro k _ _ w h _ _
    rw [fitted]
    cases k with
    | pane _ hi => exact .pane i hi
  | h2 d ps ih =>
    intro hwf l1 l2 w h hw1 hh1
    cases hwf with
    | node _ _ h2 hw hs =>
      have hlen := newSizes_len d ps w h
      have hsum := newSizes_sum d ps w h (by omega)
      have rw1 : roomW d ps w ≤ 100 := by rw [least] at l1; unfold roomW; omega
      have rh1 : roomH d ps h ≤ 100 := by rw [least] at l2; unfold roomH; omega
      have sz : ∀ i (hi : i < ps.length), ∃ s, (newSizes d ps w h)[i]? = some s ∧ ax d (least ps[i].1) ≤ s ∧ 0 ≤ s ∧ s ≤ 100 := by
        have nn : ∀ y ∈ newSizes d ps w h, 0 ≤ y := by
          intro y hy
          obtain ⟨j, hj, rfl⟩ := List.mem_iff_getElem.mp hy
          have hj' : j < ps.length := by omega
          obtain ⟨s, e1, e2⟩ := newSizes_ge (d := d) w h (by omega) (List.getElem?_eq_getElem hj')
          rw [List.getElem?_eq_getElem hj] at e1
          have e3 := Option.some.inj e1
          have b := least_bd (hw _ (List.getElem_mem hj'))
          have : 0 ≤ ax d (least ps[j].1) := by unfold ax; split <;> omega
          omega
        intro i hi
        obtain ⟨s, e1, e2⟩ := newSizes_ge (d := d) w h (by omega) (List.getElem?_eq_getElem hi)
        have m := List.mem_of_getElem? e1
        have a := nn s m
        have b := mem_sum_le nn m
        refine ⟨s, e1, e2, a, ?_⟩
        split at hsum <;> omega
      have lowp : ∀ p ∈ ps, (least p.1).1 ≤ 100 ∧ (least p.1).2 ≤ 100 := by
        intro p hp
        have k1 := leastN_off d (leastL ps)
        have m : ax (!d) (least p.1) ≤ mxL ((leastL ps).map (ax (!d))) := le_mxL (by rw [leastL_eq, List.map_map]; exact List.mem_map.mpr ⟨p, hp, rfl⟩)
        obtain ⟨i, hi, rfl⟩ := List.mem_iff_getElem.mp hp
        obtain ⟨s, _, c, _, e⟩ := sz i hi
        rw [least] at l1 l2
        cases d <;> simp [ax] at * <;> omega
      rw [fitted_node]
      refine .node d _ (by simp [hlen]; omega) ?_ ?_
      · intro q hq
        obtain ⟨i, hi, rfl⟩ := List.mem_iff_getElem.mp hq
        rw [List.getElem_zipWith]
        have hi' : i < ps.length := by simp at hi; omega
        have hm : ps[i] ∈ ps := List.getElem_mem _
        obtain ⟨s, e1, _, _, e2⟩ := sz i hi'
        have e3 : (newSizes d ps w h)[i]'(by omega) = s := by
          rw [List.getElem?_eq_getElem (by omega)] at e1
          exact Option.some.inj e1
        rw [e3]
        have l := lowp _ hm
        show WF 100 (fit1 _ _ _ _ _)
        unfold fit1
        split
        · exact ih _ hm (hw _ hm) l.1 l.2 _ _ e2 rh1
        · exact ih _ hm (hw _ hm) l.1 l.2 _ _ rw1 e2
      · intro q hq
        obtain ⟨i, hi, rfl⟩ := List.mem_iff_getElem.mp hq
        rw [List.getElem_zipWith]
        have hi' : i < ps.length := by simp at hi; omega
        obtain ⟨s, e1, _, e0, e2⟩ := sz i hi'
        have e3 : (newSizes d ps w h)[i]'(by omega) = s := by
          rw [List.getElem?_eq_getElem (by omega)] at e1
          exact Option.some.inj e1
        show -100 ≤ (newSizes d ps w h)[i]'_ ∧ (newSizes d ps w h)[i]'_ ≤ 100
        rw [e3]
        omega
end Mp
namespace Mp
/-! ### boxes -/
/-- a pane's box: pane, row, column, width, height -/
structure Box where
  pane : Int
  row : Int
  col : Int
  wide : Int
  high : Int
mutual
def placed : Lt → Int → Int → Int → Int → List Box
  | .pane i, r, c, w, h => [⟨i, r, c, w, h⟩]
  | .node d ps, r, c, w, h => placedL d ps r c w h
def placedL : Bool → List (Lt × Int) → Int → Int → Int → Int → List Box
  | _, [], _, _, _, _ => []
  | true, (L, s) :: ps, r, c, w, h => placed L r c s h ++ placedL true ps r (c + (s + 1)) w h
  | false, (L, s) :: ps, r, c, w, h => placed L r c w s ++ placedL false ps (r + (s + 1)) c w h
end
theorem placed_panes (L : Lt) : ∀ r c w h, (placed L r c w h).map (·.pane) = panes L := by
  induction L using Lt.ind with
  | h1 i => intro r c w h; simp [placed, panes]
  | h2 d ps ih =>
    intro r c w h
    rw [placed, panes]
    have key : ∀ (qs : List (Lt × Int)), (∀ p ∈ qs, p ∈ ps) → ∀ r c, (placedL d qs r c w h).map (·.pane) = panesL qs := by
      intro qs
      induction qs with
      | nil => intro _ r c; simp [placedL, panesL]
      | cons p qs ih2 =>
        intro hq r c
        have a := ih p (hq p List.mem_cons_self)
        have b := ih2 fun q hm => hq q (List.mem_cons_of_mem _ hm)
        cases p
        cases d
        · rw [placedL, List.map_append, a, b, panesL]
        · rw [placedL, List.map_append, a, b, panesL]
    exact key ps (fun _ h => h) r c
def Covers (b : Box) (i j : Int) : Prop := b.row ≤ i ∧ i < b.row + b.high ∧ b.col ≤ j ∧ j < b.col + b.wide
instance (b : Box) (i j : Int) : Decidable (Covers b i j) := by unfold Covers; infer_instance
def val : List Box → Int → Int → Int
  | [], _, _ => 0
  | b :: bs, i, j => if Covers b i j then b.pane else val bs i j
theorem val_zero {bs : List Box} {i j : Int} (h : ∀ b ∈ bs, ¬ Covers b i j) : val bs i j = 0 := by
  induction bs with
  | nil => rfl
  | cons b bs ih => rw [val, if_neg (h b List.mem_cons_self), ih fun q hq => h q (List.mem_cons_of_mem _ hq)]
theorem val_right {as bs : List Box} {i j : Int} (h : ∀ b ∈ as, ¬ Covers b i j) : val (as ++ bs) i j = val bs i j := by
  induction as with
  | nil => rfl
  | cons b as ih => rw [List.cons_append, val, if_neg (h b List.mem_cons_self), ih fun q hq => h q (List.mem_cons_of_mem _ hq)]
theorem val_left {as bs : List Box} {i j : Int} (h : ∀ b ∈ bs, ¬ Covers b i j) : val (as ++ bs) i j = val as i j := by
  induction as with
  | nil => exact val_zero h
  | cons b as ih => rw [List.cons_append, val, val, ih]
/-- the borders are as the document says, in the room with its corner at r, c -/
structure Cond (f : Int → Int → Int) (r c w h : Int) : Prop where
  hadj : ∀ i j, r ≤ i → i < r + h → c ≤ j → j + 1 < c + w → f i j ≠ 0 → f i (j + 1) ≠ 0 → f i (j + 1) = f i j
  vadj : ∀ i j, r ≤ i → i + 1 < r + h → c ≤ j → j < c + w → f i j ≠ 0 → f (i + 1) j ≠ 0 → f (i + 1) j = f i j
  tb : ∀ i j, r ≤ i → i < r + h → c ≤ j → j < c + w → f i j = 0 → (i = r ∨ i = r + h - 1) → c < j ∧ j + 1 < c + w ∧ f i (j - 1) ≠ 0 ∧ f i (j + 1) ≠ 0
  lr : ∀ i j, r ≤ i → i < r + h → c ≤ j → j < c + w → f i j = 0 → (j = c ∨ j = c + w - 1) → r < i ∧ i + 1 < r + h ∧ f (i - 1) j ≠ 0 ∧ f (i + 1) j ≠ 0
  blk : ∀ i j, r ≤ i → i + 1 < r + h → c ≤ j → j + 1 < c + w → f i j = 0 → f (i + 1) j = 0 → f i (j + 1) = 0 → f (i + 1) (j + 1) ≠ 0
theorem Cond.congr {f g : Int → Int → Int} {r c w h : Int} (k : Cond f r c w h) (e : ∀ i j, r ≤ i → i < r + h → c ≤ j → j < c + w → g i j = f i j) : Cond g r c w h where
  hadj := fun i j a b c' d x y => by
    rw [e i j (by omega) (by omega) (by omega) (by omega)] at *
    rw [e i (j + 1) (by omega) (by omega) (by omega) (by omega)] at *
    exact k.hadj i j a b c' d x y
  vadj := fun i j a b c' d x y => by
    rw [e i j (by omega) (by omega) (by omega) (by omega)] at *
    rw [e (i + 1) j (by omega) (by omega) (by omega) (by omega)] at *
    exact k.vadj i j a b c' d x y
  tb := fun i j a b c' d x y => by
    rw [e i j (by omega) (by omega) (by omega) (by omega)] at x
    obtain ⟨p, q, s, t⟩ := k.tb i j a b c' d x y
    rw [e i (j - 1) (by omega) (by omega) (by omega) (by omega), e i (j + 1) (by omega) (by omega) (by omega) (by omega)]
    exact ⟨p, q, s, t⟩
  lr := fun i j a b c' d x y => by
    rw [e i j (by omega) (by omega) (by omega) (by omega)] at x
    obtain ⟨p, q, s, t⟩ := k.lr i j a b c' d x y
    rw [e (i - 1) j (by omega) (by omega) (by omega) (by omega), e (i + 1) j (by omega) (by omega) (by omega) (by omega)]
    exact ⟨p, q, s, t⟩
  blk := fun i j a b c' d x y z => by
    rw [e i j (by omega) (by omega) (by omega) (by omega)] at x
    rw [e (i + 1) j (by omega) (by omega) (by omega) (by omega)] at y
    rw [e i (j + 1) (by omega) (by omega) (by omega) (by omega)] at z
    rw [e (i + 1) (j + 1) (by omega) (by omega) (by omega) (by omega)]
    exact k.blk i j a b c' d x y z
theorem Cond.swap {f : Int → Int → Int} {r c w h : Int} (k : Cond f r c w h) : Cond (fun i j => f j i) c r h w where
  hadj := fun i j a b c' d x y => k.vadj j i c' d a b x y
  vadj := fun i j a b c' d x y => k.hadj j i c' d a b x y
  tb := fun i j a b c' d x y => k.lr j i c' d a b x y
  lr := fun i j a b c' d x y => k.tb j i c' d a b x y
  blk := fun i j a b c' d x y z => k.blk j i c' d a b x z y
/-- two rooms beside each other, a border between them -/
theorem Cond.join {f : Int → Int → Int} {r c w1 w2 h : Int} (k1 : Cond f r c w1 h) (k2 : Cond f r (c + (w1 + 1)) w2 h) (b : ∀ i, r ≤ i → i < r + h → f i (c + w1) = 0) (hw1 : 1 ≤ w1) (hw2 : 1 ≤ w2) : Cond f r c (w1 + 1 + w2) h where
  hadj := fun i j a b' c' d x y => by
    by_cases q : j + 1 < c + w1
    · exact k1.hadj i j a b' c' q x y
    · by_cases q2 : c + (w1 + 1) ≤ j
      · exact k2.hadj i j a b' q2 (by omega) x y
      · by_cases q3 : j = c + w1
        · subst q3; exact absurd (b i a b') x
        · have : j + 1 = c + w1 := by omega
          rw [this] at y
          exact absurd (b i a b') y
  vadj := fun i j a b' c' d x y => by
    by_cases q : j < c + w1
    · exact k1.vadj i j a b' c' q x y
    · by_cases q2 : c + (w1 + 1) ≤ j
      · exact k2.vadj i j a b' q2 (by omega) x y
      · have : j = c + w1 := by omega
        subst this; exact absurd (b i a (by omega)) x
  tb := fun i j a b' c' d x y => by
    by_cases q : j < c + w1
    · obtain ⟨p1, p2, p3, p4⟩ := k1.tb i j a b' c' q x y
      exact ⟨p1, by omega, p3, p4⟩
    · by_cases q2 : c + (w1 + 1) ≤ j
      · obtain ⟨p1, p2, p3, p4⟩ := k2.tb i j a b' q2 (by omega) x y
        exact ⟨by omega, by omega, p3, p4⟩
      · have e : j = c + w1 := by omega
        refine ⟨by omega, by omega, fun z => ?_, fun z => ?_⟩
        · have := (k1.tb i (j - 1) a b' (by omega) (by omega) z y).2.1
          omega
        · have := (k2.tb i (j + 1) a b' (by omega) (by omega) z y).1
          omega
  lr := fun i j a b' c' d x y => by
    rcases y with y | y
    · exact k1.lr i j a b' c' (by omega) x (.inl y)
    · exact k2.lr i j a b' (by omega) (by omega) x (.inr (by omega))
  blk := fun i j a b' c' d x y z t => by
    by_cases q : j + 1 < c + w1
    · exact k1.blk i j a b' c' q x y z t
    · by_cases q2 : c + (w1 + 1) ≤ j
      · exact k2.blk i j a b' q2 (by omega) x y z t
      · by_cases q3 : j = c + w1
        · have := (k2.lr i (j + 1) a (by omega) (by omega) (by omega) z (.inl (by omega))).2.2.2
          exact this t
        · have := (k1.lr i j a (by omega) (by omega) (by omega) x (.inr (by omega))).2.2.2
          exact this y
/-- a box lies in a room and has room -/
def Ins (b : Box) (r c w h : Int) : Prop := r ≤ b.row ∧ b.row + b.high ≤ r + h ∧ c ≤ b.col ∧ b.col + b.wide ≤ c + w ∧ 2 ≤ b.wide ∧ 1 ≤ b.high ∧ 0 < b.pane
def Apart (a b : Box) : Prop := ∀ i j, Covers a i j → ¬ Covers b i j
structure Tiles (bs : List Box) (r c w h : Int) : Prop where
  ins : ∀ b ∈ bs, Ins b r c w h
  apart : bs.Pairwise Apart
  cond : Cond (val bs) r c w h
  w2 : 2 ≤ w
  h1 : 1 ≤ h
theorem Tiles.one {i r c w h : Int} (hi : 0 < i) (hw : 2 ≤ w) (hh : 1 ≤ h) : Tiles [⟨i, r, c, w, h⟩] r c w h := by
  have v : ∀ a b, r ≤ a → a < r + h → c ≤ b → b < c + w → val [⟨i, r, c, w, h⟩] a b = i := fun a b h1 h2 h3 h4 => by
    rw [val, if_pos ⟨h1, h2, h3, h4⟩]
  refine ⟨?_, by simp, ⟨?_, ?_, ?_, ?_, ?_⟩, hw, hh⟩
  · intro b hb
    have : b = ⟨i, r, c, w, h⟩ := by simpa using hb
    subst this
    exact ⟨Int.le_refl _, Int.le_refl _, Int.le_refl _, Int.le_refl _, hw, hh, hi⟩
  · intro a b h1 h2 h3 h4 _ _
    rw [v _ _ (by omega) (by omega) (by omega) (by omega), v _ _ (by omega) (by omega) (by omega) (by omega)]
  · intro a b h1 h2 h3 h4 _ _
    rw [v _ _ (by omega) (by omega) (by omega) (by omega), v _ _ (by omega) (by omega) (by omega) (by omega)]
  · intro a b h1 h2 h3 h4 h5
    rw [v _ _ (by omega) (by omega) (by omega) (by omega)] at h5
    omega
  · intro a b h1 h2 h3 h4 h5
    rw [v _ _ (by omega) (by omega) (by omega) (by omega)] at h5
    omega
  · intro a b h1 h2 h3 h4 h5
    rw [v _ _ (by omega) (by omega) (by omega) (by omega)] at h5
    omega
/-- two rooms beside each other -/
theorem Tiles.cols {as bs : List Box} {r c w1 w2 h : Int} (k1 : Tiles as r c w1 h) (k2 : Tiles bs r (c + (w1 + 1)) w2 h) : Tiles (as ++ bs) r c (w1 + 1 + w2) h := by
  have a1 := k1.w2
  have a2 := k2.w2
  have offA : ∀ i j, c + w1 ≤ j → ∀ b ∈ as, ¬ Covers b i j := fun i j hj b hb q => by
    have := k1.ins b hb
    unfold Ins at this
    unfold Covers at q
    omega
  have offB : ∀ i j, j ≤ c + w1 → ∀ b ∈ bs, ¬ Covers b i j := fun i j hj b hb q => by
    have := k2.ins b hb
    unfold Ins at this
    unfold Covers at q
    omega
  refine ⟨?_, ?_, ?_, by omega, k1.h1⟩
  · intro b hb
    rcases List.mem_append.mp hb with q | q
    · have := k1.ins b q; unfold Ins at *; omega
    · have := k2.ins b q; unfold Ins at *; omega
  · refine List.pairwise_append.mpr ⟨k1.apart, k2.apart, fun a ha b hb i j qa qb => ?_⟩
    have x := k1.ins a ha
    have y := k2.ins b hb
    unfold Ins at x y
    unfold Covers at qa qb
    omega
  · refine Cond.join (k1.cond.congr fun i j h1 h2 h3 h4 => val_left (offB i j (by omega))) (k2.cond.congr fun i j h1 h2 h3 h4 => val_right (offA i j (by omega))) (fun i h1 h2 => ?_) (by omega) (by omega)
    rw [val_left (offB i _ (by omega)), val_zero (offA i _ (by omega))]
theorem Tiles.rows {as bs : List Box} {r c w h1 h2 : Int} (k1 : Tiles as r c w h1) (k2 : Tiles bs (r + (h1 + 1)) c w h2) : Tiles (as ++ bs) r c w (h1 + 1 + h2) := by
  have a1 := k1.h1
  have a2 := k2.h1
  have offA : ∀ i j, r + h1 ≤ i → ∀ b ∈ as, ¬ Covers b i j := fun i j hj b hb q => by
    have := k1.ins b hb
    unfold Ins at this
    unfold Covers at q
    omega
  have offB : ∀ i j, i ≤ r + h1 → ∀ b ∈ bs, ¬ Covers b i j := fun i j hj b hb q => by
    have := k2.ins b hb
    unfold Ins at this
    unfold Covers at q
    omega
  refine ⟨?_, ?_, ?_, k1.w2, by omega⟩
  · intro b hb
    rcases List.mem_append.mp hb with q | q
    · have := k1.ins b q; unfold Ins at *; omega
    · have := k2.ins b q; unfold Ins at *; omega
  · refine List.pairwise_append.mpr ⟨k1.apart, k2.apart, fun a ha b hb i j qa qb => ?_⟩
    have x := k1.ins a ha
    have y := k2.ins b hb
    unfold Ins at x y
    unfold Covers at qa qb
    omega
  · have q1 : Cond (val (as ++ bs)) r c w h1 := k1.cond.congr fun i j h1 h2 h3 h4 => val_left (offB i j (by omega))
    have q2 : Cond (val (as ++ bs)) (r + (h1 + 1)) c w h2 := k2.cond.congr fun i j h1 h2 h3 h4 => val_right (offA i j (by omega))
    exact (Cond.join q1.swap q2.swap (fun i h1 h2 => by
      show val (as ++ bs) _ i = 0
      rw [val_left (offB _ i (by omega)), val_zero (offA _ i (by omega))]) (by omega) (by omega)).swap
theorem tiles_of (L : Lt) : WF B L → ∀ r c w h, Fit L w h → Tiles (placed L r c w h) r c w h := by
  induction L using Lt.ind with
  | h1 i =>
    intro hwf r c w h hf
    cases hwf with
    | pane _ hi =>
      cases hf with
      | pane _ _ _ a b => rw [placed]; exact .one hi a b
  | h2 d ps ih =>
    intro hwf r c w h hf
    cases hwf with
    | node _ _ _ hw _ =>
      rw [placed]
      cases hf with
      | cols _ _ _ ne hs hp =>
        have key : ∀ (qs : List (Lt × Int)), qs ≠ [] → (∀ p ∈ qs, p ∈ ps) → ∀ c, Tiles (placedL true qs r c w h) r c ((qs.map (·.2)).sum + ((qs.length : Int) - 1)) h := by
          intro qs
          induction qs with
          | nil => intro h; exact absurd rfl h
          | cons p qs ih2 =>
            intro _ hq c
            have hm := hq p List.mem_cons_self
            have a := ih p hm (hw p hm) r c p.2 h (hp p hm)
            obtain ⟨L, s⟩ := p
            rw [placedL]
            by_cases e : qs = []
            · subst e
              simpa [placedL] using a
            · have b := ih2 e (fun q hm => hq q (List.mem_cons_of_mem _ hm)) (c + (s + 1))
              have t := Tiles.cols a b
              have z : ((L, s) :: qs).map (·.2) = s :: qs.map (·.2) := rfl
              rw [z, List.sum_cons, List.length_cons]
              have z2 : s + 1 + ((qs.map (·.2)).sum + ((qs.length : Int) - 1)) = s + (qs.map (·.2)).sum + (((qs.length + 1 : Nat) : Int) - 1) := by omega
              rw [← z2]
              exact t
        have t := key ps ne (fun _ h => h) c
        rw [hs] at t
        exact t
      | rows _ _ _ ne hs hp =>
        have key : ∀ (qs : List (Lt × Int)), qs ≠ [] → (∀ p ∈ qs, p ∈ ps) → ∀ r, Tiles (placedL false qs r c w h) r c w ((qs.map (·.2)).sum + ((qs.length : Int) - 1)) := by
          intro qs
          induction qs with
          | nil => intro h; exact absurd rfl h
          | cons p qs ih2 =>
            intro _ hq r
            have hm := hq p List.mem_cons_self
            have a := ih p hm (hw p hm) r c w p.2 (hp p hm)
            obtain ⟨L, s⟩ := p
            rw [placedL]
            by_cases e : qs = []
            · subst e
              simpa [placedL] using a
            · have b := ih2 e (fun q hm => hq q (List.mem_cons_of_mem _ hm)) (r + (s + 1))
              have t := Tiles.rows a b
              have z : ((L, s) :: qs).map (·.2) = s :: qs.map (·.2) := rfl
              rw [z, List.sum_cons, List.length_cons]
              have z2 : s + 1 + ((qs.map (·.2)).sum + ((qs.length : Int) - 1)) = s + (qs.map (·.2)).sum + (((qs.length + 1 : Nat) : Int) - 1) := by omega
              rw [← z2]
              exact t
        have t := key ps ne (fun _ h => h) r
        rw [hs] at t
        exact t
/-! ### the whole -/
/-- a layout as the law carries it: at most 16 panes, each once -/
structure Good (L : Lt) : Prop where
  wf : WF 1000 L
  few : (panes L).length ≤ 16
  nd : (panes L).Nodup
theorem Good.low {L : Lt} (g : Good L) : (least L).1 ≤ 47 ∧ (least L).2 ≤ 31 ∧ 2 ≤ (least L).1 ∧ 1 ≤ (least L).2 := by
  have := least_bd g.wf
  have := g.few
  omega
theorem Good.dep {L : Lt} (g : Good L) : Dep 16 L := dep_of g.wf g.few
theorem Good.fitted {L : Lt} (g : Good L) {w h : Int} (hw : w ≤ 100) (hh : h ≤ 100) : Good (fitted L w h) := by
  have l := g.low
  refine ⟨(wf_fitted L g.wf (by omega) (by omega) w h hw hh).mono (by omega), ?_, ?_⟩
  · rw [(fitted_keeps L w h).1]; exact g.few
  · rw [(fitted_keeps L w h).1]; exact g.nd
/-- the boxes of the whole -/
def boxes (L : Lt) (w h : Int) : List Box := placed (fitted L w h) 0 0 (max w (least L).1) (max h (least L).2)
theorem fitted_max (L : Lt) (w h : Int) : fitted L (max w (least L).1) (max h (least L).2) = fitted L w h := by
  cases L with
  | pane i => simp [fitted]
  | node d ps =>
    rw [fitted_node, fitted_node]
    have e1 : roomW d ps (max w (least (.node d ps)).1) = roomW d ps w := by rw [least]; unfold roomW; omega
    have e2 : roomH d ps (max h (least (.node d ps)).2) = roomH d ps h := by rw [least]; unfold roomH; omega
    rw [newSizes, newSizes, e1, e2]
theorem boxes_tile {L : Lt} (g : Good L) {w h : Int} (hw : w ≤ 100) (hh : h ≤ 100) : Tiles (boxes L w h) 0 0 (max w (least L).1) (max h (least L).2) := by
  have a := fit_fitted L g.wf (max w (least L).1) (max h (least L).2) (by omega) (by omega)
  rw [fitted_max] at a
  exact tiles_of _ (g.fitted hw hh).wf 0 0 _ _ a
theorem boxes_panes (L : Lt) (w h : Int) : (boxes L w h).map (·.pane) = panes L := by
  rw [boxes, placed_panes, (fitted_keeps L w h).1]
theorem boxes_one {L : Lt} (g : Good L) {w h : Int} (h1 : (boxes L w h).length = 1) : ∃ i, boxes L w h = [⟨i, 0, 0, max w (least L).1, max h (least L).2⟩] := by
  have e := congrArg List.length (boxes_panes L w h)
  rw [List.length_map, h1] at e
  cases L with
  | pane i => exact ⟨i, by rw [boxes, fitted, placed]⟩
  | node d ps =>
    have hwf := g.wf
    cases hwf with
    | node _ _ h2 hw _ =>
      have := panesL_len hw
      rw [panes] at e
      omega
end Mp
namespace Mp
open PySem L2
/-- the i-th statement of the program's top -/
def top (i : Nat) : Stmt := PySem.Challenge.pw_manypanes_k25_whole_layouts_tile_the_are.main.body.getD i (.Pass ⟨0, 0, 0, 0⟩)
abbrev sPanes : Stmt := top 7
abbrev sAxis : Stmt := top 8
abbrev sLeast : Stmt := top 9
abbrev sShare : Stmt := top 10
abbrev sFitted : Stmt := top 11
abbrev sPlaced : Stmt := top 12
abbrev sWhole : Stmt := top 13
abbrev sBoxes : Stmt := top 14
abbrev sSizeOf : Stmt := top 15
abbrev sWithNew : Stmt := top 16
abbrev sDivided : Stmt := top 17
abbrev sDropped : Stmt := top 18
abbrev sTakenOut : Stmt := top 19
abbrev sWithout : Stmt := top 20
abbrev sShifted : Stmt := top 21
abbrev sWithBorder : Stmt := top 22
abbrev sMoved : Stmt := top 23
abbrev sCell : Stmt := top 25
abbrev sStep : Stmt := top 28
abbrev sSheet : Stmt := top 29
abbrev sBorders : Stmt := top 30
abbrev sLaw : Stmt := top 31
/-- a def of the top: where it stands, how it is called -/
structure Df (K : PySem.W.Frag) (mg : Str → Option Value) (x : Str) (st : Stmt) (ps : List Str) : Prop where
  ex : ∃ f fd, mg x = some (.ref f) ∧ Fun K x x st f fd ∧ Binds K fd ps []
  raw : ∃ f fd, mg x = some (.ref f) ∧ Fun K x x st f fd ∧ ∀ us : List Value, us.length = ps.length → bindArgs fd ⟨us, []⟩ = pure (ps.zip us)
theorem df_mk {K : PySem.W.Frag} {mg : Str → Option Value} {x : Str} {st : Stmt} {ps : List Str} {f : Addr} {fd : FuncData} (m : mg x = some (.ref f)) (F : Fun K x x st f fd)
    (h : ∀ (kV doc pm : Value) (an : Option Addr) (cdv ct : Value) (us : List Value), us.length = ps.length → bindArgs (PySem.W.fnOf x x (defArgs st) (defBody st) (defScope st) .none kV doc pm an cdv ct) ⟨us, []⟩ = pure (ps.zip us)) : Df K mg x st ps :=
  ⟨⟨f, fd, m, F, F.binds h⟩, ⟨f, fd, m, F, by obtain ⟨oc, od, kV, doc, pm, an, cdv, ct, osl, rfl, lk, hcd⟩ := F.ex; exact h kV doc pm an cdv ct⟩⟩
/-- NoRoom's class, at C -/
structure RoomC (K : PySem.W.Frag) (mg : Str → Option Value) (C : Addr) : Prop where
  gC : mg "NoRoom" = some (.ref C)
  xC : PySem.W.excIn K C [.type "ValueError", .type "Exception", .type "BaseException", .type "object"] "ValueError.__new__" = true
  kC : PySem.W.keepIn K (.ref C) = true
  eC : PySem.W.subIn K (.ref C) (.type "BaseException") = some true
  tC : PySem.W.typeIn K (.ref C) = some (.type "type")
  me : PySem.W.exmOne K (.ref C) (.ref C) = some true
/-- an error of the class at S is one that a clause over S takes -/
theorem exm_me {K : PySem.W.Frag} {S : Addr} (h1 : PySem.W.subIn K (.ref S) (.type "BaseException") = some true) (h2 : PySem.W.isClsIn K S = true) (h3 : PySem.W.typeIn K (.ref S) = some (.type "type")) (h4 : PySem.W.subIn K (.ref S) (.ref S) = some true) :
    PySem.W.exmOne K (.ref S) (.ref S) = some true := by
  unfold PySem.W.exmOne
  rw [if_pos (by rw [h1]; rfl)]
  unfold PySem.W.kitCls
  have h2' : (PySem.W.clsIn K S).isSome = true := h2
  simp only [h2', h3, h4]
  rfl
/-- what the walk asks of the top as it stands -/
structure Txt (K : PySem.W.Frag) (w : World) (mg : Str → Option Value) : Prop where
  dPanes : Df K mg "panes" sPanes ["layout"]
  dAxis : Df K mg "axis_of" sAxis ["direction"]
  dLeast : Df K mg "least" sLeast ["layout"]
  dShare : Df K mg "share" sShare ["total", "smallest", "sizes"]
  dFitted : Df K mg "fitted" sFitted ["layout", "width", "height"]
  dPlaced : Df K mg "placed" sPlaced ["layout", "row", "column", "width", "height"]
  dWhole : Df K mg "placed_whole" sWhole ["layout", "width", "height"]
  dBoxes : Df K mg "boxes" sBoxes ["layout", "width", "height"]
  dSizeOf : Df K mg "size_of" sSizeOf ["layout", "width", "height", "pane", "axis"]
  dWithNew : Df K mg "with_new" sWithNew ["layout", "pane", "direction", "new", "size"]
  dDivided : Df K mg "divided" sDivided ["layout", "width", "height", "pane", "direction", "new"]
  dDropped : Df K mg "dropped" sDropped ["parts", "index"]
  dTakenOut : Df K mg "taken_out" sTakenOut ["layout", "pane"]
  dWithout : Df K mg "without" sWithout ["layout", "width", "height", "pane"]
  dShifted : Df K mg "shifted" sShifted ["parts", "index", "axis", "amount"]
  dWithBorder : Df K mg "with_border" sWithBorder ["layout", "pane", "direction", "amount"]
  dMoved : Df K mg "moved" sMoved ["layout", "width", "height", "pane", "direction", "amount"]
  dCell : Df K mg "_law_cell" sCell ["_law_script", "_law_k"]
  dStep : Df K mg "_law_step" sStep ["_law_layout", "_law_w", "_law_h", "_law_cell_here", "_law_new"]
  dSheet : Df K mg "_law_sheet" sSheet ["_law_told", "_law_w", "_law_h"]
  dBorders : Df K mg "_law_borders_right" sBorders ["_law_sheet_here", "_law_w", "_law_h"]
  dLaw : Df K mg "law" sLaw ["_law_script"]
  f_isinstance : mg "isinstance" = none
  f_int : mg "int" = none
  f_len : mg "len" = none
  f_zip : mg "zip" = none
  f_enumerate : mg "enumerate" = none
  f_max : mg "max" = none
  f_min : mg "min" = none
  f_sum : mg "sum" = none
  f_tuple : mg "tuple" = none
  f_range : mg "range" = none
  f_sorted : mg "sorted" = none
  cBeside : ∃ t, mg "BESIDE" = some (.str "beside" t)
  cPane : ∃ a, mg "LEAST_PANE" = some (.ref a) ∧ ∀ H, SqT K H a [.int 2, .int 1]
  cSplit : ∃ a, mg "LEAST_SPLIT" = some (.ref a) ∧ KDct K w a "beside" (.int 5) ∧ KDct K w a "below" (.int 3)
  cRoom : ∃ C, RoomC K mg C
end Mp
namespace Mp
open PySem L2 PyProof.Rows
/-! ### rules that the layer lacks -/
/-- xs[i] by an index from 0 on, as the augmented store reads it -/
def rGetL (K : PySem.W.Frag) : V → V → Hp → VK → Prop := fun o i H Q => ∃ (p : Addr) (xs : List V) (k : Int) (v : V), o = .ref p ∧ i = .int k ∧ SqL K H p xs ∧ 0 ≤ k ∧ xs[k.toNat]? = some v ∧ Q v H
theorem get_list {X : Cx} : PGet X (rGetL X.K) := by
  intro pins s σ H o i ov iv Q I ro ri h
  obtain ⟨p, xs, k, v, rfl, rfl, hq, h0, hv, q⟩ := h
  cases ro
  obtain ⟨t, rfl⟩ := ri
  obtain ⟨its, r, pl, hz⟩ := I.list hq
  obtain ⟨u, eu, ru⟩ := r.get hv
  have hk : k.toNat < xs.length := (List.getElem?_eq_some_iff.mp hv).1
  have hn : sizeLine < 2 ^ 63 := by decide
  exact wpAny_getItem_list pl.isList h0 (by omega) (by simpa using eu) ⟨v, H, I, ru, q⟩
/-- a op1 b op2 c op3 d as a test: four operands -/
def tChain3 (r1 r2 r3 : R2) (ta tb tc td : TE) : TT := fun σ H Q => ta σ H fun x H1 => tb σ H1 fun y H2 => r1 x y H2 fun z1 H3 => ∃ k1, z1 = .bl k1 ∧
  if k1 = true then tc σ H3 fun z H4 => r2 y z H4 fun z2 H5 => ∃ k2, z2 = .bl k2 ∧
    if k2 = true then td σ H5 fun t H6 => r3 z t H6 fun z3 H7 => ∃ k3, z3 = .bl k3 ∧ Q k3 H7 else Q false H5 else Q false H3
theorem pt_chain3 {X : Cx} {a b c d : Expr} {ta tb tc td : TE} {pos : Pos} {o1 o2 o3 : CmpOp} {r1 r2 r3 : R2} (h1 : OpR X (compareOp o1) r1) (h2 : OpR X (compareOp o2) r2) (h3 : OpR X (compareOp o3) r3)
    (ha : PE X a ta) (hb : PE X b tb) (hc : PE X c tc) (hd : PE X d td) (hm : lastMarks [o1, o2, o3] [b, c, d] = false := by with_unfolding_all rfl) :
    PT X (.Compare a [o1, o2, o3] [b, c, d] pos) (tChain3 r1 r2 r3 ta tb tc td) := by
  refine ⟨fun pins s σ H Q I h => ?_⟩
  refine isTrue_chain (thn (ha.run pins s σ H _ I h) fun v s1 ⟨x, H1, I1, q1, p1⟩ => test_link (thn (hb.run pins s1 σ H1 _ I1 p1) fun u s2 ⟨y, H2, I2, q2, p2⟩ =>
    thn (h1 pins s2 σ H2 x y v u _ I2 q1 q2 p2) fun e s3 ⟨z, H3, I3, q3, k, ek, p3⟩ => ?_)) hm
  subst ek
  cases q3
  refine wpAny_truthy_bool ?_
  cases k with
  | false => exact ite_ff ⟨H3, I3, p3⟩
  | true =>
    refine ite_tt (test_link (thn (hc.run pins s3 σ H3 _ I3 p3) fun w1 s4 ⟨z1, H4, I4, q4, p4⟩ => thn (h2 pins s4 σ H4 y z1 u w1 _ I4 q2 q4 p4) fun e1 s5 ⟨z2, H5, I5, q5, k2, ek2, p5⟩ => ?_))
    subst ek2
    cases q5
    refine wpAny_truthy_bool ?_
    cases k2 with
    | false => exact ite_ff ⟨H5, I5, p5⟩
    | true =>
      refine ite_tt (test_last (thn (hd.run pins s5 σ H5 _ I5 p5) fun w2 s6 ⟨z3, H6, I6, q6, p6⟩ => thn (h3 pins s6 σ H6 z1 z3 w1 w2 _ I6 q4 q6 p6) fun e2 s7 ⟨z4, H7, I7, q7, k3, ek3, p7⟩ => ?_))
      subst ek3
      cases q7
      exact wpAny_truthy_bool ⟨H7, I7, p7⟩
/-- xs.extend(t), t a tuple: the model's own run -/
theorem meets_extT (l : Addr) (items : Array Value) (n : Nat) (b : Addr) (items2 : Array Value) (n2 : Nat) (dct : Option Addr) (sl : Array (Option Value)) (hs0 : ¬(!items.isEmpty && Builtin.List.listTooLong (items.size + items2.size)) = true) (hs1 : items.size ≤ sizeLine) (hs2 : items.size + items2.size ≤ sizeLine + 1) :
    Meets (Builtin.«list.extend» ⟨[.ref l, .ref b], []⟩) (fun _ R s => s.heap.get? l = some { cls := .type "list", dict := none, data := .seq items n, slots := #[] } ∧ s.heap.get? b = some { cls := .type "tuple", dict := dct, data := .seq items2 n2, slots := sl } ∧
      R (.ok (.ret Value.none)) { s with heap := s.heap.update l (Obj.mapSeq fun x => x ++ items2), toks := s.toks }) :=
  .of_wp fun prog w A R s h => by
    obtain ⟨hp, g, d, tk, os⟩ := s
    obtain ⟨hl, hb, h⟩ := h
    have f1 := AutoSeq1.idx_int
    have f2 := AutoSeq1.sub_tuple_tuple
    have f3 := AutoSeq1.sub_list_list
    have f4 := AutoSeq1.sub_tuple_list
    have f5 := AutoSeq1.sub_list_tuple
    have hz' : (items ++ items2).size ≤ sizeLine + 1 := by rw [Array.size_append]; exact hs2
    wp_walk using (wpAny_updateSeq hl rfl (hz := hs1) (_hz' := hz')), AutoSeq1.wpAny_loadPart' hl, AutoSeq1.wpAny_loadPart' hb
    exact ⟨_, rfl, h⟩
def rExtT (K : PySem.W.Frag) : V → List V → Hp → VK → Prop := fun x vs H Q => ∃ (l b : Addr) (xs zs : List V), x = .ref l ∧ vs = [.ref b] ∧ H l = some (.lst xs) ∧ SqT K H b zs ∧ xs.length + zs.length ≤ sizeLine ∧ Q .non (upd H l (.lst (xs ++ zs)))
theorem mt_extT {X : Cx} : MtM X "list.extend" (rExtT X.K) := by
  intro pins s σ H x vs v us Q I rx rv h
  obtain ⟨l, b, xs, zs, rfl, rfl, hH, hB, hz, q⟩ := h
  cases rx
  obtain ⟨u, rfl, ru⟩ := rv.one
  cases ru
  obtain ⟨z, its, n, r, hl, e⟩ := I.lstM hH
  obtain ⟨its2, r2, ⟨⟨c, dct, dt, sl⟩, e2, hc, n2, hd⟩, hz2⟩ := I.tuple hB
  replace hc : c = .type "tuple" := hc
  replace hd : dt = .seq its2.toArray n2 := hd
  subst hc hd
  have l2 := r2.length
  have hsz : its.toArray.size + its2.toArray.size ≤ sizeLine := by rw [List.size_toArray, List.size_toArray]; omega
  have hlong : ¬ (!its.toArray.isEmpty && Builtin.List.listTooLong (its.toArray.size + its2.toArray.size)) = true := by
    rw [notLongL hsz, Bool.and_false]; exact Bool.false_ne_true
  refine call_meets F.slot_list_extend ⟨_, e, rfl⟩ F.entry_list_extend (F.args_list_extend_2 _ _) (meets_extT l its.toArray n b its2.toArray n2 dct sl hlong (by rw [List.size_toArray]; omega) (by omega)) ⟨e, e2, ?_⟩
  exact ⟨.non, _, I.lset (its' := its ++ its2) hH e (by simp) (r.append r2) (by rw [List.length_append]; omega), rfl, q⟩
/-! ### enumerate(t), t a tuple -/
theorem meets_enumT {v : Value} {o : Obj} {B0 : Heap → Prop} (B : Begins v o B0) :
    Meets (Builtin.«enumerate.__new__» ⟨[.type "enumerate", v], []⟩) (fun _ R s => B0 s.heap ∧
      R (.ok (.ret (.ref (s.heap.push o).objs.size))) { s with heap := (s.heap.push o).push { cls := .type "enumerate", data := .fields #[.none, .bool false, .ref s.heap.objs.size, rawInt 0, .none, .none] } }) :=
  .of_wp fun prog w A R s h => by
    obtain ⟨hp, g, d, tk, os⟩ := s
    obtain ⟨h1, h⟩ := h
    have hsub := sub_enumerate
    have q1 : ∀ {A' : Around} {E : Value → Shared → Prop} {Q : Value → Shared → Prop}, Q (.ref hp.objs.size) ⟨hp.push o, g, d, tk, os⟩ → wpAny (model prog w) A' (pyIter v) Q E ⟨hp, g, d, tk, os⟩ :=
      fun q => B.iter prog w _ _ ⟨hp, g, d, tk, os⟩ _ h1 q
    wp_walk using q1
    refine wpAny_stack_any fun st => wpAny_pure ?_
    split
    · rename_i c _ _ _ _ _
      cases (c == Value.type "enumerate") <;> (wp_walk using q1; exact ⟨_, rfl, h⟩)
    · wp_walk using q1
      exact ⟨_, rfl, h⟩
theorem call_enumT {prog : Program} {w : World} {A : Around} {E : Value → Shared → Prop} {s : Shared} {v : Value} {o : Obj} {B0 : Heap → Prop} {Q : Value → Shared → Prop} (B : Begins v o B0) (h1 : B0 s.heap)
    (h : ∀ h', IsEnum h' (s.heap.objs.size + 1) s.heap.objs.size 0 .none → h'.get? s.heap.objs.size = some o → h'.objs.size = s.heap.objs.size + 2 →
      (∀ b o, s.heap.get? b = some o → h'.get? b = some o) → Q (.ref (s.heap.objs.size + 1)) { s with heap := h' }) :
    wpAny (model prog w) A (call (.type "enumerate") [v]) Q E s := by
  have hz : (s.heap.push o).objs.size = s.heap.objs.size + 1 := Heap.size_push ..
  have he := Heap.get?_push_size (s.heap.push o) (o := { cls := .type "enumerate", data := .fields #[.none, .bool false, .ref s.heap.objs.size, rawInt 0, .none, .none] }) rfl
  refine callType_new F.called_enumerate (by decide) (F.typeCall_enumerate_1 _) (F.newCall_enumerate_1 _) (fun obj => F.args_object_init_2 obj _) F.entry_enumerate_new (meets_enumT B) ⟨h1, ?_⟩
  rw [hz] at he
  show _ ∧ _
  rw [hz]
  exact ⟨⟨_, he, rfl⟩, h _ he (Heap.get?_push_of_some _ (Heap.get?_push_size _ B.free)) (by rw [Heap.size_push, hz]) fun b o x => Heap.get?_push_of_some _ (Heap.get?_push_of_some _ x)⟩
/-- the tuple at a as it stands, each item in a new pair with its place -/
def IteT (K : PySem.W.Frag) (a : Addr) : It :=
  ⟨fun i H => ∃ (xs : List V) (x : V), SqT K H a xs ∧ xs[i]? = some x, fun i H v H' => ∃ T x, v = .ref T ∧ H T = none ∧ H' = upd H T (.tup [.int (i : Nat), x]) ∧ ∀ xs, SqT K H a xs → xs[i]? = some x, fun i H => ∃ xs : List V, SqT K H a xs ∧ xs.length = i⟩
theorem IsTup.isTuple {h : Heap} {a : Addr} {xs : Array Value} (p : PyProof.Rows.IsTup h a xs) : h.IsTuple a xs := p
theorem turn_enumT {P : Program} {w : World} {K : PySem.W.Frag} {elts : List Expr} {kk : Nat} {tpos : Pos} (a e it : Addr) :
    Turn P w K (.Tuple elts kk tpos) (IteT K a) [e, it] e (fun i h => (∃ old, IsEnum h e it ((i : Nat) : Int) old) ∧ h.IsTupleIter it a i ∧ e ≠ it ∧ a ≠ it ∧ a ≠ e) where
  mem := List.mem_cons_self
  obj := fun i h st b hb => by
    obtain ⟨⟨old, he⟩, ⟨o, ho, hc, hd⟩, _⟩ := st
    rcases List.mem_cons.mp hb with z | z
    · rw [z]; exact ⟨_, he, fun v q => nomatch q⟩
    · rw [List.mem_singleton.mp z]; exact ⟨o, ho, fun v q => by rw [hd] at q; cases q⟩
  keep := fun i h h' st k => let ⟨⟨old, he⟩, hi, hne⟩ := st; ⟨⟨old, k e (by simp) _ he⟩, hi.at fun o q => k it (by simp) o q, hne⟩
  item := by
    intro X hP hw hK hc i pins s σ H E I hf st hg
    subst hP hw hK
    obtain ⟨⟨old, he⟩, hit, hne, hai, hae⟩ := st
    obtain ⟨xs, x, hq, hx⟩ := hg
    obtain ⟨its, rv, p, hz⟩ := I.tuple hq
    obtain ⟨u, hu, ru⟩ := rv.get hx
    have hel : e < s.heap.objs.size := Heap.lt_size he
    have hil : it < s.heap.objs.size := by obtain ⟨_, q, _⟩ := hit; exact Heap.lt_size q
    have hlt : i < its.toArray.size := by
      have := (List.getElem?_eq_some_iff.mp hu).1
      simpa using this
    refine wpAny_pyNext_enum_itemD (Draws.tuple (prog := X.prog) (w := X.w) (A := X.A.in1) (I.ok.hd hc) it a hai its.toArray) he ⟨hit, p⟩ hlt hne (by simp [hne, Ne.symm hae]) fun x' h' tk hx' ho st' hT hsz hk => ?_
    obtain ⟨hit', p'⟩ := st'
    have ex : x' = u := by
      have e2 : its.toArray[i]? = some u := by simpa using hu
      rw [e2] at hx'
      exact (Option.some.inj hx').symm
    subst ex
    refine ⟨_, rfl, wpAny_letOwnedTupleGo_enum (s := { s with heap := h', toks := tk + 1 }) ho fun h'' he' sb => ?_⟩
    have hT2 : h''.get? s.heap.objs.size = some { cls := .type "tuple", data := .seq #[.int i tk, x'] } := (sb.2 _ (Nat.ne_of_gt hel)).trans hT
    have new : ObjOk X.prog X.w (upd H s.heap.objs.size (.tup [.int (i : Nat), x])) h'' s.heap.objs.size (.tup [.int (i : Nat), x]) :=
      ⟨by show 2 ≤ sizeLine; decide, [.int i tk, x'], .cons ⟨_, rfl⟩ (.cons ru .nil), ⟨_, hT2, rfl, _, rfl⟩⟩
    have I1 : Inv X pins σ (upd H s.heap.objs.size (.tup [.int (i : Nat), x])) { s with heap := h'', toks := tk + 1 } :=
      I.turnedNew (ch := [e, it]) (fun b ob hb q => (sb.2 b (fun z => hb (by simp [z]))).trans (hk b ob (fun z => hb (by simp [z])) (fun z => hb (by simp [z])) q)) hf (Nat.le_refl _) new
    refine ⟨.ref s.heap.objs.size, _, I1, rfl, ⟨_, x, rfl, I.hok.fresh (Nat.le_refl _), rfl, fun ys hy => by rw [I.tuple_inj hy hq]; exact hx⟩, ⟨⟨x', ?_⟩, hit'.at fun o q => (sb.2 it (Ne.symm hne)).trans q, hne, hai, hae⟩, fun b hb => ?_⟩
    · have e1 : ((i + 1 : Nat) : Int) = (i : Int) + 1 := by omega
      rw [e1]; exact he'
    · have hb' : b < s.heap.objs.size := by
        rcases List.mem_cons.mp hb with z | z
        · rw [z]; exact hel
        · rw [List.mem_singleton.mp z]; exact hil
      rw [upd_ne (Nat.ne_of_lt hb')]
      exact (hf b hb).1
  done := by
    intro X hP hw hK hc i pins s σ H E I hf st hg
    subst hP hw hK
    obtain ⟨⟨old, he⟩, hit, hne, hai, hae⟩ := st
    obtain ⟨xs, hq, hx⟩ := hg
    obtain ⟨its, rv, p, hz⟩ := I.tuple hq
    obtain ⟨f0, f1, f2, f3, f4, f5⟩ := hf it (by simp)
    have hl := rv.length
    have es : i = its.toArray.size := by rw [List.size_toArray]; omega
    subst es
    exact wpAny_pyNext_enum_endD (Draws.tuple (prog := X.prog) (w := X.w) (A := X.A.in1) (I.ok.hd hc) it a hai its.toArray) he ⟨hit, p⟩ fun h' eb => ⟨rfl, I.turned (t' := s.toks) (fun b o hb q => eb b o hb q) f0 f1 f3 f4 f5⟩
  self := fun A i s Q E st h => let ⟨⟨_, he⟩, _⟩ := st; wpAny_pyIter_enum he h
def iEnumT (K : PySem.W.Frag) (ta : TA) : TI := fun σ H R => ta σ H fun vs H1 => ∃ a xs, vs = [.ref a] ∧ SqT K H1 a xs ∧ R (IteT K a) H1
theorem pi_enumT {X : Cx} {e : Expr} {ta : TA} {p pos tpos : Pos} {elts : List Expr} {kk : Nat} (hg : Gl X "enumerate") (hm : X.mg "enumerate" = none) (ha : PA X [e] ta) (hs : starEach [e] X.env = [(false, eval e X.env)] := by rfl) :
    PI X (.Tuple elts kk tpos) (.Call (.Name "enumerate" p) [e] [] pos) (iEnumT X.K ta) := by
  refine ⟨fun pins s σ H R I h => ?_⟩
  refine Call_ (ld_blt I hg hm boot_enumerate (PyProof.Rows.callWith_type1 (thn (ha.run pos pins s σ H _ I h) fun us s1 ⟨vs, H1, I1, r1, q1⟩ => ?_) hs rfl))
  obtain ⟨a, xs, ex, hq, q⟩ := q1
  subst ex
  obtain ⟨u, rfl, r⟩ := r1.one
  cases r
  obtain ⟨its, rv, p', hz⟩ := I1.tuple hq
  have hlt : a < s1.heap.objs.size := by obtain ⟨o, ho, _⟩ := p'; exact Heap.lt_size ho
  refine call_enumT (begins_tuple a its.toArray) p' fun h' he hit hsz hk => wpAny_pyIter_enum he ?_
  have I2 : Inv X pins σ H1 { s1 with heap := h' } := I1.kept (t' := s1.toks) hk
  refine ⟨s1.heap.objs.size + 1, [s1.heap.objs.size + 1, s1.heap.objs.size], _, _, H1, rfl, I2, turn_enumT a (s1.heap.objs.size + 1) s1.heap.objs.size, ⟨⟨.none, he⟩, ⟨_, hit, rfl, rfl⟩, Nat.succ_ne_self _, Nat.ne_of_lt hlt, Nat.ne_of_lt (Nat.lt_succ_of_lt hlt)⟩, fun b hb => ?_, q⟩
  have hle : s1.heap.objs.size ≤ b := by
    rcases List.mem_cons.mp hb with z | z
    · rw [z]; exact Nat.le_add_right _ _
    · rw [List.mem_singleton.mp z]; exact Nat.le_refl _
  exact I1.fpOk hle (I1.hok.fresh hle)
theorem walk_enumT {K : PySem.W.Frag} {a : Addr} {xs : List V} : Walk (IteT K a) xs.length (fun H => SqT K H a xs) (YPair (fun i => some (.int (i : Nat))) (fun i => xs[i]?)) := by
  refine ⟨fun i _ hi q => ⟨xs, xs[i], q, by simp [hi]⟩, fun _ q => ⟨xs, q, rfl⟩, fun i H v H' _ q y => ?_⟩
  obtain ⟨T, x, h1, h2, h3, h4⟩ := y
  exact ⟨T, .int (i : Nat), x, h1, h2, h3, rfl, h4 xs q⟩
/-! ### zip(t, l), t a tuple and l a list -/
def ItzM (K : PySem.W.Frag) (a b : Addr) : It :=
  ⟨fun i H => ∃ (xs ys : List V) (x y : V), SqT K H a xs ∧ SqL K H b ys ∧ xs[i]? = some x ∧ ys[i]? = some y,
    fun i H v H' => ∃ T x y, v = .ref T ∧ H T = none ∧ H' = upd H T (.tup [x, y]) ∧ (∀ xs, SqT K H a xs → xs[i]? = some x) ∧ ∀ ys, SqL K H b ys → ys[i]? = some y,
    fun i H => ∃ xs ys : List V, SqT K H a xs ∧ SqL K H b ys ∧ xs.length = i ∧ ys.length = i⟩
/-- the cells lie apart -/
structure ZSep (z TI TO i1 i2 a b : Addr) : Prop where
  s : ZipSep2 z TI TO i1 i2 [i1, a] [i2, b]
  a1 : a ≠ i1
  b2 : b ≠ i2
theorem mem5 {c z TI TO i1 i2 : Addr} (h : c ∈ [z, TI, TO, i1, i2]) : c = z ∨ c = TI ∨ c = TO ∨ c = i1 ∨ c = i2 := by simpa using h
theorem turn_zipM {P : Program} {w : World} {K : PySem.W.Frag} {elts : List Expr} {kk : Nat} {tpos : Pos} {a b z TI TO i1 i2 : Addr} (D : ZSep z TI TO i1 i2 a b) :
    Turn P w K (.Tuple elts kk tpos) (ItzM K a b) [z, TI, TO, i1, i2] z (fun i h => IsZip h z TI TO .none ∧ IsTupOf2 h TI (.ref i1) (.ref i2) ∧ (∃ x y, IsTupOf2 h TO x y) ∧ h.IsTupleIter i1 a i ∧ h.IsListIter i2 b i) where
  mem := List.mem_cons_self
  obj := fun i h st c hc => by
    obtain ⟨hz, hTI, ⟨x, y, hTO⟩, ⟨o1, e1, _, d1⟩, ⟨o2, e2, _, d2⟩⟩ := st
    rcases mem5 hc with q | q | q | q | q <;> rw [q]
    · exact ⟨_, hz, fun v q => nomatch q⟩
    · exact ⟨_, hTI, fun v q => nomatch q⟩
    · exact ⟨_, hTO, fun v q => nomatch q⟩
    · exact ⟨o1, e1, fun v q => by rw [d1] at q; cases q⟩
    · exact ⟨o2, e2, fun v q => by rw [d2] at q; cases q⟩
  keep := fun i h h' st k => by
    obtain ⟨hz, hTI, ⟨x, y, hTO⟩, h1, h2⟩ := st
    exact ⟨k z (by simp) _ hz, k TI (by simp) _ hTI, ⟨x, y, k TO (by simp) _ hTO⟩, h1.at fun o q => k i1 (by simp) o q, h2.at fun o q => k i2 (by simp) o q⟩
  item := by
    intro X hP hw hK hc i pins s σ H E I hf st hg
    subst hP hw hK
    obtain ⟨hz, hTI, ⟨x0, y0, hTO⟩, h1, h2⟩ := st
    obtain ⟨xs, ys, x, y, hqx, hqy, hx, hy⟩ := hg
    obtain ⟨its, rv, p, _⟩ := I.tuple hqx
    obtain ⟨its2, rv2, p2, _⟩ := I.list hqy
    obtain ⟨u, hu, ru⟩ := rv.get hx
    obtain ⟨u2, hu2, ru2⟩ := rv2.get hy
    have hzl : z < s.heap.objs.size := Heap.lt_size hz
    have lt1 : i < its.toArray.size := by have := (List.getElem?_eq_some_iff.mp hu).1; simpa using this
    have lt2 : i < its2.toArray.size := by have := (List.getElem?_eq_some_iff.mp hu2).1; simpa using this
    have all : ∀ c ∈ [z, TI, TO, i1, i2], c < s.heap.objs.size := fun c hcm => by
      obtain ⟨_, e1, _⟩ := h1
      obtain ⟨_, e2, _⟩ := h2
      rcases mem5 hcm with q | q | q | q | q <;> rw [q]
      · exact hzl
      · exact Heap.lt_size hTI
      · exact Heap.lt_size hTO
      · exact Heap.lt_size e1
      · exact Heap.lt_size e2
    refine wpAny_pyNext_zipD2_item D.s (Draws.tuple (prog := X.prog) (w := X.w) (A := X.A.in1) (I.ok.hd hc) i1 a D.a1 its.toArray) (Draws.list (prog := X.prog) (w := X.w) (A := X.A.in1) (I.ok.hd hc) i2 b D.b2 its2.toArray)
      hz hTI hTO ⟨h1, p⟩ ⟨h2, p2.isList⟩ lt1 lt2 fun u' u2' h' tk hu' hu2' z' TO' st1 st2 hT hsz hk => ?_
    obtain rfl : u' = u := by
      have e2 : its.toArray[i]? = some u := by simpa using hu
      rw [e2] at hu'
      exact (Option.some.inj hu').symm
    obtain rfl : u2' = u2 := by
      have e2 : its2.toArray[i]? = some u2 := by simpa using hu2
      rw [e2] at hu2'
      exact (Option.some.inj hu2').symm
    refine ⟨_, rfl, wpAny_letOwnedTupleGo_zip (s := { s with heap := h', toks := tk }) z' fun h'' z'' sb => ?_⟩
    have hT2 : h''.get? s.heap.objs.size = some { cls := .type "tuple", data := .seq #[u', u2'] } := (sb.2 _ (Nat.ne_of_gt hzl)).trans hT
    have new : ObjOk X.prog X.w (upd H s.heap.objs.size (.tup [x, y])) h'' s.heap.objs.size (.tup [x, y]) :=
      ⟨by show 2 ≤ sizeLine; decide, [u', u2'], .cons ru (.cons ru2 .nil), ⟨_, hT2, rfl, _, rfl⟩⟩
    have I1 : Inv X pins σ (upd H s.heap.objs.size (.tup [x, y])) { s with heap := h'', toks := tk } :=
      I.turnedNew (ch := [z, TI, TO, i1, i2]) (fun c o hb q => (sb.2 c (fun q' => hb (by simp [q']))).trans (hk c o (fun q' => hb (by simp [q'])) (fun q' => hb (by simp [q'])) (fun q' => hb (by simp [q'])) (fun q' => hb (by simp [q'])) q)) hf (Nat.le_refl _) new
    refine ⟨.ref s.heap.objs.size, _, I1, rfl, ⟨_, x, y, rfl, I.hok.fresh (Nat.le_refl _), rfl, fun l hl => by rw [I.tuple_inj hl hqx]; exact hx, fun l hl => by rw [I.list_inj hl hqy]; exact hy⟩, ⟨z'', ?_, ⟨u', u2', ?_⟩, ?_, ?_⟩, fun c hcm => ?_⟩
    · exact (sb.2 _ D.s.TIz).trans (hk _ _ D.s.TIz D.s.TITO D.s.TIi1 D.s.TIi2 hTI)
    · exact (sb.2 _ D.s.TOz).trans TO'
    · exact st1.1.at fun o q => (sb.2 _ (Ne.symm D.s.zi1)).trans q
    · exact st2.1.at fun o q => (sb.2 _ (Ne.symm D.s.zi2)).trans q
    · rw [upd_ne (Nat.ne_of_lt (all c hcm))]
      exact (hf c hcm).1
  done := by
    intro X hP hw hK hc i pins s σ H E I hf st hg
    subst hP hw hK
    obtain ⟨hz, hTI, ⟨x0, y0, hTO⟩, h1, h2⟩ := st
    obtain ⟨xs, ys, hqx, hqy, e1, e2⟩ := hg
    obtain ⟨its, rv, p, _⟩ := I.tuple hqx
    obtain ⟨its2, rv2, p2, _⟩ := I.list hqy
    have l1 := rv.length
    have l2 := rv2.length
    exact wpAny_pyNext_zipD2_end D.s (Draws.tuple (prog := X.prog) (w := X.w) (A := X.A.in1) (I.ok.hd hc) i1 a D.a1 its.toArray) (Draws.list (prog := X.prog) (w := X.w) (A := X.A.in1) (I.ok.hd hc) i2 b D.b2 its2.toArray)
      hz hTI hTO ⟨h1, p⟩ ⟨h2, p2.isList⟩ (by rw [List.size_toArray]; omega) (by rw [List.size_toArray]; omega) (.inl (by rw [List.size_toArray]; omega)) fun h' tk hk => ⟨rfl, I.turnedL (ch := [z, TI, TO, i1, i2]) (fun c o hb q =>
        hk c o (fun q' => hb (by simp [q'])) (fun q' => hb (by simp [q'])) (fun q' => hb (by simp [q'])) (fun q' => hb (by simp [q'])) q) hf⟩
  self := fun A i s Q E st h => wpAny_pyIter_zip st.1 h
def iZipM (K : PySem.W.Frag) (ta : TA) : TI := fun σ H R => ta σ H fun vs H1 => ∃ a b xs ys, vs = [.ref a, .ref b] ∧ SqT K H1 a xs ∧ SqL K H1 b ys ∧ R (ItzM K a b) H1
theorem pi_zipM {X : Cx} {e e2 : Expr} {ta : TA} {p pos tpos : Pos} {elts : List Expr} {kk : Nat} (hg : Gl X "zip") (hm : X.mg "zip" = none) (ha : PA X [e, e2] ta)
    (hs : starEach [e, e2] X.env = (false, eval e X.env) :: starEach [e2] X.env := by rfl) (hpl : (backTo pos (starEach [e2] X.env)).any (·.1) = false := by rfl) :
    PI X (.Tuple elts kk tpos) (.Call (.Name "zip" p) [e, e2] [] pos) (iZipM X.K ta) := by
  refine ⟨fun pins s σ H R I h => ?_⟩
  refine Call_ (ld_blt I hg hm PyProof.Rows.boot_zip (PyProof.Rows.callWith_type1 (thn (ha.run pos pins s σ H _ I h) fun us s1 ⟨vs, H1, I1, r1, q1⟩ => ?_) hs hpl))
  obtain ⟨a, b, xs, ys, ex, hqx, hqy, q⟩ := q1
  subst ex
  obtain ⟨u, v, rfl, r, r'⟩ := r1.two
  cases r
  cases r'
  obtain ⟨its, rv, p1, _⟩ := I1.tuple hqx
  obtain ⟨its2, rv2, p2, _⟩ := I1.list hqy
  have la : a < s1.heap.objs.size := by obtain ⟨o, ho, _⟩ := id p1; exact Heap.lt_size ho
  have lb : b < s1.heap.objs.size := p2.lt
  refine zip_begins2 (begins_tuple a its.toArray) (begins_list b its2.toArray) p1 p2.isList fun h' hz hTI hTO h1 h2 hsz hk => wpAny_pyIter_zip hz ?_
  have I2 : Inv X pins σ H1 { s1 with heap := h' } := I1.kept (t' := s1.toks) hk
  have sep : ZSep (s1.heap.objs.size + 4) (s1.heap.objs.size + 2) (s1.heap.objs.size + 3) s1.heap.objs.size (s1.heap.objs.size + 1) a b := by
    have n1 : ∀ k, a ≠ s1.heap.objs.size + k := fun k e => by rw [e] at la; exact absurd (Nat.lt_of_le_of_lt (Nat.le_add_right _ k) la) (Nat.lt_irrefl _)
    have n2 : ∀ k, b ≠ s1.heap.objs.size + k := fun k e => by rw [e] at lb; exact absurd (Nat.lt_of_le_of_lt (Nat.le_add_right _ k) lb) (Nat.lt_irrefl _)
    have d : ∀ j k : Nat, j ≠ k → s1.heap.objs.size + j ≠ s1.heap.objs.size + k := fun j k h e => h (Nat.add_left_cancel e)
    have n10 : a ≠ s1.heap.objs.size := n1 0
    have n20 : b ≠ s1.heap.objs.size := n2 0
    have d0 : ∀ k : Nat, k ≠ 0 → s1.heap.objs.size + k ≠ s1.heap.objs.size := fun k h => d k 0 h
    exact ⟨⟨d _ _ (by decide), d _ _ (by decide), d _ _ (by decide), d0 _ (by decide), by simp, by simp [d0, Ne.symm (n1 4)], by simp [d0, Ne.symm (n1 3)], d _ _ (by decide), by simp, by simp [Ne.symm (n2 4)], by simp [Ne.symm (n2 3)], by simp [Ne.symm n20], by simp [Ne.symm (n1 1)]⟩, n10, n2 1⟩
  refine ⟨s1.heap.objs.size + 4, [s1.heap.objs.size + 4, s1.heap.objs.size + 2, s1.heap.objs.size + 3, s1.heap.objs.size, s1.heap.objs.size + 1], _, _, H1, rfl, I2, turn_zipM sep, ⟨hz, hTI, ⟨_, _, hTO⟩, ⟨_, h1, rfl, rfl⟩, ⟨_, h2, rfl, rfl⟩⟩, fun c hcm => ?_, q⟩
  have hle : s1.heap.objs.size ≤ c := by
    rcases mem5 hcm with q | q | q | q | q <;> rw [q]
    · exact Nat.le_add_right _ _
    · exact Nat.le_add_right _ _
    · exact Nat.le_add_right _ _
    · exact Nat.le_refl _
    · exact Nat.le_add_right _ _
  exact I1.fpOk hle (I1.hok.fresh hle)
theorem walk_zipM {K : PySem.W.Frag} {a b : Addr} {xs ys : List V} (hl : xs.length = ys.length) : Walk (ItzM K a b) xs.length (fun H => SqT K H a xs ∧ SqL K H b ys) (YPair (fun i => xs[i]?) (fun i => ys[i]?)) := by
  refine ⟨fun i _ hi q => ⟨xs, ys, xs[i], ys[i]'(by omega), q.1, q.2, by simp [hi], by simp⟩, fun _ q => ⟨xs, ys, q.1, q.2, rfl, hl.symm⟩, fun i H v H' _ q y => ?_⟩
  obtain ⟨T, x, z, h1, h2, h3, h4, h5⟩ := y
  exact ⟨T, x, z, h1, h2, h3, h4 xs q.1, h5 ys q.2⟩
end Mp
namespace Mp
open PySem PySem.Spec PyProof.Rows L2
/-! ### a layout in memory -/
def dirS (d : Bool) : Str := if d then "beside" else "below"
mutual
inductive LV (H : Hp) : Lt → V → Prop
  | pane (i : Int) : LV H (.pane i) (.int i)
  | node {d : Bool} {ps : List (Lt × Int)} {a q : Addr} {vs : List V} : H a = some (.tup [.str (dirS d), .ref q]) → H q = some (.tup vs) → PsV H ps vs → LV H (.node d ps) (.ref a)
inductive PsV (H : Hp) : List (Lt × Int) → List V → Prop
  | nil : PsV H [] []
  | cons {L : Lt} {s : Int} {ps : List (Lt × Int)} {a : Addr} {u : V} {vs : List V} : H a = some (.tup [u, .int s]) → LV H L u → PsV H ps vs → PsV H ((L, s) :: ps) (.ref a :: vs)
end
/-- the tuples stand -/
def TupS (H H' : Hp) : Prop := ∀ b xs, H b = some (.tup xs) → H' b = some (.tup xs)
theorem tups {H H' : Hp} (s : Same H H') : TupS H H' := fun b xs e => s b _ e
theorem TupS.trans {H H1 H2 : Hp} (a : TupS H H1) (b : TupS H1 H2) : TupS H H2 := fun c xs e => b c xs (a c xs e)
theorem TupS.lst {H : Hp} {l : Addr} {xs : List V} {o : HO} (h : H l = some (.lst xs)) : TupS H (upd H l o) := fun b ys e => by
  rw [upd_ne (ne_of e h (fun z => nomatch z))]; exact e
theorem TupS.new {H : Hp} {l : Addr} {o : HO} (h : H l = none) : TupS H (upd H l o) := fun b ys e => by
  rw [upd_ne (ne_of_none e h)]; exact e
mutual
theorem LV.mono {H H' : Hp} (t : TupS H H') : ∀ {L : Lt} {v : V}, LV H L v → LV H' L v
  | _, _, .pane i => .pane i
  | _, _, .node h1 h2 h3 => .node (t _ _ h1) (t _ _ h2) (PsV.mono t h3)
theorem PsV.mono {H H' : Hp} (t : TupS H H') : ∀ {ps : List (Lt × Int)} {vs : List V}, PsV H ps vs → PsV H' ps vs
  | _, _, .nil => .nil
  | _, _, .cons h1 h2 h3 => .cons (t _ _ h1) (LV.mono t h2) (PsV.mono t h3)
end
theorem PsV.len {H : Hp} : ∀ {ps : List (Lt × Int)} {vs : List V}, PsV H ps vs → ps.length = vs.length
  | _, _, .nil => rfl
  | _, _, .cons _ _ h => by rw [List.length_cons, List.length_cons, h.len]
/-- the i-th part -/
theorem PsV.at {H : Hp} : ∀ {ps : List (Lt × Int)} {vs : List V} {i : Nat} {v : V}, PsV H ps vs → vs[i]? = some v → ∃ (L : Lt) (s : Int) (a : Addr) (u : V), ps[i]? = some (L, s) ∧ v = .ref a ∧ H a = some (.tup [u, .int s]) ∧ LV H L u
  | _, _, _, _, .nil, e => by simp at e
  | _, _, 0, v, .cons h1 h2 _, e => by
    have : v = .ref _ := (Option.some.inj e).symm
    subst this
    exact ⟨_, _, _, _, rfl, rfl, h1, h2⟩
  | _, _, i + 1, v, .cons _ _ h, e => by
    obtain ⟨L, s, a, u, e1, e2⟩ := PsV.at (i := i) h (by simpa using e)
    exact ⟨L, s, a, u, by simpa using e1, e2⟩
theorem PsV.at' {H : Hp} {ps : List (Lt × Int)} {vs : List V} {i : Nat} {L : Lt} {s : Int} (h : PsV H ps vs) (e : ps[i]? = some (L, s)) : ∃ (a : Addr) (u : V), vs[i]? = some (.ref a) ∧ H a = some (.tup [u, .int s]) ∧ LV H L u := by
  have hi : i < vs.length := by rw [← h.len]; exact (List.getElem?_eq_some_iff.mp e).1
  obtain ⟨L', s', a, u, e1, e2, e3, e4⟩ := h.at (List.getElem?_eq_getElem hi)
  rw [e] at e1
  cases e1
  exact ⟨a, u, by rw [List.getElem?_eq_getElem hi, e2], e3, e4⟩
theorem PsV.append {H : Hp} {qs : List (Lt × Int)} {ws : List V} (k : PsV H qs ws) : ∀ {ps : List (Lt × Int)} {vs : List V}, PsV H ps vs → PsV H (ps ++ qs) (vs ++ ws)
  | _, _, .nil => k
  | _, _, .cons h1 h2 h3 => .cons h1 h2 (PsV.append k h3)
theorem PsV.one {H : Hp} {L : Lt} {s : Int} {a : Addr} {u : V} (h1 : H a = some (.tup [u, .int s])) (h2 : LV H L u) : PsV H [(L, s)] [.ref a] := .cons h1 h2 .nil
theorem PsV.snoc {H : Hp} {ps : List (Lt × Int)} {vs : List V} {L : Lt} {s : Int} {a : Addr} {u : V} (h : PsV H ps vs) (h1 : H a = some (.tup [u, .int s])) (h2 : LV H L u) : PsV H (ps ++ [(L, s)]) (vs ++ [.ref a]) := PsV.append (.one h1 h2) h
theorem PsV.take {H : Hp} : ∀ {ps : List (Lt × Int)} {vs : List V} (n : Nat), PsV H ps vs → PsV H (ps.take n) (vs.take n)
  | _, _, 0, _ => by rw [List.take_zero, List.take_zero]; exact .nil
  | _, _, n + 1, .nil => by simp; exact .nil
  | _, _, n + 1, .cons h1 h2 h3 => .cons h1 h2 (PsV.take n h3)
theorem PsV.drop {H : Hp} : ∀ {ps : List (Lt × Int)} {vs : List V} (n : Nat), PsV H ps vs → PsV H (ps.drop n) (vs.drop n)
  | _, _, 0, h => h
  | _, _, n + 1, .nil => by simp; exact .nil
  | _, _, n + 1, .cons h1 h2 h3 => PsV.drop n h3
/-- what the loop gives at turn i stands already -/
theorem PsV.take_succ {ps : List (Lt × Int)} {i : Nat} {L : Lt} {s : Int} (e : ps[i]? = some (L, s)) : ps.take (i + 1) = ps.take i ++ [(L, s)] := by
  rw [List.take_add_one, e]; rfl
theorem LV.isRef {H : Hp} {d : Bool} {ps : List (Lt × Int)} {v : V} (h : LV H (.node d ps) v) : ∃ a q vs, v = .ref a ∧ H a = some (.tup [.str (dirS d), .ref q]) ∧ H q = some (.tup vs) ∧ PsV H ps vs := by
  cases h with
  | node h1 h2 h3 => exact ⟨_, _, _, rfl, h1, h2, h3⟩
/-! ### little helps of the walk -/
theorem same_new {H : Hp} {p : Addr} (h : H p = none) (o : HO) : Same H (upd H p o) := fun b u q => by rw [upd_ne (ne_of_none q h)]; exact q
theorem small {n : Nat} (h : n ≤ 1000) : n ≤ sizeLine := Nat.le_of_lt (small1000 h)
theorem getMap {ns : List Int} {i : Nat} {y : V} (h : (ns.map V.int)[i]? = some y) : ∃ z, ns[i]? = some z ∧ y = .int z := by
  rw [List.getElem?_map] at h
  cases e : ns[i]? with
  | none => rw [e] at h; cases h
  | some z => rw [e] at h; exact ⟨z, rfl, (Option.some.inj h).symm⟩
/-- a def of the top, by its promise: to be called -/
def Cl (P : Program) (w : World) (K : PySem.W.Frag) (mg : Str → Option Value) (base : Heap) (k : Nat) (x : Str) (ps : List Str) (sp : Sp) : Prop :=
  ∃ f fd, mg x = some (.ref f) ∧ FnOk P w K mg base CX0 k f fd ps sp ∧ PySem.W.keepIn K (.ref f) = true ∧ Binds K fd ps []
theorem Cl.mono {P : Program} {w : World} {K : PySem.W.Frag} {mg : Str → Option Value} {base : Heap} {j k : Nat} {x : Str} {ps : List Str} {sp : Sp} (c : Cl P w K mg base j x ps sp) (h : j ≤ k) : Cl P w K mg base k x ps sp := by
  obtain ⟨f, fd, m, F, kp, b⟩ := c
  exact ⟨f, fd, m, F.mono h, kp, b⟩
theorem pcl {X : Cx} {x : Str} {p pos : Pos} {e : Expr} {es : List Expr} {ps : List Str} {sp : Sp} {k : Nat} {t : TA} (c : Cl X.prog X.w X.K X.mg X.base k x ps sp) (hr : Room k X.A) (ha : PA X (e :: es) t) (hg : Gl X x := by rfl)
    (hdb : (x == ("__debug__" : Str)) = false := by decide) (he : starEach (e :: es) X.env = (false, eval e X.env) :: starEach es X.env := by rfl) (hpl : (backTo pos (starEach es X.env)).any (·.1) = false := by rfl) :
    PE X (.Call (.Name x p) (e :: es) [] pos) (tCall sp [] E0 t) := by
  obtain ⟨f, fd, m, F, kp, b⟩ := c
  exact pe_call F hr hg m kp b .nil pass0 ha hdb he hpl
theorem no_call {P : Program} {w : World} {K : PySem.W.Frag} {mg : Str → Option Value} {base : Heap} {x : Str} {st : Stmt} {ps : List Str} {sp : Sp} (D : Df K mg x st ps) (no : ∀ vs H Q E, ¬ sp vs H Q E) : Cl P w K mg base 0 x ps sp := by
  obtain ⟨f, fd, m, F, b⟩ := D.ex
  exact ⟨f, fd, m, ⟨fun vs H Q E h => absurd h (no vs H Q E), fun A outer s H args us vs Q E _ _ _ _ h => absurd h (no vs H Q E)⟩, F.kp, b⟩
/-- a def's promise from its body -/
theorem cl_of {P : Program} {w : World} {K : PySem.W.Frag} {mg : Str → Option Value} {base : Heap} {x : Str} {st : Stmt} {N ps : List Str} {sp : Sp} {k : Nat} (D : Df K mg x st ps) (S : FnScope N ps (defScope st)) (len : ∀ vs H Q E, sp vs H Q E → vs.length = ps.length)
    (body : ∀ (cdv : Value) (f : Addr) (A : Around) (outer : List Env) (s : Shared) (H : Hp) (vs : List V) (Q : VK) (E : XK), Room k (A.deeper (envOfC x (defScope st) s.heap.objs.size f cdv)) → sp vs H Q E →
      ∃ t, PSs (cxOf CX0 P w K mg base N x (defScope st) f cdv A outer s H E).nox (defBody st) t ∧ t { nx := fun _ H' => Q .non H', rt := Q } (start N vs) H) : Cl P w K mg base (k + 1) x ps sp := by
  obtain ⟨f, fd, m, F, b⟩ := D.ex
  exact ⟨f, fd, m, F.ok S len (fun cdv A outer s H vs Q E hr h => body cdv f A outer s H vs Q E hr h), F.kp, b⟩
theorem PE.imp {X : Cx} {e : Expr} {t t' : TE} (h : PE X e t) (k : ∀ σ H Q, t' σ H Q → t σ H Q) : PE X e t' := ⟨fun pins s σ H Q I q => h.run pins s σ H Q I (k σ H Q q)⟩
/-- isinstance(e, int), e an int or a tuple -/
def tIsInt (te : TE) : TE := fun σ H Q => te σ H fun x H1 => (∃ i, x = .int i ∧ Q (.bl true) H1) ∨ (∃ a xs, x = .ref a ∧ H1 a = some (.tup xs) ∧ Q (.bl false) H1)
theorem call_isint {X : Cx} : CallR X (.builtin "isinstance") (fun vs H Q => ∃ x, vs = [x, .ty "int"] ∧ ((∃ i, x = .int i ∧ Q (.bl true) H) ∨ (∃ a xs, x = .ref a ∧ H a = some (.tup xs) ∧ Q (.bl false) H))) := by
  intro pins s σ H xs us Q I r h
  obtain ⟨x, rfl, h⟩ := h
  refine call_isi pins s σ H _ us Q I r ?_
  rcases h with ⟨i, rfl, q⟩ | ⟨a, ys, rfl, e, q⟩
  · exact ⟨_, _, _, _, true, rfl, .ty "int", .base (.int i), kit_ty (by decide +kernel), q⟩
  · exact ⟨_, _, _, _, false, rfl, .ty "int", .base (.tup e), kit_ty (by decide +kernel), q⟩
theorem LV.isInt {H : Hp} {L : Lt} {v : V} {Q : V → Hp → Prop} (h : LV H L v) (h1 : ∀ i, L = .pane i → v = .int i → Q (.bl true) H)
    (h2 : ∀ d ps a q vs, L = .node d ps → v = .ref a → H a = some (.tup [.str (dirS d), .ref q]) → H q = some (.tup vs) → PsV H ps vs → Q (.bl false) H) :
    ∃ x, [v, V.ty "int"] = [x, .ty "int"] ∧ ((∃ i, x = .int i ∧ Q (.bl true) H) ∨ (∃ a xs, x = .ref a ∧ H a = some (.tup xs) ∧ Q (.bl false) H)) := by
  cases h with
  | pane i => exact ⟨_, rfl, .inl ⟨i, rfl, h1 i rfl rfl⟩⟩
  | node a b c => exact ⟨_, rfl, .inr ⟨_, _, rfl, a, h2 _ _ _ _ _ rfl rfl a b c⟩⟩
/-- a tuple that stands, in memory or in the written part -/
def Tp (K : PySem.W.Frag) (H : Hp) (a : Addr) (xs : List V) : Prop := H a = some (.tup xs) ∨ ∀ H', SqT K H' a xs
theorem Tp.mono {K : PySem.W.Frag} {H H' : Hp} {a : Addr} {xs : List V} (t : TupS H H') : Tp K H a xs → Tp K H' a xs
  | .inl h => .inl (t _ _ h)
  | .inr h => .inr h
theorem Tp.sq {K : PySem.W.Frag} {H : Hp} {a : Addr} {xs : List V} : Tp K H a xs → SqT K H a xs
  | .inl h => SqT.of h
  | .inr h => h H
/-- pairs of ints -/
inductive PrV (K : PySem.W.Frag) (H : Hp) : List (Int × Int) → List V → Prop
  | nil : PrV K H [] []
  | cons {x y : Int} {ls : List (Int × Int)} {a : Addr} {vs : List V} : Tp K H a [.int x, .int y] → PrV K H ls vs → PrV K H ((x, y) :: ls) (.ref a :: vs)
theorem PrV.mono {K : PySem.W.Frag} {H H' : Hp} (t : TupS H H') : ∀ {ls : List (Int × Int)} {vs : List V}, PrV K H ls vs → PrV K H' ls vs
  | _, _, .nil => .nil
  | _, _, .cons h1 h2 => .cons (h1.mono t) (PrV.mono t h2)
theorem PrV.len {K : PySem.W.Frag} {H : Hp} : ∀ {ls : List (Int × Int)} {vs : List V}, PrV K H ls vs → ls.length = vs.length
  | _, _, .nil => rfl
  | _, _, .cons _ h => by rw [List.length_cons, List.length_cons, h.len]
theorem PrV.snoc {K : PySem.W.Frag} {H : Hp} {x y : Int} {a : Addr} (h1 : Tp K H a [.int x, .int y]) : ∀ {ls : List (Int × Int)} {vs : List V}, PrV K H ls vs → PrV K H (ls ++ [(x, y)]) (vs ++ [.ref a])
  | _, _, .nil => .cons h1 .nil
  | _, _, .cons h2 h3 => .cons h2 (PrV.snoc h1 h3)
theorem PrV.at {K : PySem.W.Frag} {H : Hp} : ∀ {ls : List (Int × Int)} {vs : List V} {i : Nat} {v : V}, PrV K H ls vs → vs[i]? = some v → ∃ (x y : Int) (a : Addr), ls[i]? = some (x, y) ∧ v = .ref a ∧ Tp K H a [.int x, .int y]
  | _, _, _, _, .nil, e => by simp at e
  | _, _, 0, v, .cons h1 _, e => by
    have : v = .ref _ := (Option.some.inj e).symm
    subst this
    exact ⟨_, _, _, rfl, rfl, h1⟩
  | _, _, i + 1, v, .cons _ h, e => by
    obtain ⟨x, y, a, e1, e2⟩ := PrV.at (i := i) h (by simpa using e)
    exact ⟨x, y, a, by simpa using e1, e2⟩
/-- the list at D grows, nothing else that was tracked changes -/
theorem same_grow {H H' : Hp} {D : Addr} {o : HO} (nD : H D = none) (g : Same H H') : Same H (upd H' D o) := fun b u e => by
  rw [upd_ne (ne_of_none e nD)]; exact g b u e
theorem str_is {d : Bool} : decide (V.str (dirS d) = V.str "beside") = d := by cases d <;> decide +kernel
theorem dir_is {d e : Bool} : decide (V.str (dirS d) = V.str (dirS e)) = (d == e) := by cases d <;> cases e <;> decide +kernel
/-- a comprehension without a test goes on -/
theorem yes {σ : L2.St} {H : Hp} {A B : Hp → Prop} (h : A H) : tYes σ H (fun b H3 => if b = true then A H3 else B H3) := by
  show if true = true then A H else B H
  rw [if_pos rfl]
  exact h
theorem ixN_nat {n j : Nat} (h : j < n) : ixN n (j : Int) = some j := by
  unfold ixN
  rw [if_pos (by omega), if_pos (by omega)]
  simp
theorem max2 (i j : Int) : (if j > i then j else i) = max i j := by split <;> omega
theorem min2 (i j : Int) : (if j < i then j else i) = min i j := by split <;> omega
/-- one of two names, by a truth -/
theorem ifVar {d : Bool} {i j : Nat} {σ : L2.St} {x y : V} {H : Hp} {Q : VK} (hi : σ[i]? = some (some x)) (hj : σ[j]? = some (some y)) (h : Q (if d then x else y) H) : if d = true then tVar i σ H Q else tVar j σ H Q := by
  cases d
  · rw [if_neg Bool.false_ne_true]; exact ⟨y, hj, h⟩
  · rw [if_pos rfl]; exact ⟨x, hi, h⟩
end Mp
namespace Mp
open PySem PySem.Spec PyProof.Rows L2
section
variable {P : Program} {w : World} {K : PySem.W.Frag} {mg : Str → Option Value} {base : Heap}
/-! ### panes -/
def spPanes (n : Nat) : Sp := fun vs H Q _ => ∃ (v : V) (L : Lt), vs = [v] ∧ LV H L v ∧ Dep n L ∧ (panes L).length ≤ 1000 ∧
  ∀ (H' : Hp) (p : Addr), Same H H' → H' p = some (.lst ((panes L).map V.int)) → Q (.ref p) H'
theorem scPanes : FnScope ["layout", "result", "inner", "_"] ["layout"] (defScope sPanes) := ⟨rfl, rfl, rfl, by decide +kernel, rfl, by decide +kernel, by decide +kernel⟩
theorem cl_panes (T : Txt K w mg) : ∀ n, Cl P w K mg base n "panes" ["layout"] (spPanes n)
  | 0 => no_call T.dPanes fun vs H Q E h => by
    obtain ⟨v, L, _, _, h, _⟩ := h
    exact h
  | n + 1 => by
    have IH := cl_panes T n
    refine cl_of T.dPanes scPanes (fun vs H Q E h => ?_) (fun cdv f A outer s H vs Q E hr h => ?_)
    · obtain ⟨v, L, rfl, _⟩ := h; rfl
    obtain ⟨v, L, rfl, hL, hd, hs, q⟩ := h
    refine ⟨_, pss_cons (ps_if (pt_val (pe_callB call_isint rfl T.f_isinstance boot_isinstance (pa_cons (pv 0) (pa_cons (pe_bltn (v := .ty "int") rfl T.f_int boot_int rfl) pa_nil)))) (pss_one (ps_ret (pe_lst (pa_cons (pv 0) pa_nil)))) pss_nil)
      (pss_cons (ps_set (i := 1) scPanes.nd rfl (.inl rfl) (pe_lst pa_nil))
      (pss_cons (ps_for PassesOwn.never rfl (pi_tup (pe_ix ix_tup (pv 0) pe_int (fun _ _ => rfl))) (pg_tup rfl (pgs_cons (pg_name (i := 2) scPanes.nd rfl (.inl rfl)) (pgs_cons (pg_name (i := 3) scPanes.nd rfl (.inl rfl)) pgs_nil)))
        (pss_one (ps_set (i := 1) scPanes.nd rfl (.inl rfl) (pe_op op_cat (pv 1) (pcl IH hr (pa_cons (pv 2) pa_nil))))))
      (pss_one (ps_ret (pv 1))))), ?_⟩
    cases hL with
    | pane i =>
      refine ⟨_, rfl, _, rfl, .inl ⟨i, rfl, true, rfl, iteT ?_⟩⟩
      refine ⟨_, rfl, (by show 1 ≤ sizeLine; decide), fun p np => q _ p (same_new np _) ?_⟩
      rw [upd_same]; rfl
    | @node d ps a r vs ha hr' hp =>
      refine ⟨_, rfl, _, rfl, .inr ⟨_, _, rfl, ha, false, rfl, iteF ?_⟩⟩
      refine ⟨(by show 0 ≤ sizeLine; decide), fun l nl => ?_⟩
      have g0 : Same H (upd H l (.lst [])) := same_new nl _
      refine ⟨_, rfl, a, _, 1, _, rfl, rfl, SqT.of (g0 _ _ ha), rfl, r, rfl, ⟨_, SqT.of (g0 _ _ hr')⟩, ?_⟩
      refine for_tup (K := K) (a := r) (xs := vs) (fun i σ H' => ∃ (x : Addr) (y z : Option V), σ = [some (.ref a), some (.ref x), y, z] ∧ Same H H' ∧ H' x = some (.lst ((panesL (ps.take i)).map V.int)))
        ⟨l, none, none, rfl, g0, by rw [upd_same]; rfl⟩ (fun i σ H' _ ⟨_, _, _, _, g, _⟩ => SqT.of (g _ _ hr')) ?_ ?_
      · rintro i v σ H' hi ⟨x, y, z, rfl, g, hx⟩
        obtain ⟨M, s, b, u, e1, rfl, hb, hM⟩ := hp.at hi
        have hm : (M, s) ∈ ps := List.mem_of_getElem? e1
        refine ⟨b, _, rfl, SqT.of (g _ _ hb), rfl, u, _, rfl, _, _, rfl, rfl, ?_⟩
        have tk := PsV.take_succ e1
        have lm : (panes M).length ≤ (panesL ps).length := panes_le hm
        have lt : (panesL (ps.take i)).length + (panes M).length ≤ (panesL ps).length := by
          have := panesL_take_le (i + 1) ps
          rw [tk, panesL_append, panesL_one, List.length_append] at this
          exact this
        rw [panes] at hs
        refine ⟨_, rfl, _, rfl, u, M, rfl, hM.mono (tups g), hd _ hm, by omega, fun H2 p g2 hp2 => ?_⟩
        refine ⟨x, p, _, _, rfl, rfl, g2 _ _ hx, hp2, small (by rw [List.length_map, List.length_map]; omega), fun t nt => ?_⟩
        refine ⟨t, _, _, rfl, (g.trans g2).trans (same_new nt _), ?_⟩
        rw [upd_same, tk, panesL_append, panesL_one, List.map_append]
      · rintro σ H' ⟨x, y, z, rfl, g, hx⟩
        refine ⟨_, rfl, q _ x g ?_⟩
        rw [hx, ← hp.len, List.take_length]; rfl
end
end Mp
namespace Mp
open PySem PySem.Spec PyProof.Rows L2
section
variable {P : Program} {w : World} {K : PySem.W.Frag} {mg : Str → Option Value} {base : Heap}
/-! ### axis_of -/
def axI (d : Bool) : Int := if d then 0 else 1
def spAxis : Sp := fun vs H Q _ => ∃ d : Bool, vs = [.str (dirS d)] ∧ Q (.int (axI d)) H
theorem scAxis : FnScope ["direction"] ["direction"] (defScope sAxis) := ⟨rfl, rfl, rfl, by decide +kernel, rfl, by decide +kernel, by decide +kernel⟩
theorem cl_axis (T : Txt K w mg) : Cl P w K mg base 1 "axis_of" ["direction"] spAxis := by
  refine cl_of T.dAxis scAxis (fun vs H Q E h => ?_) (fun cdv f A outer s H vs Q E hr h => ?_)
  · obtain ⟨d, rfl, _⟩ := h; rfl
  obtain ⟨d, rfl, q⟩ := h
  obtain ⟨tB, mB⟩ := T.cBeside
  refine ⟨_, pss_one (ps_ret (pe_ifExp (pt_cmpR op_eq (pv 0) (pe_glob (v := .str "beside") rfl mB ⟨_, rfl⟩) (nomark _)) pe_int pe_int)), ?_⟩
  refine ⟨_, rfl, rfl, d, congrArg V.bl str_is, ?_⟩
  cases d
  · exact iteF q
  · exact iteT q
/-! ### least -/
def spLeast (K : PySem.W.Frag) (n : Nat) : Sp := fun vs H Q _ => ∃ (v : V) (L : Lt) (B : Int), vs = [v] ∧ LV H L v ∧ Dep n L ∧ WF B L ∧ (panes L).length ≤ 1000 ∧
  ∀ (H' : Hp) (p : Addr), Same H H' → Tp K H' p [.int (least L).1, .int (least L).2] → Q (.ref p) H'
abbrev nLeast : List Str := ["layout", "sizes", "widths", "heights", "borders", "inner", "_", "size"]
theorem scLeast : FnScope nLeast ["layout"] (defScope sLeast) := ⟨rfl, rfl, rfl, by decide +kernel, rfl, by decide +kernel, by decide +kernel⟩
theorem cl_least (T : Txt K w mg) : ∀ n, Cl P w K mg base n "least" ["layout"] (spLeast K n)
  | 0 => no_call T.dLeast fun vs H Q E h => by
    obtain ⟨v, L, B, _, _, h, _⟩ := h
    exact h
  | n + 1 => by
    have IH := cl_least T n
    obtain ⟨tB, mB⟩ := T.cBeside
    obtain ⟨aP, mP, hP⟩ := T.cPane
    refine cl_of T.dLeast scLeast (fun vs H Q E h => ?_) (fun cdv f A outer s H vs Q E hr h => ?_)
    · obtain ⟨v, L, B, rfl, _⟩ := h; rfl
    obtain ⟨v, L, B, rfl, hL, hd, hwf, hs, q⟩ := h
    refine ⟨_, pss_cons (ps_if (pt_val (pe_callB call_isint rfl T.f_isinstance boot_isinstance (pa_cons (pv 0) (pa_cons (pe_bltn (v := .ty "int") rfl T.f_int boot_int rfl) pa_nil)))) (pss_one (ps_ret (pe_glob (v := .ref aP) rfl mP rfl))) pss_nil)
      (pss_cons (ps_setLc (i := 1) (own := [("inner", 5), ("_", 6)]) (g := gTup K 2 (gCons (gName 5) (gCons (gName 6) gNil))) rfl scLeast.nd rfl rfl (sw_true rfl rfl rfl (by decide +kernel)) (pi_tup (pe_ix ix_tup (pv 0) pe_int (fun _ _ => rfl))) (blkOk_by (N := nLeast) (sc := defScope sLeast) (by decide +kernel))
        (fun _ _ _ _ _ => pg_tup (n := 2) rfl (pgs_cons (pg_name (i := 5) scLeast.nd rfl (.inl rfl)) (pgs_cons (pg_name (i := 6) scLeast.nd rfl (.inl rfl)) pgs_nil))) (fun _ _ _ _ _ => pts_nil) (fun _ _ _ _ _ => pcl IH hr (pa_cons (pv 5) pa_nil)))
      (pss_cons (ps_setLc (i := 2) (own := [("size", 7)]) (g := gName 7) rfl scLeast.nd rfl rfl (sw_true rfl rfl rfl (by decide +kernel)) (pi_list (pv 1)) (blkOk_by (N := nLeast) (sc := defScope sLeast) (by decide +kernel))
        (fun _ _ _ _ _ => pg_name (i := 7) scLeast.nd rfl (.inl rfl)) (fun _ _ _ _ _ => pts_nil) (fun _ _ _ _ _ => pe_ix (r := rIxT K) ix_tup (pv 7) pe_int (fun _ _ => rfl)))
      (pss_cons (ps_setLc (i := 3) (own := [("size", 7)]) (g := gName 7) rfl scLeast.nd rfl rfl (sw_true rfl rfl rfl (by decide +kernel)) (pi_list (pv 1)) (blkOk_by (N := nLeast) (sc := defScope sLeast) (by decide +kernel))
        (fun _ _ _ _ _ => pg_name (i := 7) scLeast.nd rfl (.inl rfl)) (fun _ _ _ _ _ => pts_nil) (fun _ _ _ _ _ => pe_ix (r := rIxT K) ix_tup (pv 7) pe_int (fun _ _ => rfl)))
      (pss_cons (ps_set (i := 4) scLeast.nd rfl (.inl rfl) (pe_op op_sub (pe_callB call_len_seq rfl T.f_len boot_len (pa_cons (pv 1) pa_nil)) pe_int))
      (pss_cons (ps_if (pt_cmpR op_eq (pe_ix ix_tup (pv 0) pe_int (fun _ _ => rfl)) (pe_glob (v := .str "beside") rfl mB ⟨_, rfl⟩) (nomark _))
        (pss_one (ps_ret (pe_tup (pa_cons (pe_op op_add (pe_callB (cr_sum rfl) rfl T.f_sum boot_sum (pa_cons (pv 2) pa_nil)) (pv 4)) (pa_cons (pe_callB (cr_max rfl) rfl T.f_max boot_max (pa_cons (pv 3) pa_nil)) pa_nil))))) pss_nil)
      (pss_one (ps_ret (pe_tup (pa_cons (pe_callB (cr_max rfl) rfl T.f_max boot_max (pa_cons (pv 2) pa_nil)) (pa_cons (pe_op op_add (pe_callB (cr_sum rfl) rfl T.f_sum boot_sum (pa_cons (pv 3) pa_nil)) (pv 4)) pa_nil)))))))))), ?_⟩
    cases hL with
    | pane i =>
      refine ⟨_, rfl, _, rfl, .inl ⟨i, rfl, true, rfl, iteT ?_⟩⟩
      exact q H aP (Same.refl H) (.inr hP)
    | @node d ps a r vs ha hr' hp =>
      refine ⟨_, rfl, _, rfl, .inr ⟨_, _, rfl, ha, false, rfl, iteF ?_⟩⟩
      have hw : 2 ≤ ps.length ∧ ∀ p ∈ ps, WF B p.1 := by
        cases hwf with
        | node _ _ h2 hw _ => exact ⟨h2, hw⟩
      have hlen : ps.length ≤ 1000 := by have := panesL_len hw.2; rw [panes] at hs; omega
      have hls : (leastL ps).length = ps.length := by rw [leastL_eq, List.length_map]
      refine ⟨_, rfl, a, _, 1, _, rfl, rfl, SqT.of ha, rfl, r, rfl, ⟨_, SqT.of hr'⟩, fun D nD => ?_⟩
      refine lc_tup (K := K) (a := r) (xs := vs) (fun i H' => Same H H' ∧ ∃ us, H' D = some (.lst us) ∧ PrV K H' (leastL (ps.take i)) us) ?_ (fun i H' _ ⟨g, _⟩ => SqT.of (g _ _ hr')) ?_ ?_
      · exact ⟨same_new nD _, [], upd_same, .nil⟩
      · rintro i v H' hi ⟨g, us, hD, hu⟩
        obtain ⟨M, s, b, u, e1, rfl, hb, hM⟩ := hp.at hi
        have hm : (M, s) ∈ ps := List.mem_of_getElem? e1
        have hM' : (panes M).length ≤ (panesL ps).length := panes_le hm
        rw [panes] at hs
        refine ⟨b, _, rfl, SqT.of (g _ _ hb), rfl, u, _, rfl, _, _, rfl, rfl, rfl, yes ?_⟩
        refine ⟨_, rfl, u, M, B, rfl, hM.mono (tups g), hd _ hm, hw.2 _ hm, by omega, fun H2 p g2 hp2 => ?_⟩
        have l1 := hu.len
        rw [leastL_eq, List.length_map, List.length_take] at l1
        refine ⟨us, g2 _ _ hD, small1000 (by omega), same_grow nD (g.trans g2), _, upd_same, ?_⟩
        have e2 : leastL (ps.take (i + 1)) = leastL (ps.take i) ++ [((least M).1, (least M).2)] := by
          rw [PsV.take_succ e1, leastL_eq, leastL_eq, List.map_append]; rfl
        rw [e2]
        have t2 : TupS H2 (upd H2 D (.lst (us ++ [.ref p]))) := TupS.lst (g2 _ _ hD)
        exact PrV.snoc (hp2.mono t2) (hu.mono ((tups g2).trans t2))
      rintro H1 ⟨g1, us, hD, hu⟩
      rw [← hp.len, List.take_length] at hu
      have hul : us.length = ps.length := by rw [← hu.len, hls]
      -- widths
      refine ⟨_, rfl, D, rfl, ⟨_, SqL.of hD⟩, fun D2 nD2 => ?_⟩
      refine lc_list (K := K) (a := D) (xs := us) (fun i H' => Same H1 H' ∧ H' D2 = some (.lst (((leastL ps).take i).map fun l => V.int l.1))) ⟨same_new nD2 _, upd_same⟩ (fun i H' _ ⟨g, _⟩ => SqL.of (g _ _ hD)) ?_ ?_
      · rintro i v H' hi ⟨g, h2⟩
        obtain ⟨x, y, b, e1, rfl, hb⟩ := hu.at hi
        have hi' := (List.getElem?_eq_some_iff.mp e1).1
        refine ⟨rfl, yes ⟨_, rfl, b, _, 0, _, rfl, rfl, (hb.mono (tups g)).sq, rfl, _, h2, small1000 (by rw [List.length_map, List.length_take]; omega), same_grow nD2 g, ?_⟩⟩
        rw [upd_same, List.take_add_one, e1, List.map_append]; rfl
      rintro H2 ⟨g2, h2⟩
      rw [hul, ← hls, List.take_length] at h2
      -- heights
      have hD' := g2 _ _ hD
      refine ⟨_, rfl, D, rfl, ⟨_, SqL.of hD'⟩, fun D3 nD3 => ?_⟩
      refine lc_list (K := K) (a := D) (xs := us) (fun i H' => Same H2 H' ∧ H' D3 = some (.lst (((leastL ps).take i).map fun l => V.int l.2))) ⟨same_new nD3 _, upd_same⟩ (fun i H' _ ⟨g, _⟩ => SqL.of (g _ _ hD')) ?_ ?_
      · rintro i v H' hi ⟨g, h3⟩
        obtain ⟨x, y, b, e1, rfl, hb⟩ := hu.at hi
        have hi' := (List.getElem?_eq_some_iff.mp e1).1
        refine ⟨rfl, yes ⟨_, rfl, b, _, 1, _, rfl, rfl, (hb.mono (tups (g2.trans g))).sq, rfl, _, h3, small1000 (by rw [List.length_map, List.length_take]; omega), same_grow nD3 g, ?_⟩⟩
        rw [upd_same, List.take_add_one, e1, List.map_append]; rfl
      rintro H3 ⟨g3, h3⟩
      rw [hul, ← hls, List.take_length] at h3
      have h2' := g3 _ _ h2
      have g := (g1.trans g2).trans g3
      have e1 : ((leastL ps).map fun l => V.int l.1) = ((leastL ps).map (·.1)).map V.int := by rw [List.map_map]; rfl
      have e2 : ((leastL ps).map fun l => V.int l.2) = ((leastL ps).map (·.2)).map V.int := by rw [List.map_map]; rfl
      rw [e1] at h2'
      rw [e2] at h3
      have n1 : ∀ y ∈ (leastL ps).map (·.1), 0 ≤ y := fun y hy => by
        rw [leastL_eq, List.map_map] at hy
        obtain ⟨p, hp, rfl⟩ := List.mem_map.mp hy
        have := least_bd (hw.2 p hp)
        show 0 ≤ (least p.1).1
        omega
      have n2 : ∀ y ∈ (leastL ps).map (·.2), 0 ≤ y := fun y hy => by
        rw [leastL_eq, List.map_map] at hy
        obtain ⟨p, hp, rfl⟩ := List.mem_map.mp hy
        have := least_bd (hw.2 p hp)
        show 0 ≤ (least p.1).2
        omega
      have ln : (us.length : Int) - 1 = ((leastL ps).length : Int) - 1 := by rw [hul, hls]
      -- borders, the two ways
      refine ⟨_, rfl, D, us, rfl, .inl (SqL.of (g3 _ _ hD')), _, _, rfl, rfl, ?_⟩
      refine ⟨_, rfl, a, _, 0, _, rfl, rfl, SqT.of (g _ _ ha), rfl, rfl, d, congrArg V.bl str_is, ?_⟩
      cases d with
      | true =>
        refine iteT ⟨_, rfl, D2, _, rfl, SqL.of h2', _, rfl, _, _, rfl, rfl, _, rfl, D3, _, rfl, SqL.of h3, by rw [List.length_map]; omega, fun m hm1 hm2 => ?_⟩
        refine ⟨(by show 2 ≤ sizeLine; decide), fun p np => q _ p (g.trans (same_new np _)) (.inl ?_)⟩
        rw [upd_same, mxL_is hm1 hm2 n2, ln, least, leastN]; rfl
      | false =>
        refine iteF ⟨_, rfl, D2, _, rfl, SqL.of h2', by rw [List.length_map]; omega, fun m hm1 hm2 => ?_⟩
        refine ⟨_, rfl, D3, _, rfl, SqL.of h3, _, rfl, _, _, rfl, rfl, (by show 2 ≤ sizeLine; decide), fun p np => q _ p (g.trans (same_new np _)) (.inl ?_)⟩
        rw [upd_same, mxL_is hm1 hm2 n1, ln, least, leastN]; rfl
end
end Mp
namespace Mp
open PySem PySem.Spec PyProof.Rows L2
/-- one step of handing out what is left -/
theorem dist_step {res es done : List Int} {k r e : Int} {i : Nat} (hr : res[i]? = some r) (he : es[i]? = some e) :
    done ++ dist (res.drop i) (es.drop i) k = if 0 < e ∧ 0 < k then (done ++ [r + 1]) ++ dist (res.drop (i + 1)) (es.drop (i + 1)) (k - 1) else (done ++ [r]) ++ dist (res.drop (i + 1)) (es.drop (i + 1)) k := by
  obtain ⟨h1, e1⟩ := List.getElem?_eq_some_iff.mp hr
  obtain ⟨h2, e2⟩ := List.getElem?_eq_some_iff.mp he
  rw [List.drop_eq_getElem_cons h1, List.drop_eq_getElem_cons h2, e1, e2, dist]
  split <;> simp
theorem set_mid {α : Type} (xs ys : List α) (y z : α) : (xs ++ y :: ys).set xs.length z = xs ++ z :: ys := by simp
section
variable {P : Program} {w : World} {K : PySem.W.Frag} {mg : Str → Option Value} {base : Heap}
/-! ### share -/
def spShare (K : PySem.W.Frag) : Sp := fun vs H Q _ => ∃ (t : Int) (a b : Addr) (ms ss : List Int), vs = [.int t, .ref a, .ref b] ∧ SqL K H a (ms.map V.int) ∧ SqL K H b (ss.map V.int) ∧ ms.length = ss.length ∧ 1 ≤ ms.length ∧ ms.length ≤ 100 ∧
  0 ≤ t ∧ t ≤ 1000 ∧ (∀ m ∈ ms, 0 ≤ m) ∧ (∀ s ∈ ss, s ≤ 1000) ∧ ∀ (H' : Hp) (p : Addr), Same H H' → H' p = some (.lst ((share t ms ss).map V.int)) → Q (.ref p) H'
abbrev nShare : List Str := ["total", "smallest", "sizes", "spare", "extras", "weight", "extra", "result", "rest", "index", "size", "low"]
theorem scShare : FnScope nShare ["total", "smallest", "sizes"] (defScope sShare) := ⟨rfl, rfl, rfl, by decide +kernel, rfl, by decide +kernel, by decide +kernel⟩
theorem cl_share (T : Txt K w mg) : Cl P w K mg base 1 "share" ["total", "smallest", "sizes"] (spShare K) := by
  refine cl_of T.dShare scShare (fun vs H Q E h => ?_) (fun cdv f A outer s H vs Q E hr h => ?_)
  · obtain ⟨t, a, b, ms, ss, rfl, _⟩ := h; rfl
  obtain ⟨t, a, b, ms, ss, rfl, hA, hB, hl, h1, h100, ht0, ht1, hm0, hs1, q⟩ := h
  refine ⟨_, pss_cons (ps_set (i := 3) scShare.nd rfl (.inr rfl) (pe_callB (call_max2 rfl) rfl T.f_max boot_max (pa_cons pe_int (pa_cons (pe_op op_sub (pe_op op_sub (pv 0) (pe_op op_sub (pe_callB call_len_seq rfl T.f_len boot_len (pa_cons (pv 2) pa_nil)) pe_int)) (pe_callB (cr_sum rfl) rfl T.f_sum boot_sum (pa_cons (pv 1) pa_nil))) pa_nil))))
    (pss_cons (ps_setLc (i := 4) (own := [("size", 10), ("low", 11)]) (g := gTup K 2 (gCons (gName 10) (gCons (gName 11) gNil))) rfl scShare.nd rfl rfl (sw_true rfl rfl rfl (by decide +kernel)) (pi_zip rfl T.f_zip (pa_cons (pv 2) (pa_cons (pv 1) pa_nil))) (blkOk_by (N := nShare) (sc := defScope sShare) (by decide +kernel))
        (fun _ _ _ _ _ => pg_tup (n := 2) rfl (pgs_cons (pg_name (i := 10) scShare.nd rfl (.inl rfl)) (pgs_cons (pg_name (i := 11) scShare.nd rfl (.inl rfl)) pgs_nil))) (fun _ _ _ _ _ => pts_nil)
        (fun _ _ _ _ _ => pe_callB (call_max2 rfl) rfl T.f_max boot_max (pa_cons pe_int (pa_cons (pe_op op_sub (pv 10) (pv 11)) pa_nil))))
    (C8.pss_cut (ps_if (pt_cmpR op_eq (pe_callB (cr_sum rfl) rfl T.f_sum boot_sum (pa_cons (pv 4) pa_nil)) pe_int (nomark _)) (pss_one (ps_set (i := 4) scShare.nd rfl (.inl rfl) (pe_op op_rep (pe_lst (pa_cons pe_int pa_nil)) (pe_callB call_len_seq rfl T.f_len boot_len (pa_cons (pv 2) pa_nil))))) pss_nil)
    (pss_cons (ps_set (i := 5) scShare.nd rfl (.inr rfl) (pe_callB (cr_sum rfl) rfl T.f_sum boot_sum (pa_cons (pv 4) pa_nil)))
    (pss_cons (ps_setLc (i := 7) (own := [("low", 11), ("extra", 6)]) (g := gTup K 2 (gCons (gName 11) (gCons (gName 6) gNil))) rfl scShare.nd rfl rfl (sw_true rfl rfl rfl (by decide +kernel)) (pi_zip rfl T.f_zip (pa_cons (pv 1) (pa_cons (pv 4) pa_nil))) (blkOk_by (N := nShare) (sc := defScope sShare) (by decide +kernel))
        (fun _ _ _ _ _ => pg_tup (n := 2) rfl (pgs_cons (pg_name (i := 11) scShare.nd rfl (.inl rfl)) (pgs_cons (pg_name (i := 6) scShare.nd rfl (.inl rfl)) pgs_nil))) (fun _ _ _ _ _ => pts_nil)
        (fun _ _ _ _ _ => pe_op op_add (pv 11) (pe_op op_fdiv (pe_op op_mul (pv 3) (pv 6)) (pv 5))))
    (pss_cons (ps_set (i := 8) scShare.nd rfl (.inl rfl) (pe_op op_sub (pv 3) (pe_op op_sub (pe_callB (cr_sum rfl) rfl T.f_sum boot_sum (pa_cons (pv 7) pa_nil)) (pe_callB (cr_sum rfl) rfl T.f_sum boot_sum (pa_cons (pv 1) pa_nil)))))
    (pss_cons (ps_for PassesOwn.never rfl (pi_enum rfl T.f_enumerate (pa_cons (pv 4) pa_nil)) (pg_tup (n := 2) rfl (pgs_cons (pg_name (i := 9) scShare.nd rfl (.inl rfl)) (pgs_cons (pg_name (i := 6) scShare.nd rfl (.inl rfl)) pgs_nil)))
        (pss_one (ps_if (PW.pt (pw_and (pt_cmpR op_gt (pv 6) pe_int (nomark _)) (pw_and1 (pt_cmpR op_gt (pv 8) pe_int (nomark _))))) (pss_cons (ps_augS (pv 7) (pv 9) get_list pe_int ip_add set_list) (pss_one (ps_aug (i := 8) scShare.nd rfl (.inl rfl) pe_int ip_sub))) pss_nil)))
    (pss_one (ps_ret (pv 7))))))))), ?_⟩
  have hms : (ms.map V.int).length = ms.length := List.length_map _
  have hss : (ss.map V.int).length = ss.length := List.length_map _
  -- spare
  refine ⟨_, rfl, _, rfl, b, _, rfl, .inl hB, _, _, rfl, rfl, _, _, rfl, rfl, _, rfl, a, ms, rfl, hA, _, _, rfl, rfl, _, _, rfl, ?_⟩
  have esp : (if t - (((ss.map V.int).length : Int) - 1) - ms.sum > 0 then t - (((ss.map V.int).length : Int) - 1) - ms.sum else 0) = spare t ms := by
    rw [max2, hss, ← hl]; rfl
  rw [esp]
  -- extras
  refine ⟨_, rfl, _, rfl, b, a, _, _, rfl, hB, hA, fun D nD => ?_⟩
  refine lc_it (walk_zip (xs := ss.map V.int) (ys := ms.map V.int) (n := ms.length) (by rw [hms, hss]; omega)) (fun i H' => Same H H' ∧ H' D = some (.lst (((extras0 ms ss).take i).map V.int))) ⟨same_new nD _, upd_same⟩ (fun i H' _ ⟨g, _⟩ => ⟨g.seq hB, g.seq hA⟩) ?_ ?_
  · rintro i v H1 H2 hi ⟨g, hD⟩ ⟨p, x, y, rfl, np, rfl, hx, hy⟩
    obtain ⟨s, es, rfl⟩ := getMap hx
    obtain ⟨m, em, rfl⟩ := getMap hy
    refine ⟨p, _, rfl, SqT.of upd_same, rfl, _, _, rfl, _, _, rfl, rfl, rfl, yes ?_⟩
    refine ⟨_, rfl, _, rfl, _, _, rfl, rfl, _, _, rfl, _, (upd_ne (ne_of_none hD np)).trans hD, small1000 (by rw [List.length_map, List.length_take]; omega), same_grow nD (g.trans (same_new np _)), ?_⟩
    have ee : (extras0 ms ss)[i]? = some (max 0 (s - m)) := by rw [extras0, List.getElem?_zipWith, es, em]
    rw [upd_same, List.take_add_one, ee, max2, List.map_append]; rfl
  rintro H1 ⟨g1, hD⟩
  have e0l : (extras0 ms ss).length = ms.length := by rw [extras0, List.length_zipWith]; omega
  rw [← e0l, List.take_length] at hD
  -- all extras nought
  refine ⟨fun σ H' => ∃ X : Addr, σ = [some (.int t), some (.ref a), some (.ref b), some (.int (spare t ms)), some (.ref X), none, none, none, none, none, none, none] ∧ Same H H' ∧ H' X = some (.lst ((extras ms ss).map V.int)) ∧ H X = none, ?_, ?_⟩
  · refine ⟨_, rfl, D, extras0 ms ss, rfl, SqL.of hD, rfl, _, rfl, ?_⟩
    refine ite2 (fun c => ?_) (fun c => ?_)
    · have c' : (extras0 ms ss).sum = 0 := by have := of_decide_eq_true c; injection this
      refine ⟨(by show 1 ≤ sizeLine; decide), fun l nl => ?_⟩
      have g2 : Same H1 (upd H1 l (.lst [.int 1])) := same_new nl _
      refine ⟨_, rfl, b, _, rfl, .inl (g2.seq (g1.seq hB)), l, _, _, rfl, rfl, upd_same, by omega, by rw [hss]; omega, by rw [hss]; show 1 * _ ≤ sizeLine; exact small (by omega), fun X nX => ?_⟩
      refine ⟨X, rfl, (g1.trans g2).trans (same_new nX _), ?_, (g1.trans g2).free nX⟩
      rw [upd_same, extras, if_pos c', hss]
      have : ∀ k : Nat, (List.replicate k [V.int 1]).flatten = (List.replicate k (1 : Int)).map V.int := fun k => by
        induction k with
        | zero => rfl
        | succ k ih => rw [List.replicate_succ, List.flatten_cons, ih, List.replicate_succ, List.map_cons]; rfl
      rw [this]; rfl
    · have c' : ¬ (extras0 ms ss).sum = 0 := fun z => of_decide_eq_false (Bool.eq_false_iff.mpr c) (by rw [z])
      exact ⟨D, rfl, g1, by rw [extras, if_neg c']; exact hD, nD⟩
  rintro σ H2 ⟨X, rfl, g2, hX, nX⟩
  have hxl := extras_len (ms := ms) (ss := ss) hl
  have hW := extras_pos hl h1
  have hW1 : (extras ms ss).sum ≤ 100000 := by
    have k : ∀ y ∈ extras ms ss, y ≤ 1000 := fun y hy => by
      unfold extras at hy
      split at hy
      · have := (List.mem_replicate.mp hy).2; omega
      · rw [extras0] at hy
        obtain ⟨i, hi, rfl⟩ := List.mem_iff_getElem.mp hy
        rw [List.getElem_zipWith]
        have hi1 : i < ss.length := by simp at hi; omega
        have hi2 : i < ms.length := by omega
        have u1 := hs1 _ (List.getElem_mem hi1)
        have u2 := hm0 _ (List.getElem_mem hi2)
        omega
    have := sum_le_mul k
    rw [hxl] at this
    omega
  have hsp : 0 ≤ spare t ms ∧ spare t ms ≤ 1000 := by
    have := sum_nonneg hm0
    unfold spare; omega
  -- weight, result
  refine ⟨_, rfl, X, extras ms ss, rfl, SqL.of hX, ?_⟩
  refine ⟨_, rfl, _, rfl, a, X, _, _, rfl, g2.seq hA, SqL.of hX, fun R nR => ?_⟩
  refine lc_it (walk_zip (xs := ms.map V.int) (ys := (extras ms ss).map V.int) (n := ms.length) (by rw [hms, List.length_map, hxl, Nat.min_self])) (fun i H' => Same H2 H' ∧ H' R = some (.lst (((shares t ms ss).take i).map V.int))) ⟨same_new nR _, upd_same⟩ (fun i H' _ ⟨g, _⟩ => ⟨g.seq (g2.seq hA), SqL.of (g _ _ hX)⟩) ?_ ?_
  · rintro i v H3 H4 hi ⟨g, hR⟩ ⟨p, x, y, rfl, np, rfl, hx, hy⟩
    obtain ⟨m, em, rfl⟩ := getMap hx
    obtain ⟨e, ee, rfl⟩ := getMap hy
    refine ⟨p, _, rfl, SqT.of upd_same, rfl, _, _, rfl, _, _, rfl, rfl, rfl, yes ?_⟩
    refine ⟨_, rfl, _, rfl, _, rfl, _, _, rfl, rfl, .inl ⟨by omega, by omega⟩, _, rfl, _, _, rfl, rfl, ⟨hW, by omega⟩, _, _, rfl, rfl, _, (upd_ne (ne_of_none hR np)).trans hR, small1000 (by rw [List.length_map, List.length_take]; omega), same_grow nR (g.trans (same_new np _)), ?_⟩
    have es : (shares t ms ss)[i]? = some (m + spare t ms * e / (extras ms ss).sum) := by rw [shares, List.getElem?_zipWith, em, ee]
    rw [upd_same, List.take_add_one, es, List.map_append]; rfl
  rintro H3 ⟨g3, hR⟩
  have hsl : (shares t ms ss).length = ms.length := by rw [shares, List.length_zipWith, hxl, Nat.min_self]
  rw [← hsl, List.take_length] at hR
  have gA := g2.trans g3
  have hX3 := g3 _ _ hX
  have hRn : H R = none := g2.free nR
  have hRX : X ≠ R := ne_of_none hX nR
  -- rest
  refine ⟨_, rfl, _, rfl, R, _, rfl, SqL.of hR, _, rfl, a, ms, rfl, gA.seq hA, _, _, rfl, rfl, _, _, rfl, rfl, ?_⟩
  -- what is left is handed out
  refine ⟨_, rfl, X, _, rfl, SqL.of hX3, ?_⟩
  refine for_it (walk_enum (xs := (extras ms ss).map V.int)) (fun i σ H' => ∃ (done : List Int) (k : Int) (e9 e6 : Option V), done.length = i ∧ σ = [some (.int t), some (.ref a), some (.ref b), some (.int (spare t ms)), some (.ref X), some (.int (extras ms ss).sum), e6, some (.ref R), some (.int k), e9, none, none] ∧ Same H H' ∧
      H' X = some (.lst ((extras ms ss).map V.int)) ∧ H' R = some (.lst ((done ++ (shares t ms ss).drop i).map V.int)) ∧ done ++ dist ((shares t ms ss).drop i) ((extras ms ss).drop i) k = share t ms ss)
    ⟨[], _, none, none, rfl, rfl, gA, hX3, hR, rfl⟩ (fun i σ H' _ ⟨_, _, _, _, _, _, _, hX, _⟩ => SqL.of hX) ?_ ?_
  · rintro i v σ H4 H5 hi ⟨done, k, e9, e6, hdl, rfl, g, hX4, hR4, hdist⟩ ⟨p, x, y, rfl, np, rfl, hx, hy⟩
    rw [List.length_map, hxl] at hi
    cases (Option.some.inj hx)
    obtain ⟨e, ee, rfl⟩ := getMap hy
    obtain ⟨r, er⟩ : ∃ r, (shares t ms ss)[i]? = some r := ⟨_, List.getElem?_eq_getElem (by omega)⟩
    have er' := er
    obtain ⟨hi2, er2⟩ := List.getElem?_eq_some_iff.mp er
    have hdrop : (shares t ms ss).drop i = r :: (shares t ms ss).drop (i + 1) := by rw [List.drop_eq_getElem_cons hi2, er2]
    have hp5 := same_new np (HO.tup [.int (i : Nat), .int e])
    rw [dist_step er ee] at hdist
    have hX5 := hp5 _ _ hX4
    have hR5 := hp5 _ _ hR4
    refine ⟨p, _, rfl, SqT.of upd_same, rfl, _, _, rfl, _, _, rfl, rfl, ?_⟩
    refine ⟨_, rfl, _, _, rfl, rfl, _, rfl, ite2 (fun c1 => ?_) (fun c1 => ?_)⟩
    · have c1' : 0 < e := of_decide_eq_true c1
      refine ⟨_, rfl, _, _, rfl, rfl, _, rfl, ite2 (fun c2 => ?_) (fun c2 => ?_)⟩
      · have c2' : 0 < k := of_decide_eq_true c2
        rw [if_pos ⟨c1', c2'⟩] at hdist
        refine ⟨_, rfl, _, rfl, R, _, (i : Int), .int r, rfl, rfl, SqL.of hR5, by omega, ?_, ?_⟩
        · rw [List.getElem?_map, hdrop, Int.toNat_natCast, ← hdl, List.getElem?_append_right (Nat.le_refl _), Nat.sub_self]; rfl
        refine ⟨_, _, rfl, rfl, R, _, _, i, rfl, rfl, hR5, ixN_nat (by rw [List.length_map, List.length_append, List.length_drop]; omega), ?_⟩
        refine ⟨_, rfl, _, _, rfl, rfl, done ++ [r + 1], k - 1, _, _, by rw [List.length_append, hdl]; rfl, rfl, same_grow hRn (g.trans hp5), by rw [upd_ne hRX]; exact hX5, ?_, hdist⟩
        rw [upd_same, hdrop]
        have : ((done ++ r :: (shares t ms ss).drop (i + 1)).map V.int).set i (.int (r + 1)) = (done ++ (r + 1) :: (shares t ms ss).drop (i + 1)).map V.int := by
          rw [← List.map_set, ← hdl, set_mid]
        rw [this, List.append_assoc]; rfl
      · have c2' : ¬ 0 < k := of_decide_eq_false (Bool.eq_false_iff.mpr c2)
        rw [if_neg (fun z => c2' z.2)] at hdist
        refine ⟨done ++ [r], k, _, _, by rw [List.length_append, hdl]; rfl, rfl, g.trans hp5, hX5, ?_, hdist⟩
        rw [hR5, hdrop, List.append_assoc]; rfl
    · have c1' : ¬ 0 < e := of_decide_eq_false (Bool.eq_false_iff.mpr c1)
      rw [if_neg (fun z => c1' z.1)] at hdist
      refine iteF ⟨done ++ [r], k, _, _, by rw [List.length_append, hdl]; rfl, rfl, g.trans hp5, hX5, ?_, hdist⟩
      rw [hR5, hdrop, List.append_assoc]; rfl
  · rintro σ H4 ⟨done, k, e9, e6, hdl, rfl, g, hX4, hR4, hdist⟩
    refine ⟨_, rfl, q _ R g ?_⟩
    rw [List.length_map, hxl] at hdl hR4 hdist
    rw [hR4]
    rw [← hsl, List.drop_length] at hdist ⊢
    have : dist [] (List.drop (shares t ms ss).length (extras ms ss)) k = [] := by cases (List.drop (shares t ms ss).length (extras ms ss)) <;> rfl
    rw [this] at hdist
    rw [hdist]
end
end Mp
namespace Mp
open PySem PySem.Spec PyProof.Rows L2
section
variable {P : Program} {w : World} {K : PySem.W.Frag} {mg : Str → Option Value} {base : Heap}
/-! ### fitted -/
def spFitted (n : Nat) : Sp := fun vs H Q _ => ∃ (v : V) (L : Lt) (w h : Int), vs = [v, .int w, .int h] ∧ LV H L v ∧ Dep n L ∧ WF 1000 L ∧ (panes L).length ≤ 16 ∧ w ≤ 100 ∧ h ≤ 100 ∧
  ∀ (H' : Hp) (u : V), Same H H' → LV H' (fitted L w h) u → Q u H'
abbrev nFitted : List Str := ["layout", "width", "height", "low", "direction", "parts", "axis", "inner", "_", "smallest", "size", "sizes", "news"]
theorem scFitted : FnScope nFitted ["layout", "width", "height"] (defScope sFitted) := ⟨rfl, rfl, rfl, by decide +kernel, rfl, by decide +kernel, by decide +kernel⟩
theorem ax_at {d : Bool} {x y : Int} : atI [V.int x, V.int y] (axI d) = some (.int (ax d (x, y))) := by cases d <;> rfl
theorem axI_is {d : Bool} : decide (V.int (axI d) = V.int 0) = d := by cases d <;> decide +kernel
theorem cl_fitted (T : Txt K w mg) : ∀ n, n ≤ 16 → Cl P w K mg base (n + 18) "fitted" ["layout", "width", "height"] (spFitted n)
  | 0, _ => (no_call T.dFitted fun vs H Q E h => by
    obtain ⟨v, L, _, _, _, _, h, _⟩ := h
    exact h).mono (by omega)
  | n + 1, hn => by
    have IH := cl_fitted T n (by omega)
    have LE : Cl P w K mg base 16 "least" ["layout"] (spLeast K 16) := cl_least T 16
    have SH : Cl P w K mg base 1 "share" ["total", "smallest", "sizes"] (spShare K) := cl_share T
    have AX : Cl P w K mg base 1 "axis_of" ["direction"] spAxis := cl_axis T
    refine cl_of T.dFitted scFitted (fun vs H Q E h => ?_) (fun cdv f A outer s H vs Q E hr h => ?_)
    · obtain ⟨v, L, w, h, rfl, _⟩ := h; rfl
    obtain ⟨v, L, w, h, rfl, hL, hd, hwf, hs, hw1, hh1, q⟩ := h
    have hr16 := hr.mono (j := 16) (by omega)
    have hr1 := hr.mono (j := 1) (by omega)
    refine ⟨_, (pss_cons (ps_if (pt_val (pe_callB call_isint rfl T.f_isinstance boot_isinstance (pa_cons (pv 0) (pa_cons (pe_bltn (v := .ty "int") rfl T.f_int boot_int rfl) pa_nil)))) (pss_one (ps_ret (pv 0))) pss_nil)
      (pss_cons (ps_set (i := 3) scFitted.nd rfl (.inl rfl) (pcl LE hr16 (pa_cons (pv 0) pa_nil)))
      (pss_cons (ps_set (i := 1) scFitted.nd rfl (.inl rfl) (pe_callB (call_max2 rfl) rfl T.f_max boot_max (pa_cons (pv 1) (pa_cons (pe_ix (r := rIxT K) ix_tup (pv 3) pe_int (fun _ _ => rfl)) pa_nil))))
      (pss_cons (ps_set (i := 2) scFitted.nd rfl (.inl rfl) (pe_callB (call_max2 rfl) rfl T.f_max boot_max (pa_cons (pv 2) (pa_cons (pe_ix (r := rIxT K) ix_tup (pv 3) pe_int (fun _ _ => rfl)) pa_nil))))
      (pss_cons (ps_asg (pv 0) (pg_tup (n := 2) rfl (pgs_cons (pg_name (i := 4) scFitted.nd rfl (.inl rfl)) (pgs_cons (pg_name (i := 5) scFitted.nd rfl (.inl rfl)) pgs_nil))))
      (pss_cons (ps_set (i := 6) scFitted.nd rfl (.inr rfl) (pcl AX hr1 (pa_cons (pv 4) pa_nil)))
      (pss_cons (ps_setLc (i := 9) (own := [("inner", 7), ("_", 8)]) (g := gTup K 2 (gCons (gName 7) (gCons (gName 8) gNil))) rfl scFitted.nd rfl rfl (sw_true rfl rfl rfl (by decide +kernel)) (pi_tup (pv 5)) (blkOk_by (N := nFitted) (sc := defScope sFitted) (by decide +kernel))
        (fun _ _ _ _ _ => pg_tup (n := 2) rfl (pgs_cons (pg_name (i := 7) scFitted.nd rfl (.inl rfl)) (pgs_cons (pg_name (i := 8) scFitted.nd rfl (.inl rfl)) pgs_nil))) (fun _ _ _ _ _ => pts_nil)
        (fun _ _ _ _ _ => pe_ix (r := rIxT K) ix_tup (pcl LE hr16 (pa_cons (pv 7) pa_nil)) (pv 6) (fun _ _ => rfl)))
      (pss_cons (ps_set (i := 11) scFitted.nd rfl (.inl rfl) (pcl SH hr1 (pa_cons (pe_ifExp (pt_cmpR op_eq (pv 6) pe_int (nomark _)) (pv 1) (pv 2)) (pa_cons (pv 9) (pa_cons
        (pe_lc (own := [("_", 8), ("size", 10)]) (g := gTup K 2 (gCons (gName 8) (gCons (gName 10) gNil))) rfl scFitted.nd (pi_tup (pv 5)) (blkOk_by (N := nFitted) (sc := defScope sFitted) (by decide +kernel))
          (fun _ _ _ _ _ => pg_tup (n := 2) rfl (pgs_cons (pg_name (i := 8) scFitted.nd rfl (.inl rfl)) (pgs_cons (pg_name (i := 10) scFitted.nd rfl (.inl rfl)) pgs_nil))) (fun _ _ _ _ _ => pts_nil) (fun _ _ _ _ _ => pv 10)) pa_nil)))))
      (pss_cons (ps_set (i := 12) scFitted.nd rfl (.inl rfl) (pe_lst pa_nil))
      (pss_cons (ps_for PassesOwn.never rfl (pi_zipM rfl T.f_zip (pa_cons (pv 5) (pa_cons (pv 11) pa_nil))) (pg_tup (n := 2) rfl (pgs_cons (pg_tup (n := 2) rfl (pgs_cons (pg_name (i := 7) scFitted.nd rfl (.inl rfl)) (pgs_cons (pg_name (i := 8) scFitted.nd rfl (.inl rfl)) pgs_nil))) (pgs_cons (pg_name (i := 10) scFitted.nd rfl (.inl rfl)) pgs_nil)))
        (pss_one (ps_if (pt_cmpR op_eq (pv 6) pe_int (nomark _))
          (pss_one (ps_expr (pe_bm PySem.F.plainAttrs_list PySem.F.slot_list_append PySem.F.type_list_append mt_append (pv 12) (pa_cons (pe_tup (pa_cons (pcl IH hr (pa_cons (pv 7) (pa_cons (pv 10) (pa_cons (pv 2) pa_nil)))) (pa_cons (pv 10) pa_nil))) pa_nil))))
          (pss_one (ps_expr (pe_bm PySem.F.plainAttrs_list PySem.F.slot_list_append PySem.F.type_list_append mt_append (pv 12) (pa_cons (pe_tup (pa_cons (pcl IH hr (pa_cons (pv 7) (pa_cons (pv 1) (pa_cons (pv 10) pa_nil)))) (pa_cons (pv 10) pa_nil))) pa_nil)))))))
      (pss_one (ps_ret (pe_tup (pa_cons (pv 4) (pa_cons (pe_callTy call_tuple_of rfl T.f_tuple boot_tuple (pa_cons (pv 12) pa_nil)) pa_nil))))))))))))))), ?_⟩
    cases hL with
    | pane i =>
      refine ⟨_, rfl, _, rfl, .inl ⟨i, rfl, true, rfl, iteT ⟨_, rfl, ?_⟩⟩⟩
      refine q H _ (Same.refl H) ?_
      rw [fitted]; exact .pane i
    | @node d ps a r vs ha hr' hp =>
      refine ⟨_, rfl, _, rfl, .inr ⟨_, _, rfl, ha, false, rfl, iteF ?_⟩⟩
      have hw : 2 ≤ ps.length ∧ ∀ p ∈ ps, WF 1000 p.1 := by
        cases hwf with
        | node _ _ h2 hw _ => exact ⟨h2, hw⟩
      have hsz : ∀ p ∈ ps, p.2 ≤ 1000 := by
        cases hwf with
        | node _ _ _ _ hz => exact fun p hp => (hz p hp).2
      have hlb := least_bd hwf
      have hd16 : Dep 16 (.node d ps) := hd.mono hn
      have hp16 : ∀ p ∈ ps, Dep 16 p.1 := fun p hp => (hd p hp).mono (by omega)
      have hps := hs
      rw [panes] at hps
      have hlen := panesL_len hw.2
      have hpl : ∀ p ∈ ps, (panes p.1).length ≤ 16 := fun p hp => by have := panes_le hp; omega
      refine ⟨_, rfl, _, _, 1000, rfl, .node ha hr' hp, hd16, hwf, by omega, fun H1 pl g1 hpl' => ?_⟩
      -- width, height
      refine ⟨_, rfl, _, rfl, pl, _, 0, _, rfl, rfl, hpl'.sq, rfl, _, _, rfl, ?_⟩
      refine ⟨_, rfl, _, rfl, pl, _, 1, _, rfl, rfl, hpl'.sq, rfl, _, _, rfl, ?_⟩
      rw [max2, max2]
      have eW : max w (least (.node d ps)).1 = roomW d ps w := by rw [least]; rfl
      have eH : max h (least (.node d ps)).2 = roomH d ps h := by rw [least]; rfl
      rw [eW, eH]
      -- direction, parts; axis
      refine ⟨_, rfl, a, _, rfl, SqT.of (g1 _ _ ha), rfl, _, _, rfl, _, _, rfl, rfl, ?_⟩
      refine ⟨_, rfl, d, rfl, ?_⟩
      -- smallest
      refine ⟨_, rfl, r, rfl, ⟨_, SqT.of (g1 _ _ hr')⟩, fun D nD => ?_⟩
      refine lc_tup (K := K) (a := r) (xs := vs) (fun i H' => Same H1 H' ∧ H' D = some (.lst ((((leastL ps).map (ax d)).take i).map V.int))) ⟨same_new nD _, upd_same⟩ (fun i H' _ ⟨g, _⟩ => SqT.of (g _ _ (g1 _ _ hr'))) ?_ ?_
      · rintro i v H' hi ⟨g, hD⟩
        obtain ⟨M, s, b, u, e1, rfl, hb, hM⟩ := hp.at hi
        have hm : (M, s) ∈ ps := List.mem_of_getElem? e1
        have gg := g1.trans g
        refine ⟨b, _, rfl, SqT.of (gg _ _ hb), rfl, u, _, rfl, _, _, rfl, rfl, rfl, yes ?_⟩
        have k16 : (panes M).length ≤ 16 := hpl _ hm
        refine ⟨_, rfl, u, M, 1000, rfl, hM.mono (tups gg), hp16 _ hm, hw.2 _ hm, by omega, fun H2 p g2 hp2 => ?_⟩
        refine ⟨_, rfl, p, _, axI d, _, rfl, rfl, hp2.sq, ax_at, _, g2 _ _ hD, small1000 (by rw [List.length_map, List.length_take, List.length_map, leastL_eq, List.length_map]; omega), same_grow nD (g.trans g2), ?_⟩
        have e2 : ((leastL ps).map (ax d))[i]? = some (ax d ((least M).1, (least M).2)) := by rw [leastL_eq, List.getElem?_map, List.getElem?_map, e1]; rfl
        rw [upd_same, List.take_add_one, e2, List.map_append]; rfl
      rintro H2 ⟨g2, hD⟩
      have hml : ((leastL ps).map (ax d)).length = ps.length := by rw [List.length_map, leastL_eq, List.length_map]
      rw [← hp.len, ← hml, List.take_length] at hD
      have gb := g1.trans g2
      -- the share
      refine ⟨_, rfl, rfl, d, congrArg V.bl axI_is, ifVar rfl rfl ?_⟩
      refine ⟨_, rfl, _, rfl, r, rfl, ⟨_, SqT.of (gb _ _ hr')⟩, fun D2 nD2 => ?_⟩
      refine lc_tup (K := K) (a := r) (xs := vs) (fun i H' => Same H2 H' ∧ H' D2 = some (.lst (((ps.map (·.2)).take i).map V.int))) ⟨same_new nD2 _, upd_same⟩ (fun i H' _ ⟨g, _⟩ => SqT.of (g _ _ (gb _ _ hr'))) ?_ ?_
      · rintro i v H' hi ⟨g, hD2⟩
        obtain ⟨M, s, b, u, e1, rfl, hb, hM⟩ := hp.at hi
        have gg := gb.trans g
        refine ⟨b, _, rfl, SqT.of (gg _ _ hb), rfl, u, _, rfl, _, _, rfl, rfl, rfl, yes ?_⟩
        refine ⟨_, rfl, _, hD2, small1000 (by rw [List.length_map, List.length_take, List.length_map]; omega), same_grow nD2 g, ?_⟩
        have e2 : (ps.map (·.2))[i]? = some s := by rw [List.getElem?_map, e1]; rfl
        rw [upd_same, List.take_add_one, e2, List.map_append]; rfl
      rintro H3 ⟨g3, hD2⟩
      have hsl : (ps.map (·.2)).length = ps.length := List.length_map _
      rw [← hp.len, ← hsl, List.take_length] at hD2
      have gc := gb.trans g3
      have rb : roomW d ps w ≤ 100 ∧ roomH d ps h ≤ 100 ∧ 1 ≤ roomW d ps w ∧ 1 ≤ roomH d ps h := by
        have e1 : (least (.node d ps)).1 = (leastN d (leastL ps)).1 := by rw [least]
        have e2 : (least (.node d ps)).2 = (leastN d (leastL ps)).2 := by rw [least]
        unfold roomW roomH; omega
      refine ⟨if d then roomW d ps w else roomH d ps h, D, D2, (leastL ps).map (ax d), ps.map (·.2), ?_, SqL.of (g3 _ _ hD), SqL.of hD2, by rw [hml, hsl], by omega, by omega, by split <;> omega, by split <;> omega, ?_, ?_, fun H4 S g4 hS => ?_⟩
      · cases d <;> rfl
      · intro m hm
        rw [leastL_eq, List.map_map] at hm
        obtain ⟨p, hp, rfl⟩ := List.mem_map.mp hm
        have := least_bd (hw.2 p hp)
        show 0 ≤ ax d (least p.1)
        unfold ax; split <;> omega
      · intro z hz
        obtain ⟨p, hp, rfl⟩ := List.mem_map.mp hz
        exact hsz p hp
      have hS' : H4 S = some (.lst ((newSizes d ps w h).map V.int)) := hS
      have gd := gc.trans g4
      have nl := newSizes_len d ps w h
      have nb := newSizes_bd (w := w) (h := h) (by omega) hw.2 rb.1 rb.2.1
      -- news
      refine ⟨(by show 0 ≤ sizeLine; decide), fun N nN => ?_⟩
      have g5 : Same H4 (upd H4 N (.lst [])) := same_new nN _
      have ge := gd.trans g5
      have hNn : H N = none := gd.free nN
      have hSN : S ≠ N := ne_of_none hS' nN
      refine ⟨_, rfl, _, rfl, r, S, _, _, rfl, SqT.of (ge _ _ hr'), SqL.of (g5 _ _ hS'), ?_⟩
      refine for_it (walk_zipM (xs := vs) (ys := (newSizes d ps w h).map V.int) (by rw [List.length_map, nl, hp.len])) (fun i σ H' => ∃ (us : List V) (e7 e8 e10 : Option V), σ = [some (.ref a), some (.int (roomW d ps w)), some (.int (roomH d ps h)), some (.ref pl), some (.str (dirS d)), some (.ref r), some (.int (axI d)), e7, e8, some (.ref D), e10, some (.ref S), some (.ref N)] ∧
        Same H H' ∧ H' S = some (.lst ((newSizes d ps w h).map V.int)) ∧ H' N = some (.lst us) ∧ PsV H' ((List.zipWith (fun p s => (fit1 d (roomW d ps w) (roomH d ps h) p.1 s, s)) ps (newSizes d ps w h)).take i) us)
        ⟨[], none, none, none, rfl, ge, g5 _ _ hS', upd_same, .nil⟩ (fun i σ H' _ ⟨_, _, _, _, _, g, hS, _⟩ => ⟨SqT.of (g _ _ hr'), SqL.of hS⟩) ?_ ?_
      · rintro i v σ H5 H6 hi ⟨us, e7, e8, e10, rfl, g, hS5, hN5, hus⟩ ⟨p, x, y, rfl, np, rfl, hx, hy⟩
        obtain ⟨M, s, b, u, e1, rfl, hb, hM⟩ := hp.at hx
        obtain ⟨z, ez, rfl⟩ := getMap hy
        have hm : (M, s) ∈ ps := List.mem_of_getElem? e1
        have zb := nb z (List.mem_of_getElem? ez)
        have g6 := same_new np (HO.tup [.ref b, .int z])
        have gg := g.trans g6
        have k16 : (panes M).length ≤ 16 := hpl _ hm
        have hul := hus.len
        rw [List.length_take, List.length_zipWith] at hul
        have hi' : i < ps.length := (List.getElem?_eq_some_iff.mp e1).1
        have ez2 : (List.zipWith (fun p s => (fit1 d (roomW d ps w) (roomH d ps h) p.1 s, s)) ps (newSizes d ps w h))[i]? = some (fit1 d (roomW d ps w) (roomH d ps h) M z, z) := by rw [List.getElem?_zipWith, e1, ez]
        -- what both ways do behind the call
        have fin : ∀ (H7 : Hp) (w7 : V) (t : Addr), Same (upd H5 p (.tup [.ref b, .int z])) H7 → LV H7 (fit1 d (roomW d ps w) (roomH d ps h) M z) w7 → H7 t = none →
            Same H (upd (upd H7 t (.tup [w7, .int z])) N (.lst (us ++ [.ref t]))) ∧ upd (upd H7 t (.tup [w7, .int z])) N (.lst (us ++ [.ref t])) S = some (.lst ((newSizes d ps w h).map V.int)) ∧
            PsV (upd (upd H7 t (.tup [w7, .int z])) N (.lst (us ++ [.ref t]))) ((List.zipWith (fun p s => (fit1 d (roomW d ps w) (roomH d ps h) p.1 s, s)) ps (newSizes d ps w h)).take (i + 1)) (us ++ [.ref t]) ∧ upd H7 t (.tup [w7, .int z]) N = some (.lst us) := fun H7 w7 t g7 h7 nt => by
          have s7 := same_new nt (HO.tup [w7, .int z])
          have hN7 := s7 _ _ (g7 _ _ (g6 _ _ hN5))
          have t8 : TupS (upd H7 t (.tup [w7, .int z])) (upd (upd H7 t (.tup [w7, .int z])) N (.lst (us ++ [.ref t]))) := TupS.lst hN7
          refine ⟨same_grow hNn ((gg.trans g7).trans s7), ?_, ?_, hN7⟩
          · rw [upd_ne hSN]; exact s7 _ _ (g7 _ _ (g6 _ _ hS5))
          · rw [PsV.take_succ ez2]
            exact PsV.snoc (hus.mono (((tups g6).trans (tups g7)).trans ((tups s7).trans t8))) (t8 _ _ upd_same) (h7.mono ((tups s7).trans t8))
        refine ⟨p, _, rfl, SqT.of upd_same, rfl, _, _, rfl, ⟨b, _, rfl, SqT.of (gg _ _ hb), rfl, u, _, rfl, _, _, rfl, rfl, ?_⟩⟩
        refine ⟨_, _, rfl, rfl, ?_⟩
        refine ⟨_, rfl, rfl, d, congrArg V.bl axI_is, ?_⟩
        cases d with
        | true =>
          refine iteT ⟨_, rfl, .inl ⟨rfl, _, SqL.of (g6 _ _ hN5)⟩, _, rfl, _, rfl, _, rfl, u, M, z, _, rfl, hM.mono (tups gg), hd _ hm, hw.2 _ hm, hpl _ hm, zb.2, rb.2.1, fun H7 w7 g7 h7 => ?_⟩
          refine ⟨_, rfl, (by show 2 ≤ sizeLine; decide), fun t nt => ?_⟩
          obtain ⟨f1, f2, f3, f4⟩ := fin H7 w7 t g7 h7 nt
          exact ⟨N, _, _, rfl, rfl, f4, small1000 (by omega), _, _, _, _, rfl, f1, f2, upd_same, f3⟩
        | false =>
          refine iteF ⟨_, rfl, .inl ⟨rfl, _, SqL.of (g6 _ _ hN5)⟩, _, rfl, _, rfl, _, rfl, u, M, _, z, rfl, hM.mono (tups gg), hd _ hm, hw.2 _ hm, hpl _ hm, rb.1, zb.2, fun H7 w7 g7 h7 => ?_⟩
          refine ⟨_, rfl, (by show 2 ≤ sizeLine; decide), fun t nt => ?_⟩
          obtain ⟨f1, f2, f3, f4⟩ := fin H7 w7 t g7 h7 nt
          exact ⟨N, _, _, rfl, rfl, f4, small1000 (by omega), _, _, _, _, rfl, f1, f2, upd_same, f3⟩
      · rintro σ H5 ⟨us, e7, e8, e10, rfl, g, hS5, hN5, hus⟩
        have ez : (List.zipWith (fun p s => (fit1 d (roomW d ps w) (roomH d ps h) p.1 s, s)) ps (newSizes d ps w h)).length = vs.length := by rw [List.length_zipWith, nl, Nat.min_self, hp.len]
        rw [← ez, List.take_length] at hus
        refine ⟨_, rfl, _, rfl, N, us, rfl, .inl ⟨SqL.of hN5, fun tp ntp => ?_⟩⟩
        have s6 := same_new ntp (HO.tup us)
        refine ⟨(by show 2 ≤ sizeLine; decide), fun o no => ?_⟩
        have s7 := same_new no (HO.tup [.str (dirS d), .ref tp])
        refine q _ _ ((g.trans s6).trans s7) ?_
        rw [fitted_node]
        exact .node upd_same (s7 _ _ upd_same) (hus.mono ((tups s6).trans (tups s7)))
end
end Mp
namespace Mp
open PySem PySem.Spec PyProof.Rows L2
/-! ### boxes in memory -/
inductive BsV (H : Hp) : List Box → List V → Prop
  | nil : BsV H [] []
  | cons {b : Box} {bs : List Box} {a : Addr} {vs : List V} : H a = some (.tup [.int b.pane, .int b.row, .int b.col, .int b.wide, .int b.high]) → BsV H bs vs → BsV H (b :: bs) (.ref a :: vs)
theorem BsV.mono {H H' : Hp} (t : TupS H H') : ∀ {bs : List Box} {vs : List V}, BsV H bs vs → BsV H' bs vs
  | _, _, .nil => .nil
  | _, _, .cons h1 h2 => .cons (t _ _ h1) (BsV.mono t h2)
theorem BsV.len {H : Hp} : ∀ {bs : List Box} {vs : List V}, BsV H bs vs → bs.length = vs.length
  | _, _, .nil => rfl
  | _, _, .cons _ h => by rw [List.length_cons, List.length_cons, h.len]
theorem BsV.append {H : Hp} {cs : List Box} {ws : List V} (k : BsV H cs ws) : ∀ {bs : List Box} {vs : List V}, BsV H bs vs → BsV H (bs ++ cs) (vs ++ ws)
  | _, _, .nil => k
  | _, _, .cons h1 h2 => .cons h1 (BsV.append k h2)
theorem BsV.at {H : Hp} : ∀ {bs : List Box} {vs : List V} {i : Nat} {v : V}, BsV H bs vs → vs[i]? = some v → ∃ (b : Box) (a : Addr), bs[i]? = some b ∧ v = .ref a ∧ H a = some (.tup [.int b.pane, .int b.row, .int b.col, .int b.wide, .int b.high])
  | _, _, _, _, .nil, e => by simp at e
  | _, _, 0, v, .cons h1 _, e => by
    have : v = .ref _ := (Option.some.inj e).symm
    subst this
    exact ⟨_, _, rfl, rfl, h1⟩
  | _, _, i + 1, v, .cons _ h, e => by
    obtain ⟨b, a, e1, e2⟩ := BsV.at (i := i) h (by simpa using e)
    exact ⟨b, a, by simpa using e1, e2⟩
theorem placed_len (L : Lt) (r c w h : Int) : (placed L r c w h).length = (panes L).length := by
  rw [← placed_panes L r c w h, List.length_map]
section
variable {P : Program} {w : World} {K : PySem.W.Frag} {mg : Str → Option Value} {base : Heap}
/-! ### placed -/
def spPlaced (n : Nat) : Sp := fun vs H Q _ => ∃ (v : V) (L : Lt) (r c w h : Int), vs = [v, .int r, .int c, .int w, .int h] ∧ LV H L v ∧ Dep n L ∧ WF 1000 L ∧ (panes L).length ≤ 100 ∧
  ∀ (H' : Hp) (p f g : Addr) (fs bs : List V), Same H H' → H' p = some (.tup [.ref f, .ref g]) → H' f = some (.lst fs) → BsV H' (placed L r c w h) fs → H' g = some (.lst bs) → bs.length + 1 ≤ (panes L).length → Q (.ref p) H'
abbrev nPlaced : List Str := ["layout", "row", "column", "width", "height", "found", "borders", "direction", "parts", "index", "inner", "size", "more"]
theorem scPlaced : FnScope nPlaced ["layout", "row", "column", "width", "height"] (defScope sPlaced) := ⟨rfl, rfl, rfl, by decide +kernel, rfl, by decide +kernel, by decide +kernel⟩
theorem cl_placed (T : Txt K w mg) : ∀ n, Cl P w K mg base n "placed" ["layout", "row", "column", "width", "height"] (spPlaced n)
  | 0 => no_call T.dPlaced fun vs H Q E h => by
    obtain ⟨v, L, _, _, _, _, _, _, h, _⟩ := h
    exact h
  | n + 1 => by
    have IH := cl_placed T n
    obtain ⟨tB, mB⟩ := T.cBeside
    refine cl_of T.dPlaced scPlaced (fun vs H Q E h => ?_) (fun cdv f A outer s H vs Q E hr h => ?_)
    · obtain ⟨v, L, r, c, w, h, rfl, _⟩ := h; rfl
    obtain ⟨v, L, r, c, w, h, rfl, hL, hd, hwf, hs, q⟩ := h
    refine ⟨_, (pss_cons (ps_if (pt_val (pe_callB call_isint rfl T.f_isinstance boot_isinstance (pa_cons (pv 0) (pa_cons (pe_bltn (v := .ty "int") rfl T.f_int boot_int rfl) pa_nil))))
        (pss_one (ps_ret (pe_tup (pa_cons (pe_lst (pa_cons (pe_tup (pa_cons (pv 0) (pa_cons (pv 1) (pa_cons (pv 2) (pa_cons (pv 3) (pa_cons (pv 4) pa_nil)))))) pa_nil)) (pa_cons (pe_lst pa_nil) pa_nil))))) pss_nil)
      (pss_cons (ps_set (i := 5) scPlaced.nd rfl (.inl rfl) (pe_lst pa_nil))
      (pss_cons (ps_set (i := 6) scPlaced.nd rfl (.inl rfl) (pe_lst pa_nil))
      (pss_cons (ps_asg (pv 0) (pg_tup (n := 2) rfl (pgs_cons (pg_name (i := 7) scPlaced.nd rfl (.inl rfl)) (pgs_cons (pg_name (i := 8) scPlaced.nd rfl (.inl rfl)) pgs_nil))))
      (pss_cons (ps_for PassesOwn.never rfl (pi_enumT rfl T.f_enumerate (pa_cons (pv 8) pa_nil)) (pg_tup (n := 2) rfl (pgs_cons (pg_name (i := 9) scPlaced.nd rfl (.inl rfl)) (pgs_cons (pg_tup (n := 2) rfl (pgs_cons (pg_name (i := 10) scPlaced.nd rfl (.inl rfl)) (pgs_cons (pg_name (i := 11) scPlaced.nd rfl (.inl rfl)) pgs_nil))) pgs_nil)))
        (C8.pss_cut (ps_if (pt_cmpR op_eq (pv 7) (pe_glob (v := .str "beside") rfl mB ⟨_, rfl⟩) (nomark _))
            (C8.pss_cut (ps_if (pt_cmpR op_gt (pv 9) pe_int (nomark _)) (pss_one (ps_expr (pe_bm PySem.F.plainAttrs_list PySem.F.slot_list_append PySem.F.type_list_append mt_append (pv 6) (pa_cons (pe_tup (pa_cons pe_int (pa_cons (pv 1) (pa_cons (pe_op op_sub (pv 2) pe_int) (pa_cons pe_int (pa_cons (pv 4) pa_nil)))))) pa_nil)))) pss_nil) (pss_cons (ps_set (i := 12) scPlaced.nd rfl (.inl rfl) (pcl IH hr (pa_cons (pv 10) (pa_cons (pv 1) (pa_cons (pv 2) (pa_cons (pv 11) (pa_cons (pv 4) pa_nil)))))))
      (pss_one (ps_aug (i := 2) scPlaced.nd rfl (.inl rfl) (pe_op op_add (pv 11) pe_int) ip_add))))
            (C8.pss_cut (ps_if (pt_cmpR op_gt (pv 9) pe_int (nomark _)) (pss_one (ps_expr (pe_bm PySem.F.plainAttrs_list PySem.F.slot_list_append PySem.F.type_list_append mt_append (pv 6) (pa_cons (pe_tup (pa_cons pe_int (pa_cons (pe_op op_sub (pv 1) pe_int) (pa_cons (pv 2) (pa_cons (pv 3) (pa_cons pe_int pa_nil)))))) pa_nil)))) pss_nil) (pss_cons (ps_set (i := 12) scPlaced.nd rfl (.inl rfl) (pcl IH hr (pa_cons (pv 10) (pa_cons (pv 1) (pa_cons (pv 2) (pa_cons (pv 3) (pa_cons (pv 11) pa_nil)))))))
      (pss_one (ps_aug (i := 1) scPlaced.nd rfl (.inl rfl) (pe_op op_add (pv 11) pe_int) ip_add))))) (pss_cons (ps_set (i := 5) scPlaced.nd rfl (.inl rfl) (pe_op op_cat (pv 5) (pe_ix (r := rIxT K) ix_tup (pv 12) pe_int (fun _ _ => rfl))))
      (pss_one (ps_set (i := 6) scPlaced.nd rfl (.inl rfl) (pe_op op_cat (pv 6) (pe_ix (r := rIxT K) ix_tup (pv 12) pe_int (fun _ _ => rfl))))))))
      (pss_one (ps_ret (pe_tup (pa_cons (pv 5) (pa_cons (pv 6) pa_nil)))))))))), ?_⟩
    cases hL with
    | pane i =>
      refine ⟨_, rfl, _, rfl, .inl ⟨i, rfl, true, rfl, iteT ?_⟩⟩
      refine ⟨_, rfl, _, rfl, _, rfl, _, rfl, _, rfl, (by show 5 ≤ sizeLine; decide), fun t nt => ⟨(by show 1 ≤ sizeLine; decide), fun l nl => ⟨(by show 0 ≤ sizeLine; decide), fun l2 nl2 => ⟨(by show 2 ≤ sizeLine; decide), fun p np => ?_⟩⟩⟩⟩
      have s1 := same_new nt (HO.tup [.int i, .int r, .int c, .int w, .int h])
      have s2 := same_new nl (HO.lst [.ref t])
      have s3 := same_new nl2 (HO.lst [])
      have s4 := same_new np (HO.tup [.ref l, .ref l2])
      refine q _ p l l2 _ _ (((s1.trans s2).trans s3).trans s4) upd_same (s4 _ _ (s3 _ _ upd_same)) ?_ (s4 _ _ upd_same) (by simp [panes])
      rw [placed]
      exact .cons (s4 _ _ (s3 _ _ (s2 _ _ upd_same))) .nil
    | @node d ps a rr vs ha hr' hp =>
      refine ⟨_, rfl, _, rfl, .inr ⟨_, _, rfl, ha, false, rfl, iteF ?_⟩⟩
      have hw : 2 ≤ ps.length ∧ ∀ p ∈ ps, WF 1000 p.1 := by
        cases hwf with
        | node _ _ h2 hw _ => exact ⟨h2, hw⟩
      rw [panes] at hs q
      have pl0 : placed (.node d ps) r c w h = placedL d ps r c w h := by rw [placed]
      rw [pl0] at q
      refine ⟨(by show 0 ≤ sizeLine; decide), fun F0 nF0 => ⟨(by show 0 ≤ sizeLine; decide), fun B0 nB0 => ?_⟩⟩
      have s1 := same_new nF0 (HO.lst [])
      have s2 := same_new nB0 (HO.lst [])
      have g0 := s1.trans s2
      refine ⟨_, rfl, a, _, rfl, SqT.of (g0 _ _ ha), rfl, _, _, rfl, _, _, rfl, rfl, ?_⟩
      refine ⟨_, rfl, rr, _, rfl, SqT.of (g0 _ _ hr'), ?_⟩
      refine for_it (walk_enumT (xs := vs)) (fun i σ H' => ∃ (F B : Addr) (ri ci : Int) (fs bs : List V) (done : List Box) (e9 e10 e11 e12 : Option V), σ = [some (.ref a), some (.int ri), some (.int ci), some (.int w), some (.int h), some (.ref F), some (.ref B), some (.str (dirS d)), some (.ref rr), e9, e10, e11, e12] ∧
        Same H H' ∧ H B = none ∧ F ≠ B ∧ H' F = some (.lst fs) ∧ H' B = some (.lst bs) ∧ BsV H' done fs ∧ done ++ placedL d (ps.drop i) ri ci w h = placedL d ps r c w h ∧ bs.length + min i 1 ≤ (panesL (ps.take i)).length ∧ fs.length = (panesL (ps.take i)).length)
        ⟨F0, B0, r, c, [], [], [], none, none, none, none, rfl, g0, s1.free nB0, ne_of_none upd_same nB0, s2 _ _ upd_same, upd_same, .nil, rfl, by simp [panesL], by simp [panesL]⟩ (fun i σ H' _ ⟨_, _, _, _, _, _, _, _, _, _, _, _, g, _⟩ => SqT.of (g _ _ hr')) ?_ ?_
      · rintro i v σ H1 H2 hi ⟨F, B, ri, ci, fs, bs, done, e9, e10, e11, e12, rfl, g, nB, hFB, hF, hB, hfs, hdone, hbl, hfl⟩ ⟨p, x, y, rfl, np, rfl, hx, hy⟩
        cases (Option.some.inj hx)
        obtain ⟨M, s, b, u, e1, rfl, hb, hM⟩ := hp.at hy
        have hm : (M, s) ∈ ps := List.mem_of_getElem? e1
        have sp := same_new np (HO.tup [.int (i : Nat), .ref b])
        have gp := g.trans sp
        have tk := PsV.take_succ e1
        have lt : (panesL (ps.take i)).length + (panes M).length ≤ (panesL ps).length := by
          have := panesL_take_le (i + 1) ps
          rw [tk, panesL_append, panesL_one, List.length_append] at this
          exact this
        have lt2 : (panesL (ps.take (i + 1))).length = (panesL (ps.take i)).length + (panes M).length := by rw [tk, panesL_append, panesL_one, List.length_append]
        have hdr : ps.drop i = (M, s) :: ps.drop (i + 1) := by
          obtain ⟨k1, k2⟩ := List.getElem?_eq_some_iff.mp e1
          rw [List.drop_eq_getElem_cons k1, k2]
        refine ⟨p, _, rfl, SqT.of upd_same, rfl, _, _, rfl, _, _, rfl, ⟨b, _, rfl, SqT.of (gp _ _ hb), rfl, u, _, rfl, _, _, rfl, rfl, rfl, ?_⟩⟩
        -- behind the branch: more is the part's boxes, row and column the next place
        refine ⟨fun σ' H' => ∃ (mo f2 b2 : Addr) (r2 c2 rw2 cw2 : Int) (fs2 bs1 bs2 : List V), σ' = [some (.ref a), some (.int r2), some (.int c2), some (.int w), some (.int h), some (.ref F), some (.ref B), some (.str (dirS d)), some (.ref rr), some (.int (i : Nat)), some u, some (.int s), some (.ref mo)] ∧
          Same H H' ∧ H' F = some (.lst fs) ∧ H' B = some (.lst bs1) ∧ bs1.length ≤ (panesL (ps.take i)).length ∧ BsV H' done fs ∧ H' mo = some (.tup [.ref f2, .ref b2]) ∧ H' f2 = some (.lst fs2) ∧ BsV H' (placed M ri ci rw2 cw2) fs2 ∧ H' b2 = some (.lst bs2) ∧ bs2.length + 1 ≤ (panes M).length ∧
          done ++ (placed M ri ci rw2 cw2 ++ placedL d (ps.drop (i + 1)) r2 c2 w h) = placedL d ps r c w h, ?_, ?_⟩
        · have hF1 := sp _ _ hF
          have hB1 := sp _ _ hB
          refine ⟨_, rfl, rfl, d, congrArg V.bl str_is, ?_⟩
          cases d with
          | true =>
            refine iteT ⟨fun σ' H' => ∃ bs1 : List V, σ' = [some (.ref a), some (.int ri), some (.int ci), some (.int w), some (.int h), some (.ref F), some (.ref B), some (.str (dirS true)), some (.ref rr), some (.int (i : Nat)), some u, some (.int s), e12] ∧ Same H H' ∧ H' F = some (.lst fs) ∧ H' B = some (.lst bs1) ∧ bs1.length ≤ (panesL (ps.take i)).length ∧ BsV H' done fs, ?_, ?_⟩
            · refine ⟨_, rfl, _, _, rfl, rfl, _, rfl, ite2 (fun c0 => ?_) (fun c0 => ?_)⟩
              · have c0' : (0 : Int) < (i : Int) := of_decide_eq_true c0
                refine ⟨_, rfl, .inl ⟨rfl, _, SqL.of hB1⟩, _, rfl, _, rfl, _, _, rfl, rfl, _, rfl, (by show 5 ≤ sizeLine; decide), fun t nt => ?_⟩
                have st := same_new nt (HO.tup [.int 124, .int ri, .int (ci - 1), .int 1, .int h])
                refine ⟨B, _, _, rfl, rfl, st _ _ hB1, small1000 (by omega), _, rfl, same_grow nB (gp.trans st), ?_, upd_same, by rw [List.length_append]; simp; omega, hfs.mono (((tups sp).trans (tups st)).trans (TupS.lst (st _ _ hB1)))⟩
                rw [upd_ne hFB]; exact st _ _ hF1
              · exact ⟨bs, rfl, gp, hF1, hB1, by omega, hfs.mono (tups sp)⟩
            · rintro σ' H' ⟨bs1, rfl, g1, hF2, hB2, hbl2, hfs2⟩
              refine ⟨_, rfl, _, rfl, _, rfl, _, rfl, _, rfl, u, M, ri, ci, s, h, rfl, hM.mono (tups g1), hd _ hm, hw.2 _ hm, by omega, fun H3 mo f2 b2 fs2 bs2 g3 k1 k2 k3 k4 k5 => ?_⟩
              refine ⟨_, rfl, _, rfl, _, _, rfl, rfl, _, _, rfl, rfl, mo, f2, b2, _, _, _, _, _, _, _, rfl, g1.trans g3, g3 _ _ hF2, g3 _ _ hB2, hbl2, hfs2.mono (tups g3), k1, k2, k3, k4, k5, ?_⟩
              rw [← hdone, hdr, placedL]
          | false =>
            refine iteF ⟨fun σ' H' => ∃ bs1 : List V, σ' = [some (.ref a), some (.int ri), some (.int ci), some (.int w), some (.int h), some (.ref F), some (.ref B), some (.str (dirS false)), some (.ref rr), some (.int (i : Nat)), some u, some (.int s), e12] ∧ Same H H' ∧ H' F = some (.lst fs) ∧ H' B = some (.lst bs1) ∧ bs1.length ≤ (panesL (ps.take i)).length ∧ BsV H' done fs, ?_, ?_⟩
            · refine ⟨_, rfl, _, _, rfl, rfl, _, rfl, ite2 (fun c0 => ?_) (fun c0 => ?_)⟩
              · have c0' : (0 : Int) < (i : Int) := of_decide_eq_true c0
                refine ⟨_, rfl, .inl ⟨rfl, _, SqL.of hB1⟩, _, rfl, _, _, rfl, rfl, _, rfl, _, rfl, (by show 5 ≤ sizeLine; decide), fun t nt => ?_⟩
                have st := same_new nt (HO.tup [.int 45, .int (ri - 1), .int ci, .int w, .int 1])
                refine ⟨B, _, _, rfl, rfl, st _ _ hB1, small1000 (by omega), _, rfl, same_grow nB (gp.trans st), ?_, upd_same, by rw [List.length_append]; simp; omega, hfs.mono (((tups sp).trans (tups st)).trans (TupS.lst (st _ _ hB1)))⟩
                rw [upd_ne hFB]; exact st _ _ hF1
              · exact ⟨bs, rfl, gp, hF1, hB1, by omega, hfs.mono (tups sp)⟩
            · rintro σ' H' ⟨bs1, rfl, g1, hF2, hB2, hbl2, hfs2⟩
              refine ⟨_, rfl, _, rfl, _, rfl, _, rfl, _, rfl, u, M, ri, ci, w, s, rfl, hM.mono (tups g1), hd _ hm, hw.2 _ hm, by omega, fun H3 mo f2 b2 fs2 bs2 g3 k1 k2 k3 k4 k5 => ?_⟩
              refine ⟨_, rfl, _, rfl, _, _, rfl, rfl, _, _, rfl, rfl, mo, f2, b2, _, _, _, _, _, _, _, rfl, g1.trans g3, g3 _ _ hF2, g3 _ _ hB2, hbl2, hfs2.mono (tups g3), k1, k2, k3, k4, k5, ?_⟩
              rw [← hdone, hdr, placedL]
        · rintro σ' H' ⟨mo, f2, b2, r2, c2, rw2, cw2, fs2, bs1, bs2, rfl, g1, hF1, hB1, hbl1, hfs1, k1, k2, k3, k4, k5, hdone2⟩
          have kl := k3.len
          rw [placed_len] at kl
          refine ⟨_, rfl, _, rfl, mo, _, 0, _, rfl, rfl, SqT.of k1, rfl, F, f2, _, _, rfl, rfl, hF1, k2, small (by omega), fun F2 nF2 => ?_⟩
          have s3 := same_new nF2 (HO.lst (fs ++ fs2))
          refine ⟨_, rfl, _, rfl, mo, _, 1, _, rfl, rfl, SqT.of (s3 _ _ k1), rfl, B, b2, _, _, rfl, rfl, s3 _ _ hB1, s3 _ _ k4, small (by omega), fun B2 nB2 => ?_⟩
          have s4 := same_new nB2 (HO.lst (bs1 ++ bs2))
          have g2 := (g1.trans s3).trans s4
          refine ⟨F2, B2, _, _, _, _, done ++ placed M ri ci rw2 cw2, _, _, _, _, rfl, g2, (g1.trans s3).free nB2, ne_of_none upd_same nB2, s4 _ _ upd_same, upd_same, BsV.append (k3.mono ((tups s3).trans (tups s4))) (hfs1.mono ((tups s3).trans (tups s4))), ?_, ?_, ?_⟩
          · rw [List.append_assoc]; exact hdone2
          · rw [List.length_append, lt2]; omega
          · rw [List.length_append, lt2]; omega
      · rintro σ H1 ⟨F, B, ri, ci, fs, bs, done, e9, e10, e11, e12, rfl, g, nB, hFB, hF, hB, hfs, hdone, hbl, hfl⟩
        refine ⟨_, rfl, _, rfl, (by show 2 ≤ sizeLine; decide), fun p np => ?_⟩
        have s3 := same_new np (HO.tup [.ref F, .ref B])
        rw [← hp.len] at hbl hdone hfl
        rw [List.drop_length] at hdone
        have : placedL d [] ri ci w h = [] := by cases d <;> rfl
        rw [this, List.append_nil] at hdone
        rw [List.take_length] at hbl
        refine q _ p F B fs bs (g.trans s3) upd_same (s3 _ _ hF) ?_ (s3 _ _ hB) (by omega)
        rw [← hdone]
        exact hfs.mono (tups s3)
end
end Mp
namespace Mp
open PySem PySem.Spec PyProof.Rows L2
/-! ### a layout as plain data, for == -/
mutual
def dat : Lt → PyData
  | .pane i => .int i
  | .node d ps => .tuple [.str (dirS d), .tuple (datL ps)]
def datL : List (Lt × Int) → List PyData
  | [] => []
  | (L, s) :: ps => .tuple [dat L, .int s] :: datL ps
end
mutual
theorem LV.dp {K : PySem.W.Frag} {H : Hp} : ∀ {L : Lt} {v : V}, LV H L v → Dp K H v (dat L)
  | _, _, .pane i => by rw [dat]; exact .int i
  | _, _, .node h1 h2 h3 => by
    rw [dat]
    exact .tup (SqT.of h1) (.cons (.str _) (.cons (.tup (SqT.of h2) (PsV.dp h3)) .nil))
theorem PsV.dp {K : PySem.W.Frag} {H : Hp} : ∀ {ps : List (Lt × Int)} {vs : List V}, PsV H ps vs → DpAll K H vs (datL ps)
  | _, _, .nil => by rw [datL]; exact .nil
  | _, _, .cons h1 h2 h3 => by
    rw [datL]
    exact .cons (.tup (SqT.of h1) (.cons (LV.dp h2) (.cons (.int _) .nil))) (PsV.dp h3)
end
theorem dat_shape : ∀ (n : Nat) (L : Lt), Dep n L → (dat L).canLay0 = true ∧ (dat L).depth + 1 ≤ 3 * n
  | 0, _, h => h.elim
  | n + 1, .pane i, _ => by rw [dat]; exact ⟨by simp [PyData.canLay0], by rw [PyData.depth]; omega⟩
  | n + 1, .node d ps, h => by
    have key : ∀ qs : List (Lt × Int), (∀ p ∈ qs, Dep n p.1) → PyData.canLayAll0 (datL qs) = true ∧ PyData.depthAll (datL qs) ≤ 3 * n := by
      intro qs
      induction qs with
      | nil => intro _; rw [datL]; exact ⟨by simp [PyData.canLayAll0], by simp [PyData.depthAll]⟩
      | cons p qs ih =>
        intro hq
        obtain ⟨L, s⟩ := p
        obtain ⟨a1, a2⟩ := dat_shape n L (hq _ List.mem_cons_self)
        obtain ⟨b1, b2⟩ := ih fun p hp => hq p (List.mem_cons_of_mem _ hp)
        rw [datL]
        refine ⟨by simp [PyData.canLayAll0, PyData.canLay0, a1, b1], ?_⟩
        simp only [PyData.depthAll, PyData.depth]
        omega
    obtain ⟨k1, k2⟩ := key ps h
    rw [dat]
    have hs : PyData.canLay0 (.str (dirS d)) = true := by cases d <;> decide +kernel
    refine ⟨by simp [PyData.canLay0, PyData.canLayAll0, k1] at hs ⊢; exact hs, ?_⟩
    simp only [PyData.depth, PyData.depthAll]
    omega
theorem dat_ok {L : Lt} (h : Dep 16 L) : SeqAt.shaped (dat L) = true := by
  obtain ⟨a, b⟩ := dat_shape 16 L h
  unfold SeqAt.shaped
  rw [a, Bool.true_and]
  exact decide_eq_true (by omega)
def isPane : Lt → Int → Bool
  | .pane i, p => decide (i = p)
  | .node _ _, _ => false
theorem dat_pane (L : Lt) (p : Int) : PyData.eqv (dat L) (.int p) = isPane L p := by
  cases L with
  | pane i => rw [dat, PyData.eqv, isPane]; exact Bool.beq_eq_decide_eq i p
  | node d ps => rw [dat, PyData.eqv, isPane]
/-- a layout == a pane's number -/
def rEqLP : R2 := fun x y H Q => ∃ (L : Lt) (p : Int), LV H L x ∧ y = .int p ∧ Dep 16 L ∧ Q (.bl (isPane L p)) H
theorem op_eqLP {X : Cx} (hu : X.A.units + 64 < cLine) : OpR X (compareOp .Eq) rEqLP := by
  intro pins s σ H x y v u Q I rx ry h
  obtain ⟨L, p, hL, rfl, hd, q⟩ := h
  refine op_eqD hu pins s σ H x _ v u Q I rx ry ⟨dat L, .int p, hL.dp, .int p, dat_ok hd, (by unfold SeqAt.shaped; simp [PyData.canLay0, PyData.depth]), ?_⟩
  rw [dat_pane]; exact q
/-- two equal layouts are equal -/
def rEqLL : R2 := fun x y H Q => ∃ L : Lt, LV H L x ∧ LV H L y ∧ Dep 16 L ∧ Q (.bl true) H
theorem op_eqLL {X : Cx} (hu : X.A.units + 64 < cLine) : OpR X (compareOp .Eq) rEqLL := by
  intro pins s σ H x y v u Q I rx ry h
  obtain ⟨L, hx, hy, hd, q⟩ := h
  refine op_eqD hu pins s σ H x _ v u Q I rx ry ⟨dat L, dat L, hx.dp, hy.dp, dat_ok hd, dat_ok hd, ?_⟩
  rw [SeqAt.eqv_refl _ (dat_shape 16 L hd).1]; exact q
/-- a number in a list of numbers -/
theorem in_ints (p : Int) (ns : List Int) : inV (.int p) (ns.map V.int) = decide (p ∈ ns) := by
  unfold inV
  induction ns with
  | nil => rfl
  | cons n ns ih =>
    rw [List.map_cons, List.any_cons, ih]
    show ((n == p) || _) = _
    rw [Bool.beq_eq_decide_eq]
    by_cases e : n = p
    · subst e; simp
    · have e2 : ¬ p = n := fun z => e z.symm
      simp [e, e2]
theorem flat_ints (ns : List Int) : (ns.map V.int).all flatV = true := by
  rw [List.all_map]
  exact List.all_eq_true.mpr fun _ _ => rfl
def rInI (K : PySem.W.Frag) : R2 := fun x y H Q => ∃ (p : Int) (a : Addr) (ns : List Int), x = .int p ∧ y = .ref a ∧ SqL K H a (ns.map V.int) ∧ Q (.bl (decide (p ∈ ns))) H
theorem op_inI {X : Cx} : OpR X (compareOp .In) (rInI X.K) := by
  intro pins s σ H x y v u Q I rx ry h
  obtain ⟨p, a, ns, rfl, rfl, hq, q⟩ := h
  refine op_in_seq pins s σ H _ _ v u Q I rx ry ⟨a, _, rfl, .inl hq, rfl, flat_ints ns, ?_⟩
  rw [if_neg Bool.false_ne_true, in_ints]; exact q
section
variable {P : Program} {w : World} {K : PySem.W.Frag} {mg : Str → Option Value} {base : Heap}
/-! ### placed_whole, boxes, size_of -/
def spWhole : Sp := fun vs H Q _ => ∃ (v : V) (L : Lt) (w h : Int), vs = [v, .int w, .int h] ∧ LV H L v ∧ Good L ∧ w ≤ 100 ∧ h ≤ 100 ∧
  ∀ (H' : Hp) (p f g : Addr) (fs : List V), Same H H' → H' p = some (.tup [.ref f, .ref g]) → H' f = some (.lst fs) → BsV H' (boxes L w h) fs → Q (.ref p) H'
theorem scWhole : FnScope ["layout", "width", "height", "low"] ["layout", "width", "height"] (defScope sWhole) := ⟨rfl, rfl, rfl, by decide +kernel, rfl, by decide +kernel, by decide +kernel⟩
theorem cl_whole (T : Txt K w mg) : Cl P w K mg base 35 "placed_whole" ["layout", "width", "height"] spWhole := by
  have LE : Cl P w K mg base 16 "least" ["layout"] (spLeast K 16) := cl_least T 16
  have FI : Cl P w K mg base 34 "fitted" ["layout", "width", "height"] (spFitted 16) := cl_fitted T 16 (Nat.le_refl _)
  have PL : Cl P w K mg base 16 "placed" ["layout", "row", "column", "width", "height"] (spPlaced 16) := cl_placed T 16
  refine cl_of T.dWhole scWhole (fun vs H Q E h => ?_) (fun cdv f A outer s H vs Q E hr h => ?_)
  · obtain ⟨v, L, w, h, rfl, _⟩ := h; rfl
  obtain ⟨v, L, w, h, rfl, hL, g, hw, hh, q⟩ := h
  have hr16 := hr.mono (j := 16) (by omega)
  refine ⟨_, (pss_cons (ps_set (i := 3) scWhole.nd rfl (.inl rfl) (pcl LE hr16 (pa_cons (pv 0) pa_nil)))
      (pss_one (ps_ret (pcl PL hr16 (pa_cons (pcl FI hr (pa_cons (pv 0) (pa_cons (pv 1) (pa_cons (pv 2) pa_nil)))) (pa_cons pe_int (pa_cons pe_int
        (pa_cons (pe_callB (call_max2 rfl) rfl T.f_max boot_max (pa_cons (pv 1) (pa_cons (pe_ix (r := rIxT K) ix_tup (pv 3) pe_int (fun _ _ => rfl)) pa_nil)))
        (pa_cons (pe_callB (call_max2 rfl) rfl T.f_max boot_max (pa_cons (pv 2) (pa_cons (pe_ix (r := rIxT K) ix_tup (pv 3) pe_int (fun _ _ => rfl)) pa_nil))) pa_nil))))))))), ?_⟩
  have few := g.few
  have low := g.low
  refine ⟨_, rfl, v, L, 1000, rfl, hL, g.dep, g.wf, by omega, fun H1 pl g1 hpl => ?_⟩
  refine ⟨_, rfl, _, rfl, _, rfl, v, L, w, h, rfl, hL.mono (tups g1), g.dep, g.wf, few, hw, hh, fun H2 u g2 hu => ?_⟩
  have hpl2 := hpl.mono (tups g2)
  refine ⟨_, rfl, _, rfl, pl, _, 0, _, rfl, rfl, hpl2.sq, rfl, _, _, rfl, ?_⟩
  refine ⟨_, rfl, _, rfl, pl, _, 1, _, rfl, rfl, hpl2.sq, rfl, _, _, rfl, ?_⟩
  rw [max2, max2]
  have gf := g.fitted hw hh
  have few2 := gf.few
  refine ⟨u, fitted L w h, 0, 0, _, _, rfl, hu, gf.dep, gf.wf, by omega, fun H3 p f2 b2 fs bs g3 k1 k2 k3 k4 k5 => ?_⟩
  exact q H3 p f2 b2 fs ((g1.trans g2).trans g3) k1 k2 k3
def spBoxes : Sp := fun vs H Q _ => ∃ (v : V) (L : Lt) (w h : Int), vs = [v, .int w, .int h] ∧ LV H L v ∧ Good L ∧ w ≤ 100 ∧ h ≤ 100 ∧
  ∀ (H' : Hp) (f : Addr) (fs : List V), Same H H' → H' f = some (.lst fs) → BsV H' (boxes L w h) fs → Q (.ref f) H'
theorem scBoxes : FnScope ["layout", "width", "height"] ["layout", "width", "height"] (defScope sBoxes) := ⟨rfl, rfl, rfl, by decide +kernel, rfl, by decide +kernel, by decide +kernel⟩
theorem cl_boxes (T : Txt K w mg) : Cl P w K mg base 36 "boxes" ["layout", "width", "height"] spBoxes := by
  have WH : Cl P w K mg base 35 "placed_whole" ["layout", "width", "height"] spWhole := cl_whole T
  refine cl_of T.dBoxes scBoxes (fun vs H Q E h => ?_) (fun cdv f A outer s H vs Q E hr h => ?_)
  · obtain ⟨v, L, w, h, rfl, _⟩ := h; rfl
  obtain ⟨v, L, w, h, rfl, hL, g, hw, hh, q⟩ := h
  refine ⟨_, (pss_one (ps_ret (pe_ix (r := rIxT K) ix_tup (pcl WH hr (pa_cons (pv 0) (pa_cons (pv 1) (pa_cons (pv 2) pa_nil)))) pe_int (fun _ _ => rfl)))), ?_⟩
  refine ⟨_, rfl, _, rfl, _, rfl, v, L, w, h, rfl, hL, g, hw, hh, fun H1 p f2 b2 fs g1 k1 k2 k3 => ?_⟩
  exact ⟨p, _, 0, _, rfl, rfl, SqT.of k1, rfl, q H1 f2 fs g1 k2 k3⟩
def spSizeOf : Sp := fun vs H Q _ => ∃ (v : V) (L : Lt) (w h p : Int) (d : Bool), vs = [v, .int w, .int h, .int p, .int (axI d)] ∧ LV H L v ∧ Good L ∧ w ≤ 100 ∧ h ≤ 100 ∧
  ∀ (H' : Hp) (z : Int), Same H H' → 0 ≤ z → z ≤ 100 → Q (.int z) H'
theorem scSizeOf : FnScope ["layout", "width", "height", "pane", "axis", "box"] ["layout", "width", "height", "pane", "axis"] (defScope sSizeOf) := ⟨rfl, rfl, rfl, by decide +kernel, rfl, by decide +kernel, by decide +kernel⟩
theorem cl_sizeOf (T : Txt K w mg) : Cl P w K mg base 37 "size_of" ["layout", "width", "height", "pane", "axis"] spSizeOf := by
  have BX : Cl P w K mg base 36 "boxes" ["layout", "width", "height"] spBoxes := cl_boxes T
  refine cl_of T.dSizeOf scSizeOf (fun vs H Q E h => ?_) (fun cdv f A outer s H vs Q E hr h => ?_)
  · obtain ⟨v, L, w, h, p, d, rfl, _⟩ := h; rfl
  obtain ⟨v, L, w, h, p, d, rfl, hL, g, hw, hh, q⟩ := h
  refine ⟨_, (pss_cons (ps_for PassesOwn.never rfl (pi_list (pcl BX hr (pa_cons (pv 0) (pa_cons (pv 1) (pa_cons (pv 2) pa_nil))))) (pg_name (i := 5) scSizeOf.nd rfl (.inl rfl))
      (pss_one (ps_if (pt_cmpR op_eq (pe_ix (r := rIxT K) ix_tup (pv 5) pe_int (fun _ _ => rfl)) (pv 3) (nomark _)) (pss_one (ps_ret (pe_ix (r := rIxT K) ix_tup (pv 5) (pe_op op_add pe_int (pv 4)) (fun _ _ => rfl)))) pss_nil)))
      (pss_one (ps_ret pe_int))), ?_⟩
  have low := g.low
  refine ⟨_, rfl, _, rfl, _, rfl, v, L, w, h, rfl, hL, g, hw, hh, fun H1 f2 fs g1 hf hfs => ?_⟩
  refine ⟨f2, rfl, ⟨_, SqL.of hf⟩, for_list (K := K) (a := f2) (xs := fs) (fun i σ H' => ∃ e5 : Option V, σ = [some v, some (.int w), some (.int h), some (.int p), some (.int (axI d)), e5] ∧ H' = H1) ⟨none, rfl, rfl⟩ (fun i σ H' _ ⟨_, _, e⟩ => by rw [e]; exact SqL.of hf) ?_ ?_⟩
  · rintro i x σ H' hi ⟨e5, rfl, rfl⟩
    obtain ⟨b, a, eb, rfl, ha⟩ := hfs.at hi
    have ins := (boxes_tile g hw hh).ins b (List.mem_of_getElem? eb)
    unfold Ins at ins
    refine ⟨_, rfl, a, _, 0, _, rfl, rfl, SqT.of ha, rfl, _, rfl, rfl, _, rfl, ite2 (fun c => ?_) (fun c => ⟨_, rfl, rfl⟩)⟩
    refine ⟨_, rfl, _, rfl, _, _, rfl, rfl, a, _, 3 + axI d, .int (if d then b.wide else b.high), rfl, rfl, SqT.of ha, by cases d <;> rfl, ?_⟩
    refine q H' _ g1 ?_ ?_
    · split <;> omega
    · split <;> omega
  · rintro σ H' ⟨e5, rfl, rfl⟩
    exact q H' 0 g1 (by omega) (by omega)
end
end Mp
namespace Mp
open PySem PySem.Spec PyProof.Rows L2
/-- what one part of the loop adds to the panes -/
theorem ins_step {qs X m m' : List Int} {p new : Int} (hq : qs.Perm (if p ∈ X then X ++ [new] else X)) (hm : m'.Perm (if p ∈ m then m ++ [new] else m)) (nd : (X ++ m).Nodup) :
    (qs ++ m').Perm (if p ∈ X ++ m then (X ++ m) ++ [new] else X ++ m) := by
  have dis : p ∈ X → ¬ p ∈ m := fun a b => (List.nodup_append.mp nd).2.2 p a p b rfl
  refine List.perm_iff_count.mpr fun a => ?_
  have h1 := List.perm_iff_count.mp hq a
  have h2 := List.perm_iff_count.mp hm a
  by_cases c1 : p ∈ X
  · have c2 := dis c1
    have c3 : p ∈ X ++ m := List.mem_append_left _ c1
    rw [if_pos c1] at h1
    rw [if_neg c2] at h2
    rw [if_pos c3]
    simp only [List.count_append] at *
    omega
  · by_cases c2 : p ∈ m
    · have c3 : p ∈ X ++ m := List.mem_append_right _ c2
      rw [if_neg c1] at h1
      rw [if_pos c2] at h2
      rw [if_pos c3]
      simp only [List.count_append] at *
      omega
    · have c3 : ¬ p ∈ X ++ m := fun z => (List.mem_append.mp z).elim c1 c2
      rw [if_neg c1] at h1
      rw [if_neg c2] at h2
      rw [if_neg c3]
      simp only [List.count_append] at *
      omega
theorem panesL_at {ps : List (Lt × Int)} {i : Nat} {M : Lt} {s : Int} (e : ps[i]? = some (M, s)) : panesL (ps.take (i + 1)) = panesL (ps.take i) ++ panes M := by
  rw [PsV.take_succ e, panesL_append, panesL_one]
theorem panesL_split {ps : List (Lt × Int)} {i : Nat} {M : Lt} {s : Int} (e : ps[i]? = some (M, s)) : panesL ps = panesL (ps.take i) ++ (panes M ++ panesL (ps.drop (i + 1))) := by
  have h := List.take_append_drop (i + 1) ps
  have k := congrArg panesL h
  rw [panesL_append, panesL_at e, List.append_assoc] at k
  exact k.symm
theorem isPane_iff {L : Lt} {p : Int} : isPane L p = true ↔ L = .pane p := by
  cases L with
  | pane i => simp [isPane]
  | node d ps => simp [isPane]
section
variable {P : Program} {w : World} {K : PySem.W.Frag} {mg : Str → Option Value} {base : Heap}
/-! ### with_new -/
def spWithNew (n : Nat) : Sp := fun vs H Q _ => ∃ (v : V) (L : Lt) (p : Int) (e : Bool) (new size : Int), vs = [v, .int p, .str (dirS e), .int new, .int size] ∧ LV H L v ∧ Dep n L ∧ WF 100 L ∧ (panes L).length ≤ 16 ∧ (panes L).Nodup ∧ p ∈ panes L ∧ 0 < p ∧ 0 < new ∧ 0 ≤ size ∧ size ≤ 100 ∧
  ∀ (H' : Hp) (u : V) (L' : Lt), Same H H' → LV H' L' u → WF 1000 L' → (panes L').Perm (panes L ++ [new]) → Q u H'
abbrev nWithNew : List Str := ["layout", "pane", "direction", "new", "size", "half", "pair", "news", "inner", "length"]
theorem scWithNew : FnScope nWithNew ["layout", "pane", "direction", "new", "size"] (defScope sWithNew) := ⟨rfl, rfl, rfl, by decide +kernel, rfl, by decide +kernel, by decide +kernel⟩
theorem cl_withNew (T : Txt K w mg) : ∀ n, n ≤ 16 → Cl P w K mg base (n + 18) "with_new" ["layout", "pane", "direction", "new", "size"] (spWithNew n)
  | 0, _ => (no_call T.dWithNew fun vs H Q E h => by
    obtain ⟨v, L, _, _, _, _, _, _, h, _⟩ := h
    exact h).mono (by omega)
  | n + 1, hn => by
    have IH := cl_withNew T n (by omega)
    have PA : Cl P w K mg base 16 "panes" ["layout"] (spPanes 16) := cl_panes T 16
    refine cl_of T.dWithNew scWithNew (fun vs H Q E h => ?_) (fun cdv f A outer s H vs Q E hr h => ?_)
    · obtain ⟨v, L, p, e, new, size, rfl, _⟩ := h; rfl
    obtain ⟨v, L, p, e, new, size, rfl, hL, hd, hwf, hs, hnd, hpm, hp0, hnew, hz0, hz1, q⟩ := h
    have hr16 := hr.mono (j := 16) (by omega)
    have hu := hr.units
    refine ⟨_, (pss_cons (ps_set (i := 5) scWithNew.nd rfl (.inl rfl) (pe_op op_fdiv (pe_op op_sub (pv 4) pe_int) pe_int))
      (pss_cons (ps_set (i := 6) scWithNew.nd rfl (.inl rfl) (pe_tup (pa_cons (pe_tup (pa_cons (pv 1) (pa_cons (pe_op op_sub (pe_op op_sub (pv 4) pe_int) (pv 5)) pa_nil))) (pa_cons (pe_tup (pa_cons (pv 3) (pa_cons (pv 5) pa_nil))) pa_nil))))
      (pss_cons (ps_if (pt_cmpR (op_eqLP hu) (pv 0) (pv 1) (nomark _)) (pss_one (ps_ret (pe_tup (pa_cons (pv 2) (pa_cons (pv 6) pa_nil))))) pss_nil)
      (pss_cons (ps_set (i := 7) scWithNew.nd rfl (.inl rfl) (pe_lst pa_nil))
      (pss_cons (ps_for PassesOwn.never rfl (pi_tup (pe_ix (r := rIxT K) ix_tup (pv 0) pe_int (fun _ _ => rfl))) (pg_tup (n := 2) rfl (pgs_cons (pg_name (i := 8) scWithNew.nd rfl (.inl rfl)) (pgs_cons (pg_name (i := 9) scWithNew.nd rfl (.inl rfl)) pgs_nil)))
        (pss_one (ps_if (PW.pt (pw_and (pt_cmpR (op_eqLP hu) (pv 8) (pv 1) (nomark _)) (pw_and1 (pt_cmpR op_eq (pe_ix (r := rIxT K) ix_tup (pv 0) pe_int (fun _ _ => rfl)) (pv 2) (nomark _)))))
            (pss_one (ps_expr (pe_bm PySem.F.plainAttrs_list PySem.F.slot_list_extend PySem.F.type_list_extend mt_extT (pv 7) (pa_cons (pv 6) pa_nil))))
            (pss_one (ps_if (pt_cmpR op_inI (pv 1) (pcl PA hr16 (pa_cons (pv 8) pa_nil)) (by rfl))
              (pss_one (ps_expr (pe_bm PySem.F.plainAttrs_list PySem.F.slot_list_append PySem.F.type_list_append mt_append (pv 7) (pa_cons (pe_tup (pa_cons (pcl IH hr (pa_cons (pv 8) (pa_cons (pv 1) (pa_cons (pv 2) (pa_cons (pv 3) (pa_cons (pv 4) pa_nil)))))) (pa_cons (pv 9) pa_nil))) pa_nil))))
              (pss_one (ps_expr (pe_bm PySem.F.plainAttrs_list PySem.F.slot_list_append PySem.F.type_list_append mt_append (pv 7) (pa_cons (pe_tup (pa_cons (pv 8) (pa_cons (pv 9) pa_nil))) pa_nil)))))))))
      (pss_one (ps_ret (pe_tup (pa_cons (pe_ix (r := rIxT K) ix_tup (pv 0) pe_int (fun _ _ => rfl)) (pa_cons (pe_callTy call_tuple_of rfl T.f_tuple boot_tuple (pa_cons (pv 7) pa_nil)) pa_nil)))))))))), ?_⟩
    -- half, pair
    refine ⟨_, rfl, _, _, rfl, rfl, _, _, rfl, rfl, ⟨by decide, by decide⟩, ?_⟩
    refine ⟨_, rfl, _, rfl, _, _, rfl, rfl, _, rfl, _, _, rfl, rfl, (by show 2 ≤ sizeLine; decide), fun t1 n1 => ?_⟩
    refine ⟨_, rfl, _, rfl, (by show 2 ≤ sizeLine; decide), fun t2 n2 => ⟨(by show 2 ≤ sizeLine; decide), fun t3 n3 => ?_⟩⟩
    have s1 := same_new n1 (HO.tup [.int p, .int (size - 1 - (size - 1) / 2)])
    have s2 := same_new n2 (HO.tup [.int new, .int ((size - 1) / 2)])
    have s3 := same_new n3 (HO.tup [.ref t1, .ref t2])
    have hb : -1000 ≤ (size - 1) / 2 ∧ (size - 1) / 2 ≤ 1000 := by omega
    -- the heap behind the pair
    have hpair : ∃ H0 : Hp, Same H H0 ∧ H0 t3 = some (.tup [.ref t1, .ref t2]) ∧ PsV H0 [(.pane p, size - 1 - (size - 1) / 2), (.pane new, (size - 1) / 2)] [.ref t1, .ref t2] ∧ H0 = upd (upd (upd H t1 (.tup [.int p, .int (size - 1 - (size - 1) / 2)])) t2 (.tup [.int new, .int ((size - 1) / 2)])) t3 (.tup [.ref t1, .ref t2]) :=
      ⟨_, (s1.trans s2).trans s3, upd_same, .cons (s3 _ _ (s2 _ _ upd_same)) (.pane p) (.cons (s3 _ _ upd_same) (.pane new) .nil), rfl⟩
    obtain ⟨H0, g0, h3, hpr, e0⟩ := hpair
    rw [← e0]
    have pwf : ∀ q ∈ [(Lt.pane p, size - 1 - (size - 1) / 2), (Lt.pane new, (size - 1) / 2)], WF 1000 q.1 ∧ -1000 ≤ q.2 ∧ q.2 ≤ 1000 := by
      intro q hq
      rcases List.mem_cons.mp hq with e | hq
      · subst e; exact ⟨.pane p hp0, by show -1000 ≤ size - 1 - (size - 1) / 2; omega, by show size - 1 - (size - 1) / 2 ≤ 1000; omega⟩
      · rw [List.mem_singleton.mp hq]; exact ⟨.pane new hnew, hb.1, hb.2⟩
    refine ⟨_, rfl, _, rfl, L, p, hL.mono (tups g0), rfl, hd.mono hn, _, rfl, ?_⟩
    refine ite2 (fun c => ?_) (fun c => ?_)
    · -- the layout is the pane
      have eL := isPane_iff.mp c
      refine ⟨_, rfl, _, rfl, (by show 2 ≤ sizeLine; decide), fun o no => ?_⟩
      have s4 := same_new no (HO.tup [.str (dirS e), .ref t3])
      refine q _ _ (.node e [(.pane p, size - 1 - (size - 1) / 2), (.pane new, (size - 1) / 2)]) (g0.trans s4) (.node upd_same (s4 _ _ h3) (hpr.mono (tups s4))) (.node _ _ (by simp) (fun q hq => (pwf q hq).1) fun q hq => (pwf q hq).2) ?_
      rw [eL]
      simp [panes, panesL]
    cases hL with
    | pane i =>
      have : i = p := by rw [panes] at hpm; exact (List.mem_singleton.mp hpm).symm
      subst this
      exact absurd (isPane_iff.mpr rfl) c
    | @node d ps a r vs ha hr' hp =>
      have hw : 2 ≤ ps.length ∧ (∀ p ∈ ps, WF 100 p.1) ∧ ∀ p ∈ ps, -100 ≤ p.2 ∧ p.2 ≤ 100 := by
        cases hwf with
        | node _ _ h2 hw hz => exact ⟨h2, hw, hz⟩
      rw [panes] at hs hnd hpm q
      have hlen := panesL_len hw.2.1
      refine ⟨(by show 0 ≤ sizeLine; decide), fun N nN => ?_⟩
      have s4 := same_new nN (HO.lst [])
      refine ⟨_, rfl, a, _, 1, _, rfl, rfl, SqT.of (s4 _ _ (g0 _ _ ha)), rfl, r, rfl, ⟨_, SqT.of (s4 _ _ (g0 _ _ hr'))⟩, ?_⟩
      refine for_tup (K := K) (a := r) (xs := vs) (fun i σ H' => ∃ (us : List V) (qs : List (Lt × Int)) (e8 e9 : Option V), σ = [some (.ref a), some (.int p), some (.str (dirS e)), some (.int new), some (.int size), some (.int ((size - 1) / 2)), some (.ref t3), some (.ref N), e8, e9] ∧
        Same H0 H' ∧ H' N = some (.lst us) ∧ PsV H' qs us ∧ (∀ q ∈ qs, WF 1000 q.1 ∧ -1000 ≤ q.2 ∧ q.2 ≤ 1000) ∧ i ≤ qs.length ∧ qs.length ≤ 2 * i ∧ (panesL qs).Perm (if p ∈ panesL (ps.take i) then panesL (ps.take i) ++ [new] else panesL (ps.take i)))
        ⟨[], [], none, none, rfl, s4, upd_same, .nil, by simp, by simp, by simp, by simp [panesL]⟩ (fun i σ H' _ ⟨_, _, _, _, _, g, _⟩ => SqT.of (g _ _ (g0 _ _ hr'))) ?_ ?_
      · rintro i x σ H1 hi ⟨us, qs, e8, e9, rfl, g, hN, hqs, hqw, hq1, hq2, hperm⟩
        obtain ⟨M, z, b, u, e1, rfl, hb', hM⟩ := hp.at hi
        have hm : (M, z) ∈ ps := List.mem_of_getElem? e1
        have gg := g0.trans g
        have hi' : i < ps.length := (List.getElem?_eq_some_iff.mp e1).1
        have hM16 : (panes M).length ≤ (panesL ps).length := panes_le hm
        have hzb : -100 ≤ z ∧ z ≤ 100 := hw.2.2 _ hm
        have hul : qs.length = us.length := hqs.len
        have nd1 : (panesL (ps.take i) ++ panes M).Nodup := by
          have k := panesL_split e1
          rw [k, ← List.append_assoc] at hnd
          exact (List.nodup_append.mp hnd).1
        have ndM : (panes M).Nodup := (List.nodup_append.mp nd1).2.1
        have dM16 : Dep 16 M := (hd _ hm).mono (by omega)
        refine ⟨b, _, rfl, SqT.of (gg _ _ hb'), rfl, u, _, rfl, _, _, rfl, rfl, ?_⟩
        -- an item that is put behind the others
        have put : ∀ (H2 : Hp) (t : Addr) (M' : Lt) (u' : V), Same H1 H2 → H2 t = some (.tup [u', .int z]) → LV H2 M' u' → WF 1000 M' → (panes M').Perm (if p ∈ panes M then panes M ++ [new] else panes M) →
            ∃ (us' : List V) (qs' : List (Lt × Int)) (e8 e9 : Option V), [some (V.ref a), some (.int p), some (.str (dirS e)), some (.int new), some (.int size), some (.int ((size - 1) / 2)), some (.ref t3), some (.ref N), some u, some (.int z)] = [some (.ref a), some (.int p), some (.str (dirS e)), some (.int new), some (.int size), some (.int ((size - 1) / 2)), some (.ref t3), some (.ref N), e8, e9] ∧
              Same H0 (upd H2 N (.lst (us ++ [.ref t]))) ∧ upd H2 N (.lst (us ++ [.ref t])) N = some (.lst us') ∧ PsV (upd H2 N (.lst (us ++ [.ref t]))) qs' us' ∧ (∀ q ∈ qs', WF 1000 q.1 ∧ -1000 ≤ q.2 ∧ q.2 ≤ 1000) ∧ i + 1 ≤ qs'.length ∧ qs'.length ≤ 2 * (i + 1) ∧ (panesL qs').Perm (if p ∈ panesL (ps.take (i + 1)) then panesL (ps.take (i + 1)) ++ [new] else panesL (ps.take (i + 1))) := fun H2 t M' u' g2 ht hM' wM' pM' => by
          have tN : TupS H2 (upd H2 N (.lst (us ++ [.ref t]))) := TupS.lst (g2 _ _ hN)
          refine ⟨_, qs ++ [(M', z)], _, _, rfl, same_grow nN (g.trans g2), upd_same, PsV.snoc (hqs.mono ((tups g2).trans tN)) (tN _ _ ht) (hM'.mono tN), ?_, by rw [List.length_append]; simp; omega, by rw [List.length_append]; simp; omega, ?_⟩
          · intro q hq
            rcases List.mem_append.mp hq with hq | hq
            · exact hqw q hq
            · rw [List.mem_singleton.mp hq]; exact ⟨wM', by show -1000 ≤ z; omega, by show z ≤ 1000; omega⟩
          · rw [panesL_append, panesL_one, panesL_at e1]
            exact ins_step hperm pM' nd1
        refine ⟨_, rfl, _, rfl, M, p, hM.mono (tups gg), rfl, dM16, _, rfl, ?_⟩
        -- is the part the pane, of this direction
        have second : ∀ (H' : Hp), Same H1 H' → ∀ (X : Prop), (isPane M p = true → d = e → X) → ((isPane M p = true → ¬ d = e) → X) → X := fun H' _ X a b => by
          by_cases c1 : isPane M p = true
          · by_cases c2 : d = e
            · exact a c1 c2
            · exact b fun _ => c2
          · exact b fun z => absurd z c1
        -- the ways of the second if
        have tail : (isPane M p = true → ¬ d = e) → ∀ (D : Ends), (∀ σ' H', (∃ (us : List V) (qs : List (Lt × Int)) (e8 e9 : Option V), σ' = [some (V.ref a), some (.int p), some (.str (dirS e)), some (.int new), some (.int size), some (.int ((size - 1) / 2)), some (.ref t3), some (.ref N), e8, e9] ∧
              Same H0 H' ∧ H' N = some (.lst us) ∧ PsV H' qs us ∧ (∀ q ∈ qs, WF 1000 q.1 ∧ -1000 ≤ q.2 ∧ q.2 ≤ 1000) ∧ i + 1 ≤ qs.length ∧ qs.length ≤ 2 * (i + 1) ∧ (panesL qs).Perm (if p ∈ panesL (ps.take (i + 1)) then panesL (ps.take (i + 1)) ++ [new] else panesL (ps.take (i + 1)))) → D.nx σ' H') →
            tIfS (tTest (tOp (rInI K) (tVar 1) (tCall (spPanes 16) [] E0 (tCons (tVar 8) tNil))))
              (tDrop (tBM K "list" rAppend (tVar 7) (tCons (tTup (tCons (tCall (spWithNew n) [] E0 (tCons (tVar 8) (tCons (tVar 1) (tCons (tVar 2) (tCons (tVar 3) (tCons (tVar 4) tNil)))))) (tCons (tVar 9) tNil))) tNil)))
              (tDrop (tBM K "list" rAppend (tVar 7) (tCons (tTup (tCons (tVar 8) (tCons (tVar 9) tNil))) tNil))) D
              [some (V.ref a), some (.int p), some (.str (dirS e)), some (.int new), some (.int size), some (.int ((size - 1) / 2)), some (.ref t3), some (.ref N), some u, some (.int z)] H1 := fun noP D fin => by
          refine ⟨_, rfl, _, rfl, u, M, rfl, hM.mono (tups gg), dM16, by omega, fun H2 pl g2 hpl => ?_⟩
          have hN2 := g2 _ _ hN
          refine ⟨p, pl, _, rfl, rfl, SqL.of hpl, _, rfl, ite2 (fun c => ?_) (fun c => ?_)⟩
          · have c' : p ∈ panes M := of_decide_eq_true c
            refine ⟨_, rfl, .inl ⟨rfl, _, SqL.of hN2⟩, _, rfl, _, rfl, _, rfl, _, rfl, _, rfl, u, M, p, e, new, size, rfl, hM.mono (tups (gg.trans g2)), hd _ hm, hw.2.1 _ hm, by omega, ndM, c', hp0, hnew, hz0, hz1, fun H3 u3 L3 g3 h3' w3 p3 => ?_⟩
            refine ⟨_, rfl, (by show 2 ≤ sizeLine; decide), fun t nt => ?_⟩
            have st := same_new nt (HO.tup [u3, .int z])
            have hN3 := st _ _ (g3 _ _ hN2)
            refine ⟨N, _, _, rfl, rfl, hN3, small1000 (by omega), fin _ _ ?_⟩
            exact put _ t L3 u3 ((g2.trans g3).trans st) upd_same (h3'.mono (tups st)) w3 (by rw [if_pos c']; exact p3)
          · have c' : ¬ p ∈ panes M := of_decide_eq_false (Bool.eq_false_iff.mpr c)
            refine ⟨_, rfl, .inl ⟨rfl, _, SqL.of hN2⟩, _, rfl, _, rfl, (by show 2 ≤ sizeLine; decide), fun t nt => ?_⟩
            have st := same_new nt (HO.tup [u, .int z])
            refine ⟨N, _, _, rfl, rfl, st _ _ hN2, small1000 (by omega), fin _ _ ?_⟩
            exact put _ t M u (g2.trans st) upd_same (hM.mono (tups ((gg.trans g2).trans st))) ((hw.2.1 _ hm).mono (by omega)) (by rw [if_neg c'])
        by_cases c1 : isPane M p = true
        · rw [c1]
          refine iteT ⟨_, rfl, a, _, 0, _, rfl, rfl, SqT.of (gg _ _ ha), rfl, _, rfl, rfl, _, congrArg V.bl dir_is, ?_⟩
          by_cases c2 : d = e
          · have c3 : (d == e) = true := by rw [c2]; exact beq_self_eq_true e
            rw [c3]
            have eM := isPane_iff.mp c1
            refine iteT ⟨_, rfl, .inl ⟨rfl, _, SqL.of hN⟩, _, rfl, N, t3, _, _, rfl, rfl, hN, SqT.of (g _ _ h3), small (by simp; omega), ?_⟩
            have tN : TupS H1 (upd H1 N (.lst (us ++ [.ref t1, .ref t2]))) := TupS.lst hN
            refine ⟨_, qs ++ [(.pane p, size - 1 - (size - 1) / 2), (.pane new, (size - 1) / 2)], _, _, rfl, same_grow nN g, upd_same, PsV.append (hpr.mono ((tups g).trans tN)) (hqs.mono tN), ?_, by rw [List.length_append]; simp; omega, by rw [List.length_append]; simp; omega, ?_⟩
            · intro q hq
              rcases List.mem_append.mp hq with hq | hq
              · exact hqw q hq
              · exact pwf q hq
            · rw [panesL_append, panesL_at e1]
              refine ins_step hperm ?_ nd1
              rw [eM]
              simp [panes, panesL]
          · have c3 : (d == e) = false := by cases d <;> cases e <;> first | rfl | exact absurd rfl c2
            rw [c3]
            refine iteF (tail (fun _ => c2) _ fun σ' H' h => h)
        · have c3 : isPane M p = false := Bool.eq_false_iff.mpr c1
          rw [c3]
          refine iteF (iteF (tail (fun z => absurd z c1) _ fun σ' H' h => h))
      · rintro σ H1 ⟨us, qs, e8, e9, rfl, g, hN, hqs, hqw, hq1, hq2, hperm⟩
        have gg := g0.trans g
        rw [← hp.len] at hq1 hperm
        rw [List.take_length, if_pos hpm] at hperm
        refine ⟨_, rfl, a, _, 0, _, rfl, rfl, SqT.of (gg _ _ ha), rfl, _, rfl, N, us, rfl, .inl ⟨SqL.of hN, fun tp ntp => ?_⟩⟩
        have s6 := same_new ntp (HO.tup us)
        refine ⟨(by show 2 ≤ sizeLine; decide), fun o no => ?_⟩
        have s7 := same_new no (HO.tup [.str (dirS d), .ref tp])
        refine q _ _ (.node d qs) ((gg.trans s6).trans s7) (.node upd_same (s7 _ _ upd_same) (hqs.mono ((tups s6).trans (tups s7)))) (.node _ _ (by omega) (fun q hq => (hqw q hq).1) fun q hq => (hqw q hq).2) ?_
        rw [panes]; exact hperm
end
end Mp
namespace Mp
open PySem PySem.Spec PyProof.Rows L2
theorem Good.ins {L L' : Lt} {new : Int} (g : Good L) (hw : WF 1000 L') (hp : (panes L').Perm (panes L ++ [new])) (h15 : (panes L).length ≤ 15) (hn : ¬ new ∈ panes L) : Good L' := by
  refine ⟨hw, ?_, ?_⟩
  · rw [hp.length_eq, List.length_append]; simp; omega
  · refine hp.nodup_iff.mpr (List.nodup_append.mpr ⟨g.nd, by simp, fun a ha b hb => ?_⟩)
    rw [List.mem_singleton.mp hb]
    intro z
    rw [z] at ha
    exact hn ha
/-- the text of the error is short -/
theorem note_short {p : Int} (h0 : 0 < p) (h1 : p ≤ 16) : ((Str.empty ++ ("pane " : Str)) ++ (toString p : Str)).length ≤ 100 ∧ (((Str.empty ++ ("pane " : Str)) ++ (toString p : Str)) ++ (" has no room" : Str)).length ≤ 100 := by
  have key : ∀ k : Fin 17, ((Str.empty ++ ("pane " : Str)) ++ (toString ((k.val : Nat) : Int) : Str)).length ≤ 100 ∧ (((Str.empty ++ ("pane " : Str)) ++ (toString ((k.val : Nat) : Int) : Str)) ++ (" has no room" : Str)).length ≤ 100 := by decide +kernel
  have e : ((p.toNat : Nat) : Int) = p := by omega
  have k := key ⟨p.toNat, by omega⟩
  simp only [e] at k
  exact k
theorem small_log {p : Int} (h0 : 0 < p) (h1 : p ≤ 16) : p.natAbs.log2 < 1920 := by
  have : p.natAbs.log2 ≤ p.natAbs := Nat.log2_le_self _
  omega
section
variable {P : Program} {w : World} {K : PySem.W.Frag} {mg : Str → Option Value} {base : Heap}
/-! ### divided -/
def spDivided (mg : Str → Option Value) : Sp := fun vs H Q E => ∃ (v : V) (L : Lt) (w h p : Int) (d : Bool) (new : Int), vs = [v, .int w, .int h, .int p, .str (dirS d), .int new] ∧ LV H L v ∧ Good L ∧ (panes L).length ≤ 15 ∧ w ≤ 100 ∧ h ≤ 100 ∧ p ∈ panes L ∧ 0 < p ∧ p ≤ 16 ∧ 0 < new ∧ ¬ new ∈ panes L ∧
  (∀ (H' : Hp) (u : V) (L' : Lt), Same H H' → LV H' L' u → Good L' → (panes L').Perm (panes L ++ [new]) → Q u H') ∧
  (∀ (H' : Hp) (C : Addr), Same H H' → mg "NoRoom" = some (.ref C) → E (.ref C) none H')
theorem scDivided : FnScope ["layout", "width", "height", "pane", "direction", "new", "size"] ["layout", "width", "height", "pane", "direction", "new"] (defScope sDivided) := ⟨rfl, rfl, rfl, by decide +kernel, rfl, by decide +kernel, by decide +kernel⟩
/-- a def that may raise, to be called in a try -/
def ClX (P : Program) (w : World) (K : PySem.W.Frag) (mg : Str → Option Value) (base : Heap) (k : Nat) (x : Str) (ps : List Str) (sp : Sp) : Prop :=
  ∃ f fd, mg x = some (.ref f) ∧ FnOk P w K mg base (L2.CX P w) k f fd ps sp ∧ PySem.W.keepIn K (.ref f) = true ∧ Binds K fd ps []
theorem cl_divided (T : Txt K w mg) : ClX P w K mg base 39 "divided" ["layout", "width", "height", "pane", "direction", "new"] (spDivided mg) := by
  have FI : Cl P w K mg base 34 "fitted" ["layout", "width", "height"] (spFitted 16) := cl_fitted T 16 (Nat.le_refl _)
  have SZ : Cl P w K mg base 37 "size_of" ["layout", "width", "height", "pane", "axis"] spSizeOf := cl_sizeOf T
  have AX : Cl P w K mg base 1 "axis_of" ["direction"] spAxis := cl_axis T
  have WN : Cl P w K mg base 34 "with_new" ["layout", "pane", "direction", "new", "size"] (spWithNew 16) := cl_withNew T 16 (Nat.le_refl _)
  obtain ⟨aS, mS, kB, kL⟩ := T.cSplit
  obtain ⟨C, RC⟩ := T.cRoom
  obtain ⟨f, fd, m, F, b⟩ := T.dDivided.ex
  refine ⟨f, fd, m, ?_, F.kp, b⟩
  refine F.okX scDivided (fun vs H Q E h => ?_) (fun cdv A outer s H vs Q E hr h => ?_)
  · obtain ⟨v, L, w, h, p, d, new, rfl, _⟩ := h; rfl
  obtain ⟨v, L, wd, ht, p, d, new, rfl, hL, g, h15, hw, hh, hp, hp0, hp1, hn0, hn1, q, qE⟩ := h
  have hr34 := hr.mono (j := 34) (by omega)
  have hr37 := hr.mono (j := 37) (by omega)
  have hr1 := hr.mono (j := 1) (by omega)
  refine ⟨_, (pss_cons (ps_set (i := 0) scDivided.nd rfl (.inl rfl) (pcl FI hr34 (pa_cons (pv 0) (pa_cons (pv 1) (pa_cons (pv 2) pa_nil)))))
      (pss_cons (ps_set (i := 6) scDivided.nd rfl (.inl rfl) (pcl SZ hr37 (pa_cons (pv 0) (pa_cons (pv 1) (pa_cons (pv 2) (pa_cons (pv 3) (pa_cons (pcl AX hr1 (pa_cons (pv 4) pa_nil)) pa_nil)))))))
      (pss_cons (ps_if (pt_cmpR op_lt (pv 6) (pe_ix ix_kdict (pe_glob (v := .ref aS) rfl mS rfl) (pv 4) (fun _ _ => rfl)) (nomark _))
        (pss_one (ps_raise rfl (takes_of rfl rfl rfl rfl) (SkE.pmk_own1 PySem.F.excBase_ValueError RC.xC RC.gC RC.kC (raises_own RC.eC RC.tC) rfl (pe_joined (.cons pe_str (.cons (pe_fmt (pv 3)) (.cons pe_str .nil))))))) pss_nil)
      (pss_one (ps_ret (pcl FI hr34 (pa_cons (pcl WN hr34 (pa_cons (pv 0) (pa_cons (pv 3) (pa_cons (pv 4) (pa_cons (pv 5) (pa_cons (pv 6) pa_nil)))))) (pa_cons (pv 1) (pa_cons (pv 2) pa_nil))))))))), ?_⟩
  have few := g.few
  have low := g.low
  refine ⟨_, rfl, _, rfl, _, rfl, v, L, wd, ht, rfl, hL, g.dep, g.wf, few, hw, hh, fun H1 u1 g1 hu1 => ?_⟩
  have gf := g.fitted hw hh
  have ep := (fitted_keeps L wd ht).1
  have wf1 : WF 100 (fitted L wd ht) := wf_fitted L g.wf (by omega) (by omega) wd ht hw hh
  refine ⟨_, rfl, _, rfl, _, rfl, _, rfl, _, rfl, d, rfl, u1, fitted L wd ht, wd, ht, p, d, rfl, hu1, gf, hw, hh, fun H2 z g2 z0 z1 => ?_⟩
  have g12 := g1.trans g2
  have kD : KDct K w aS (dirS d) (.int (if d then 5 else 3)) := by cases d; exact kL; exact kB
  refine ⟨_, rfl, _, rfl, aS, _, _, rfl, rfl, kD, _, _, rfl, rfl, _, rfl, ite2 (fun c => ?_) (fun c => ?_)⟩
  · have sh := note_short hp0 hp1
    refine ⟨_, rfl, (by decide +kernel), _, rfl, .inr ⟨p, rfl, small_log hp0 hp1, _, rfl, small (by omega), _, rfl, small (by omega), ?_⟩⟩
    exact qE H2 C g12 RC.gC
  · refine ⟨_, rfl, _, rfl, _, rfl, _, rfl, _, rfl, u1, fitted L wd ht, p, d, new, z, rfl, hu1.mono (tups g2), gf.dep, wf1, by rw [ep]; exact few, gf.nd, by rw [ep]; exact hp, hp0, hn0, z0, z1, fun H3 u3 L3 g3 h3 w3 p3 => ?_⟩
    rw [ep] at p3
    have g3' := g.ins w3 p3 h15 hn1
    refine ⟨_, rfl, _, rfl, u3, L3, wd, ht, rfl, h3, g3'.dep, g3'.wf, g3'.few, hw, hh, fun H4 u4 g4 h4 => ?_⟩
    refine q H4 u4 _ ((g12.trans g3).trans g4) h4 (g3'.fitted hw hh) ?_
    rw [(fitted_keeps L3 wd ht).1]
    exact p3
end
end Mp
namespace Mp
open PySem PySem.Spec PyProof.Rows L2
theorem panesL_shape (ps : List (Lt × Int)) : panesL ps = (ps.map (·.1)).flatMap panes := by
  induction ps with
  | nil => rfl
  | cons p ps ih => cases p; rw [panesL, ih]; rfl
theorem erase_step {α : Type} {xs : List α} {i j : Nat} {x : α} (e : xs[j]? = some x) : (xs.take (j + 1)).eraseIdx i = if j = i then (xs.take j).eraseIdx i else (xs.take j).eraseIdx i ++ [x] := by
  have hj : j < xs.length := (List.getElem?_eq_some_iff.mp e).1
  have hl : (xs.take j).length = j := by rw [List.length_take]; omega
  have e1 : xs.take (j + 1) = xs.take j ++ [x] := by rw [List.take_add_one, e]; rfl
  rw [e1]
  by_cases c : j = i
  · subst c
    have z := List.eraseIdx_of_length_le (l := xs.take j) (k := j) (by omega)
    rw [if_pos rfl, List.eraseIdx_append_of_length_le (by omega), hl, Nat.sub_self, z]
    simp
  · rw [if_neg c]
    by_cases c2 : i < j
    · rw [List.eraseIdx_append_of_lt_length (by omega)]
    · rw [List.eraseIdx_append_of_length_le (by omega), List.eraseIdx_of_length_le (l := xs.take j) (by omega), List.eraseIdx_of_length_le (l := [x]) (by simp; omega)]
theorem cut_lo {xs : List V} {k : Nat} (h : k ≤ xs.length) : cutV xs none (some (k : Int)) = xs.take k := by
  unfold cutV
  rw [HT.sIx_none, HT.sIx_nat, List.drop_zero, Nat.sub_zero, Nat.min_eq_left h]
theorem cut_hi {xs : List V} {k : Nat} (h : k ≤ xs.length) : cutV xs (some (k : Int)) none = xs.drop k := by
  unfold cutV
  rw [HT.sIx_none, HT.sIx_nat, Nat.min_eq_left h]
  exact List.take_of_length_le (by rw [List.length_drop]; omega)
section
variable {X : Cx}
/-- a part of a tuple: some tuple of these items stands behind it -/
def rSlP : V → Option Int → Option Int → Hp → VK → Prop := fun x lo hi H Q => ∃ (a : Addr) (xs : List V), x = .ref a ∧ H a = some (.tup xs) ∧ ∀ (H' : Hp) (p : Addr), Same H H' → H' p = some (.tup (cutV xs lo hi)) → Q (.ref p) H'
theorem sl_tupP : SlR X rSlP := by
  intro pins s σ H x v vl vu lo hi sl Q I rx hs pl pu h
  obtain ⟨a, xs, rfl, ha, q⟩ := h
  refine sl_tupA pins s σ H _ v vl vu lo hi sl Q I rx hs pl pu ⟨a, xs, rfl, SqT.of ha, fun c => q H a (Same.refl H) ?_, fun _ p np => q _ p (same_new np _) upd_same⟩
  rw [ha]
  unfold cutV
  rw [c.1, c.2, List.drop_zero, Nat.sub_zero, List.take_length]
def rCatP : R2 := fun x y H Q => ∃ (a b : Addr) (xs ys : List V), x = .ref a ∧ y = .ref b ∧ H a = some (.tup xs) ∧ H b = some (.tup ys) ∧ xs.length + ys.length ≤ sizeLine ∧ ∀ (H' : Hp) (p : Addr), Same H H' → H' p = some (.tup (xs ++ ys)) → Q (.ref p) H'
theorem op_catP : OpR X (binaryOp .Add) rCatP := by
  intro pins s σ H x y v u Q I rx ry h
  obtain ⟨a, b, xs, ys, rfl, rfl, ha, hb, hz, q⟩ := h
  refine op_catA pins s σ H _ _ v u Q I rx ry ⟨a, b, xs, ys, rfl, rfl, SqT.of ha, SqT.of hb, hz, fun e => q H b (Same.refl H) ?_, fun _ e => q H a (Same.refl H) ?_, fun _ _ p np => q _ p (same_new np _) upd_same⟩
  · rw [e, List.nil_append]; exact hb
  · rw [e, List.append_nil]; exact ha
end
section
variable {P : Program} {w : World} {K : PySem.W.Frag} {mg : Str → Option Value} {base : Heap}
/-! ### dropped -/
def spDropped : Sp := fun vs H Q _ => ∃ (a : Addr) (i : Nat) (xs : List V) (ps : List (Lt × Int)), vs = [.ref a, .int (i : Int)] ∧ H a = some (.tup xs) ∧ PsV H ps xs ∧ i < ps.length ∧ ps.length ≤ 16 ∧ (∀ p ∈ ps, -100 ≤ p.2 ∧ p.2 ≤ 100) ∧
  ∀ (H' : Hp) (N : Addr) (us : List V) (qs : List (Lt × Int)), Same H H' → H' N = some (.lst us) → PsV H' qs us → qs.map (·.1) = (ps.map (·.1)).eraseIdx i → (∀ q ∈ qs, -1000 ≤ q.2 ∧ q.2 ≤ 1000) → Q (.ref N) H'
abbrev nDropped : List Str := ["parts", "index", "room", "heir", "news", "at", "inner", "size"]
theorem scDropped : FnScope nDropped ["parts", "index"] (defScope sDropped) := ⟨rfl, rfl, rfl, by decide +kernel, rfl, by decide +kernel, by decide +kernel⟩
theorem cl_dropped (T : Txt K w mg) : Cl P w K mg base 1 "dropped" ["parts", "index"] spDropped := by
  refine cl_of T.dDropped scDropped (fun vs H Q E h => ?_) (fun cdv f A outer s H vs Q E hr h => ?_)
  · obtain ⟨a, i, xs, ps, rfl, _⟩ := h; rfl
  obtain ⟨a, i, xs, ps, rfl, ha, hp, hi, h16, hz, q⟩ := h
  refine ⟨_, (pss_cons (ps_set (i := 2) scDropped.nd rfl (.inl rfl) (pe_op op_add (pe_ix (r := rIxT K) ix_tup (pe_ix (r := rIxT K) ix_tup (pv 0) (pv 1) (fun _ _ => rfl)) pe_int (fun _ _ => rfl)) pe_int))
      (C8.pss_cut (ps_set (i := 3) scDropped.nd rfl (.inl rfl) (pe_ifExp (pt_cmpR op_gt (pv 1) pe_int (nomark _)) (pe_op op_sub (pv 1) pe_int) pe_int)) (pss_cons (ps_set (i := 4) scDropped.nd rfl (.inl rfl) (pe_lst pa_nil))
      (pss_cons (ps_for PassesOwn.never rfl (pi_enumT rfl T.f_enumerate (pa_cons (pv 0) pa_nil)) (pg_tup (n := 2) rfl (pgs_cons (pg_name (i := 5) scDropped.nd rfl (.inl rfl)) (pgs_cons (pg_tup (n := 2) rfl (pgs_cons (pg_name (i := 6) scDropped.nd rfl (.inl rfl)) (pgs_cons (pg_name (i := 7) scDropped.nd rfl (.inl rfl)) pgs_nil))) pgs_nil)))
      (pss_one (ps_if (pt_cmpR op_eq (pv 5) (pv 3) (nomark _))
          (pss_one (ps_expr (pe_bm PySem.F.plainAttrs_list PySem.F.slot_list_append PySem.F.type_list_append mt_append (pv 4) (pa_cons (pe_tup (pa_cons (pv 6) (pa_cons (pe_op op_add (pv 7) (pv 2)) pa_nil))) pa_nil))))
          (pss_one (ps_if (pt_cmpR op_ne (pv 5) (pv 1) (nomark _)) (pss_one (ps_expr (pe_bm PySem.F.plainAttrs_list PySem.F.slot_list_append PySem.F.type_list_append mt_append (pv 4) (pa_cons (pe_tup (pa_cons (pv 6) (pa_cons (pv 7) pa_nil))) pa_nil)))) pss_nil)))))
      (pss_one (ps_ret (pv 4))))))), ?_⟩
  obtain ⟨⟨M0, z0⟩, e0⟩ : ∃ p, ps[i]? = some p := ⟨_, List.getElem?_eq_getElem hi⟩
  obtain ⟨b0, u0, ex0, hb0, _⟩ := hp.at' e0
  have hz0 := hz _ (List.mem_of_getElem? e0)
  refine ⟨_, rfl, _, rfl, a, _, (i : Int), _, rfl, rfl, SqT.of ha, atI_nat ex0, b0, _, 1, _, rfl, rfl, SqT.of hb0, rfl, _, _, rfl, rfl, ?_⟩
  refine ⟨fun σ H' => ∃ k : Int, σ = [some (.ref a), some (.int (i : Int)), some (.int (z0 + 1)), some (.int k), none, none, none, none] ∧ H' = H ∧ k ≠ (i : Int), ?_, ?_⟩
  · refine ⟨_, rfl, _, _, rfl, rfl, _, rfl, ite2 (fun c => ?_) (fun c => ?_)⟩
    · exact ⟨_, rfl, _, _, rfl, rfl, _, rfl, rfl, by omega⟩
    · have c' : ¬ (0 : Int) < (i : Int) := of_decide_eq_false (Bool.eq_false_iff.mpr c)
      exact ⟨1, rfl, rfl, by omega⟩
  rintro σ H' ⟨k, rfl, rfl, hk⟩
  refine ⟨(by show 0 ≤ sizeLine; decide), fun N nN => ?_⟩
  have s1 := same_new nN (HO.lst [])
  refine ⟨_, rfl, a, _, rfl, SqT.of (s1 _ _ ha), ?_⟩
  refine for_it (walk_enumT (xs := xs)) (fun j σ H1 => ∃ (us : List V) (qs : List (Lt × Int)) (e5 e6 e7 : Option V), σ = [some (.ref a), some (.int (i : Int)), some (.int (z0 + 1)), some (.int k), some (.ref N), e5, e6, e7] ∧
    Same H' H1 ∧ H1 N = some (.lst us) ∧ PsV H1 qs us ∧ qs.map (·.1) = ((ps.map (·.1)).take j).eraseIdx i ∧ (∀ q ∈ qs, -1000 ≤ q.2 ∧ q.2 ≤ 1000) ∧ qs.length ≤ j)
    ⟨[], [], none, none, none, rfl, s1, upd_same, .nil, by simp, by simp, by simp⟩ (fun j σ H1 _ ⟨_, _, _, _, _, _, g, _⟩ => SqT.of (g _ _ ha)) ?_ ?_
  · rintro j x σ H1 H2 hj ⟨us, qs, e5, e6, e7, rfl, g, hN, hqs, hsh, hqz, hql⟩ ⟨p, y0, y, rfl, np, rfl, hy0, hy⟩
    cases (Option.some.inj hy0)
    obtain ⟨M, z, b, u, e1, rfl, hb, hM⟩ := hp.at hy
    have hzz : -100 ≤ z ∧ z ≤ 100 := hz _ (List.mem_of_getElem? e1)
    have hj' : j < ps.length := (List.getElem?_eq_some_iff.mp e1).1
    have sp := same_new np (HO.tup [.int (j : Nat), .ref b])
    have gp := g.trans sp
    have hN1 := sp _ _ hN
    have hul : qs.length = us.length := hqs.len
    have e2 : (ps.map (·.1))[j]? = some M := by rw [List.getElem?_map, e1]; rfl
    have st := erase_step (i := i) e2
    refine ⟨p, _, rfl, SqT.of upd_same, rfl, _, _, rfl, _, _, rfl, ⟨b, _, rfl, SqT.of (gp _ _ hb), rfl, u, _, rfl, _, _, rfl, rfl, rfl, ?_⟩⟩
    have put : ∀ (z' : Int) (t : Addr), upd H1 p (.tup [.int (j : Nat), .ref b]) t = none → -1000 ≤ z' → z' ≤ 1000 → j ≠ i →
        Same H' (upd (upd (upd H1 p (.tup [.int (j : Nat), .ref b])) t (.tup [u, .int z'])) N (.lst (us ++ [.ref t]))) ∧ PsV (upd (upd (upd H1 p (.tup [.int (j : Nat), .ref b])) t (.tup [u, .int z'])) N (.lst (us ++ [.ref t]))) (qs ++ [(M, z')]) (us ++ [.ref t]) ∧
          (qs ++ [(M, z')]).map (·.1) = ((ps.map (·.1)).take (j + 1)).eraseIdx i ∧ (∀ q ∈ qs ++ [(M, z')], -1000 ≤ q.2 ∧ q.2 ≤ 1000) ∧ (qs ++ [(M, z')]).length ≤ j + 1 := fun z' t nt h1 h2 hji => by
      have st' := same_new nt (HO.tup [u, .int z'])
      have tN : TupS (upd (upd H1 p (.tup [.int (j : Nat), .ref b])) t (.tup [u, .int z'])) _ := TupS.lst (o := .lst (us ++ [.ref t])) (st' _ _ hN1)
      refine ⟨same_grow nN (gp.trans st'), PsV.snoc (hqs.mono (((tups sp).trans (tups st')).trans tN)) (tN _ _ upd_same) (hM.mono (((tups gp).trans (tups st')).trans tN)), ?_, ?_, by rw [List.length_append]; simp; omega⟩
      · rw [st, if_neg hji, List.map_append, hsh]; rfl
      · intro q hq
        rcases List.mem_append.mp hq with hq | hq
        · exact hqz q hq
        · rw [List.mem_singleton.mp hq]; exact ⟨h1, h2⟩
    refine ⟨_, rfl, _, rfl, rfl, _, rfl, ite2 (fun c => ?_) (fun c => ?_)⟩
    · have c' : ((j : Nat) : Int) = k := by have := of_decide_eq_true c; injection this
      refine ⟨_, rfl, .inl ⟨rfl, _, SqL.of hN1⟩, _, rfl, _, rfl, _, rfl, _, _, rfl, rfl, (by show 2 ≤ sizeLine; decide), fun t nt => ?_⟩
      have hz0' : -100 ≤ z0 ∧ z0 ≤ 100 := hz0
      obtain ⟨f1, f2, f3, f4, f5⟩ := put (z + (z0 + 1)) t nt (by omega) (by omega) (by omega)
      exact ⟨N, _, _, rfl, rfl, (same_new nt _) _ _ hN1, small1000 (by omega), _, _, _, _, _, rfl, f1, upd_same, f2, f3, f4, f5⟩
    · refine ⟨_, rfl, _, rfl, rfl, _, rfl, ?_⟩
      by_cases c2 : ((j : Nat) : Int) = (i : Int)
      · have c3 : (!decide (V.int ((j : Nat) : Int) = V.int (i : Int))) = false := by rw [c2]; simp
        rw [c3]
        have hji : j = i := by omega
        refine iteF ⟨us, qs, _, _, _, rfl, gp, hN1, hqs.mono (tups sp), ?_, hqz, by omega⟩
        rw [st, if_pos hji]; exact hsh
      · have c3 : (!decide (V.int ((j : Nat) : Int) = V.int (i : Int))) = true := by
          have : ¬ V.int ((j : Nat) : Int) = V.int (i : Int) := fun z => c2 (by injection z)
          rw [decide_eq_false this]; rfl
        rw [c3]
        refine iteT ⟨_, rfl, .inl ⟨rfl, _, SqL.of hN1⟩, _, rfl, _, rfl, (by show 2 ≤ sizeLine; decide), fun t nt => ?_⟩
        obtain ⟨f1, f2, f3, f4, f5⟩ := put z t nt (by omega) (by omega) (by omega)
        exact ⟨N, _, _, rfl, rfl, (same_new nt _) _ _ hN1, small1000 (by omega), _, _, _, _, _, rfl, f1, upd_same, f2, f3, f4, f5⟩
  · rintro σ H1 ⟨us, qs, e5, e6, e7, rfl, g, hN, hqs, hsh, hqz, hql⟩
    have el : xs.length = (ps.map (·.1)).length := by rw [List.length_map, hp.len]
    rw [el, List.take_length] at hsh
    exact ⟨_, rfl, q H1 N us qs g hN hqs hsh hqz⟩
end
end Mp
namespace Mp
open PySem PySem.Spec PyProof.Rows L2
theorem filter_off {p : Int} {X : List Int} (h : ¬ p ∈ X) : X.filter (fun x => decide (x ≠ p)) = X := by
  refine List.filter_eq_self.mpr fun x hx => decide_eq_true fun e => h (by rw [← e]; exact hx)
/-- the panes without one that stands in one part -/
theorem filter_mid {p : Int} {X m Y : List Int} (nd : (X ++ (m ++ Y)).Nodup) (hm : p ∈ m) : (X ++ (m ++ Y)).filter (fun x => decide (x ≠ p)) = X ++ (m.filter (fun x => decide (x ≠ p)) ++ Y) := by
  have n1 := List.nodup_append.mp nd
  have n2 := List.nodup_append.mp n1.2.1
  have hX : ¬ p ∈ X := fun h => n1.2.2 p h p (List.mem_append_left _ hm) rfl
  have hY : ¬ p ∈ Y := fun h => n2.2.2 p hm p h rfl
  rw [List.filter_append, List.filter_append, filter_off hX, filter_off hY]
/-- parts, one of them in other parts' place -/
theorem WF.swap {ps qs : List (Lt × Int)} {i : Nat} {d : Bool} (h2 : 2 ≤ ps.length) (hi : i < ps.length) (hw : ∀ p ∈ ps, WF 100 p.1) (hz : ∀ p ∈ ps, -100 ≤ p.2 ∧ p.2 ≤ 100) (q1 : 1 ≤ qs.length) (qw : ∀ q ∈ qs, WF 1000 q.1) (qz : ∀ q ∈ qs, -1000 ≤ q.2 ∧ q.2 ≤ 1000) :
    WF 1000 (.node d (ps.take i ++ qs ++ ps.drop (i + 1))) := by
  have mem : ∀ p ∈ ps.take i ++ qs ++ ps.drop (i + 1), p ∈ ps ∨ p ∈ qs := fun p hp => by
    rcases List.mem_append.mp hp with hp | hp
    · rcases List.mem_append.mp hp with hp | hp
      · exact .inl (List.mem_of_mem_take hp)
      · exact .inr hp
    · exact .inl (List.mem_of_mem_drop hp)
  refine .node _ _ ?_ (fun p hp => ?_) fun p hp => ?_
  · rw [List.length_append, List.length_append, List.length_take, List.length_drop]; omega
  · rcases mem p hp with h | h
    · exact (hw p h).mono (by omega)
    · exact qw p h
  · rcases mem p hp with h | h
    · have := hz p h; omega
    · exact qz p h
theorem panesL_swap (ps qs : List (Lt × Int)) (i : Nat) : panesL (ps.take i ++ qs ++ ps.drop (i + 1)) = panesL (ps.take i) ++ (panesL qs ++ panesL (ps.drop (i + 1))) := by
  rw [panesL_append, panesL_append, List.append_assoc]
section
variable {P : Program} {w : World} {K : PySem.W.Frag} {mg : Str → Option Value} {base : Heap}
/-! ### taken_out -/
def spTakenOut (n : Nat) : Sp := fun vs H Q _ => ∃ (v : V) (L : Lt) (p : Int), vs = [v, .int p] ∧ LV H L v ∧ Dep n L ∧ WF 100 L ∧ (panes L).length ≤ 16 ∧ (panes L).Nodup ∧ p ∈ panes L ∧ isPane L p = false ∧
  ∀ (H' : Hp) (u : V) (L' : Lt), Same H H' → LV H' L' u → WF 1000 L' → panes L' = (panes L).filter (fun x => decide (x ≠ p)) → Q u H'
abbrev nTakenOut : List Str := ["layout", "pane", "direction", "parts", "index", "inner", "size", "news", "rest"]
theorem scTakenOut : FnScope nTakenOut ["layout", "pane"] (defScope sTakenOut) := ⟨rfl, rfl, rfl, by decide +kernel, rfl, by decide +kernel, by decide +kernel⟩
theorem cl_takenOut (T : Txt K w mg) : ∀ n, n ≤ 16 → Cl P w K mg base (n + 18) "taken_out" ["layout", "pane"] (spTakenOut n)
  | 0, _ => (no_call T.dTakenOut fun vs H Q E h => by
    obtain ⟨v, L, _, _, _, h, _⟩ := h
    exact h).mono (by omega)
  | n + 1, hn => by
    have IH := cl_takenOut T n (by omega)
    have PA : Cl P w K mg base 16 "panes" ["layout"] (spPanes 16) := cl_panes T 16
    have DR : Cl P w K mg base 1 "dropped" ["parts", "index"] spDropped := cl_dropped T
    refine cl_of T.dTakenOut scTakenOut (fun vs H Q E h => ?_) (fun cdv f A outer s H vs Q E hr h => ?_)
    · obtain ⟨v, L, p, rfl, _⟩ := h; rfl
    obtain ⟨v, L, p, rfl, hL, hd, hwf, hs, hnd, hpm, hnp, q⟩ := h
    have hr16 := hr.mono (j := 16) (by omega)
    have hr1 := hr.mono (j := 1) (by omega)
    have hu := hr.units
    refine ⟨_, (pss_cons (ps_asg (pv 0) (pg_tup (n := 2) rfl (pgs_cons (pg_name (i := 2) scTakenOut.nd rfl (.inl rfl)) (pgs_cons (pg_name (i := 3) scTakenOut.nd rfl (.inl rfl)) pgs_nil))))
      (pss_cons (ps_for PassesOwn.never rfl (pi_enumT rfl T.f_enumerate (pa_cons (pv 3) pa_nil)) (pg_tup (n := 2) rfl (pgs_cons (pg_name (i := 4) scTakenOut.nd rfl (.inl rfl)) (pgs_cons (pg_tup (n := 2) rfl (pgs_cons (pg_name (i := 5) scTakenOut.nd rfl (.inl rfl)) (pgs_cons (pg_name (i := 6) scTakenOut.nd rfl (.inl rfl)) pgs_nil))) pgs_nil)))
        (pss_cons (ps_if (pt_cmpR (op_eqLP hu) (pv 5) (pv 1) (nomark _))
            (pss_cons (ps_set (i := 7) scTakenOut.nd rfl (.inl rfl) (pcl DR hr1 (pa_cons (pv 3) (pa_cons (pv 4) pa_nil))))
      (pss_cons (ps_if (pt_cmpR op_eq (pe_callB call_len_seq rfl T.f_len boot_len (pa_cons (pv 7) pa_nil)) pe_int (nomark _)) (pss_one (ps_ret (pe_ix (r := rIxT K) ix_tup (pe_ix (r := rIxL K) ix_list (pv 7) pe_int (fun _ _ => rfl)) pe_int (fun _ _ => rfl)))) pss_nil)
      (pss_one (ps_ret (pe_tup (pa_cons (pv 2) (pa_cons (pe_callTy call_tuple_of rfl T.f_tuple boot_tuple (pa_cons (pv 7) pa_nil)) pa_nil))))))) pss_nil)
      (pss_one (ps_if (pt_cmpR op_inI (pv 1) (pcl PA hr16 (pa_cons (pv 5) pa_nil)) (by rfl))
            (pss_cons (ps_set (i := 8) scTakenOut.nd rfl (.inl rfl) (pcl IH hr (pa_cons (pv 5) (pa_cons (pv 1) pa_nil))))
      (pss_cons (ps_if (PW.pt (pw_and (pt_not (pt_val (pe_callB call_isint rfl T.f_isinstance boot_isinstance (pa_cons (pv 8) (pa_cons (pe_bltn (v := .ty "int") rfl T.f_int boot_int rfl) pa_nil))))) (pw_and1 (pt_cmpR op_eq (pe_ix (r := rIxT K) ix_tup (pv 8) pe_int (fun _ _ => rfl)) (pv 2) (nomark _)))))
                (pss_one (ps_ret (pe_tup (pa_cons (pv 2) (pa_cons (pe_op op_catP (pe_op op_catP (pe_slice sl_tupP (pv 3) po_none (po_some (pv 4))) (pe_ix (r := rIxT K) ix_tup (pv 8) pe_int (fun _ _ => rfl))) (pe_slice sl_tupP (pv 3) (po_some (pe_op op_add (pv 4) pe_int)) po_none)) pa_nil))))) pss_nil)
      (pss_one (ps_ret (pe_tup (pa_cons (pv 2) (pa_cons (pe_op op_catP (pe_op op_catP (pe_slice sl_tupP (pv 3) po_none (po_some (pv 4))) (pe_tup (pa_cons (pe_tup (pa_cons (pv 8) (pa_cons (pv 6) pa_nil))) pa_nil))) (pe_slice sl_tupP (pv 3) (po_some (pe_op op_add (pv 4) pe_int)) po_none)) pa_nil))))))) pss_nil))))
      (pss_one (ps_ret (pv 0))))), ?_⟩
    cases hL with
    | pane i =>
      rw [panes] at hpm
      rw [isPane] at hnp
      exact absurd (List.mem_singleton.mp hpm).symm (of_decide_eq_false hnp)
    | @node d ps a r vs ha hr' hp =>
      have hw : 2 ≤ ps.length ∧ (∀ p ∈ ps, WF 100 p.1) ∧ ∀ p ∈ ps, -100 ≤ p.2 ∧ p.2 ≤ 100 := by
        cases hwf with
        | node _ _ h2 hw hz => exact ⟨h2, hw, hz⟩
      rw [panes] at hs hnd hpm q
      have hlen := panesL_len hw.2.1
      refine ⟨_, rfl, a, _, rfl, SqT.of ha, rfl, _, _, rfl, _, _, rfl, rfl, ?_⟩
      refine ⟨_, rfl, r, _, rfl, SqT.of hr', ?_⟩
      refine for_it (walk_enumT (xs := vs)) (fun i σ H' => ∃ (e4 e5 e6 e7 e8 : Option V), σ = [some (.ref a), some (.int p), some (.str (dirS d)), some (.ref r), e4, e5, e6, e7, e8] ∧ Same H H' ∧ ¬ p ∈ panesL (ps.take i))
        ⟨none, none, none, none, none, rfl, Same.refl H, by simp [panesL]⟩ (fun i σ H' _ ⟨_, _, _, _, _, _, g, _⟩ => SqT.of (g _ _ hr')) ?_ ?_
      · rintro i x σ H1 H2 hi ⟨e4, e5, e6, e7, e8, rfl, g, hno⟩ ⟨b0, y0, y, rfl, np, rfl, hy0, hy⟩
        cases (Option.some.inj hy0)
        obtain ⟨M, z, b, u, e1, rfl, hb, hM⟩ := hp.at hy
        have hm : (M, z) ∈ ps := List.mem_of_getElem? e1
        have hi' : i < ps.length := (List.getElem?_eq_some_iff.mp e1).1
        have sp := same_new np (HO.tup [.int (i : Nat), .ref b])
        have gp := g.trans sp
        have hzb : -100 ≤ z ∧ z ≤ 100 := hw.2.2 _ hm
        have dM16 : Dep 16 M := (hd _ hm).mono (by omega)
        have hM16 : (panes M).length ≤ (panesL ps).length := panes_le hm
        have hsp := panesL_split e1
        have ndM : (panes M).Nodup := by
          rw [hsp] at hnd
          exact (List.nodup_append.mp (List.nodup_append.mp hnd).2.1).1
        refine ⟨b0, _, rfl, SqT.of upd_same, rfl, _, _, rfl, _, _, rfl, ⟨b, _, rfl, SqT.of (gp _ _ hb), rfl, u, _, rfl, _, _, rfl, rfl, rfl, ?_⟩⟩
        refine ⟨_, rfl, _, rfl, M, p, hM.mono (tups gp), rfl, dM16, _, rfl, ite2 (fun c => ?_) (fun c => ?_)⟩
        · -- the part is the pane
          have eM := isPane_iff.mp c
          have hpM : p ∈ panes M := by rw [eM, panes]; exact List.mem_singleton.mpr rfl
          refine ⟨_, rfl, _, rfl, r, i, vs, ps, rfl, gp _ _ hr', hp.mono (tups gp), hi', by omega, hw.2.2, fun H3 N us qs g3 hN hqs hsh hqz => ?_⟩
          have gg := gp.trans g3
          have hql : qs.length = ps.length - 1 := by
            have := congrArg List.length hsh
            rw [List.length_map, List.length_eraseIdx, List.length_map, if_pos hi'] at this
            exact this
          have hul := hqs.len
          have hqw : ∀ q ∈ qs, WF 1000 q.1 := fun q hq => by
            have k : q.1 ∈ qs.map (·.1) := List.mem_map.mpr ⟨q, hq, rfl⟩
            rw [hsh] at k
            obtain ⟨p', hp', e'⟩ := List.mem_map.mp (List.mem_of_mem_eraseIdx k)
            rw [← e']
            exact (hw.2.1 p' hp').mono (by omega)
          have hpq : panesL qs = (panesL ps).filter (fun x => decide (x ≠ p)) := by
            have k : panesL ps = panesL (ps.take i) ++ (panes M ++ panesL (ps.drop (i + 1))) := hsp
            have nd2 := hnd
            rw [k] at nd2
            rw [k, filter_mid nd2 hpM, eM, panes]
            rw [panesL_shape qs, hsh, List.eraseIdx_eq_take_drop_succ, List.flatMap_append, ← List.map_take, ← List.map_drop, ← panesL_shape, ← panesL_shape]
            simp
          refine ⟨_, rfl, N, us, rfl, .inl (SqL.of hN), rfl, _, rfl, ite2 (fun c1 => ?_) (fun c1 => ?_)⟩
          · have c1' : ((us.length : Nat) : Int) = 1 := by have := of_decide_eq_true c1; injection this
            match qs, us, hqs with
            | _, _, .cons (L := L0) (s := s0) (ps := ps0) (a := a0) (u := u0) (vs := vs0) k1 k2 k3 =>
              have e0 : ps0 = [] := by
                have := k3.len
                simp at c1'
                exact List.length_eq_zero_iff.mp (by omega)
              subst e0
              refine ⟨_, rfl, N, _, ((0 : Nat) : Int), _, rfl, rfl, SqL.of hN, atI_nat (j := 0) rfl, a0, _, 0, _, rfl, rfl, SqT.of k1, rfl, ?_⟩
              refine q _ _ L0 gg k2 (hqw (L0, s0) List.mem_cons_self) ?_
              rw [← hpq]; simp [panesL]
            | [], [], .nil => simp at c1'
          · have c1' : ¬ ((us.length : Nat) : Int) = 1 := fun z => of_decide_eq_false (Bool.eq_false_iff.mpr c1) (by rw [z])
            refine ⟨_, rfl, _, rfl, N, us, rfl, .inl ⟨SqL.of hN, fun tp ntp => ?_⟩⟩
            have s6 := same_new ntp (HO.tup us)
            refine ⟨(by show 2 ≤ sizeLine; decide), fun o no => ?_⟩
            have s7 := same_new no (HO.tup [.str (dirS d), .ref tp])
            refine q _ _ (.node d qs) ((gg.trans s6).trans s7) (.node upd_same (s7 _ _ upd_same) (hqs.mono ((tups s6).trans (tups s7)))) (.node _ _ (by omega) hqw hqz) ?_
            rw [panes]; exact hpq
        · -- the pane lies in the part
          have c' : isPane M p = false := Bool.eq_false_iff.mpr c
          refine ⟨_, rfl, _, rfl, u, M, rfl, hM.mono (tups gp), dM16, by omega, fun H3 pl g3 hpl => ?_⟩
          have g13 := gp.trans g3
          refine ⟨p, pl, _, rfl, rfl, SqL.of hpl, _, rfl, ite2 (fun c2 => ?_) (fun c2 => ?_)⟩
          · have hpM : p ∈ panes M := of_decide_eq_true c2
            refine ⟨_, rfl, _, rfl, u, M, p, rfl, hM.mono (tups g13), hd _ hm, hw.2.1 _ hm, by omega, ndM, hpM, c', fun H4 u4 L4 g4 h4 w4 p4 => ?_⟩
            have g14 := g13.trans g4
            have nd2 := hnd
            rw [hsp] at nd2
            -- what both returns promise
            have fin : ∀ (qs : List (Lt × Int)) (H5 : Hp) (t o : Addr) (us : List V), Same H4 H5 → H5 t = some (.tup us) → H5 o = some (.tup [.str (dirS d), .ref t]) → PsV H5 (ps.take i ++ qs ++ ps.drop (i + 1)) us → 1 ≤ qs.length → (∀ q ∈ qs, WF 1000 q.1) → (∀ q ∈ qs, -1000 ≤ q.2 ∧ q.2 ≤ 1000) → panesL qs = panes L4 → Q (.ref o) H5 := fun qs H5 t o us g5 ht ho hps q1 qw qz pq => by
              refine q H5 _ (.node d (ps.take i ++ qs ++ ps.drop (i + 1))) (g14.trans g5) (.node ho ht hps) (WF.swap hw.1 hi' hw.2.1 hw.2.2 q1 qw qz) ?_
              rw [panes, panesL_swap, pq, p4, hsp, filter_mid nd2 hpM]
            have hrr := g14 _ _ hr'
            have htk : PsV H4 (ps.take i) (vs.take i) := (hp.mono (tups g14)).take i
            have hdr : PsV H4 (ps.drop (i + 1)) (vs.drop (i + 1)) := (hp.mono (tups g14)).drop (i + 1)
            have hvl := hp.len
            -- the last return
            have last : ∀ (D : Ends), (∀ v H', D.rt v H' = Q v H') → tRet (tTup (tCons (tVar 2) (tCons (tOp rCatP (tOp rCatP (tSl rSlP (tVar 3) tNoPart (tPart (tVar 4))) (tTup (tCons (tTup (tCons (tVar 8) (tCons (tVar 6) tNil))) tNil))) (tSl rSlP (tVar 3) (tPart (tOp (rI0 fun i j => .int (i + j)) (tVar 4) (tC (.int 1)))) tNoPart)) tNil))) D
                [some (.ref a), some (.int p), some (.str (dirS d)), some (.ref r), some (.int (i : Nat)), some u, some (.int z), e7, some u4] H4 := fun D eD => by
              have e5 : D.rt = Q := funext fun v => funext fun H' => eD v H'
              refine ⟨_, rfl, _, rfl, _, rfl, _, rfl, r, vs, rfl, hrr, fun H5 t1 g5 ht1 => ?_⟩
              rw [cut_lo (by omega)] at ht1
              refine ⟨_, rfl, _, rfl, (by show 2 ≤ sizeLine; decide), fun t2 n2 => ⟨(by show 1 ≤ sizeLine; decide), fun t3 n3 => ?_⟩⟩
              have s6 := same_new n2 (HO.tup [u4, .int z])
              have s7 := same_new n3 (HO.tup [.ref t2])
              refine ⟨t1, t3, _, _, rfl, rfl, s7 _ _ (s6 _ _ ht1), upd_same, small (by rw [List.length_take]; simp; omega), fun H8 t8 g8 ht8 => ?_⟩
              have g48 := ((g5.trans s6).trans s7).trans g8
              refine ⟨_, rfl, _, rfl, _, _, rfl, rfl, _, rfl, r, vs, rfl, g48 _ _ hrr, fun H9 t9 g9 ht9 => ?_⟩
              have e9 : ((i : Nat) : Int) + 1 = ((i + 1 : Nat) : Int) := by omega
              rw [e9, cut_hi (by omega)] at ht9
              refine ⟨t8, t9, _, _, rfl, rfl, g9 _ _ ht8, ht9, small (by rw [List.length_append, List.length_take, List.length_drop]; simp; omega), fun HA tA gA htA => ⟨(by show 2 ≤ sizeLine; decide), fun o no => ?_⟩⟩
              have sB := same_new no (HO.tup [.str (dirS d), .ref tA])
              have g4A := ((g48.trans g9).trans gA).trans sB
              rw [e5]
              refine fin [(L4, z)] _ tA o _ g4A (sB _ _ htA) upd_same (PsV.append (hdr.mono (tups g4A)) (PsV.append (.one (a := t2) ((((s7.trans g8).trans g9).trans gA).trans sB _ _ upd_same) (h4.mono (tups g4A))) (htk.mono (tups g4A)))) (by simp) (fun q hq => ?_) (fun q hq => ?_) (panesL_one _)
              · rw [List.mem_singleton.mp hq]; exact w4
              · rw [List.mem_singleton.mp hq]; show -1000 ≤ z ∧ z ≤ 1000; omega
            cases h4 with
            | pane i4 =>
              refine ⟨_, rfl, _, rfl, .inl ⟨i4, rfl, true, rfl, ?_⟩⟩
              exact iteF (iteF (last _ fun _ _ => rfl))
            | @node d4 qs4 a4 r4 vs4 k1 k2 k3 =>
              refine ⟨_, rfl, _, rfl, .inr ⟨_, _, rfl, k1, false, rfl, ?_⟩⟩
              refine iteT ⟨_, rfl, a4, _, 0, _, rfl, rfl, SqT.of k1, rfl, _, rfl, rfl, _, congrArg V.bl dir_is, ?_⟩
              by_cases c4 : d4 = d
              · have c5 : (d4 == d) = true := by rw [c4]; exact beq_self_eq_true d
                rw [c5]
                have w4' : 2 ≤ qs4.length ∧ (∀ q ∈ qs4, WF 1000 q.1) ∧ ∀ q ∈ qs4, -1000 ≤ q.2 ∧ q.2 ≤ 1000 := by
                  cases w4 with
                  | node _ _ a1 a2 a3 => exact ⟨a1, a2, a3⟩
                have l4 := k3.len
                have l4' := panesL_len w4'.2.1
                have p4' : (panesL qs4).length ≤ (panes M).length := by
                  rw [panes] at p4
                  rw [p4]
                  exact List.length_filter_le _ _
                refine iteT ⟨_, rfl, _, rfl, _, rfl, _, rfl, r, vs, rfl, hrr, fun H5 t1 g5 ht1 => ?_⟩
                rw [cut_lo (by omega)] at ht1
                refine ⟨_, rfl, a4, _, 1, _, rfl, rfl, SqT.of (g5 _ _ k1), rfl, t1, r4, _, _, rfl, rfl, ht1, g5 _ _ k2, small (by rw [List.length_take]; omega), fun H8 t8 g8 ht8 => ?_⟩
                have g48 := g5.trans g8
                refine ⟨_, rfl, _, rfl, _, _, rfl, rfl, _, rfl, r, vs, rfl, g48 _ _ hrr, fun H9 t9 g9 ht9 => ?_⟩
                have e9 : ((i : Nat) : Int) + 1 = ((i + 1 : Nat) : Int) := by omega
                rw [e9, cut_hi (by omega)] at ht9
                refine ⟨t8, t9, _, _, rfl, rfl, g9 _ _ ht8, ht9, small (by rw [List.length_append, List.length_take, List.length_drop]; omega), fun HA tA gA htA => ⟨(by show 2 ≤ sizeLine; decide), fun o no => ?_⟩⟩
                have sB := same_new no (HO.tup [.str (dirS d), .ref tA])
                have g4A := ((g48.trans g9).trans gA).trans sB
                exact fin qs4 _ tA o _ g4A (sB _ _ htA) upd_same (PsV.append (hdr.mono (tups g4A)) (PsV.append (k3.mono (tups g4A)) (htk.mono (tups g4A)))) (by omega) w4'.2.1 w4'.2.2 (by rw [panes])
              · have c5 : (d4 == d) = false := by cases d4 <;> cases d <;> first | rfl | exact absurd rfl c4
                rw [c5]
                exact iteF (last _ fun _ _ => rfl)
          · have hpM : ¬ p ∈ panes M := of_decide_eq_false (Bool.eq_false_iff.mpr c2)
            refine ⟨_, _, _, _, _, rfl, g13, ?_⟩
            rw [panesL_at e1]
            exact fun z => (List.mem_append.mp z).elim hno hpM
      · rintro σ H1 ⟨e4, e5, e6, e7, e8, rfl, g, hno⟩
        rw [← hp.len, List.take_length] at hno
        exact absurd hpm hno
end
end Mp
namespace Mp
open PySem PySem.Spec PyProof.Rows L2
section
variable {P : Program} {w : World} {K : PySem.W.Frag} {mg : Str → Option Value} {base : Heap}
/-! ### without -/
theorem Good.less {L L' : Lt} {p : Int} (g : Good L) (hw : WF 1000 L') (hp : panes L' = (panes L).filter (fun x => decide (x ≠ p))) : Good L' := by
  refine ⟨hw, ?_, ?_⟩
  · rw [hp]; exact Nat.le_trans (List.length_filter_le _ _) g.few
  · rw [hp]; exact g.nd.sublist List.filter_sublist
def spWithout : Sp := fun vs H Q _ => ∃ (v : V) (L : Lt) (wd ht p : Int), vs = [v, .int wd, .int ht, .int p] ∧ LV H L v ∧ Good L ∧ 2 ≤ (panes L).length ∧ wd ≤ 100 ∧ ht ≤ 100 ∧ p ∈ panes L ∧
  ∀ (H' : Hp) (u : V) (L' : Lt), Same H H' → LV H' L' u → Good L' → panes L' = (panes L).filter (fun x => decide (x ≠ p)) → Q u H'
theorem scWithout : FnScope ["layout", "width", "height", "pane"] ["layout", "width", "height", "pane"] (defScope sWithout) := ⟨rfl, rfl, rfl, by decide +kernel, rfl, by decide +kernel, by decide +kernel⟩
theorem cl_without (T : Txt K w mg) : Cl P w K mg base 35 "without" ["layout", "width", "height", "pane"] spWithout := by
  have FI : Cl P w K mg base 34 "fitted" ["layout", "width", "height"] (spFitted 16) := cl_fitted T 16 (Nat.le_refl _)
  have TO : Cl P w K mg base 34 "taken_out" ["layout", "pane"] (spTakenOut 16) := cl_takenOut T 16 (Nat.le_refl _)
  refine cl_of T.dWithout scWithout (fun vs H Q E h => ?_) (fun cdv f A outer s H vs Q E hr h => ?_)
  · obtain ⟨v, L, wd, ht, p, rfl, _⟩ := h; rfl
  obtain ⟨v, L, wd, ht, p, rfl, hL, g, h2, hw, hh, hp, q⟩ := h
  refine ⟨_, (pss_one (ps_ret (pcl FI hr (pa_cons (pcl TO hr (pa_cons (pcl FI hr (pa_cons (pv 0) (pa_cons (pv 1) (pa_cons (pv 2) pa_nil)))) (pa_cons (pv 3) pa_nil))) (pa_cons (pv 1) (pa_cons (pv 2) pa_nil)))))), ?_⟩
  have few := g.few
  have low := g.low
  refine ⟨_, rfl, _, rfl, _, rfl, v, L, wd, ht, rfl, hL, g.dep, g.wf, few, hw, hh, fun H1 u1 g1 hu1 => ?_⟩
  have gf := g.fitted hw hh
  have ep := (fitted_keeps L wd ht).1
  have wf1 : WF 100 (fitted L wd ht) := wf_fitted L g.wf (by omega) (by omega) wd ht hw hh
  have np : isPane (fitted L wd ht) p = false := by
    cases L with
    | pane i => simp [panes] at h2
    | node d ps => rw [fitted_node]; rfl
  refine ⟨_, rfl, u1, fitted L wd ht, p, rfl, hu1, gf.dep, wf1, by rw [ep]; exact few, gf.nd, by rw [ep]; exact hp, np, fun H3 u3 L3 g3 h3 w3 p3 => ?_⟩
  rw [ep] at p3
  have g3' := g.less w3 p3
  refine ⟨_, rfl, _, rfl, u3, L3, wd, ht, rfl, h3, g3'.dep, g3'.wf, g3'.few, hw, hh, fun H4 u4 g4 h4 => ?_⟩
  refine q H4 u4 _ ((g1.trans g3).trans g4) h4 (g3'.fitted hw hh) ?_
  rw [(fitted_keeps L3 wd ht).1]
  exact p3
/-! ### shifted -/
def spShifted : Sp := fun vs H Q _ => ∃ (a : Addr) (i : Nat) (d : Bool) (am : Int) (xs : List V) (ps : List (Lt × Int)), vs = [.ref a, .int (i : Int), .int (axI d), .int am] ∧ H a = some (.tup xs) ∧ PsV H ps xs ∧ i + 1 < ps.length ∧ ps.length ≤ 16 ∧
  (∀ p ∈ ps, WF 100 p.1 ∧ Dep 16 p.1 ∧ (panes p.1).length ≤ 16 ∧ -100 ≤ p.2 ∧ p.2 ≤ 100) ∧
  ∀ (H' : Hp) (t : Addr) (us : List V) (qs : List (Lt × Int)), Same H H' → H' t = some (.tup us) → PsV H' qs us → qs.map (·.1) = ps.map (·.1) → (∀ q ∈ qs, -1000 ≤ q.2 ∧ q.2 ≤ 1000) → Q (.ref t) H'
abbrev nShifted : List Str := ["parts", "index", "axis", "amount", "one", "first", "two", "second"]
theorem scShifted : FnScope nShifted ["parts", "index", "axis", "amount"] (defScope sShifted) := ⟨rfl, rfl, rfl, by decide +kernel, rfl, by decide +kernel, by decide +kernel⟩
theorem drop_two {α : Type} {xs : List α} {i : Nat} {x y : α} (h1 : xs[i]? = some x) (h2 : xs[i + 1]? = some y) : xs = xs.take i ++ [x, y] ++ xs.drop (i + 2) := by
  obtain ⟨k1, e1⟩ := List.getElem?_eq_some_iff.mp h1
  obtain ⟨k2, e2⟩ := List.getElem?_eq_some_iff.mp h2
  have a := (List.take_append_drop i xs).symm
  rw [List.drop_eq_getElem_cons k1, List.drop_eq_getElem_cons k2, e1, e2] at a
  rw [List.append_assoc]
  exact a
theorem cl_shifted (T : Txt K w mg) : Cl P w K mg base 17 "shifted" ["parts", "index", "axis", "amount"] spShifted := by
  have LE : Cl P w K mg base 16 "least" ["layout"] (spLeast K 16) := cl_least T 16
  refine cl_of T.dShifted scShifted (fun vs H Q E h => ?_) (fun cdv f A outer s H vs Q E hr h => ?_)
  · obtain ⟨a, i, d, am, xs, ps, rfl, _⟩ := h; rfl
  obtain ⟨a, i, d, am, xs, ps, rfl, ha, hp, hi, h16, hz, q⟩ := h
  refine ⟨_, (pss_cons (ps_asg (pe_ix (r := rIxT K) ix_tup (pv 0) (pv 1) (fun _ _ => rfl)) (pg_tup (n := 2) rfl (pgs_cons (pg_name (i := 4) scShifted.nd rfl (.inl rfl)) (pgs_cons (pg_name (i := 5) scShifted.nd rfl (.inl rfl)) pgs_nil))))
      (pss_cons (ps_asg (pe_ix (r := rIxT K) ix_tup (pv 0) (pe_op op_add (pv 1) pe_int) (fun _ _ => rfl)) (pg_tup (n := 2) rfl (pgs_cons (pg_name (i := 6) scShifted.nd rfl (.inl rfl)) (pgs_cons (pg_name (i := 7) scShifted.nd rfl (.inl rfl)) pgs_nil))))
      (pss_cons (ps_set (i := 3) scShifted.nd rfl (.inl rfl) (pe_callB (call_max2 rfl) rfl T.f_max boot_max (pa_cons (pe_op op_sub (pe_ix (r := rIxT K) ix_tup (pcl LE hr (pa_cons (pv 4) pa_nil)) (pv 2) (fun _ _ => rfl)) (pv 5))
        (pa_cons (pe_callB (call_min2 rfl) rfl T.f_min boot_min (pa_cons (pv 3) (pa_cons (pe_op op_sub (pv 7) (pe_ix (r := rIxT K) ix_tup (pcl LE hr (pa_cons (pv 6) pa_nil)) (pv 2) (fun _ _ => rfl))) pa_nil))) pa_nil))))
      (pss_one (ps_ret (pe_op op_catP (pe_op op_catP (pe_slice sl_tupP (pv 0) po_none (po_some (pv 1))) (pe_tup (pa_cons (pe_tup (pa_cons (pv 4) (pa_cons (pe_op op_add (pv 5) (pv 3)) pa_nil))) (pa_cons (pe_tup (pa_cons (pv 6) (pa_cons (pe_op op_sub (pv 7) (pv 3)) pa_nil))) pa_nil)))) (pe_slice sl_tupP (pv 0) (po_some (pe_op op_add (pv 1) pe_int)) po_none))))))), ?_⟩
  obtain ⟨⟨M1, z1⟩, e1⟩ : ∃ p, ps[i]? = some p := ⟨_, List.getElem?_eq_getElem (by omega)⟩
  obtain ⟨⟨M2, z2⟩, e2⟩ : ∃ p, ps[i + 1]? = some p := ⟨_, List.getElem?_eq_getElem hi⟩
  obtain ⟨b1, u1, ex1, hb1, hM1⟩ := hp.at' e1
  obtain ⟨b2, u2, ex2, hb2, hM2⟩ := hp.at' e2
  obtain ⟨w1, d1, k1, c1, c2⟩ := hz _ (List.mem_of_getElem? e1)
  obtain ⟨w2, d2, k2, c3, c4⟩ := hz _ (List.mem_of_getElem? e2)
  have l1 := least_bd w1
  have l2 := least_bd w2
  have a1 : 1 ≤ ax d (least M1) ∧ ax d (least M1) ≤ 48 := by simp at l1 k1; unfold ax; split <;> omega
  have a2 : 1 ≤ ax d (least M2) ∧ ax d (least M2) ≤ 48 := by simp at l2 k2; unfold ax; split <;> omega
  simp only at c1 c2 c3 c4 k1 k2
  have ei : ((i : Nat) : Int) + 1 = ((i + 1 : Nat) : Int) := by omega
  have ei2 : ((i : Nat) : Int) + 2 = ((i + 2 : Nat) : Int) := by omega
  refine ⟨_, rfl, _, rfl, a, _, (i : Int), _, rfl, rfl, SqT.of ha, atI_nat ex1, b1, _, rfl, SqT.of hb1, rfl, _, _, rfl, _, _, rfl, rfl, ?_⟩
  refine ⟨_, rfl, _, rfl, _, _, rfl, rfl, a, _, _, _, rfl, rfl, SqT.of ha, (by rw [ei]; exact atI_nat ex2), b2, _, rfl, SqT.of hb2, rfl, _, _, rfl, _, _, rfl, rfl, ?_⟩
  refine ⟨_, rfl, u1, M1, 100, rfl, hM1, d1, w1, by omega, fun H1 p1 g1 hp1 => ?_⟩
  refine ⟨_, rfl, p1, _, axI d, _, rfl, rfl, hp1.sq, ax_at, _, rfl, _, _, rfl, rfl, ?_⟩
  refine ⟨_, rfl, _, rfl, _, rfl, u2, M2, 100, rfl, hM2.mono (tups g1), d2, w2, by omega, fun H2 p2 g2 hp2 => ?_⟩
  refine ⟨_, rfl, p2, _, axI d, _, rfl, rfl, hp2.sq, ax_at, _, _, rfl, rfl, _, _, rfl, _, _, rfl, ?_⟩
  rw [max2, min2]
  have bd : -200 ≤ max (ax d ((least M1).1, (least M1).2) - z1) (min am (z2 - ax d ((least M2).1, (least M2).2))) ∧ max (ax d ((least M1).1, (least M1).2) - z1) (min am (z2 - ax d ((least M2).1, (least M2).2))) ≤ 200 := by
    show -200 ≤ max (ax d (least M1) - z1) (min am (z2 - ax d (least M2))) ∧ max (ax d (least M1) - z1) (min am (z2 - ax d (least M2))) ≤ 200
    omega
  generalize max (ax d ((least M1).1, (least M1).2) - z1) (min am (z2 - ax d ((least M2).1, (least M2).2))) = mv at bd
  have g12 := g1.trans g2
  have hvl := hp.len
  refine ⟨_, rfl, _, rfl, _, rfl, a, xs, rfl, g12 _ _ ha, fun H3 t1 g3 ht1 => ?_⟩
  rw [cut_lo (by omega)] at ht1
  refine ⟨_, rfl, _, rfl, _, rfl, _, _, rfl, rfl, (by show 2 ≤ sizeLine; decide), fun t2 n2 => ?_⟩
  refine ⟨_, rfl, _, rfl, _, rfl, _, _, rfl, rfl, (by show 2 ≤ sizeLine; decide), fun t3 n3 => ⟨(by show 2 ≤ sizeLine; decide), fun t4 n4 => ?_⟩⟩
  have s4 := same_new n2 (HO.tup [u1, .int (z1 + mv)])
  have s5 := same_new n3 (HO.tup [u2, .int (z2 - mv)])
  have s6 := same_new n4 (HO.tup [.ref t2, .ref t3])
  refine ⟨t1, t4, _, _, rfl, rfl, s6 _ _ (s5 _ _ (s4 _ _ ht1)), upd_same, small (by rw [List.length_take]; simp; omega), fun H8 t8 g8 ht8 => ?_⟩
  have g38 := ((s4.trans s5).trans s6).trans g8
  have g08 := (g12.trans g3).trans g38
  refine ⟨_, rfl, _, rfl, _, _, rfl, rfl, _, rfl, a, xs, rfl, g08 _ _ ha, fun H9 t9 g9 ht9 => ?_⟩
  rw [ei2, cut_hi (by omega)] at ht9
  refine ⟨t8, t9, _, _, rfl, rfl, g9 _ _ ht8, ht9, small (by rw [List.length_append, List.length_take, List.length_drop]; simp; omega), fun HA tA gA htA => ?_⟩
  have g0A := (g08.trans g9).trans gA
  refine q HA tA _ (ps.take i ++ [(M1, z1 + mv), (M2, z2 - mv)] ++ ps.drop (i + 2)) g0A htA ?_ ?_ ?_
  · refine PsV.append ((hp.mono (tups g0A)).drop (i + 2)) (PsV.append (.cons (a := t2) ?_ (hM1.mono (tups g0A)) (.cons (a := t3) ?_ (hM2.mono (tups g0A)) .nil)) ((hp.mono (tups g0A)).take i))
    · exact gA _ _ (g9 _ _ (g8 _ _ (s6 _ _ (s5 _ _ upd_same))))
    · exact gA _ _ (g9 _ _ (g8 _ _ (s6 _ _ upd_same)))
  · have k := congrArg (List.map (·.1)) (drop_two e1 e2)
    rw [List.map_append, List.map_append] at k ⊢
    exact k.symm
  · intro p hpm
    rcases List.mem_append.mp hpm with hpm | hpm
    · rcases List.mem_append.mp hpm with hpm | hpm
      · have := hz p (List.mem_of_mem_take hpm); omega
      · rcases List.mem_cons.mp hpm with e | hpm
        · rw [e]; show -1000 ≤ z1 + mv ∧ z1 + mv ≤ 1000; omega
        · rw [List.mem_singleton.mp hpm]; show -1000 ≤ z2 - mv ∧ z2 - mv ≤ 1000; omega
    · have := hz p (List.mem_of_mem_drop hpm); omega
/-! ### with_border -/
def spWithBorder (n : Nat) : Sp := fun vs H Q _ => ∃ (v : V) (L : Lt) (p : Int) (e : Bool) (am : Int), vs = [v, .int p, .str (dirS e), .int am] ∧ LV H L v ∧ Dep n L ∧ WF 100 L ∧ (panes L).length ≤ 16 ∧
  (∀ H', Same H H' → Q .non H') ∧ ∀ (H' : Hp) (u : V) (L' : Lt), Same H H' → LV H' L' u → WF 1000 L' → panes L' = panes L → Q u H'
abbrev nWithBorder : List Str := ["layout", "pane", "direction", "amount", "parts", "index", "inner", "size", "changed"]
theorem scWithBorder : FnScope nWithBorder ["layout", "pane", "direction", "amount"] (defScope sWithBorder) := ⟨rfl, rfl, rfl, by decide +kernel, rfl, by decide +kernel, by decide +kernel⟩
theorem LV.notNone {H : Hp} {L : Lt} {v : V} (h : LV H L v) : decide (v = .non) = false := by cases h <;> rfl
theorem cl_withBorder (T : Txt K w mg) : ∀ n, n ≤ 16 → Cl P w K mg base (n + 18) "with_border" ["layout", "pane", "direction", "amount"] (spWithBorder n)
  | 0, _ => (no_call T.dWithBorder fun vs H Q E h => by
    obtain ⟨v, L, _, _, _, _, _, h, _⟩ := h
    exact h).mono (by omega)
  | n + 1, hn => by
    have IH := cl_withBorder T n (by omega)
    have PA : Cl P w K mg base 16 "panes" ["layout"] (spPanes 16) := cl_panes T 16
    have SH : Cl P w K mg base 17 "shifted" ["parts", "index", "axis", "amount"] spShifted := cl_shifted T
    have AX : Cl P w K mg base 1 "axis_of" ["direction"] spAxis := cl_axis T
    refine cl_of T.dWithBorder scWithBorder (fun vs H Q E h => ?_) (fun cdv f A outer s H vs Q E hr h => ?_)
    · obtain ⟨v, L, p, e, am, rfl, _⟩ := h; rfl
    obtain ⟨v, L, p, e, am, rfl, hL, hd, hwf, hs, qN, q⟩ := h
    have hr16 := hr.mono (j := 16) (by omega)
    have hr17 := hr.mono (j := 17) (by omega)
    have hr1 := hr.mono (j := 1) (by omega)
    refine ⟨_, (pss_cons (ps_if (pt_val (pe_callB call_isint rfl T.f_isinstance boot_isinstance (pa_cons (pv 0) (pa_cons (pe_bltn (v := .ty "int") rfl T.f_int boot_int rfl) pa_nil)))) (pss_one (ps_ret pe_non)) pss_nil)
      (pss_cons (ps_set (i := 4) scWithBorder.nd rfl (.inl rfl) (pe_ix (r := rIxT K) ix_tup (pv 0) pe_int (fun _ _ => rfl)))
      (pss_cons (ps_for PassesOwn.never rfl (pi_enumT rfl T.f_enumerate (pa_cons (pv 4) pa_nil)) (pg_tup (n := 2) rfl (pgs_cons (pg_name (i := 5) scWithBorder.nd rfl (.inl rfl)) (pgs_cons (pg_tup (n := 2) rfl (pgs_cons (pg_name (i := 6) scWithBorder.nd rfl (.inl rfl)) (pgs_cons (pg_name (i := 7) scWithBorder.nd rfl (.inl rfl)) pgs_nil))) pgs_nil)))
        (pss_one (ps_if (pt_cmpR op_inI (pv 1) (pcl PA hr16 (pa_cons (pv 6) pa_nil)) (by rfl))
          (pss_cons (ps_set (i := 8) scWithBorder.nd rfl (.inl rfl) (pcl IH hr (pa_cons (pv 6) (pa_cons (pv 1) (pa_cons (pv 2) (pa_cons (pv 3) pa_nil))))))
      (pss_cons (ps_if (pt_cmpR op_notN (pv 8) pe_non (nomark _))
              (pss_one (ps_ret (pe_tup (pa_cons (pe_ix (r := rIxT K) ix_tup (pv 0) pe_int (fun _ _ => rfl)) (pa_cons (pe_op op_catP (pe_op op_catP (pe_slice sl_tupP (pv 4) po_none (po_some (pv 5))) (pe_tup (pa_cons (pe_tup (pa_cons (pv 8) (pa_cons (pv 7) pa_nil))) pa_nil))) (pe_slice sl_tupP (pv 4) (po_some (pe_op op_add (pv 5) pe_int)) po_none)) pa_nil))))) pss_nil)
      (pss_one (ps_if (PW.pt (pw_and (pt_cmpR op_eq (pe_ix (r := rIxT K) ix_tup (pv 0) pe_int (fun _ _ => rfl)) (pv 2) (nomark _)) (pw_and1 (pt_cmpR op_lt (pe_op op_add (pv 5) pe_int) (pe_callB call_len_seq rfl T.f_len boot_len (pa_cons (pv 4) pa_nil)) (nomark _)))))
              (pss_one (ps_ret (pe_tup (pa_cons (pv 2) (pa_cons (pcl SH hr17 (pa_cons (pv 4) (pa_cons (pv 5) (pa_cons (pcl AX hr1 (pa_cons (pv 2) pa_nil)) (pa_cons (pv 3) pa_nil))))) pa_nil))))) pss_nil)))) pss_nil)))
      (pss_one (ps_ret pe_non))))), ?_⟩
    cases hL with
    | pane i =>
      refine ⟨_, rfl, _, rfl, .inl ⟨i, rfl, true, rfl, iteT ?_⟩⟩
      exact qN H (Same.refl H)
    | @node d ps a r vs ha hr' hp =>
      refine ⟨_, rfl, _, rfl, .inr ⟨_, _, rfl, ha, false, rfl, iteF ?_⟩⟩
      have hw : 2 ≤ ps.length ∧ (∀ p ∈ ps, WF 100 p.1) ∧ ∀ p ∈ ps, -100 ≤ p.2 ∧ p.2 ≤ 100 := by
        cases hwf with
        | node _ _ h2 hw hz => exact ⟨h2, hw, hz⟩
      rw [panes] at hs q
      have hlen := panesL_len hw.2.1
      refine ⟨_, rfl, a, _, 1, _, rfl, rfl, SqT.of ha, rfl, ?_⟩
      refine ⟨_, rfl, r, _, rfl, SqT.of hr', ?_⟩
      refine for_it (walk_enumT (xs := vs)) (fun i σ H' => ∃ (e5 e6 e7 e8 : Option V), σ = [some (.ref a), some (.int p), some (.str (dirS e)), some (.int am), some (.ref r), e5, e6, e7, e8] ∧ Same H H')
        ⟨none, none, none, none, rfl, Same.refl H⟩ (fun i σ H' _ ⟨_, _, _, _, _, g⟩ => SqT.of (g _ _ hr')) ?_ ?_
      · rintro i x σ H1 H2 hi ⟨e5, e6, e7, e8, rfl, g⟩ ⟨b0, y0, y, rfl, np, rfl, hy0, hy⟩
        cases (Option.some.inj hy0)
        obtain ⟨M, z, b, u, e1, rfl, hb, hM⟩ := hp.at hy
        have hm : (M, z) ∈ ps := List.mem_of_getElem? e1
        have hi' : i < ps.length := (List.getElem?_eq_some_iff.mp e1).1
        have sp := same_new np (HO.tup [.int (i : Nat), .ref b])
        have gp := g.trans sp
        have hzb : -100 ≤ z ∧ z ≤ 100 := hw.2.2 _ hm
        have dM16 : Dep 16 M := (hd _ hm).mono (by omega)
        have hM16 : (panes M).length ≤ (panesL ps).length := panes_le hm
        have hvl := hp.len
        have hsp := panesL_split e1
        refine ⟨b0, _, rfl, SqT.of upd_same, rfl, _, _, rfl, _, _, rfl, ⟨b, _, rfl, SqT.of (gp _ _ hb), rfl, u, _, rfl, _, _, rfl, rfl, rfl, ?_⟩⟩
        refine ⟨_, rfl, _, rfl, u, M, rfl, hM.mono (tups gp), dM16, by omega, fun H3 pl g3 hpl => ?_⟩
        have g13 := gp.trans g3
        refine ⟨p, pl, _, rfl, rfl, SqL.of hpl, _, rfl, ite2 (fun c2 => ?_) (fun c2 => ?_)⟩
        · refine ⟨_, rfl, _, rfl, _, rfl, _, rfl, u, M, p, e, am, rfl, hM.mono (tups g13), hd _ hm, hw.2.1 _ hm, by omega, fun H4 g4 => ?_, fun H4 u4 L4 g4 h4 w4 p4 => ?_⟩
          · -- nothing moved within
            have g14 := g13.trans g4
            refine ⟨_, rfl, rfl, false, rfl, iteF ?_⟩
            refine ⟨_, rfl, a, _, 0, _, rfl, rfl, SqT.of (g14 _ _ ha), rfl, _, rfl, rfl, _, congrArg V.bl dir_is, ?_⟩
            by_cases c4 : d = e
            · have c5 : (d == e) = true := by rw [c4]; exact beq_self_eq_true e
              rw [c5]
              refine iteT ⟨_, rfl, _, _, rfl, rfl, _, rfl, r, _, rfl, .inr (SqT.of (g14 _ _ hr')), _, _, rfl, rfl, _, rfl, ite2 (fun c6 => ?_) (fun c6 => ?_)⟩
              · have c6' : ((i : Nat) : Int) + 1 < ((vs.length : Nat) : Int) := of_decide_eq_true c6
                refine ⟨_, rfl, _, rfl, _, rfl, _, rfl, e, rfl, _, rfl, r, i, e, am, vs, ps, rfl, g14 _ _ hr', hp.mono (tups g14), by omega, by omega, fun p hp => ⟨hw.2.1 p hp, (hd p hp).mono (by omega), by have := panes_le hp; omega, hw.2.2 p hp⟩, fun H5 t us qs g5 ht hus hsh hqz => ?_⟩
                refine ⟨(by show 2 ≤ sizeLine; decide), fun o no => ?_⟩
                have s6 := same_new no (HO.tup [.str (dirS e), .ref t])
                have hql : qs.length = ps.length := by have := congrArg List.length hsh; simpa using this
                refine q _ _ (.node e qs) ((g14.trans g5).trans s6) (.node upd_same (s6 _ _ ht) (hus.mono (tups s6))) (.node _ _ (by omega) (fun q hq => ?_) hqz) ?_
                · have k : q.1 ∈ qs.map (·.1) := List.mem_map.mpr ⟨q, hq, rfl⟩
                  rw [hsh] at k
                  obtain ⟨p', hp', e'⟩ := List.mem_map.mp k
                  rw [← e']
                  exact (hw.2.1 p' hp').mono (by omega)
                · rw [panes, panesL_shape, panesL_shape, hsh]
              · exact ⟨_, _, _, _, rfl, g14⟩
            · have c5 : (d == e) = false := by cases d <;> cases e <;> first | rfl | exact absurd rfl c4
              rw [c5]
              exact iteF (iteF ⟨_, _, _, _, rfl, g14⟩)
          · -- moved within
            have g14 := g13.trans g4
            have hrr := g14 _ _ hr'
            refine ⟨_, rfl, rfl, true, by rw [h4.notNone]; rfl, iteT ?_⟩
            refine ⟨_, rfl, a, _, 0, _, rfl, rfl, SqT.of (g14 _ _ ha), rfl, _, rfl, _, rfl, _, rfl, r, vs, rfl, hrr, fun H5 t1 g5 ht1 => ?_⟩
            rw [cut_lo (by omega)] at ht1
            refine ⟨_, rfl, _, rfl, (by show 2 ≤ sizeLine; decide), fun t2 n2 => ⟨(by show 1 ≤ sizeLine; decide), fun t3 n3 => ?_⟩⟩
            have s6 := same_new n2 (HO.tup [u4, .int z])
            have s7 := same_new n3 (HO.tup [.ref t2])
            refine ⟨t1, t3, _, _, rfl, rfl, s7 _ _ (s6 _ _ ht1), upd_same, small (by rw [List.length_take]; simp; omega), fun H8 t8 g8 ht8 => ?_⟩
            have g48 := ((g5.trans s6).trans s7).trans g8
            refine ⟨_, rfl, _, rfl, _, _, rfl, rfl, _, rfl, r, vs, rfl, g48 _ _ hrr, fun H9 t9 g9 ht9 => ?_⟩
            have e9 : ((i : Nat) : Int) + 1 = ((i + 1 : Nat) : Int) := by omega
            rw [e9, cut_hi (by omega)] at ht9
            refine ⟨t8, t9, _, _, rfl, rfl, g9 _ _ ht8, ht9, small (by rw [List.length_append, List.length_take, List.length_drop]; simp; omega), fun HA tA gA htA => ⟨(by show 2 ≤ sizeLine; decide), fun o no => ?_⟩⟩
            have sB := same_new no (HO.tup [.str (dirS d), .ref tA])
            have g4A := ((g48.trans g9).trans gA).trans sB
            refine q _ _ (.node d (ps.take i ++ [(L4, z)] ++ ps.drop (i + 1))) (g14.trans g4A) (.node upd_same (sB _ _ htA) (PsV.append ((hp.mono (tups (g14.trans g4A))).drop (i + 1)) (PsV.append (.one (a := t2) ((((s7.trans g8).trans g9).trans gA).trans sB _ _ upd_same) (h4.mono (tups g4A))) ((hp.mono (tups (g14.trans g4A))).take i)))) (WF.swap hw.1 hi' hw.2.1 hw.2.2 (by simp) (fun q hq => ?_) fun q hq => ?_) ?_
            · rw [List.mem_singleton.mp hq]; exact w4
            · rw [List.mem_singleton.mp hq]; show -1000 ≤ z ∧ z ≤ 1000; omega
            · rw [panes, panesL_swap, panesL_one, p4, hsp]
        · exact ⟨_, _, _, _, rfl, g13⟩
      · rintro σ H1 ⟨e5, e6, e7, e8, rfl, g⟩
        exact qN H1 g
/-! ### moved -/
def spMoved : Sp := fun vs H Q _ => ∃ (v : V) (L : Lt) (wd ht p : Int) (e : Bool) (am : Int), vs = [v, .int wd, .int ht, .int p, .str (dirS e), .int am] ∧ LV H L v ∧ Good L ∧ wd ≤ 100 ∧ ht ≤ 100 ∧
  ∀ (H' : Hp) (u : V) (L' : Lt), Same H H' → LV H' L' u → Good L' → panes L' = panes L → Q u H'
theorem scMoved : FnScope ["layout", "width", "height", "pane", "direction", "amount", "changed"] ["layout", "width", "height", "pane", "direction", "amount"] (defScope sMoved) := ⟨rfl, rfl, rfl, by decide +kernel, rfl, by decide +kernel, by decide +kernel⟩
theorem cl_moved (T : Txt K w mg) : Cl P w K mg base 35 "moved" ["layout", "width", "height", "pane", "direction", "amount"] spMoved := by
  have FI : Cl P w K mg base 34 "fitted" ["layout", "width", "height"] (spFitted 16) := cl_fitted T 16 (Nat.le_refl _)
  have WB : Cl P w K mg base 34 "with_border" ["layout", "pane", "direction", "amount"] (spWithBorder 16) := cl_withBorder T 16 (Nat.le_refl _)
  refine cl_of T.dMoved scMoved (fun vs H Q E h => ?_) (fun cdv f A outer s H vs Q E hr h => ?_)
  · obtain ⟨v, L, wd, ht, p, e, am, rfl, _⟩ := h; rfl
  obtain ⟨v, L, wd, ht, p, e, am, rfl, hL, g, hw, hh, q⟩ := h
  refine ⟨_, (pss_cons (ps_set (i := 0) scMoved.nd rfl (.inl rfl) (pcl FI hr (pa_cons (pv 0) (pa_cons (pv 1) (pa_cons (pv 2) pa_nil)))))
      (pss_cons (ps_set (i := 6) scMoved.nd rfl (.inl rfl) (pcl WB hr (pa_cons (pv 0) (pa_cons (pv 3) (pa_cons (pv 4) (pa_cons (pv 5) pa_nil))))))
      (pss_one (ps_ret (pe_ifExp (pt_cmpR op_isN (pv 6) pe_non (nomark _)) (pv 0) (pcl FI hr (pa_cons (pv 6) (pa_cons (pv 1) (pa_cons (pv 2) pa_nil))))))))), ?_⟩
  have few := g.few
  have low := g.low
  refine ⟨_, rfl, _, rfl, _, rfl, v, L, wd, ht, rfl, hL, g.dep, g.wf, few, hw, hh, fun H1 u1 g1 hu1 => ?_⟩
  have gf := g.fitted hw hh
  have ep := (fitted_keeps L wd ht).1
  have wf1 : WF 100 (fitted L wd ht) := wf_fitted L g.wf (by omega) (by omega) wd ht hw hh
  refine ⟨_, rfl, _, rfl, _, rfl, _, rfl, u1, fitted L wd ht, p, e, am, rfl, hu1, gf.dep, wf1, by rw [ep]; exact few, fun H3 g3 => ?_, fun H3 u3 L3 g3 h3 w3 p3 => ?_⟩
  · refine ⟨_, rfl, rfl, true, rfl, iteT ⟨_, rfl, ?_⟩⟩
    exact q H3 u1 _ (g1.trans g3) (hu1.mono (tups g3)) gf ep
  · rw [ep] at p3
    have g3' : Good L3 := ⟨w3, by rw [p3]; exact few, by rw [p3]; exact g.nd⟩
    refine ⟨_, rfl, rfl, false, by rw [h3.notNone], iteF ?_⟩
    refine ⟨_, rfl, _, rfl, _, rfl, u3, L3, wd, ht, rfl, h3, g3'.dep, g3'.wf, g3'.few, hw, hh, fun H4 u4 g4 h4 => ?_⟩
    refine q H4 u4 _ ((g1.trans g3).trans g4) h4 (g3'.fitted hw hh) ?_
    rw [(fitted_keeps L3 wd ht).1]
    exact p3
end
end Mp
namespace Mp
open PySem PySem.Spec PyProof.Rows L2
section
variable {P : Program} {w : World} {K : PySem.W.Frag} {mg : Str → Option Value} {base : Heap}
/-! ### _law_cell -/
def spCell0 (K : PySem.W.Frag) : Sp := fun vs H Q _ => ∃ (a : Addr) (ns : List Int) (k : Nat), vs = [.ref a, .int (k : Int)] ∧ SqL K H a (ns.map V.int) ∧ ∀ z, Q (.int z) H
theorem scCell : FnScope ["_law_script", "_law_k"] ["_law_script", "_law_k"] (defScope sCell) := ⟨rfl, rfl, rfl, by decide +kernel, rfl, by decide +kernel, by decide +kernel⟩
theorem cl_cell (T : Txt K w mg) : Cl P w K mg base 1 "_law_cell" ["_law_script", "_law_k"] (spCell0 K) := by
  refine cl_of T.dCell scCell (fun vs H Q E h => ?_) (fun cdv f A outer s H vs Q E hr h => ?_)
  · obtain ⟨a, ns, k, rfl, _⟩ := h; rfl
  obtain ⟨a, ns, k, rfl, hS, q⟩ := h
  refine ⟨_, (pss_cons (ps_if (pt_cmpR op_lt (pv 1) (pe_callB call_len_seq rfl T.f_len boot_len (pa_cons (pv 0) pa_nil)) (nomark _)) (pss_one (ps_ret (pe_callTy call_int1 rfl T.f_int boot_int (pa_cons (pe_ix (r := rIxL K) ix_list (pv 0) (pv 1) (fun _ _ => rfl)) pa_nil)))) pss_nil)
      (pss_one (ps_ret pe_int))), ?_⟩
  refine ⟨_, rfl, _, rfl, a, _, rfl, .inl hS, _, _, rfl, rfl, _, rfl, ite2 (fun c => ?_) (fun c => q 0)⟩
  have c' : (k : Int) < (((ns.map V.int).length : Nat) : Int) := of_decide_eq_true c
  rw [List.length_map] at c'
  have hk : k < ns.length := by omega
  refine ⟨_, rfl, _, rfl, a, _, (k : Int), _, rfl, rfl, hS, atI_nat (v := V.int ns[k]) (by rw [List.getElem?_map, List.getElem?_eq_getElem hk]; rfl), .inl ⟨_, rfl, q _⟩⟩
/-! ### _law_step -/
theorem pclS {X : Cx} {x : Str} {p pos : Pos} {e : Expr} {es : List Expr} {ps : List Str} {sp : Sp} {k : Nat} {t : TA} {W : WX} (c : ClX X.prog X.w X.K X.mg X.base k x ps sp) (hr : Room k X.A) (tk : Takes X W) (ha : PA X (e :: es) t) (hg : Gl X x := by rfl)
    (hdb : (x == ("__debug__" : Str)) = false := by decide) (he : starEach (e :: es) X.env = (false, eval e X.env) :: starEach es X.env := by rfl) (hpl : (backTo pos (starEach es X.env)).any (·.1) = false := by rfl) :
    PE X (.Call (.Name x p) (e :: es) [] pos) (tCallS sp (WE W) t) := by
  obtain ⟨f, fd, m, F, kp, b⟩ := c
  exact pe_callS F hr hg m kp b (fun σ => passAt tk σ) ha hdb he hpl
def spStep (K : PySem.W.Frag) : Sp := fun vs H Q _ => ∃ (v : V) (L : Lt) (wd ht c new : Int), vs = [v, .int wd, .int ht, .int c, .int new] ∧ LV H L v ∧ Good L ∧ (panes L).length ≤ 15 ∧ wd ≤ 100 ∧ ht ≤ 100 ∧ (∀ x ∈ panes L, x < new) ∧ 0 < new ∧ new ≤ 16 ∧
  ∀ (H' : Hp) (t k : Addr) (u : V) (L' : Lt) (ns : List Int), Same H H' → H' t = some (.tup [u, .ref k]) → H' k = some (.lst (ns.map V.int)) → LV H' L' u → Good L' → (panes L').Perm ns → (∀ x ∈ panes L', x ≤ new) → (panes L').length ≤ (panes L).length + 1 → Q (.ref t) H'
abbrev nStep : List Str := ["_law_layout", "_law_w", "_law_h", "_law_cell_here", "_law_new", "_law_known", "_law_pane", "_law_way", "_law_kind", "_law_one"]
theorem scStep : FnScope nStep ["_law_layout", "_law_w", "_law_h", "_law_cell_here", "_law_new"] (defScope sStep) := ⟨rfl, rfl, rfl, by decide +kernel, rfl, by decide +kernel, by decide +kernel⟩
theorem way_at {i : Int} (h : i = 0 ∨ i = 1) : atI [V.str "beside", V.str "below"] i = some (.str (dirS (decide (i = 0)))) := by
  rcases h with rfl | rfl
  · rfl
  · rfl
theorem cl_step (T : Txt K w mg) : Cl P w K mg base 40 "_law_step" ["_law_layout", "_law_w", "_law_h", "_law_cell_here", "_law_new"] (spStep K) := by
  have PA : Cl P w K mg base 16 "panes" ["layout"] (spPanes 16) := cl_panes T 16
  have DI : ClX P w K mg base 39 "divided" ["layout", "width", "height", "pane", "direction", "new"] (spDivided mg) := cl_divided T
  have MO : Cl P w K mg base 35 "moved" ["layout", "width", "height", "pane", "direction", "amount"] spMoved := cl_moved T
  have WO : Cl P w K mg base 35 "without" ["layout", "width", "height", "pane"] spWithout := cl_without T
  obtain ⟨C, RC⟩ := T.cRoom
  refine cl_of T.dStep scStep (fun vs H Q E h => ?_) (fun cdv f A outer s H vs Q E hr h => ?_)
  · obtain ⟨v, L, wd, ht, c, new, rfl, _⟩ := h; rfl
  obtain ⟨v, L, wd, ht, c, new, rfl, hL, g, h15, hw, hh, hlt, hn0, hn1, q⟩ := h
  have hr16 := hr.mono (j := 16) (by omega)
  have hr35 := hr.mono (j := 35) (by omega)
  refine ⟨_, (pss_cons (ps_set (i := 5) scStep.nd rfl (.inl rfl) (pcl PA hr16 (pa_cons (pv 0) pa_nil)))
      (pss_cons (ps_set (i := 6) scStep.nd rfl (.inr rfl) (pe_ix (r := rIxL K) ix_list (pv 5) (pe_op op_mod (pv 3) (pe_callB call_len_seq rfl T.f_len boot_len (pa_cons (pv 5) pa_nil))) (fun _ _ => rfl)))
      (pss_cons (ps_set (i := 7) scStep.nd rfl (.inl rfl) (pe_ix (r := rIxL K) ix_list (pe_lst (pa_cons pe_str (pa_cons pe_str pa_nil))) (pe_op op_mod (pe_op op_fdiv (pv 3) pe_int) pe_int) (fun _ _ => rfl)))
      (pss_cons (ps_set (i := 8) scStep.nd rfl (.inl rfl) (pe_op op_mod (pe_op op_fdiv (pv 3) pe_int) pe_int))
      (pss_cons (ps_if (pt_cmpR op_lt (pv 8) pe_int (nomark _))
        (pss_one (ps_try_only (tb := fun W => tRet (tTup (tCons (tCallS (spDivided mg) (WE W) (tCons (tVar 0) (tCons (tVar 1) (tCons (tVar 2) (tCons (tVar 6) (tCons (tVar 7) (tCons (tVar 4) tNil))))))) (tCons (tOp rCat (tVar 5) (tLst (tCons (tVar 4) tNil))) tNil))))
            (ts := fun _ _ _ => tRet (tTup (tCons (tVar 0) (tCons (tVar 5) tNil)))) (Wout := fun _ _ _ _ => False) rfl rfl ⟨rfl, by decide, .inl RC.gC⟩ takes0
          (fun W pn xe tk _ => pss_one (ps_ret (pe_tup (pa_cons (pclS DI hr tk (pa_cons (pv 0) (pa_cons (pv 1) (pa_cons (pv 2) (pa_cons (pv 6) (pa_cons (pv 7) (pa_cons (pv 4) pa_nil))))))) (pa_cons (pe_op op_cat (pv 5) (pe_lst (pa_cons (pv 4) pa_nil))) pa_nil)))))
          (fun a oe cls d pn _ _ => pss_one (ps_ret (pe_tup (pa_cons (pv 0) (pa_cons (pv 5) pa_nil))))))) pss_nil)
      (pss_cons (ps_if (PW.pt (pw_or (pt_cmpR op_eq (pv 8) pe_int (nomark _)) (pw_or1 (pt_cmpR op_eq (pe_callB call_len_seq rfl T.f_len boot_len (pa_cons (pv 5) pa_nil)) pe_int (nomark _)))))
        (pss_one (ps_ret (pe_tup (pa_cons (pcl MO hr35 (pa_cons (pv 0) (pa_cons (pv 1) (pa_cons (pv 2) (pa_cons (pv 6) (pa_cons (pv 7) (pa_cons (pe_op op_sub (pe_op op_mod (pe_op op_fdiv (pv 3) pe_int) pe_int) pe_int) pa_nil))))))) (pa_cons (pv 5) pa_nil))))) pss_nil)
      (pss_one (ps_ret (pe_tup (pa_cons (pcl WO hr35 (pa_cons (pv 0) (pa_cons (pv 1) (pa_cons (pv 2) (pa_cons (pv 6) pa_nil))))) (pa_cons
        (pe_lc (own := [("_law_one", 9)]) (g := gName 9) rfl scStep.nd (pi_list (pv 5)) (blkOk_by (N := nStep) (sc := defScope sStep) (by decide +kernel))
          (fun _ _ _ _ _ => pg_name (i := 9) scStep.nd rfl (.inl rfl)) (fun _ _ _ _ _ => pts_one (pt_cmpR op_ne (pv 9) (pv 6) (nomark _))) (fun _ _ _ _ _ => pv 9)) pa_nil))))))))))), ?_⟩
  have few := g.few
  have pne := panes_ne g.wf
  refine ⟨_, rfl, v, L, rfl, hL, g.dep, by omega, fun H1 kn g1 hkn => ?_⟩
  -- the pane
  have hlen : ((panes L).map V.int).length = (panes L).length := List.length_map _
  have m0 : 0 ≤ c % (((panes L).map V.int).length : Nat) := Int.emod_nonneg _ (by rw [hlen]; omega)
  have m1 : c % (((panes L).map V.int).length : Nat) < (((panes L).map V.int).length : Nat) := Int.emod_lt_of_pos _ (by rw [hlen]; omega)
  obtain ⟨p, hp, hpi⟩ : ∃ p, p ∈ panes L ∧ atI ((panes L).map V.int) (c % (((panes L).map V.int).length : Nat)) = some (.int p) := by
    have e : ((c % (((panes L).map V.int).length : Nat)).toNat : Int) = c % (((panes L).map V.int).length : Nat) := by omega
    have hk : (c % (((panes L).map V.int).length : Nat)).toNat < (panes L).length := by omega
    refine ⟨(panes L)[(c % (((panes L).map V.int).length : Nat)).toNat], List.getElem_mem _, ?_⟩
    have := atI_nat (xs := (panes L).map V.int) (j := (c % (((panes L).map V.int).length : Nat)).toNat) (v := .int (panes L)[(c % (((panes L).map V.int).length : Nat)).toNat]) (by rw [List.getElem?_map, List.getElem?_eq_getElem hk]; rfl)
    rw [e] at this
    exact this
  have p0 := panes_pos g.wf p hp
  have p1 := hlt p hp
  refine ⟨_, rfl, _, rfl, _, rfl, kn, _, rfl, .inl (SqL.of hkn), _, _, rfl, rfl, (by show (0 : Int) < _; rw [hlen]; omega), kn, _, _, _, rfl, rfl, SqL.of hkn, hpi, ?_⟩
  -- the way
  have hway : c / 11 % 2 = 0 ∨ c / 11 % 2 = 1 := by omega
  refine ⟨(by show 2 ≤ sizeLine; decide), fun lw nlw => ?_⟩
  have s2 := same_new nlw (HO.lst [.str "beside", .str "below"])
  refine ⟨_, rfl, _, _, rfl, rfl, ⟨by decide, by decide⟩, _, _, rfl, rfl, (by show (0 : Int) < 2; decide), lw, _, _, _, rfl, rfl, SqL.of upd_same, way_at hway, ?_⟩
  have g2 := g1.trans s2
  have hkn2 := s2 _ _ hkn
  -- the heap from here on
  obtain ⟨H2, eH2⟩ : ∃ H2, H2 = upd H1 lw (.lst [.str "beside", .str "below"]) := ⟨_, rfl⟩
  rw [← eH2] at g2 hkn2 ⊢
  -- the kind
  refine ⟨_, rfl, _, _, rfl, rfl, ⟨by decide, by decide⟩, _, _, rfl, rfl, (by show (0 : Int) < 6; decide), ?_⟩
  refine ⟨_, rfl, _, _, rfl, rfl, _, rfl, ite2 (fun ck => ?_) (fun ck => ?_)⟩
  · -- split
    have hn : ¬ new ∈ panes L := fun z => by have := hlt new z; omega
    refine ⟨_, rfl, _, rfl, _, rfl, _, rfl, _, rfl, _, rfl, v, L, wd, ht, p, _, new, rfl, hL.mono (tups g2), g, h15, hw, hh, hp, p0, by omega, hn0, hn, fun H3 u L' g3 h3 gl perm => ?_, fun H3 C' g3 mC => ?_⟩
    · refine ⟨_, rfl, _, rfl, (by show 1 ≤ sizeLine; decide), fun l1 n1 => ?_⟩
      have s4 := same_new n1 (HO.lst [.int new])
      have hkn4 := s4 _ _ (g3 _ _ hkn2)
      refine ⟨kn, l1, _, _, rfl, rfl, hkn4, upd_same, small (by rw [hlen]; simp; omega), fun l2 n2 => ⟨(by show 2 ≤ sizeLine; decide), fun t nt => ?_⟩⟩
      have s5 := same_new n2 (HO.lst ((panes L).map V.int ++ [.int new]))
      have s6 := same_new nt (HO.tup [u, .ref l2])
      refine q _ t l2 u L' (panes L ++ [new]) (((g2.trans g3).trans s4).trans (s5.trans s6)) upd_same ?_ (h3.mono (tups (s4.trans (s5.trans s6)))) gl perm ?_ ?_
      · rw [s6 _ _ upd_same, List.map_append]; rfl
      · intro x hx
        rcases List.mem_append.mp (perm.mem_iff.mp hx) with hx | hx
        · have := hlt x hx; omega
        · rw [List.mem_singleton.mp hx]; omega
      · rw [perm.length_eq, List.length_append]; simp
    · have eC : C' = C := by
        have := mC.symm.trans RC.gC
        injection this with this
        injection this
      subst eC
      refine ⟨true, RC.me, fun _ a0 _ => ?_, fun z => Bool.noConfusion z⟩
      refine ⟨_, rfl, _, rfl, (by show 2 ≤ sizeLine; decide), fun t nt => ?_⟩
      have s4 := same_new nt (HO.tup [v, .ref kn])
      refine q _ t kn v L (panes L) ((g2.trans g3).trans s4) upd_same (s4 _ _ (g3 _ _ hkn2)) (hL.mono (tups ((g2.trans g3).trans s4))) g (.refl _) ?_ (by omega)
      intro x hx
      have := hlt x hx
      omega
  · -- the border is moved, in either case of the or
    have mv : ∀ D : Ends, (∀ v H', D.rt v H' = Q v H') → tRet (tTup (tCons (tCall spMoved [] E0 (tCons (tVar 0) (tCons (tVar 1) (tCons (tVar 2) (tCons (tVar 6) (tCons (tVar 7) (tCons (tOp (rI0 fun i j => .int (i - j)) (tOp (rI (fun _ j => 0 < j) fun i j => .int (i % j)) (tOp (rI CDiv fun i j => .int (i / j)) (tVar 3) (tC (.int 132))) (tC (.int 41))) (tC (.int 20))) tNil))))))) (tCons (tVar 5) tNil))) D
        [some v, some (.int wd), some (.int ht), some (.int c), some (.int new), some (.ref kn), some (.int p), some (.str (dirS (decide (c / 11 % 2 = 0)))), some (.int (c / 22 % 6)), none] H2 := fun D eD => by
      have e5 : D.rt = Q := funext fun v => funext fun H' => eD v H'
      refine ⟨_, rfl, _, rfl, _, rfl, _, rfl, _, rfl, _, rfl, _, _, rfl, rfl, ⟨by decide, by decide⟩, _, _, rfl, rfl, (by show (0 : Int) < 41; decide), _, _, rfl, rfl, v, L, wd, ht, p, _, _, rfl, hL.mono (tups g2), g, hw, hh, fun H3 u L' g3 h3 gl ep => ?_⟩
      refine ⟨_, rfl, (by show 2 ≤ sizeLine; decide), fun t nt => ?_⟩
      have s4 := same_new nt (HO.tup [u, .ref kn])
      rw [e5]
      refine q _ t kn u L' (panes L) ((g2.trans g3).trans s4) upd_same (s4 _ _ (g3 _ _ hkn2)) (h3.mono (tups s4)) gl (by rw [ep]) ?_ (by rw [ep]; omega)
      intro x hx
      rw [ep] at hx
      have := hlt x hx
      omega
    refine ⟨_, rfl, rfl, _, rfl, ite2 (fun c4 => iteT (mv _ fun _ _ => rfl)) (fun c4 => ?_)⟩
    refine ⟨_, rfl, kn, _, rfl, .inl (SqL.of hkn2), rfl, _, rfl, ite2 (fun c5 => mv _ fun _ _ => rfl) (fun c5 => ?_)⟩
    have c5' : ¬ ((((panes L).map V.int).length : Nat) : Int) = 1 := fun z => of_decide_eq_false (Bool.eq_false_iff.mpr c5) (by rw [z])
    rw [hlen] at c5'
    refine ⟨_, rfl, _, rfl, _, rfl, _, rfl, v, L, wd, ht, p, rfl, hL.mono (tups g2), g, by omega, hw, hh, hp, fun H3 u L' g3 h3 gl ep => ?_⟩
    have hkn3 := g3 _ _ hkn2
    refine ⟨_, rfl, kn, rfl, ⟨_, SqL.of hkn3⟩, fun D nD => ?_⟩
    refine lc_list (K := K) (a := kn) (xs := (panes L).map V.int) (fun i H' => Same H3 H' ∧ H' D = some (.lst ((((panes L).take i).filter (fun x => decide (x ≠ p))).map V.int))) ⟨same_new nD _, upd_same⟩ (fun i H' _ ⟨g, _⟩ => SqL.of (g _ _ hkn3)) ?_ ?_
    · rintro i x H' hi ⟨g4, hD⟩
      obtain ⟨y, ey, rfl⟩ := getMap hi
      have tk : (panes L).take (i + 1) = (panes L).take i ++ [y] := by rw [List.take_add_one, ey]; rfl
      refine ⟨rfl, _, rfl, _, rfl, rfl, _, rfl, ?_⟩
      by_cases e : y = p
      · subst e
        have z : (!decide (V.int y = V.int y)) = false := by simp
        rw [z]
        refine iteF ⟨g4, ?_⟩
        rw [hD, tk, List.filter_append]
        simp
      · have z : (!decide (V.int y = V.int p)) = true := by simp [e]
        rw [z]
        refine iteT ⟨_, rfl, _, hD, small1000 ?_, same_grow nD g4, ?_⟩
        · have := List.length_filter_le (fun x => decide (x ≠ p)) ((panes L).take i)
          rw [List.length_take] at this
          rw [List.length_map]
          omega
        · rw [upd_same, tk, List.filter_append]
          simp [e]
    rintro H4 ⟨g4, hD⟩
    rw [hlen, List.take_length] at hD
    refine ⟨(by show 2 ≤ sizeLine; decide), fun t nt => ?_⟩
    have s5 := same_new nt (HO.tup [u, .ref D])
    refine q _ t D u L' _ (((g2.trans g3).trans g4).trans s5) upd_same (s5 _ _ hD) (h3.mono (tups (g4.trans s5))) gl (by rw [ep]) ?_ ?_
    · intro x hx
      rw [ep] at hx
      have := hlt x (List.mem_filter.mp hx).1
      omega
    · rw [ep]
      have := List.length_filter_le (fun x => decide (x ≠ p)) (panes L)
      omega
end
end Mp
namespace Mp
open PySem PySem.Spec PyProof.Rows L2
/-! ### the sheet in memory -/
/-- a row of it -/
def rowV (g : Int → Int → Int) (n : Nat) (i : Nat) : List V := (List.range n).map fun (j : Nat) => V.int (g (i : Int) (j : Int))
structure SheetAt (H : Hp) (S : Addr) (as : List Addr) (g : Int → Int → Int) (n m : Nat) : Prop where
  lst : H S = some (.lst (as.map V.ref))
  len : as.length = m
  row : ∀ (i : Nat) (a : Addr), as[i]? = some a → H a = some (.lst (rowV g n i))
theorem SheetAt.same {H H' : Hp} {S : Addr} {as : List Addr} {g : Int → Int → Int} {n m : Nat} (s : SheetAt H S as g n m) (k : Same H H') : SheetAt H' S as g n m := ⟨k _ _ s.lst, s.len, fun i a e => k _ _ (s.row i a e)⟩
theorem row_at {g : Int → Int → Int} {n i : Nat} {j : Int} (h0 : 0 ≤ j) (h1 : j < (n : Int)) : atI (rowV g n i) j = some (.int (g (i : Int) j)) := by
  have e : ((j.toNat : Nat) : Int) = j := by omega
  have k := atI_nat (xs := rowV g n i) (j := j.toNat) (v := .int (g (i : Int) ((j.toNat : Nat) : Int))) (by unfold rowV; rw [List.getElem?_map, List.getElem?_range (by omega)]; rfl)
  rw [e] at k
  exact k
/-- a cell of it -/
theorem SheetAt.cell {H : Hp} {S : Addr} {as : List Addr} {g : Int → Int → Int} {n m : Nat} (s : SheetAt H S as g n m) {i j : Int} (hi0 : 0 ≤ i) (hi1 : i < (m : Int)) (hj0 : 0 ≤ j) (hj1 : j < (n : Int)) :
    ∃ a, as[i.toNat]? = some a ∧ atI (as.map V.ref) i = some (.ref a) ∧ H a = some (.lst (rowV g n i.toNat)) ∧ atI (rowV g n i.toNat) j = some (.int (g i j)) := by
  have hk : i.toNat < as.length := by rw [s.len]; omega
  have e : ((i.toNat : Nat) : Int) = i := by omega
  refine ⟨as[i.toNat], List.getElem?_eq_getElem hk, ?_, s.row _ _ (List.getElem?_eq_getElem hk), ?_⟩
  · have k := atI_nat (xs := as.map V.ref) (j := i.toNat) (v := .ref as[i.toNat]) (by rw [List.getElem?_map, List.getElem?_eq_getElem hk]; rfl)
    rw [e] at k
    exact k
  · have k := row_at (g := g) (n := n) (i := i.toNat) hj0 hj1
    rw [e] at k
    exact k
theorem rowV_congr {g g' : Int → Int → Int} {n i : Nat} (h : ∀ j : Nat, j < n → g (i : Int) (j : Int) = g' (i : Int) (j : Int)) : rowV g n i = rowV g' n i := by
  unfold rowV
  refine List.map_congr_left fun j hj => ?_
  rw [h j (List.mem_range.mp hj)]
theorem rowV_set {g : Int → Int → Int} {n i j : Nat} {x : Int} : (rowV g n i).set j (.int x) = rowV (fun a b => if a = (i : Int) ∧ b = (j : Int) then x else g a b) n i := by
  unfold rowV
  apply List.ext_getElem?
  intro k
  rw [List.getElem?_set, List.getElem?_map, List.getElem?_map]
  by_cases hk : k < n
  · rw [List.getElem?_range hk]
    by_cases e : j = k
    · subst e
      rw [if_pos rfl, if_pos (by simpa using hk)]
      simp
    · rw [if_neg e]
      have e2 : ¬ ((k : Int) = (j : Int)) := by omega
      simp [e2]
  · rw [List.getElem?_eq_none (l := List.range n) (by simp; omega)]
    by_cases e : j = k
    · subst e
      rw [if_pos rfl, if_neg (by simp; omega)]
      rfl
    · rw [if_neg e]; rfl
theorem rowV_len {g : Int → Int → Int} {n i : Nat} : (rowV g n i).length = n := by unfold rowV; simp
theorem flat_rep (v : V) : ∀ k : Nat, (List.replicate k [v]).flatten = List.replicate k v
  | 0 => rfl
  | k + 1 => by rw [List.replicate_succ, List.flatten_cons, flat_rep v k, List.replicate_succ]; rfl
theorem rowV_zero {n i : Nat} : rowV (fun _ _ => 0) n i = List.replicate n (V.int 0) := by
  unfold rowV
  refine List.ext_getElem? fun k => ?_
  rw [List.getElem?_map, List.getElem?_replicate]
  by_cases hk : k < n
  · rw [List.getElem?_range hk, if_pos hk]; rfl
  · rw [List.getElem?_eq_none (l := List.range n) (by simp; omega), if_neg hk]; rfl
/-- the sheet while it is painted: its rows are new and apart -/
structure Pnt (H0 H : Hp) (S : Addr) (as : List Addr) (g : Int → Int → Int) (n m : Nat) : Prop where
  sh : SheetAt H S as g n m
  same : Same H0 H
  nd : as.Nodup
  off : ¬ S ∈ as
  new : ∀ a ∈ as, H0 a = none
theorem Pnt.congr {H0 H : Hp} {S : Addr} {as : List Addr} {g g' : Int → Int → Int} {n m : Nat} (p : Pnt H0 H S as g n m) (h : ∀ i j : Nat, i < m → j < n → g (i : Int) (j : Int) = g' (i : Int) (j : Int)) : Pnt H0 H S as g' n m :=
  ⟨⟨p.sh.lst, p.sh.len, fun i a e => by
    rw [p.sh.row i a e]
    have hi : i < m := by rw [← p.sh.len]; exact (List.getElem?_eq_some_iff.mp e).1
    rw [rowV_congr fun j hj => h i j hi hj]⟩, p.same, p.nd, p.off, p.new⟩
/-- one cell is painted -/
theorem Pnt.put {H0 H : Hp} {S : Addr} {as : List Addr} {g : Int → Int → Int} {n m : Nat} (p : Pnt H0 H S as g n m) {i j : Nat} {a : Addr} (ha : as[i]? = some a) (x : Int) :
    Pnt H0 (upd H a (.lst ((rowV g n i).set j (.int x)))) S as (fun b c => if b = (i : Int) ∧ c = (j : Int) then x else g b c) n m := by
  have hm : a ∈ as := List.mem_of_getElem? ha
  have hSa : S ≠ a := fun e => p.off (by rw [e]; exact hm)
  refine ⟨⟨by rw [upd_ne hSa]; exact p.sh.lst, p.sh.len, fun k b hb => ?_⟩, same_grow (p.new a hm) p.same, p.nd, p.off, p.new⟩
  by_cases e : k = i
  · subst e
    rw [ha] at hb
    cases hb
    rw [upd_same, rowV_set]
  · have hba : b ≠ a := fun z => by
      subst z
      obtain ⟨h1, e1⟩ := List.getElem?_eq_some_iff.mp ha
      obtain ⟨h2, e2⟩ := List.getElem?_eq_some_iff.mp hb
      exact e ((List.getElem_inj p.nd).mp (e2.trans e1.symm))
    rw [upd_ne hba, p.sh.row k b hb]
    have : ¬ ((k : Int) = (i : Int)) := by omega
    rw [rowV_congr (g' := fun b c => if b = (i : Int) ∧ c = (j : Int) then x else g b c) fun c _ => by rw [if_neg (fun z => this z.1)]]
theorem val_snoc {as : List Box} {b : Box} {i j : Int} (h : ∀ a ∈ as, Apart a b) : val (as ++ [b]) i j = if Covers b i j then b.pane else val as i j := by
  by_cases c : Covers b i j
  · rw [if_pos c, val_right (fun a ha z => h a ha i j z c), val, if_pos c]
  · rw [if_neg c, val_left (fun a ha => by rw [List.mem_singleton.mp ha]; exact c)]
section
variable {P : Program} {w : World} {K : PySem.W.Frag} {mg : Str → Option Value} {base : Heap}
/-! ### _law_sheet -/
def spSheet : Sp := fun vs H Q _ => ∃ (f : Addr) (n m : Nat) (fs : List V) (bs : List Box), vs = [.ref f, .int (n : Int), .int (m : Int)] ∧ H f = some (.lst fs) ∧ BsV H bs fs ∧ Tiles bs 0 0 (n : Int) (m : Int) ∧ n ≤ 100 ∧ m ≤ 100 ∧
  ∀ (H' : Hp) (S : Addr) (as : List Addr), Same H H' → SheetAt H' S as (val bs) n m → Q (.ref S) H'
abbrev nSheet : List Str := ["_law_told", "_law_w", "_law_h", "_law_r", "_law_sheet_here", "_law_pane", "_law_c", "_law_wide", "_law_high", "_law_i", "_law_j"]
theorem scSheet : FnScope nSheet ["_law_told", "_law_w", "_law_h"] (defScope sSheet) := ⟨rfl, rfl, rfl, by decide +kernel, rfl, by decide +kernel, by decide +kernel⟩
theorem cl_sheet (T : Txt K w mg) : Cl P w K mg base 1 "_law_sheet" ["_law_told", "_law_w", "_law_h"] spSheet := by
  refine cl_of T.dSheet scSheet (fun vs H Q E h => ?_) (fun cdv f A outer s H vs Q E hr h => ?_)
  · obtain ⟨f, n, m, fs, bs, rfl, _⟩ := h; rfl
  obtain ⟨f, n, m, fs, bs, rfl, hf, hfs, tl, hn, hm, q⟩ := h
  refine ⟨_, (pss_cons (ps_setLc (i := 4) (own := [("_law_r", 3)]) (g := gName 3) rfl scSheet.nd rfl rfl (sw_true rfl rfl rfl (by decide +kernel)) (pi_range1 rfl T.f_range (pa_cons (pv 2) pa_nil)) (blkOk_by (N := nSheet) (sc := defScope sSheet) (by decide +kernel))
        (fun _ _ _ _ _ => pg_name (i := 3) scSheet.nd rfl (.inl rfl)) (fun _ _ _ _ _ => pts_nil) (fun _ _ _ _ _ => pe_op op_rep (pe_lst (pa_cons pe_int pa_nil)) (pv 1)))
      (pss_cons (ps_for PassesOwn.never rfl (pi_list (pv 0)) (pg_tup (n := 5) rfl (pgs_cons (pg_name (i := 5) scSheet.nd rfl (.inl rfl)) (pgs_cons (pg_name (i := 3) scSheet.nd rfl (.inl rfl)) (pgs_cons (pg_name (i := 6) scSheet.nd rfl (.inl rfl)) (pgs_cons (pg_name (i := 7) scSheet.nd rfl (.inl rfl)) (pgs_cons (pg_name (i := 8) scSheet.nd rfl (.inl rfl)) pgs_nil))))))
        (pss_cons (ps_if (PW.pt (pw_or (pt_cmpR op_lt (pv 7) pe_int (nomark _)) (pw_or (pt_cmpR op_lt (pv 8) pe_int (nomark _)) (pw_or (pt_cmpR op_lt (pv 3) pe_int (nomark _)) (pw_or (pt_cmpR op_lt (pv 6) pe_int (nomark _))
              (pw_or (pt_cmpR op_gt (pe_op op_add (pv 3) (pv 8)) (pv 2) (nomark _)) (pw_or1 (pt_cmpR op_gt (pe_op op_add (pv 6) (pv 7)) (pv 1) (nomark _))))))))) (pss_one (ps_ret pe_non)) pss_nil)
      (pss_one (ps_for PassesOwn.never rfl (pi_range2 rfl T.f_range (pa_cons (pv 3) (pa_cons (pe_op op_add (pv 3) (pv 8)) pa_nil))) (pg_name (i := 9) scSheet.nd rfl (.inl rfl))
              (pss_one (ps_for PassesOwn.never rfl (pi_range2 rfl T.f_range (pa_cons (pv 6) (pa_cons (pe_op op_add (pv 6) (pv 7)) pa_nil))) (pg_name (i := 10) scSheet.nd rfl (.inl rfl))
                (pss_cons (ps_if (pt_cmpR op_ne (pe_ix (r := rIxL K) ix_list (pe_ix (r := rIxL K) ix_list (pv 4) (pv 9) (fun _ _ => rfl)) (pv 10) (fun _ _ => rfl)) pe_int (nomark _)) (pss_one (ps_ret pe_non)) pss_nil)
      (pss_one (ps_asg (pv 5) (pg_sub (pe_ix (r := rIxL K) ix_list (pv 4) (pv 9) (fun _ _ => rfl)) (pv 10) set_list))))))))))
      (pss_one (ps_ret (pv 4))))), ?_⟩
  -- the empty sheet
  refine ⟨_, rfl, (m : Int), rfl, by omega, by omega, fun D nD => ?_⟩
  refine lc_range (lo := 0) (n := m) (fun i H' => ∃ as : List Addr, H' D = some (.lst (as.map V.ref)) ∧ as.length = i ∧ Same H H' ∧ as.Nodup ∧ ¬ D ∈ as ∧ (∀ a ∈ as, H a = none ∧ H' a = some (.lst (List.replicate n (V.int 0))))) ⟨[], upd_same, rfl, same_new nD _, by simp, by simp, by simp⟩ ?_ ?_
  · rintro i H1 hi ⟨as, hD, hl, g, nd, nDm, hrow⟩
    refine ⟨rfl, yes ⟨(by show 1 ≤ sizeLine; decide), fun l nl => ?_⟩⟩
    have s1 := same_new nl (HO.lst [V.int 0])
    refine ⟨_, rfl, l, (n : Int), _, rfl, rfl, upd_same, by omega, by omega, by show 1 * _ ≤ sizeLine; exact small (by simp; omega), fun p np => ?_⟩
    have s2 := same_new np (HO.lst (List.replicate ((n : Int)).toNat [V.int 0]).flatten)
    have rep : (List.replicate ((n : Int)).toNat [V.int 0]).flatten = List.replicate n (V.int 0) := by rw [Int.toNat_natCast, flat_rep]
    have hD2 := s2 _ _ (s1 _ _ hD)
    have pD : p ≠ D := fun e => by rw [e] at np; rw [s1 _ _ hD] at np; cases np
    have pas : ¬ p ∈ as := fun h => by have := s1 _ _ (hrow p h).2; rw [np] at this; cases this
    have g12 := (g.trans s1).trans s2
    refine ⟨_, hD2, small1000 (by rw [List.length_map]; omega), as ++ [p], by rw [upd_same, List.map_append]; rfl, by rw [List.length_append, hl]; rfl, same_grow nD g12, List.nodup_append.mpr ⟨nd, by simp, fun x hx y hy => by rw [List.mem_singleton.mp hy]; exact fun z => pas (by rw [← z]; exact hx)⟩, fun h => ?_, fun x hx => ?_⟩
    · rcases List.mem_append.mp h with h | h
      · exact nDm h
      · exact pD (List.mem_singleton.mp h).symm
    · rcases List.mem_append.mp hx with hx | hx
      · have hxD : x ≠ D := fun e => nDm (by rw [← e]; exact hx)
        exact ⟨(hrow x hx).1, by rw [upd_ne hxD]; exact s2 _ _ (s1 _ _ (hrow x hx).2)⟩
      · rw [List.mem_singleton.mp hx]
        exact ⟨(g.trans s1).free np, by rw [upd_ne pD, upd_same, rep]⟩
  rintro H1 ⟨as, hD, hl, g, nd, nDm, hrow⟩
  have p0 : Pnt H H1 D as (val (bs.take 0)) n m := ⟨⟨hD, hl, fun i a e => by rw [(hrow a (List.mem_of_getElem? e)).2, ← rowV_zero (i := i)]; rfl⟩, g, nd, nDm, fun a ha => (hrow a ha).1⟩
  -- the boxes, one by one
  refine ⟨_, rfl, f, rfl, ⟨_, SqL.of (g _ _ hf)⟩, for_list (K := K) (a := f) (xs := fs) (fun k σ H' => ∃ (e3 e5 e6 e7 e8 e9 e10 : Option V), σ = [some (.ref f), some (.int (n : Int)), some (.int (m : Int)), e3, some (.ref D), e5, e6, e7, e8, e9, e10] ∧ Pnt H H' D as (val (bs.take k)) n m)
    ⟨none, none, none, none, none, none, none, rfl, p0⟩ (fun k σ H' _ ⟨_, _, _, _, _, _, _, _, p⟩ => SqL.of (p.same _ _ hf)) ?_ ?_⟩
  · rintro k x σ H2 hk ⟨e3, e5, e6, e7, e8, e9, e10, rfl, p2⟩
    obtain ⟨b, a, eb, rfl, ha⟩ := hfs.at hk
    have hins := tl.ins b (List.mem_of_getElem? eb)
    unfold Ins at hins
    obtain ⟨i1, i2, i3, i4, i5, i6, i7⟩ := hins
    have hk' : k < bs.length := (List.getElem?_eq_some_iff.mp eb).1
    have tk : bs.take (k + 1) = bs.take k ++ [b] := by rw [List.take_add_one, eb]; rfl
    have apart : ∀ c ∈ bs.take k, Apart c b := fun c hc => by
      have z := tl.apart
      have z2 : bs = bs.take k ++ (b :: bs.drop (k + 1)) := by
        obtain ⟨q1, q2⟩ := List.getElem?_eq_some_iff.mp eb
        have z3 := (List.take_append_drop k bs).symm
        rw [List.drop_eq_getElem_cons q1, q2] at z3
        exact z3
      rw [z2] at z
      exact (List.pairwise_append.mp z).2.2 c hc b List.mem_cons_self
    refine ⟨a, _, rfl, SqT.of (p2.same _ _ ha), rfl, _, _, rfl, _, _, rfl, _, _, rfl, _, _, rfl, _, _, rfl, rfl, ?_⟩
    -- none of the tests
    refine ⟨_, rfl, _, _, rfl, rfl, false, congrArg V.bl (decide_eq_false (by omega)), iteF ?_⟩
    refine ⟨_, rfl, _, _, rfl, rfl, false, congrArg V.bl (decide_eq_false (by omega)), iteF ?_⟩
    refine ⟨_, rfl, _, _, rfl, rfl, false, congrArg V.bl (decide_eq_false (by omega)), iteF ?_⟩
    refine ⟨_, rfl, _, _, rfl, rfl, false, congrArg V.bl (decide_eq_false (by omega)), iteF ?_⟩
    refine ⟨_, rfl, _, rfl, _, _, rfl, rfl, _, rfl, _, _, rfl, rfl, false, congrArg V.bl (decide_eq_false (by omega)), iteF ?_⟩
    refine ⟨_, rfl, _, rfl, _, _, rfl, rfl, _, rfl, _, _, rfl, rfl, false, congrArg V.bl (decide_eq_false (by omega)), iteF ?_⟩
    -- its rows
    refine ⟨_, rfl, _, rfl, _, rfl, _, _, rfl, rfl, _, _, rfl, ⟨by omega, by omega, by omega, by omega⟩, ?_⟩
    refine for_range (lo := b.row) (n := (b.row + b.high - b.row).toNat) (fun i σ H' => ∃ (e9 e10 : Option V), σ = [some (.ref f), some (.int (n : Int)), some (.int (m : Int)), some (.int b.row), some (.ref D), some (.int b.pane), some (.int b.col), some (.int b.wide), some (.int b.high), e9, e10] ∧
      Pnt H H' D as (fun x y => if Covers b x y ∧ x < b.row + (i : Int) then b.pane else val (bs.take k) x y) n m)
      ⟨e9, e10, rfl, p2.congr fun x y _ _ => by
        rw [if_neg]
        intro z
        have z1 := z.1
        unfold Covers at z1
        omega⟩ ?_ ?_
    · rintro i σ H3 hi ⟨e9', e10', rfl, p3⟩
      refine ⟨_, rfl, _, rfl, _, rfl, _, _, rfl, rfl, _, _, rfl, ⟨by omega, by omega, by omega, by omega⟩, ?_⟩
      refine for_range (lo := b.col) (n := (b.col + b.wide - b.col).toNat) (fun j σ H' => ∃ (e10 : Option V), σ = [some (.ref f), some (.int (n : Int)), some (.int (m : Int)), some (.int b.row), some (.ref D), some (.int b.pane), some (.int b.col), some (.int b.wide), some (.int b.high), some (.int (b.row + (i : Int))), e10] ∧
        Pnt H H' D as (fun x y => if Covers b x y ∧ (x < b.row + (i : Int) ∨ (x = b.row + (i : Int) ∧ y < b.col + (j : Int))) then b.pane else val (bs.take k) x y) n m)
        ⟨e10', rfl, p3.congr fun x y _ _ => by
          by_cases c : Covers b x y
          · have c1 := c
            unfold Covers at c1
            by_cases c2 : (x : Int) < b.row + (i : Int)
            · rw [if_pos ⟨c, c2⟩, if_pos ⟨c, .inl c2⟩]
            · rw [if_neg (fun z => c2 z.2), if_neg (fun z => by omega)]
          · rw [if_neg (fun z => c z.1), if_neg (fun z => c z.1)]⟩ ?_ ?_
      · rintro j σ H4 hj ⟨e10'', rfl, p4⟩
        obtain ⟨ra, r0, r1, r2, r3⟩ := p4.sh.cell (i := b.row + (i : Int)) (j := b.col + (j : Int)) (by omega) (by omega) (by omega) (by omega)
        have cov : Covers b (b.row + (i : Int)) (b.col + (j : Int)) := by unfold Covers; omega
        have v0 : (if Covers b (b.row + (i : Int)) (b.col + (j : Int)) ∧ (b.row + (i : Int) < b.row + (i : Int) ∨ (b.row + (i : Int) = b.row + (i : Int) ∧ b.col + (j : Int) < b.col + (j : Int))) then b.pane else val (bs.take k) (b.row + (i : Int)) (b.col + (j : Int))) = 0 := by
          rw [if_neg (fun z => by omega)]
          exact val_zero fun c hc z => apart c hc _ _ z cov
        rw [v0] at r3
        refine ⟨_, rfl, _, rfl, D, _, _, _, rfl, rfl, SqL.of p4.sh.lst, r1, _, rfl, ra, _, _, _, rfl, rfl, SqL.of r2, r3, rfl, false, by simp, iteF ?_⟩
        have ei : ((b.row + (i : Int)).toNat : Int) = b.row + (i : Int) := by omega
        have ej : ((b.col + (j : Int)).toNat : Int) = b.col + (j : Int) := by omega
        refine ⟨_, rfl, _, rfl, _, rfl, D, _, _, _, rfl, rfl, SqL.of p4.sh.lst, r1, _, rfl, ra, _, _, (b.col + (j : Int)).toNat, rfl, rfl, r2, (by rw [rowV_len, ← ej, Int.toNat_natCast]; exact ixN_nat (by omega)), ?_⟩
        refine ⟨_, rfl, (p4.put r0 b.pane).congr fun x y _ _ => ?_⟩
        show (if (x : Int) = ((b.row + (i : Int)).toNat : Int) ∧ (y : Int) = ((b.col + (j : Int)).toNat : Int) then b.pane else _) = _
        rw [ei, ej]
        by_cases c : (x : Int) = b.row + (i : Int) ∧ (y : Int) = b.col + (j : Int)
        · rw [if_pos c, if_pos ⟨by rw [c.1, c.2]; exact cov, .inr ⟨c.1, by omega⟩⟩]
        · rw [if_neg c]
          by_cases c2 : Covers b (x : Int) (y : Int) ∧ ((x : Int) < b.row + (i : Int) ∨ ((x : Int) = b.row + (i : Int) ∧ (y : Int) < b.col + (j : Int)))
          · rw [if_pos c2, if_pos ⟨c2.1, by omega⟩]
          · rw [if_neg c2, if_neg (fun z => c2 ⟨z.1, by omega⟩)]
      · rintro σ H4 ⟨e10'', rfl, p4⟩
        refine ⟨_, _, rfl, p4.congr fun x y _ _ => ?_⟩
        by_cases c : Covers b (x : Int) (y : Int)
        · have c1 := c
          unfold Covers at c1
          by_cases c2 : (x : Int) < b.row + ((i + 1 : Nat) : Int)
          · rw [if_pos ⟨c, by omega⟩, if_pos ⟨c, c2⟩]
          · rw [if_neg (fun z => by omega), if_neg (fun z => c2 z.2)]
        · rw [if_neg (fun z => c z.1), if_neg (fun z => c z.1)]
    · rintro σ H3 ⟨e9', e10', rfl, p3⟩
      refine ⟨_, _, _, _, _, _, _, rfl, p3.congr fun x y _ _ => ?_⟩
      rw [tk, val_snoc apart]
      by_cases c : Covers b (x : Int) (y : Int)
      · have c1 := c
        unfold Covers at c1
        rw [if_pos ⟨c, by omega⟩, if_pos c]
      · rw [if_neg (fun z => c z.1), if_neg c]
  · rintro σ H2 ⟨e3, e5, e6, e7, e8, e9, e10, rfl, p2⟩
    rw [← hfs.len, List.take_length] at p2
    exact ⟨_, rfl, q H2 D as p2.same p2.sh⟩
end
end Mp
namespace Mp
open PySem PySem.Spec PyProof.Rows L2
/-! ### what a bool expression tells -/
open Evl in
def EvP (te : TE) (σ : L2.St) (H : Hp) (p : Prop) : Prop := ∃ b : Bool, Ev te σ H (.bl b) ∧ (b = true ↔ p)
open Evl in
def EtP (tt : TT) (σ : L2.St) (H : Hp) (p : Prop) : Prop := ∃ b : Bool, EvT tt σ H b ∧ (b = true ↔ p)
section
open Evl
variable {σ : L2.St} {H : Hp} {ta tb tc td te : TE} {t u : TT} {p q : Prop} {x y z v : V} {i j k l : Int}
theorem evp_and (h1 : EvP ta σ H p) (h2 : p → EvP tb σ H q) : EvP (tAndV ta tb) σ H (p ∧ q) := by
  obtain ⟨b, e, f⟩ := h1
  cases b with
  | true =>
    obtain ⟨c, e2, f2⟩ := h2 (f.mp rfl)
    exact ⟨true && c, ev_andV e fun _ => e2, by rw [Bool.true_and, f2]; exact ⟨fun z => ⟨f.mp rfl, z⟩, fun z => z.2⟩⟩
  | false =>
    have nf : ¬ p := fun z => Bool.noConfusion (f.mpr z)
    exact ⟨false && false, ev_andV e fun z => Bool.noConfusion z, by rw [Bool.false_and]; exact ⟨fun z => Bool.noConfusion z, fun z => absurd z.1 nf⟩⟩
theorem evp_or (h1 : EvP ta σ H p) (h2 : ¬ p → EvP tb σ H q) : EvP (tOrV ta tb) σ H (p ∨ q) := by
  obtain ⟨b, e, f⟩ := h1
  cases b with
  | true => exact ⟨true || true, ev_orV e fun z => Bool.noConfusion z, by rw [Bool.true_or]; exact ⟨fun _ => .inl (f.mp rfl), fun _ => rfl⟩⟩
  | false =>
    have nf : ¬ p := fun z => Bool.noConfusion (f.mpr z)
    obtain ⟨c, e2, f2⟩ := h2 nf
    exact ⟨false || c, ev_orV e fun _ => e2, by rw [Bool.false_or, f2]; exact ⟨fun z => .inr z, fun z => z.resolve_left nf⟩⟩
theorem etp_and (h1 : EtP t σ H p) (h2 : p → EtP u σ H q) : EtP (tAnd t u) σ H (p ∧ q) := by
  obtain ⟨b, e, f⟩ := h1
  cases b with
  | true =>
    obtain ⟨c, e2, f2⟩ := h2 (f.mp rfl)
    exact ⟨true && c, et_and e fun _ => e2, by rw [Bool.true_and, f2]; exact ⟨fun z => ⟨f.mp rfl, z⟩, fun z => z.2⟩⟩
  | false =>
    have nf : ¬ p := fun z => Bool.noConfusion (f.mpr z)
    exact ⟨false && false, et_and e fun z => Bool.noConfusion z, by rw [Bool.false_and]; exact ⟨fun z => Bool.noConfusion z, fun z => absurd z.1 nf⟩⟩
theorem etp_or (h1 : EtP t σ H p) (h2 : ¬ p → EtP u σ H q) : EtP (tOr t u) σ H (p ∨ q) := by
  obtain ⟨b, e, f⟩ := h1
  cases b with
  | true => exact ⟨true || true, et_or e fun z => Bool.noConfusion z, by rw [Bool.true_or]; exact ⟨fun _ => .inl (f.mp rfl), fun _ => rfl⟩⟩
  | false =>
    have nf : ¬ p := fun z => Bool.noConfusion (f.mpr z)
    obtain ⟨c, e2, f2⟩ := h2 nf
    exact ⟨false || c, et_or e fun _ => e2, by rw [Bool.false_or, f2]; exact ⟨fun z => .inr z, fun z => z.resolve_left nf⟩⟩
theorem etp_not (h1 : EtP t σ H p) : EtP (tNot t) σ H (¬ p) := by
  obtain ⟨b, e, f⟩ := h1
  refine ⟨!b, et_not e, ?_⟩
  rw [← f]
  cases b <;> simp
theorem etp_test (h : EvP te σ H p) : EtP (tTest te) σ H p := by
  obtain ⟨b, e, f⟩ := h
  exact ⟨b, et_test e, f⟩
theorem etp_B (h : EvP te σ H p) : EtP (tB te) σ H p := by
  obtain ⟨b, e, f⟩ := h
  exact ⟨b, et_B e, f⟩
theorem evp_var {n : Nat} {b : Bool} (h : σ[n]? = some (some (.bl b))) (f : b = true ↔ p) : EvP (tVar n) σ H p := ⟨b, ev_var h, f⟩
theorem evp_lt (ha : Ev ta σ H (.int i)) (hb : Ev tb σ H (.int j)) : EvP (tOp (rI0 fun i j => .bl (decide (i < j))) ta tb) σ H (i < j) := ⟨decide (i < j), ev_op ha hb rv_I0, decide_eq_true_iff⟩
theorem decI : decide (V.int i = V.int j) = decide (i = j) := by
  by_cases h : i = j
  · subst h; simp
  · have : ¬ V.int i = V.int j := fun z => h (V.int.inj z)
    simp [h]
theorem evp_eq (ha : Ev ta σ H (.int i)) (hb : Ev tb σ H (.int j)) : EvP (tOp rEq ta tb) σ H (i = j) := ⟨_, ev_op ha hb (rv_eq rfl), by rw [decI]; exact decide_eq_true_iff⟩
theorem evp_ne (ha : Ev ta σ H (.int i)) (hb : Ev tb σ H (.int j)) : EvP (tOp rNe ta tb) σ H (i ≠ j) := ⟨_, ev_op ha hb (rv_ne rfl), by rw [decI]; simp⟩
theorem inV_two : inV (.int i) [.int j, .int k] = true ↔ i = j ∨ i = k := by
  show (List.any [V.int j, V.int k] fun y => eqV y (.int i)) = true ↔ _
  rw [List.any_cons, List.any_cons, List.any_nil, Bool.or_false, Bool.or_eq_true]
  show (j == i) = true ∨ (k == i) = true ↔ _
  rw [beq_iff_eq, beq_iff_eq]
  exact ⟨fun z => z.elim (fun a => .inl a.symm) (fun a => .inr a.symm), fun z => z.elim (fun a => .inl a.symm) (fun a => .inr a.symm)⟩
theorem evp_in {K : PySem.W.Frag} (ha : Ev ta σ H (.int i)) (hb : Ev tb σ H (.int j)) (hc : Ev tc σ H (.int k)) : EvP (tOp (rIn K false) ta (tLst (tCons tb (tCons tc tNil)))) σ H (i = j ∨ i = k) :=
  ⟨inV (.int i) [.int j, .int k], ev_opL ha (el_lst (ea_cons hb (ea_cons hc ea_nil)) (by simp)) fun p H1 hp _ => rv_isL (sq_of hp) rfl rfl, inV_two⟩
theorem evp_ni {K : PySem.W.Frag} (ha : Ev ta σ H (.int i)) (hb : Ev tb σ H (.int j)) (hc : Ev tc σ H (.int k)) : EvP (tOp (rIn K true) ta (tLst (tCons tb (tCons tc tNil)))) σ H (¬ (i = j ∨ i = k)) :=
  ⟨!inV (.int i) [.int j, .int k], ev_opL ha (el_lst (ea_cons hb (ea_cons hc ea_nil)) (by simp)) fun p H1 hp _ => rv_niL (sq_of hp) rfl rfl, by
    rw [← inV_two]
    cases inV (.int i) [.int j, .int k] <;> simp⟩
theorem evp_chain (ha : Ev ta σ H (.int i)) (hb : Ev tb σ H (.int j)) (hc : Ev tc σ H (.int k)) : EvP (tChain (rI0 fun i j => .bl (decide (i < j))) (rI0 fun i j => .bl (decide (i < j))) ta tb tc) σ H (i < j ∧ j < k) := by
  refine ⟨decide (i < j) && decide (j < k), fun H1 e Q q => ha H1 e _ fun H2 e2 => hb H2 (e.trans e2) _ fun H3 e3 => ⟨i, j, rfl, rfl, _, rfl, ?_⟩, by simp⟩
  by_cases c : i < j
  · rw [decide_eq_true c] at q ⊢
    exact iteT (hc H3 ((e.trans e2).trans e3) _ fun H4 e4 => ⟨j, k, rfl, rfl, q H4 ((e2.trans e3).trans e4)⟩)
  · rw [decide_eq_false c] at q ⊢
    exact iteF (q H3 (e2.trans e3))
theorem etp_chain3 (ha : Ev ta σ H (.int i)) (hb : Ev tb σ H (.int j)) (hc : Ev tc σ H (.int k)) (hd : Ev td σ H (.int l)) : EtP (tChain3 rEq rEq rEq ta tb tc td) σ H (i = j ∧ j = k ∧ k = l) := by
  refine ⟨decide (i = j) && (decide (j = k) && decide (k = l)), fun H1 e Q q => ha H1 e _ fun H2 e2 => hb H2 (e.trans e2) _ fun H3 e3 => ⟨rfl, _, rfl, ?_⟩, by simp⟩
  by_cases c : i = j
  · rw [decI, decide_eq_true c]
    rw [decide_eq_true c] at q
    refine iteT (hc H3 ((e.trans e2).trans e3) _ fun H4 e4 => ⟨rfl, _, rfl, ?_⟩)
    by_cases c2 : j = k
    · rw [decI, decide_eq_true c2]
      rw [decide_eq_true c2] at q
      refine iteT (hd H4 (((e.trans e2).trans e3).trans e4) _ fun H5 e5 => ⟨rfl, _, rfl, ?_⟩)
      rw [decI]
      exact q H5 (((e2.trans e3).trans e4).trans e5)
    · rw [decI, decide_eq_false c2]
      rw [decide_eq_false c2] at q
      exact iteF (q H4 ((e2.trans e3).trans e4))
  · rw [decI, decide_eq_false c]
    rw [decide_eq_false c] at q
    exact iteF (q H3 (e2.trans e3))
/-- a test that does not hold: the rest -/
theorem q_no {D : Ends} {tu tz : TS} (h : EtP t σ H p) (n : ¬ p) (k : ∀ H1, Ex H H1 → tz D σ H1) : tSeq (tIfS t tu tNext) tz D σ H := by
  obtain ⟨b, e, f⟩ := h
  exact q_when e (fun hb => absurd (f.mp hb) n) fun _ H1 e1 => k H1 e1
theorem s_no {D : Ends} {tu : TS} (h : EtP t σ H p) (n : ¬ p) (k : ∀ H1, Ex H H1 → D.nx σ H1) : tIfS t tu tNext D σ H := by
  obtain ⟨b, e, f⟩ := h
  exact s_when e (fun hb => absurd (f.mp hb) n) fun _ H1 e1 => k H1 e1
theorem ev_add (ha : Ev ta σ H (.int i)) (hb : Ev tb σ H (.int j)) : Ev (tOp (rI0 fun i j => .int (i + j)) ta tb) σ H (.int (i + j)) := ev_op ha hb rv_I0
theorem ev_sub (ha : Ev ta σ H (.int i)) (hb : Ev tb σ H (.int j)) : Ev (tOp (rI0 fun i j => .int (i - j)) ta tb) σ H (.int (i - j)) := ev_op ha hb rv_I0
/-- a cell of the sheet, read -/
theorem ev_cell {K : PySem.W.Frag} {S : Addr} {as : List Addr} {g : Int → Int → Int} {n m : Nat} (s : SheetAt H S as g n m) (h0 : σ[0]? = some (some (.ref S))) (ha : Ev ta σ H (.int i)) (hb : Ev tb σ H (.int j))
    (i0 : 0 ≤ i) (i1 : i < (m : Int)) (j0 : 0 ≤ j) (j1 : j < (n : Int)) : Ev (tOp (rIxL K) (tOp (rIxL K) (tVar 0) ta) tb) σ H (.int (g i j)) := by
  obtain ⟨a, _, e1, e2, e3⟩ := s.cell i0 i1 j0 j1
  exact ev_op (ev_op (ev_var h0) ha (rv_ixL (sq_of s.lst) e1)) hb (rv_ixL (sq_of e2) e3)
end
/-! ### _law_borders_right -/
section
variable {P : Program} {w : World} {K : PySem.W.Frag} {mg : Str → Option Value} {base : Heap}
def spBorders : Sp := fun vs H Q _ => ∃ (S : Addr) (n m : Nat) (as : List Addr) (g : Int → Int → Int), vs = [.ref S, .int (n : Int), .int (m : Int)] ∧ SheetAt H S as g n m ∧ Cond g 0 0 (n : Int) (m : Int) ∧ n ≤ 100 ∧ m ≤ 100 ∧
  ∀ (H' : Hp), Same H H' → Q (.bl true) H'
abbrev nBorders : List Str := ["_law_sheet_here", "_law_w", "_law_h", "_law_r", "_law_c", "_law_here", "_law_upright", "_law_level", "_law_near"]
theorem scBorders : FnScope nBorders ["_law_sheet_here", "_law_w", "_law_h"] (defScope sBorders) := ⟨rfl, rfl, rfl, by decide +kernel, rfl, by decide +kernel, by decide +kernel⟩
theorem cl_borders (T : Txt K w mg) : Cl P w K mg base 1 "_law_borders_right" ["_law_sheet_here", "_law_w", "_law_h"] spBorders := by
  refine cl_of T.dBorders scBorders (fun vs H Q E h => ?_) (fun cdv f A outer s H vs Q E hr h => ?_)
  · obtain ⟨S, n, m, as, g, rfl, _⟩ := h; rfl
  obtain ⟨S, n, m, as, g, rfl, sh, cd, hn, hm, q⟩ := h
  refine ⟨_, (pss_cons (ps_for PassesOwn.never rfl (pi_range1 rfl T.f_range (pa_cons (pv 2) pa_nil)) (pg_name (i := 3) scBorders.nd rfl (.inl rfl))
      (pss_one (ps_for PassesOwn.never rfl (pi_range1 rfl T.f_range (pa_cons (pv 1) pa_nil)) (pg_name (i := 4) scBorders.nd rfl (.inl rfl))
          (pss_cons (ps_set (i := 5) scBorders.nd rfl (.inl rfl) (pe_ix (r := rIxL K) ix_list (pe_ix (r := rIxL K) ix_list (pv 0) (pv 3) (fun _ _ => rfl)) (pv 4) (fun _ _ => rfl)))
      (pss_cons (ps_if (PW.pt (pw_and (pt_cmpR op_ne (pv 5) pe_int (nomark _)) (pw_and (pt_cmpR op_lt (pe_op op_add (pv 4) pe_int) (pv 1) (nomark _)) (pw_and1 (pt_cmpR op_notIn_seq (pe_ix (r := rIxL K) ix_list (pe_ix (r := rIxL K) ix_list (pv 0) (pv 3) (fun _ _ => rfl)) (pe_op op_add (pv 4) pe_int) (fun _ _ => rfl)) (pe_lst (pa_cons pe_int (pa_cons (pv 5) pa_nil))) (by with_unfolding_all rfl)))))) (pss_one (ps_ret pe_bl)) pss_nil)
      (pss_cons (ps_if (PW.pt (pw_and (pt_cmpR op_ne (pv 5) pe_int (nomark _)) (pw_and (pt_cmpR op_lt (pe_op op_add (pv 3) pe_int) (pv 2) (nomark _)) (pw_and1 (pt_cmpR op_notIn_seq (pe_ix (r := rIxL K) ix_list (pe_ix (r := rIxL K) ix_list (pv 0) (pe_op op_add (pv 3) pe_int) (fun _ _ => rfl)) (pv 4) (fun _ _ => rfl)) (pe_lst (pa_cons pe_int (pa_cons (pv 5) pa_nil))) (by with_unfolding_all rfl)))))) (pss_one (ps_ret pe_bl)) pss_nil)
      (pss_cons (ps_set (i := 6) scBorders.nd rfl (.inl rfl) (pe_and (pe_chain op_lt op_lt pe_int (pv 4) (pe_op op_sub (pv 1) pe_int)) (pe_and (pe_cmpR op_ne (pe_ix (r := rIxL K) ix_list (pe_ix (r := rIxL K) ix_list (pv 0) (pv 3) (fun _ _ => rfl)) (pe_op op_sub (pv 4) pe_int) (fun _ _ => rfl)) pe_int (nomark _)) (pe_one (pe_cmpR op_ne (pe_ix (r := rIxL K) ix_list (pe_ix (r := rIxL K) ix_list (pv 0) (pv 3) (fun _ _ => rfl)) (pe_op op_add (pv 4) pe_int) (fun _ _ => rfl)) pe_int (nomark _))))))
      (pss_cons (ps_set (i := 7) scBorders.nd rfl (.inl rfl) (pe_and (pe_chain op_lt op_lt pe_int (pv 3) (pe_op op_sub (pv 2) pe_int)) (pe_and (pe_cmpR op_ne (pe_ix (r := rIxL K) ix_list (pe_ix (r := rIxL K) ix_list (pv 0) (pe_op op_sub (pv 3) pe_int) (fun _ _ => rfl)) (pv 4) (fun _ _ => rfl)) pe_int (nomark _)) (pe_one (pe_cmpR op_ne (pe_ix (r := rIxL K) ix_list (pe_ix (r := rIxL K) ix_list (pv 0) (pe_op op_add (pv 3) pe_int) (fun _ _ => rfl)) (pv 4) (fun _ _ => rfl)) pe_int (nomark _))))))
      (pss_cons (ps_set (i := 8) scBorders.nd rfl (.inl rfl) (pe_or (pe_and (pe_cmpR op_lt pe_int (pv 4) (nomark _)) (pe_one (pe_cmpR op_eq (pe_ix (r := rIxL K) ix_list (pe_ix (r := rIxL K) ix_list (pv 0) (pv 3) (fun _ _ => rfl)) (pe_op op_sub (pv 4) pe_int) (fun _ _ => rfl)) pe_int (nomark _)))) (pe_one (pe_and (pe_cmpR op_lt (pe_op op_add (pv 4) pe_int) (pv 1) (nomark _)) (pe_one (pe_cmpR op_eq (pe_ix (r := rIxL K) ix_list (pe_ix (r := rIxL K) ix_list (pv 0) (pv 3) (fun _ _ => rfl)) (pe_op op_add (pv 4) pe_int) (fun _ _ => rfl)) pe_int (nomark _)))))))
      (pss_cons (ps_set (i := 8) scBorders.nd rfl (.inl rfl) (pe_or (pv 8) (pe_or (pe_and (pe_cmpR op_lt pe_int (pv 3) (nomark _)) (pe_one (pe_cmpR op_eq (pe_ix (r := rIxL K) ix_list (pe_ix (r := rIxL K) ix_list (pv 0) (pe_op op_sub (pv 3) pe_int) (fun _ _ => rfl)) (pv 4) (fun _ _ => rfl)) pe_int (nomark _)))) (pe_one (pe_and (pe_cmpR op_lt (pe_op op_add (pv 3) pe_int) (pv 2) (nomark _)) (pe_one (pe_cmpR op_eq (pe_ix (r := rIxL K) ix_list (pe_ix (r := rIxL K) ix_list (pv 0) (pe_op op_add (pv 3) pe_int) (fun _ _ => rfl)) (pv 4) (fun _ _ => rfl)) pe_int (nomark _))))))))
      (pss_cons (ps_if (PW.pt (pw_and (pt_cmpR op_eq (pv 5) pe_int (nomark _)) (pw_and (pt_not (pt_val (pv 6))) (pw_and (pt_not (pt_val (pv 7))) (pw_and1 (pt_not (pt_val (pv 8)))))))) (pss_one (ps_ret pe_bl)) pss_nil)
      (pss_cons (ps_if (PW.pt (pw_and (pt_cmpR op_eq (pv 5) pe_int (nomark _)) (pw_and1 (PW.pt (pw_or (PW.pt (pw_and (pt_cmpR op_in_seq (pv 3) (pe_lst (pa_cons pe_int (pa_cons (pe_op op_sub (pv 2) pe_int) pa_nil))) (by with_unfolding_all rfl)) (pw_and1 (pt_not (pt_val (pv 6)))))) (pw_or1 (PW.pt (pw_and (pt_cmpR op_in_seq (pv 4) (pe_lst (pa_cons pe_int (pa_cons (pe_op op_sub (pv 1) pe_int) pa_nil))) (by with_unfolding_all rfl)) (pw_and1 (pt_not (pt_val (pv 7)))))))))))) (pss_one (ps_ret pe_bl)) pss_nil)
      (pss_one (ps_if (PW.pt (pw_and (pt_cmpR op_eq (pv 5) pe_int (nomark _)) (pw_and (pt_cmpR op_lt (pe_op op_add (pv 3) pe_int) (pv 2) (nomark _)) (pw_and (pt_cmpR op_lt (pe_op op_add (pv 4) pe_int) (pv 1) (nomark _)) (pw_and1 (pt_chain3 op_eq op_eq op_eq (pe_ix (r := rIxL K) ix_list (pe_ix (r := rIxL K) ix_list (pv 0) (pe_op op_add (pv 3) pe_int) (fun _ _ => rfl)) (pv 4) (fun _ _ => rfl)) (pe_ix (r := rIxL K) ix_list (pe_ix (r := rIxL K) ix_list (pv 0) (pv 3) (fun _ _ => rfl)) (pe_op op_add (pv 4) pe_int) (fun _ _ => rfl)) (pe_ix (r := rIxL K) ix_list (pe_ix (r := rIxL K) ix_list (pv 0) (pe_op op_add (pv 3) pe_int) (fun _ _ => rfl)) (pe_op op_add (pv 4) pe_int) (fun _ _ => rfl)) pe_int)))))) (pss_one (ps_ret pe_bl)) pss_nil))))))))))))))
      (pss_one (ps_ret pe_bl))), ?_⟩
  refine Evl.q_forR1 (Evl.ea_cons (Evl.ev_var rfl) Evl.ea_nil) ⟨by omega, by omega⟩ (fun i σ H' => ∃ (e3 e4 e5 e6 e7 e8 : Option V), σ = [some (.ref S), some (.int (n : Int)), some (.int (m : Int)), e3, e4, e5, e6, e7, e8] ∧ Evl.Ex H H') (fun H1 g1 => ⟨none, none, none, none, none, none, rfl, g1⟩) ?_ ?_
  · rintro r σ H1 hr1 ⟨e3, e4, e5, e6, e7, e8, rfl, g1⟩
    refine Evl.s_forR1 (Evl.ea_cons (Evl.ev_var rfl) Evl.ea_nil) ⟨by omega, by omega⟩ (fun i σ H' => ∃ (e4 e5 e6 e7 e8 : Option V), σ = [some (.ref S), some (.int (n : Int)), some (.int (m : Int)), some (.int (r : Int)), e4, e5, e6, e7, e8] ∧ Evl.Ex H H') (fun H2 g2 => ⟨e4, e5, e6, e7, e8, rfl, g1.trans g2⟩) ?_ ?_
    · rintro c σ H2 hc1 ⟨e4, e5, e6, e7, e8, rfl, g2⟩
      have s2 := sh.same g2
      refine Evl.q_asg (ev_cell s2 rfl (Evl.ev_var rfl) (Evl.ev_var rfl) (by omega) hr1 (by omega) hc1) fun H3 g3 => ?_
      have s3 := s2.same g3
      have hr0 : (0 : Int) ≤ (r : Int) := by omega
      have hc0 : (0 : Int) ≤ (c : Int) := by omega
      -- the right one
      refine q_no (etp_and (etp_test (evp_ne (Evl.ev_var rfl) Evl.ev_c)) fun a1 => etp_and (etp_test (evp_lt (ev_add (Evl.ev_var rfl) Evl.ev_c) (Evl.ev_var rfl))) fun a2 =>
        etp_test (evp_ni (ev_cell s3 rfl (Evl.ev_var rfl) (ev_add (Evl.ev_var rfl) Evl.ev_c) hr0 hr1 (by omega) a2) Evl.ev_c (Evl.ev_var rfl))) (fun z => ?_) fun H4 g4 => ?_
      · obtain ⟨z1, z2, z3⟩ := z
        refine z3 ?_
        by_cases z4 : g (r : Int) ((c : Int) + 1) = 0
        · exact .inl z4
        · exact .inr (cd.hadj _ _ hr0 (by omega) hc0 (by omega) z1 z4)
      have s4 := s3.same g4
      -- the lower one
      refine q_no (etp_and (etp_test (evp_ne (Evl.ev_var rfl) Evl.ev_c)) fun a1 => etp_and (etp_test (evp_lt (ev_add (Evl.ev_var rfl) Evl.ev_c) (Evl.ev_var rfl))) fun a2 =>
        etp_test (evp_ni (ev_cell s4 rfl (ev_add (Evl.ev_var rfl) Evl.ev_c) (Evl.ev_var rfl) (by omega) a2 hc0 hc1) Evl.ev_c (Evl.ev_var rfl))) (fun z => ?_) fun H5 g5 => ?_
      · obtain ⟨z1, z2, z3⟩ := z
        refine z3 ?_
        by_cases z4 : g ((r : Int) + 1) (c : Int) = 0
        · exact .inl z4
        · exact .inr (cd.vadj _ _ hr0 (by omega) hc0 (by omega) z1 z4)
      have s5 := s4.same g5
      -- upright
      obtain ⟨bU, eU, fU⟩ := evp_and (σ := [some (.ref S), some (.int (n : Int)), some (.int (m : Int)), some (.int (r : Int)), some (.int (c : Int)), some (.int (g (r : Int) (c : Int))), e6, e7, e8]) (H := H5)
        (evp_chain (ta := tC (.int 0)) (tb := tVar 4) (tc := tOp (rI0 fun i j => .int (i - j)) (tVar 1) (tC (.int 1))) Evl.ev_c (Evl.ev_var rfl) (ev_sub (Evl.ev_var rfl) Evl.ev_c)) fun a1 =>
        evp_and (evp_ne (ev_cell (K := K) s5 rfl (Evl.ev_var (i := 3) rfl) (ev_sub (Evl.ev_var (i := 4) rfl) (Evl.ev_c (v := .int 1))) hr0 hr1 (by omega) (by omega)) (Evl.ev_c (v := .int 0))) fun a2 =>
          evp_ne (ev_cell (K := K) s5 rfl (Evl.ev_var (i := 3) rfl) (ev_add (Evl.ev_var (i := 4) rfl) (Evl.ev_c (v := .int 1))) hr0 hr1 (by omega) (by omega)) (Evl.ev_c (v := .int 0))
      refine Evl.q_asg eU fun H6 g6 => ?_
      have s6 := s5.same g6
      -- level
      obtain ⟨bL, eL, fL⟩ := evp_and (σ := [some (.ref S), some (.int (n : Int)), some (.int (m : Int)), some (.int (r : Int)), some (.int (c : Int)), some (.int (g (r : Int) (c : Int))), some (.bl bU), e7, e8]) (H := H6)
        (evp_chain (ta := tC (.int 0)) (tb := tVar 3) (tc := tOp (rI0 fun i j => .int (i - j)) (tVar 2) (tC (.int 1))) Evl.ev_c (Evl.ev_var rfl) (ev_sub (Evl.ev_var rfl) Evl.ev_c)) fun a1 =>
        evp_and (evp_ne (ev_cell (K := K) s6 rfl (ev_sub (Evl.ev_var (i := 3) rfl) (Evl.ev_c (v := .int 1))) (Evl.ev_var (i := 4) rfl) (by omega) (by omega) hc0 hc1) (Evl.ev_c (v := .int 0))) fun a2 =>
          evp_ne (ev_cell (K := K) s6 rfl (ev_add (Evl.ev_var (i := 3) rfl) (Evl.ev_c (v := .int 1))) (Evl.ev_var (i := 4) rfl) (by omega) (by omega) hc0 hc1) (Evl.ev_c (v := .int 0))
      refine Evl.q_asg eL fun H7 g7 => ?_
      have s7 := s6.same g7
      -- near
      obtain ⟨bN, eN, fN⟩ := evp_or (σ := [some (.ref S), some (.int (n : Int)), some (.int (m : Int)), some (.int (r : Int)), some (.int (c : Int)), some (.int (g (r : Int) (c : Int))), some (.bl bU), some (.bl bL), e8]) (H := H7)
        (evp_and (evp_lt (ta := tC (.int 0)) (tb := tVar 4) Evl.ev_c (Evl.ev_var rfl)) fun a1 => evp_eq (ev_cell (K := K) s7 rfl (Evl.ev_var (i := 3) rfl) (ev_sub (Evl.ev_var (i := 4) rfl) (Evl.ev_c (v := .int 1))) hr0 hr1 (by omega) (by omega)) (Evl.ev_c (v := .int 0))) fun _ =>
        evp_and (evp_lt (tb := tVar 1) (ev_add (Evl.ev_var (i := 4) rfl) (Evl.ev_c (v := .int 1))) (Evl.ev_var rfl)) fun a1 => evp_eq (ev_cell (K := K) s7 rfl (Evl.ev_var (i := 3) rfl) (ev_add (Evl.ev_var (i := 4) rfl) (Evl.ev_c (v := .int 1))) hr0 hr1 (by omega) a1) (Evl.ev_c (v := .int 0))
      refine Evl.q_asg eN fun H8 g8 => ?_
      have s8 := s7.same g8
      obtain ⟨bM, eM, fM⟩ := evp_or (σ := [some (.ref S), some (.int (n : Int)), some (.int (m : Int)), some (.int (r : Int)), some (.int (c : Int)), some (.int (g (r : Int) (c : Int))), some (.bl bU), some (.bl bL), some (.bl bN)]) (H := H8) (evp_var (n := 8) rfl fN) fun _ => evp_or
        (evp_and (evp_lt (ta := tC (.int 0)) (tb := tVar 3) Evl.ev_c (Evl.ev_var rfl)) fun a1 => evp_eq (ev_cell (K := K) s8 rfl (ev_sub (Evl.ev_var (i := 3) rfl) (Evl.ev_c (v := .int 1))) (Evl.ev_var (i := 4) rfl) (by omega) (by omega) hc0 hc1) (Evl.ev_c (v := .int 0))) fun _ =>
        evp_and (evp_lt (tb := tVar 2) (ev_add (Evl.ev_var (i := 3) rfl) (Evl.ev_c (v := .int 1))) (Evl.ev_var rfl)) fun a1 => evp_eq (ev_cell (K := K) s8 rfl (ev_add (Evl.ev_var (i := 3) rfl) (Evl.ev_c (v := .int 1))) (Evl.ev_var (i := 4) rfl) (by omega) a1 hc0 hc1) (Evl.ev_c (v := .int 0))
      refine Evl.q_asg eM fun H9 g9 => ?_
      have s9 := s8.same g9
      -- a border cell with nothing to explain it
      refine q_no (etp_and (etp_test (evp_eq (Evl.ev_var rfl) Evl.ev_c)) fun a1 => etp_and (etp_not (etp_B (evp_var rfl fU))) fun a2 => etp_and (etp_not (etp_B (evp_var rfl fL))) fun a3 => etp_not (etp_B (evp_var rfl fM))) (fun z => ?_) fun H10 g10 => ?_
      · obtain ⟨z1, z2, z3, z4⟩ := z
        have n1 : ¬ ((0 : Int) < (c : Int) ∧ g (r : Int) ((c : Int) - 1) = 0) := fun z => z4 (.inl (.inl z))
        have n2 : ¬ ((c : Int) + 1 < (n : Int) ∧ g (r : Int) ((c : Int) + 1) = 0) := fun z => z4 (.inl (.inr z))
        have n3 : ¬ ((0 : Int) < (r : Int) ∧ g ((r : Int) - 1) (c : Int) = 0) := fun z => z4 (.inr (.inl z))
        have n4 : ¬ ((r : Int) + 1 < (m : Int) ∧ g ((r : Int) + 1) (c : Int) = 0) := fun z => z4 (.inr (.inr z))
        have u1 : ¬ ((0 : Int) < (r : Int) ∧ (r : Int) < (m : Int) - 1) := fun z => z3 ⟨z, fun y => n3 ⟨z.1, y⟩, fun y => n4 ⟨by omega, y⟩⟩
        obtain ⟨t1, t2, t3, t4⟩ := cd.tb (r : Int) (c : Int) hr0 (by omega) hc0 (by omega) z1 (by omega)
        exact z2 ⟨⟨t1, by omega⟩, t3, t4⟩
      have s10 := s9.same g10
      -- a border ends at boxes
      refine q_no (etp_and (etp_test (evp_eq (Evl.ev_var rfl) Evl.ev_c)) fun a1 => etp_or (etp_and (etp_test (evp_in (Evl.ev_var rfl) Evl.ev_c (ev_sub (Evl.ev_var rfl) Evl.ev_c))) fun a2 => etp_not (etp_B (evp_var rfl fU)))
        fun _ => etp_and (etp_test (evp_in (Evl.ev_var rfl) Evl.ev_c (ev_sub (Evl.ev_var rfl) Evl.ev_c))) fun a3 => etp_not (etp_B (evp_var rfl fL))) (fun z => ?_) fun H11 g11 => ?_
      · obtain ⟨z1, z2⟩ := z
        rcases z2 with ⟨z2, z3⟩ | ⟨z2, z3⟩
        · obtain ⟨t1, t2, t3, t4⟩ := cd.tb (r : Int) (c : Int) hr0 (by omega) hc0 (by omega) z1 (by omega)
          exact z3 ⟨⟨t1, by omega⟩, t3, t4⟩
        · obtain ⟨t1, t2, t3, t4⟩ := cd.lr (r : Int) (c : Int) hr0 (by omega) hc0 (by omega) z1 (by omega)
          exact z3 ⟨⟨t1, by omega⟩, t3, t4⟩
      have s11 := s10.same g11
      -- no four border cells together
      refine s_no (etp_and (etp_test (evp_eq (Evl.ev_var rfl) Evl.ev_c)) fun a1 => etp_and (etp_test (evp_lt (ev_add (Evl.ev_var rfl) Evl.ev_c) (Evl.ev_var rfl))) fun a2 => etp_and (etp_test (evp_lt (ev_add (Evl.ev_var rfl) Evl.ev_c) (Evl.ev_var rfl))) fun a3 =>
        etp_chain3 (ev_cell s11 rfl (ev_add (Evl.ev_var rfl) Evl.ev_c) (Evl.ev_var rfl) (by omega) a2 hc0 hc1) (ev_cell s11 rfl (Evl.ev_var rfl) (ev_add (Evl.ev_var rfl) Evl.ev_c) hr0 hr1 (by omega) a3)
          (ev_cell s11 rfl (ev_add (Evl.ev_var rfl) Evl.ev_c) (ev_add (Evl.ev_var rfl) Evl.ev_c) (by omega) a2 (by omega) a3) Evl.ev_c) (fun z => ?_) fun H12 g12 => ?_
      · obtain ⟨z1, z2, z3, z4, z5, z6⟩ := z
        exact cd.blk (r : Int) (c : Int) hr0 (by omega) hc0 (by omega) z1 (by omega) (by omega) z6
      exact ⟨_, _, _, _, _, rfl, (g2.trans g3).trans ((g4.trans g5).trans ((g6.trans g7).trans ((g8.trans g9).trans ((g10.trans g11).trans g12))))⟩
    · rintro σ H2 ⟨e4, e5, e6, e7, e8, rfl, g2⟩
      exact ⟨_, _, _, _, _, _, rfl, g2⟩
  · rintro σ H2 ⟨e3, e4, e5, e6, e7, e8, rfl, g2⟩
    exact q H2 g2
end
end Mp
namespace Mp
open PySem PySem.Spec PyProof.Rows L2
/-! ### equal lists of numbers -/
theorem dp_ints {K : PySem.W.Frag} {H : Hp} : ∀ ns : List Int, DpAll K H (ns.map V.int) (ns.map PyData.int)
  | [] => .nil
  | n :: ns => .cons (.int n) (dp_ints ns)
theorem lay_ints (ns : List Int) : (PyData.list (ns.map PyData.int)).canLay0 = true ∧ (PyData.list (ns.map PyData.int)).depth ≤ 2 := by
  have key : PyData.canLayAll0 (ns.map PyData.int) = true ∧ PyData.depthAll (ns.map PyData.int) ≤ 1 := by
    induction ns with
    | nil => exact ⟨by simp [PyData.canLayAll0], by simp [PyData.depthAll]⟩
    | cons n ns ih =>
      obtain ⟨a, b⟩ := ih
      refine ⟨by simp only [List.map_cons, PyData.canLayAll0, PyData.canLay0, a, Bool.true_and], ?_⟩
      simp only [List.map_cons, PyData.depthAll, PyData.depth]
      omega
  obtain ⟨a, b⟩ := key
  refine ⟨by simp only [PyData.canLay0, a], ?_⟩
  simp only [PyData.depth]
  omega
/-- two equal lists of numbers are not unequal -/
def rNeI (K : PySem.W.Frag) : R2 := fun x y H Q => ∃ (a b : Addr) (ns : List Int), x = .ref a ∧ y = .ref b ∧ SqL K H a (ns.map V.int) ∧ SqL K H b (ns.map V.int) ∧ Q (.bl false) H
theorem op_neI {X : Cx} (hu : X.A.units + 64 < cLine) : OpR X (compareOp .NotEq) (rNeI X.K) := by
  intro pins s σ H x y v u Q I rx ry h
  obtain ⟨a, b, ns, rfl, rfl, ha, hb, q⟩ := h
  have l := lay_ints ns
  have sh : SeqAt.shaped (PyData.list (ns.map PyData.int)) = true := by
    unfold SeqAt.shaped
    rw [l.1, Bool.true_and]
    exact decide_eq_true (by omega)
  refine op_neD hu pins s σ H _ _ v u Q I rx ry ⟨_, _, .lst ha (dp_ints ns), .lst hb (dp_ints ns), sh, sh, ?_⟩
  rw [SeqAt.eqv_refl _ l.1]
  exact q
theorem sorted_eq {a b c d : List Int} (h1 : a.Perm c) (h2 : b.Perm d) (h : c.Perm d) (s1 : a.Pairwise (· ≤ ·)) (s2 : b.Pairwise (· ≤ ·)) : a = b :=
  List.Perm.eq_of_pairwise (fun _ _ _ _ x y => Int.le_antisymm x y) s1 s2 ((h1.trans h).trans h2.symm)
theorem cut_mid (ns : List Int) : ∃ ms : List Int, cutV (ns.map V.int) (some 1) (some 16) = ms.map V.int ∧ ms.length ≤ 15 := by
  refine ⟨(ns.drop (HT.sIx (ns.map V.int).length 0 (some 1))).take (HT.sIx (ns.map V.int).length (ns.map V.int).length (some 16) - HT.sIx (ns.map V.int).length 0 (some 1)), ?_, ?_⟩
  · unfold cutV
    rw [← List.map_drop, ← List.map_take]
  · rw [List.length_take, List.length_drop, List.length_map]
    simp [HT.sIx]
    omega
/-! ### law -/
def spLaw0 (K : PySem.W.Frag) : Sp := fun vs H Q _ => ∃ (a : Addr) (ns : List Int), vs = [.ref a] ∧ SqL K H a (ns.map V.int) ∧ ns.length ≤ 63 ∧ ∀ H', Q (.bl true) H'
abbrev nLaw : List Str := ["_law_script", "_law_w", "_law_h", "_law_layout", "_law_new", "_law_cell_here", "_law_known", "_law_told", "_law_low", "_law_sheet_here", "_law_covered", "_law_box"]
theorem scLaw : FnScope nLaw ["_law_script"] (defScope sLaw) := ⟨rfl, rfl, rfl, by decide +kernel, rfl, by decide +kernel, by decide +kernel⟩
theorem good_one : Good (.pane 1) := ⟨.pane 1 (by decide), by simp [panes], by simp [panes]⟩
section
variable {P : Program} {w : World} {K : PySem.W.Frag} {mg : Str → Option Value} {base : Heap}
theorem ok_law (T : Txt K w mg) {fa : Addr} {fd : FuncData} (F : Fun K "law" "law" sLaw fa fd) : FnOk P w K mg base CX0 41 fa fd ["_law_script"] (spLaw0 K) := by
  have PA : Cl P w K mg base 16 "panes" ["layout"] (spPanes 16) := cl_panes T 16
  have LE : Cl P w K mg base 16 "least" ["layout"] (spLeast K 16) := cl_least T 16
  have FI : Cl P w K mg base 34 "fitted" ["layout", "width", "height"] (spFitted 16) := cl_fitted T 16 (Nat.le_refl _)
  have BX : Cl P w K mg base 36 "boxes" ["layout", "width", "height"] spBoxes := cl_boxes T
  have CE : Cl P w K mg base 1 "_law_cell" ["_law_script", "_law_k"] (spCell0 K) := cl_cell T
  have ST : Cl P w K mg base 40 "_law_step" ["_law_layout", "_law_w", "_law_h", "_law_cell_here", "_law_new"] (spStep K) := cl_step T
  have SH : Cl P w K mg base 1 "_law_sheet" ["_law_told", "_law_w", "_law_h"] spSheet := cl_sheet T
  have BO : Cl P w K mg base 1 "_law_borders_right" ["_law_sheet_here", "_law_w", "_law_h"] spBorders := cl_borders T
  refine F.ok scLaw (fun vs H Q E h => ?_) (fun cdv A outer s H vs Q E hr h => ?_)
  · obtain ⟨a, ns, rfl, _⟩ := h; rfl
  obtain ⟨a, ns, rfl, hS, _, q⟩ := h
  have hu := hr.units
  have hr1 := hr.mono (j := 1) (by omega)
  have hr16 := hr.mono (j := 16) (by omega)
  have hr34 := hr.mono (j := 34) (by omega)
  have hr36 := hr.mono (j := 36) (by omega)
  have hr40 := hr.mono (j := 40) (by omega)
  refine ⟨_, (pss_cons (ps_set (i := 1) scLaw.nd rfl (.inl rfl) (pe_op op_add pe_int (pe_op op_mod (pcl CE hr1 (pa_cons (pv 0) (pa_cons pe_int pa_nil))) pe_int)))
      (pss_cons (ps_set (i := 2) scLaw.nd rfl (.inl rfl) (pe_op op_add pe_int (pe_op op_mod (pe_op op_fdiv (pcl CE hr1 (pa_cons (pv 0) (pa_cons pe_int pa_nil))) pe_int) pe_int)))
      (pss_cons (ps_set (i := 3) scLaw.nd rfl (.inl rfl) pe_int)
      (pss_cons (ps_set (i := 4) scLaw.nd rfl (.inl rfl) pe_int)
      (pss_cons (ps_for PassesOwn.never rfl (pi_list (pe_slice sl_list (pv 0) (po_some pe_int) (po_some pe_int))) (pg_name (i := 5) scLaw.nd rfl (.inl rfl))
        (C8.pss_cut (ps_if (pt_cmpR op_eq (pe_op op_mod (pe_op op_fdiv (pe_callTy call_int1 rfl T.f_int boot_int (pa_cons (pv 5) pa_nil)) pe_int) pe_int) pe_int (nomark _)) (pss_cons (ps_set (i := 1) scLaw.nd rfl (.inl rfl) (pe_op op_add pe_int (pe_op op_mod (pe_op op_fdiv (pe_callTy call_int1 rfl T.f_int boot_int (pa_cons (pv 5) pa_nil)) pe_int) pe_int)))
      (pss_one (ps_set (i := 2) scLaw.nd rfl (.inl rfl) (pe_op op_add pe_int (pe_op op_mod (pe_op op_fdiv (pe_callTy call_int1 rfl T.f_int boot_int (pa_cons (pv 5) pa_nil)) pe_int) pe_int))))) pss_nil) (pss_cons (ps_set (i := 4) scLaw.nd rfl (.inl rfl) (pe_op op_add (pv 4) pe_int))
      (pss_cons (ps_asg (pcl ST hr40 (pa_cons (pv 3) (pa_cons (pv 1) (pa_cons (pv 2) (pa_cons (pe_callTy call_int1 rfl T.f_int boot_int (pa_cons (pv 5) pa_nil)) (pa_cons (pv 4) pa_nil)))))) (pg_tup (n := 2) rfl (pgs_cons (pg_name (i := 3) scLaw.nd rfl (.inl rfl)) (pgs_cons (pg_name (i := 6) scLaw.nd rfl (.inl rfl)) pgs_nil))))
      (pss_cons (ps_if (pt_cmpR (op_neI hu) (pe_callB cr_sortedI rfl T.f_sorted boot_sorted (pa_cons (pcl PA hr16 (pa_cons (pv 3) pa_nil)) pa_nil)) (pe_callB cr_sortedI rfl T.f_sorted boot_sorted (pa_cons (pv 6) pa_nil)) (nomark _)) (pss_one (ps_ret pe_bl)) pss_nil)
      (pss_cons (ps_set (i := 7) scLaw.nd rfl (.inl rfl) (pcl BX hr36 (pa_cons (pv 3) (pa_cons (pv 1) (pa_cons (pv 2) pa_nil)))))
      (pss_cons (ps_set (i := 8) scLaw.nd rfl (.inl rfl) (pcl LE hr16 (pa_cons (pv 3) pa_nil)))
      (pss_cons (ps_set (i := 9) scLaw.nd rfl (.inl rfl) (pcl SH hr1 (pa_cons (pv 7) (pa_cons (pe_callB (call_max2 rfl) rfl T.f_max boot_max (pa_cons (pv 1) (pa_cons (pe_ix (r := rIxT K) ix_tup (pv 8) pe_int (fun _ _ => rfl)) pa_nil))) (pa_cons (pe_callB (call_max2 rfl) rfl T.f_max boot_max (pa_cons (pv 2) (pa_cons (pe_ix (r := rIxT K) ix_tup (pv 8) pe_int (fun _ _ => rfl)) pa_nil))) pa_nil)))))
      (pss_cons (ps_if (PW.pt (pw_or (pt_cmpR op_isN (pv 9) pe_non (nomark _)) (pw_or1 (pt_cmpR (op_neI hu) (pe_lc (own := [("_law_box", 11)]) (g := gName 11) rfl scLaw.nd (pi_list (pv 7)) (blkOk_by (N := nLaw) (sc := defScope sLaw) (by decide +kernel)) (fun _ _ _ _ _ => pg_name (i := 11) scLaw.nd rfl (.inl rfl)) (fun _ _ _ _ _ => pts_nil) (fun _ _ _ _ _ => (pe_ix (r := rIxT K) ix_tup (pv 11) pe_int (fun _ _ => rfl)))) (pcl PA hr16 (pa_cons (pv 3) pa_nil)) (nomark _))))) (pss_one (ps_ret pe_bl)) pss_nil)
      (pss_cons (ps_if (pt_not (pt_val (pcl BO hr1 (pa_cons (pv 9) (pa_cons (pe_callB (call_max2 rfl) rfl T.f_max boot_max (pa_cons (pv 1) (pa_cons (pe_ix (r := rIxT K) ix_tup (pv 8) pe_int (fun _ _ => rfl)) pa_nil))) (pa_cons (pe_callB (call_max2 rfl) rfl T.f_max boot_max (pa_cons (pv 2) (pa_cons (pe_ix (r := rIxT K) ix_tup (pv 8) pe_int (fun _ _ => rfl)) pa_nil))) pa_nil)))))) (pss_one (ps_ret pe_bl)) pss_nil)
      (pss_cons (ps_set (i := 10) scLaw.nd rfl (.inl rfl) (pe_callB (cr_sum rfl) rfl T.f_sum boot_sum (pa_cons (pe_lc (own := [("_law_box", 11)]) (g := gName 11) rfl scLaw.nd (pi_list (pv 7)) (blkOk_by (N := nLaw) (sc := defScope sLaw) (by decide +kernel)) (fun _ _ _ _ _ => pg_name (i := 11) scLaw.nd rfl (.inl rfl)) (fun _ _ _ _ _ => pts_nil) (fun _ _ _ _ _ => (pe_op op_mul (pe_ix (r := rIxT K) ix_tup (pv 11) pe_int (fun _ _ => rfl)) (pe_ix (r := rIxT K) ix_tup (pv 11) pe_int (fun _ _ => rfl))))) pa_nil)))
      (pss_one (ps_if (PW.pt (pw_and (pt_cmpR op_eq (pe_callB call_len_seq rfl T.f_len boot_len (pa_cons (pv 7) pa_nil)) pe_int (nomark _)) (pw_and1 (pt_cmpR op_ne (pv 10) (pe_op op_mul (pe_callB (call_max2 rfl) rfl T.f_max boot_max (pa_cons (pv 1) (pa_cons (pe_ix (r := rIxT K) ix_tup (pv 8) pe_int (fun _ _ => rfl)) pa_nil))) (pe_callB (call_max2 rfl) rfl T.f_max boot_max (pa_cons (pv 2) (pa_cons (pe_ix (r := rIxT K) ix_tup (pv 8) pe_int (fun _ _ => rfl)) pa_nil)))) (nomark _))))) (pss_one (ps_ret pe_bl)) pss_nil)))))))))))))
      (pss_one (ps_ret (pe_cmpR (op_eqLL hu) (pcl FI hr34 (pa_cons (pv 3) (pa_cons (pv 1) (pa_cons (pv 2) pa_nil)))) (pcl FI hr34 (pa_cons (pcl FI hr34 (pa_cons (pv 3) (pa_cons (pv 1) (pa_cons (pv 2) pa_nil)))) (pa_cons (pv 1) (pa_cons (pv 2) pa_nil)))) (nomark _))))))))), ?_⟩
  refine ⟨_, rfl, a, ns, 0, rfl, hS, fun z0 => ⟨_, _, rfl, rfl, (by show (0 : Int) < 39; decide), _, _, rfl, rfl, ?_⟩⟩
  refine ⟨_, rfl, a, ns, 0, rfl, hS, fun z1 => ⟨_, _, rfl, rfl, ⟨by decide, by decide⟩, _, _, rfl, rfl, (by show (0 : Int) < 20; decide), _, _, rfl, rfl, ?_⟩⟩
  obtain ⟨ms, em, hm⟩ := cut_mid ns
  refine ⟨_, rfl, _, rfl, _, rfl, a, _, rfl, hS, fun p np => ?_⟩
  rw [em]
  have s0 := same_new np (HO.lst (ms.map V.int))
  refine ⟨p, rfl, ⟨_, SqL.of upd_same⟩, for_list (K := K) (a := p) (xs := ms.map V.int) (fun i σ H' => ∃ (wd ht : Int) (v : V) (L : Lt) (e5 e6 e7 e8 e9 e10 e11 : Option V), σ = [some (.ref a), some (.int wd), some (.int ht), some v, some (.int ((i : Int) + 1)), e5, e6, e7, e8, e9, e10, e11] ∧
      Same (upd H p (.lst (ms.map V.int))) H' ∧ LV H' L v ∧ Good L ∧ (panes L).length ≤ i + 1 ∧ (∀ x ∈ panes L, x ≤ (i : Int) + 1) ∧ 2 ≤ wd ∧ wd ≤ 40 ∧ 1 ≤ ht ∧ ht ≤ 20)
    ⟨_, _, _, .pane 1, none, none, none, none, none, none, none, rfl, Same.refl _, .pane 1, good_one, by simp [panes], by simp [panes], by omega, by omega, by omega, by omega⟩ (fun i σ H' _ ⟨_, _, _, _, _, _, _, _, _, _, _, _, g, _⟩ => SqL.of (g _ _ upd_same)) ?_ ?_⟩
  · rintro i x σ H1 hi ⟨wd, ht, v, L, e5, e6, e7, e8, e9, e10, e11, rfl, g1, hL, g, hlen, hle, w0, w1, h0, h1⟩
    obtain ⟨z, ez, rfl⟩ := getMap hi
    have hi' := (List.getElem?_eq_some_iff.mp ez).1
    -- the area may change
    refine ⟨fun σ H' => ∃ (wd ht : Int), σ = [some (.ref a), some (.int wd), some (.int ht), some v, some (.int ((i : Int) + 1)), some (.int z), e6, e7, e8, e9, e10, e11] ∧ H' = H1 ∧ 2 ≤ wd ∧ wd ≤ 40 ∧ 1 ≤ ht ∧ ht ≤ 20, ?_, ?_⟩
    · refine ⟨_, rfl, .inl ⟨z, rfl, _, _, rfl, rfl, ⟨by decide, by decide⟩, _, _, rfl, rfl, (by show (0 : Int) < 5; decide), rfl, _, rfl, ite2 (fun c => ?_) (fun c => ⟨wd, ht, rfl, rfl, w0, w1, h0, h1⟩)⟩⟩
      refine ⟨_, rfl, .inl ⟨z, rfl, _, _, rfl, rfl, ⟨by decide, by decide⟩, _, _, rfl, rfl, (by show (0 : Int) < 39; decide), _, _, rfl, rfl, ?_⟩⟩
      refine ⟨_, rfl, .inl ⟨z, rfl, _, _, rfl, rfl, ⟨by decide, by decide⟩, _, _, rfl, rfl, (by show (0 : Int) < 20; decide), _, _, rfl, rfl, ?_⟩⟩
      exact ⟨_, _, rfl, rfl, by omega, by omega, by omega, by omega⟩
    clear w0 w1 h0 h1 wd ht
    rintro σ H' ⟨wd, ht, rfl, rfl, w0, w1, h0, h1⟩
    -- the step
    refine ⟨_, rfl, _, _, rfl, rfl, ?_⟩
    refine ⟨_, rfl, _, rfl, _, rfl, _, rfl, .inl ⟨z, rfl, _, rfl, v, L, wd, ht, z, _, rfl, hL, g, by omega, by omega, by omega, fun x hx => by have := hle x hx; omega, by omega, by omega, fun H2 t k u L' ks g2 ht2 hk2 hu2 gl perm hle2 hlen2 => ?_⟩⟩
    refine ⟨t, _, rfl, SqT.of ht2, rfl, _, _, rfl, _, _, rfl, rfl, ?_⟩
    have few := gl.few
    have low := gl.low
    -- no pane is lost
    refine ⟨_, rfl, u, L', rfl, hu2, gl.dep, by omega, fun H3 p3 g3 hp3 => ⟨p3, _, rfl, SqL.of hp3, fun n1 q1 pm1 so1 nq1 => ?_⟩⟩
    have s4 := same_new nq1 (HO.lst (n1.map V.int))
    refine ⟨_, rfl, k, ks, rfl, SqL.of (s4 _ _ (g3 _ _ hk2)), fun n2 q2 pm2 so2 nq2 => ?_⟩
    have s5 := same_new nq2 (HO.lst (n2.map V.int))
    have e12 : n1 = n2 := sorted_eq pm1 pm2 perm so1 so2
    subst e12
    refine ⟨q1, q2, n1, rfl, rfl, SqL.of (s5 _ _ upd_same), SqL.of upd_same, false, rfl, iteF ?_⟩
    obtain ⟨H4, eH4⟩ : ∃ H4, H4 = upd (upd H3 q1 (.lst (n1.map V.int))) q2 (.lst (n1.map V.int)) := ⟨_, rfl⟩
    have g4 : Same H2 H4 := by rw [eH4]; exact (g3.trans s4).trans s5
    rw [← eH4]
    -- its boxes, its least size
    refine ⟨_, rfl, _, rfl, _, rfl, u, L', wd, ht, rfl, hu2.mono (tups g4), gl, by omega, by omega, fun H5 f fs g5 hf hfs => ?_⟩
    have hu5 := hu2.mono (tups (g4.trans g5))
    refine ⟨_, rfl, u, L', 1000, rfl, hu5, gl.dep, gl.wf, by omega, fun H6 pl g6 hpl => ?_⟩
    have tl := boxes_tile gl (w := wd) (h := ht) (by omega) (by omega)
    have one := fun x => boxes_one gl (w := wd) (h := ht) x
    have bp := boxes_panes L' wd ht
    have lb : (boxes L' wd ht).length ≤ 16 := by
      have := congrArg List.length bp
      rw [List.length_map] at this
      omega
    obtain ⟨n, hn⟩ : ∃ n : Nat, max wd (least L').1 = (n : Int) := ⟨(max wd (least L').1).toNat, by omega⟩
    obtain ⟨m, hm2⟩ : ∃ m : Nat, max ht (least L').2 = (m : Int) := ⟨(max ht (least L').2).toNat, by omega⟩
    have n100 : n ≤ 100 := by omega
    have m100 : m ≤ 100 := by omega
    rw [hn, hm2] at tl one
    -- the sheet
    refine ⟨_, rfl, _, rfl, _, rfl, pl, _, 0, _, rfl, rfl, hpl.sq, rfl, _, _, rfl, ?_⟩
    refine ⟨_, rfl, _, rfl, pl, _, 1, _, rfl, rfl, hpl.sq, rfl, _, _, rfl, ?_⟩
    rw [max2, max2, hn, hm2]
    have hf6 := g6 _ _ hf
    have hfs6 := hfs.mono (tups g6)
    refine ⟨f, n, m, fs, _, rfl, hf6, hfs6, tl, n100, m100, fun H7 S as g7 sh => ?_⟩
    have hf7 := g7 _ _ hf6
    have hfs7 := hfs6.mono (tups g7)
    have lfs := hfs.len
    refine ⟨_, rfl, rfl, false, by simp, iteF ?_⟩
    -- each pane has one box
    refine ⟨_, rfl, f, rfl, ⟨_, SqL.of hf7⟩, fun D nD => ?_⟩
    refine lc_list (K := K) (a := f) (xs := fs) (fun j H' => Same H7 H' ∧ H' D = some (.lst (((boxes L' wd ht).take j).map fun b => V.int b.pane))) ⟨same_new nD _, upd_same⟩ (fun j H' _ ⟨g, _⟩ => SqL.of (g _ _ hf7)) ?_ ?_
    · rintro j x H' hj ⟨gj, hD⟩
      obtain ⟨b, ab, eb, rfl, hab⟩ := hfs7.at hj
      refine ⟨rfl, yes ⟨_, rfl, ab, _, 0, _, rfl, rfl, SqT.of (gj _ _ hab), rfl, _, hD, small1000 (by rw [List.length_map, List.length_take]; omega), same_grow nD gj, ?_⟩⟩
      rw [upd_same, List.take_add_one, eb, List.map_append]; rfl
    rintro H8 ⟨g8, hD⟩
    rw [← lfs, List.take_length] at hD
    have eD : ((boxes L' wd ht).map fun b => V.int b.pane) = (panes L').map V.int := by rw [← bp, List.map_map]; rfl
    rw [eD] at hD
    have hu8 := hu5.mono (tups ((g6.trans g7).trans g8))
    refine ⟨_, rfl, u, L', rfl, hu8, gl.dep, by omega, fun H9 p9 g9 hp9 => ⟨D, p9, panes L', rfl, rfl, SqL.of (g9 _ _ hD), SqL.of hp9, false, rfl, iteF ?_⟩⟩
    have g79 := g8.trans g9
    have hpl9 := hpl.mono (tups (g7.trans g79))
    -- the borders
    refine ⟨_, rfl, _, rfl, _, rfl, pl, _, 0, _, rfl, rfl, hpl9.sq, rfl, _, _, rfl, ?_⟩
    refine ⟨_, rfl, _, rfl, pl, _, 1, _, rfl, rfl, hpl9.sq, rfl, _, _, rfl, ?_⟩
    rw [max2, max2, hn, hm2]
    refine ⟨S, n, m, as, _, rfl, sh.same g79, tl.cond, n100, m100, fun H10 g10 => ⟨true, rfl, iteF ?_⟩⟩
    have g710 := g79.trans g10
    have hf10 := g710 _ _ hf7
    have hfs10 := hfs7.mono (tups g710)
    have hpl10 := hpl9.mono (tups g10)
    -- what is covered
    refine ⟨_, rfl, f, rfl, ⟨_, SqL.of hf10⟩, fun D2 nD2 => ?_⟩
    refine lc_list (K := K) (a := f) (xs := fs) (fun j H' => Same H10 H' ∧ H' D2 = some (.lst (((boxes L' wd ht).take j).map fun b => V.int (b.wide * b.high)))) ⟨same_new nD2 _, upd_same⟩ (fun j H' _ ⟨g, _⟩ => SqL.of (g _ _ hf10)) ?_ ?_
    · rintro j x H' hj ⟨gj, hD⟩
      obtain ⟨b, ab, eb, rfl, hab⟩ := hfs10.at hj
      have ib := tl.ins b (List.mem_of_getElem? eb)
      unfold Ins at ib
      have hab' := gj _ _ hab
      refine ⟨rfl, yes ⟨_, rfl, ab, _, 3, _, rfl, rfl, SqT.of hab', rfl, _, rfl, ab, _, 4, _, rfl, rfl, SqT.of hab', rfl, _, _, rfl, rfl, .inl ⟨by omega, by omega⟩, _, hD, small1000 (by rw [List.length_map, List.length_take]; omega), same_grow nD2 gj, ?_⟩⟩
      rw [upd_same, List.take_add_one, eb, List.map_append]; rfl
    rintro H11 ⟨g11, hD2⟩
    rw [← lfs, List.take_length] at hD2
    have eD2 : ((boxes L' wd ht).map fun b => V.int (b.wide * b.high)) = ((boxes L' wd ht).map fun b => b.wide * b.high).map V.int := by rw [List.map_map]; rfl
    rw [eD2] at hD2
    refine ⟨D2, _, rfl, SqL.of hD2, ?_⟩
    have hf11 := g11 _ _ hf10
    have hpl11 := hpl10.mono (tups g11)
    have fin : Same (upd H p (.lst (ms.map V.int))) H11 := ((((g1.trans g2).trans (g4.trans g5)).trans (g6.trans g7)).trans g710).trans g11
    have hu11 := hu8.mono (tups ((g9.trans g10).trans g11))
    have last : ∀ eb : Option V, ∃ (wd' ht' : Int) (v : V) (L : Lt) (e5 e6 e7 e8 e9 e10 e11 : Option V), [some (.ref a), some (.int wd), some (.int ht), some u, some (.int ((i : Int) + 1 + 1)), some (.int z), some (.ref k), some (.ref f), some (.ref pl), some (.ref S), some (.int ((boxes L' wd ht).map fun b => b.wide * b.high).sum), eb] = [some (.ref a), some (.int wd'), some (.int ht'), some v, some (.int (((i + 1 : Nat) : Int) + 1)), e5, e6, e7, e8, e9, e10, e11] ∧
      Same (upd H p (.lst (ms.map V.int))) H11 ∧ LV H11 L v ∧ Good L ∧ (panes L).length ≤ (i + 1) + 1 ∧ (∀ x ∈ panes L, x ≤ ((i + 1 : Nat) : Int) + 1) ∧ 2 ≤ wd' ∧ wd' ≤ 40 ∧ 1 ≤ ht' ∧ ht' ≤ 20 :=
      fun eb => ⟨wd, ht, u, L', _, _, _, _, _, _, _, rfl, fin, hu11, gl, by omega, fun x hx => by have := hle2 x hx; omega, w0, w1, h0, h1⟩
    -- a pane alone has all of the area
    refine ⟨_, rfl, f, _, rfl, .inl (SqL.of hf11), rfl, _, rfl, ite2 (fun c => ?_) (fun c => iteF (last _))⟩
    have c' : ((fs.length : Nat) : Int) = 1 := V.int.inj (of_decide_eq_true c)
    obtain ⟨j, ej⟩ := one (by omega)
    refine ⟨_, rfl, _, rfl, _, rfl, pl, _, 0, _, rfl, rfl, hpl11.sq, rfl, _, _, rfl, ?_⟩
    refine ⟨_, rfl, _, rfl, pl, _, 1, _, rfl, rfl, hpl11.sq, rfl, _, _, rfl, ?_⟩
    rw [max2, max2, hn, hm2]
    refine ⟨_, _, rfl, rfl, .inl ⟨by omega, by omega⟩, rfl, false, ?_, iteF (last _)⟩
    rw [ej]
    simp
  · rintro σ H1 ⟨wd, ht, v, L, e5, e6, e7, e8, e9, e10, e11, rfl, g1, hL, g, hlen, hle, w0, w1, h0, h1⟩
    refine ⟨_, rfl, _, rfl, _, rfl, v, L, wd, ht, rfl, hL, g.dep, g.wf, g.few, by omega, by omega, fun H2 u1 g2 k1 => ?_⟩
    refine ⟨_, rfl, _, rfl, _, rfl, v, L, wd, ht, rfl, hL.mono (tups g2), g.dep, g.wf, g.few, by omega, by omega, fun H3 u2 g3 k2 => ?_⟩
    have gf := g.fitted (w := wd) (h := ht) (by omega) (by omega)
    refine ⟨_, rfl, _, rfl, u2, fitted L wd ht, wd, ht, rfl, k2, gf.dep, gf.wf, gf.few, by omega, by omega, fun H4 u3 g4 k3 => ?_⟩
    rw [fitted_again L g.wf] at k3
    exact ⟨fitted L wd ht, k1.mono (tups (g3.trans g4)), k3, gf.dep, q _⟩
end
end Mp
namespace Mp
open PySem PySem.Spec PyProof.Rows L2
theorem walk {l : PySem.W.OpenLaw} {q : Program} {loose : List Str} {XP : (Str → Option Value) → Heap → Prop} {YP : World → Heap → Prop} {d : DefRec} {K : Params → PySem.W.Frag} (hn : l.most = some 63) (hdf : d.params.defaults = [])
    (hY : ∀ (w : World) (h : Heap), YP w h → (K w.params).In h)
    (F : ∀ (w : World) (mg : Str → Option Value) (fa : Addr) (h : Heap), (K w.params).In h → h.Ns mainGlobals mg → mg d.name = some (.ref fa) →
      ∃ fd : FuncData, (∀ (s : Shared) (u : Value), BindsTo s fd ⟨[u], []⟩ [("_law_script", u)]) ∧ ∀ base : Heap, (K w.params).In base → base.Ns mainGlobals mg → FnOk l.prog w (K w.params) mg base CX0 100 fa fd ["_law_script"] (spLaw0 (K w.params))) :
    PySem.W.WalkO q loose XP YP l.row.toRowW d [] (fun f vs => PySem.call f vs) :=
  L2.walk_of (n := 63) (k := 100) (x := "_law_script") (CX := fun _ => CX0) (sp := fun w => spLaw0 (K w.params)) hn (by decide) hdf ⟨rfl, by decide, by decide⟩ hY F (fun _ _ a ns hl _ hS => ⟨a, ns, rfl, hS, hl, fun _ => rfl⟩) fun _ _ _ _ _ z => z
theorem law_end {P : Program} {w : World} {K : PySem.W.Frag} {mg : Str → Option Value} {fa : Addr} (hmg : mg "law" = some (.ref fa)) (T : Txt K w mg) :
    ∃ fd : FuncData, (∀ (s : Shared) (u : Value), BindsTo s fd ⟨[u], []⟩ [("_law_script", u)]) ∧ ∀ base : Heap, K.In base → base.Ns mainGlobals mg → FnOk P w K mg base CX0 100 fa fd ["_law_script"] (spLaw0 K) := by
  obtain ⟨f, fd, m, F, b⟩ := T.dLaw.raw
  have e : f = fa := by
    have z := m.symm.trans hmg
    injection z with z
    injection z
  subst e
  exact ⟨fd, fun s u => BindsTo.of_eq (b [u] rfl), fun base _ _ => (ok_law T F).mono (by omega)⟩
theorem txt_mk {w : World} {K : PySem.W.Frag} {h : Heap} {mg : Str → Option Value} (X : K.In h) (G : h.Ns mainGlobals mg)
    {f0 : Addr} {oc0 kV0 dc0 pm0 cd0 ct0 : Value} {od0 an0 : Option Addr} {sl0 : Array (Option Value)}
    (a0 : PySem.W.nsIn K mainGlobals "panes" = some (some (.ref f0)))
    (l0 : K.lookup f0 = some ⟨oc0, od0, .func (PySem.W.fnOf "panes" "panes" (defArgs sPanes) (defBody sPanes) (defScope sPanes) .none kV0 dc0 pm0 an0 cd0 ct0), sl0⟩)
    (c0 : PySem.W.codeIn K cd0 "panes" = true) (k0 : PySem.W.keepIn K (.ref f0) = true)
    {f1 : Addr} {oc1 kV1 dc1 pm1 cd1 ct1 : Value} {od1 an1 : Option Addr} {sl1 : Array (Option Value)}
    (a1 : PySem.W.nsIn K mainGlobals "axis_of" = some (some (.ref f1)))
    (l1 : K.lookup f1 = some ⟨oc1, od1, .func (PySem.W.fnOf "axis_of" "axis_of" (defArgs sAxis) (defBody sAxis) (defScope sAxis) .none kV1 dc1 pm1 an1 cd1 ct1), sl1⟩)
    (c1 : PySem.W.codeIn K cd1 "axis_of" = true) (k1 : PySem.W.keepIn K (.ref f1) = true)
    {f2 : Addr} {oc2 kV2 dc2 pm2 cd2 ct2 : Value} {od2 an2 : Option Addr} {sl2 : Array (Option Value)}
    (a2 : PySem.W.nsIn K mainGlobals "least" = some (some (.ref f2)))
    (l2 : K.lookup f2 = some ⟨oc2, od2, .func (PySem.W.fnOf "least" "least" (defArgs sLeast) (defBody sLeast) (defScope sLeast) .none kV2 dc2 pm2 an2 cd2 ct2), sl2⟩)
    (c2 : PySem.W.codeIn K cd2 "least" = true) (k2 : PySem.W.keepIn K (.ref f2) = true)
    {f3 : Addr} {oc3 kV3 dc3 pm3 cd3 ct3 : Value} {od3 an3 : Option Addr} {sl3 : Array (Option Value)}
    (a3 : PySem.W.nsIn K mainGlobals "share" = some (some (.ref f3)))
    (l3 : K.lookup f3 = some ⟨oc3, od3, .func (PySem.W.fnOf "share" "share" (defArgs sShare) (defBody sShare) (defScope sShare) .none kV3 dc3 pm3 an3 cd3 ct3), sl3⟩)
    (c3 : PySem.W.codeIn K cd3 "share" = true) (k3 : PySem.W.keepIn K (.ref f3) = true)
    {f4 : Addr} {oc4 kV4 dc4 pm4 cd4 ct4 : Value} {od4 an4 : Option Addr} {sl4 : Array (Option Value)}
    (a4 : PySem.W.nsIn K mainGlobals "fitted" = some (some (.ref f4)))
    (l4 : K.lookup f4 = some ⟨oc4, od4, .func (PySem.W.fnOf "fitted" "fitted" (defArgs sFitted) (defBody sFitted) (defScope sFitted) .none kV4 dc4 pm4 an4 cd4 ct4), sl4⟩)
    (c4 : PySem.W.codeIn K cd4 "fitted" = true) (k4 : PySem.W.keepIn K (.ref f4) = true)
    {f5 : Addr} {oc5 kV5 dc5 pm5 cd5 ct5 : Value} {od5 an5 : Option Addr} {sl5 : Array (Option Value)}
    (a5 : PySem.W.nsIn K mainGlobals "placed" = some (some (.ref f5)))
    (l5 : K.lookup f5 = some ⟨oc5, od5, .func (PySem.W.fnOf "placed" "placed" (defArgs sPlaced) (defBody sPlaced) (defScope sPlaced) .none kV5 dc5 pm5 an5 cd5 ct5), sl5⟩)
    (c5 : PySem.W.codeIn K cd5 "placed" = true) (k5 : PySem.W.keepIn K (.ref f5) = true)
    {f6 : Addr} {oc6 kV6 dc6 pm6 cd6 ct6 : Value} {od6 an6 : Option Addr} {sl6 : Array (Option Value)}
    (a6 : PySem.W.nsIn K mainGlobals "placed_whole" = some (some (.ref f6)))
    (l6 : K.lookup f6 = some ⟨oc6, od6, .func (PySem.W.fnOf "placed_whole" "placed_whole" (defArgs sWhole) (defBody sWhole) (defScope sWhole) .none kV6 dc6 pm6 an6 cd6 ct6), sl6⟩)
    (c6 : PySem.W.codeIn K cd6 "placed_whole" = true) (k6 : PySem.W.keepIn K (.ref f6) = true)
    {f7 : Addr} {oc7 kV7 dc7 pm7 cd7 ct7 : Value} {od7 an7 : Option Addr} {sl7 : Array (Option Value)}
    (a7 : PySem.W.nsIn K mainGlobals "boxes" = some (some (.ref f7)))
    (l7 : K.lookup f7 = some ⟨oc7, od7, .func (PySem.W.fnOf "boxes" "boxes" (defArgs sBoxes) (defBody sBoxes) (defScope sBoxes) .none kV7 dc7 pm7 an7 cd7 ct7), sl7⟩)
    (c7 : PySem.W.codeIn K cd7 "boxes" = true) (k7 : PySem.W.keepIn K (.ref f7) = true)
    {f8 : Addr} {oc8 kV8 dc8 pm8 cd8 ct8 : Value} {od8 an8 : Option Addr} {sl8 : Array (Option Value)}
    (a8 : PySem.W.nsIn K mainGlobals "size_of" = some (some (.ref f8)))
    (l8 : K.lookup f8 = some ⟨oc8, od8, .func (PySem.W.fnOf "size_of" "size_of" (defArgs sSizeOf) (defBody sSizeOf) (defScope sSizeOf) .none kV8 dc8 pm8 an8 cd8 ct8), sl8⟩)
    (c8 : PySem.W.codeIn K cd8 "size_of" = true) (k8 : PySem.W.keepIn K (.ref f8) = true)
    {f9 : Addr} {oc9 kV9 dc9 pm9 cd9 ct9 : Value} {od9 an9 : Option Addr} {sl9 : Array (Option Value)}
    (a9 : PySem.W.nsIn K mainGlobals "with_new" = some (some (.ref f9)))
    (l9 : K.lookup f9 = some ⟨oc9, od9, .func (PySem.W.fnOf "with_new" "with_new" (defArgs sWithNew) (defBody sWithNew) (defScope sWithNew) .none kV9 dc9 pm9 an9 cd9 ct9), sl9⟩)
    (c9 : PySem.W.codeIn K cd9 "with_new" = true) (k9 : PySem.W.keepIn K (.ref f9) = true)
    {f10 : Addr} {oc10 kV10 dc10 pm10 cd10 ct10 : Value} {od10 an10 : Option Addr} {sl10 : Array (Option Value)}
    (a10 : PySem.W.nsIn K mainGlobals "divided" = some (some (.ref f10)))
    (l10 : K.lookup f10 = some ⟨oc10, od10, .func (PySem.W.fnOf "divided" "divided" (defArgs sDivided) (defBody sDivided) (defScope sDivided) .none kV10 dc10 pm10 an10 cd10 ct10), sl10⟩)
    (c10 : PySem.W.codeIn K cd10 "divided" = true) (k10 : PySem.W.keepIn K (.ref f10) = true)
    {f11 : Addr} {oc11 kV11 dc11 pm11 cd11 ct11 : Value} {od11 an11 : Option Addr} {sl11 : Array (Option Value)}
    (a11 : PySem.W.nsIn K mainGlobals "dropped" = some (some (.ref f11)))
    (l11 : K.lookup f11 = some ⟨oc11, od11, .func (PySem.W.fnOf "dropped" "dropped" (defArgs sDropped) (defBody sDropped) (defScope sDropped) .none kV11 dc11 pm11 an11 cd11 ct11), sl11⟩)
    (c11 : PySem.W.codeIn K cd11 "dropped" = true) (k11 : PySem.W.keepIn K (.ref f11) = true)
    {f12 : Addr} {oc12 kV12 dc12 pm12 cd12 ct12 : Value} {od12 an12 : Option Addr} {sl12 : Array (Option Value)}
    (a12 : PySem.W.nsIn K mainGlobals "taken_out" = some (some (.ref f12)))
    (l12 : K.lookup f12 = some ⟨oc12, od12, .func (PySem.W.fnOf "taken_out" "taken_out" (defArgs sTakenOut) (defBody sTakenOut) (defScope sTakenOut) .none kV12 dc12 pm12 an12 cd12 ct12), sl12⟩)
    (c12 : PySem.W.codeIn K cd12 "taken_out" = true) (k12 : PySem.W.keepIn K (.ref f12) = true)
    {f13 : Addr} {oc13 kV13 dc13 pm13 cd13 ct13 : Value} {od13 an13 : Option Addr} {sl13 : Array (Option Value)}
    (a13 : PySem.W.nsIn K mainGlobals "without" = some (some (.ref f13)))
    (l13 : K.lookup f13 = some ⟨oc13, od13, .func (PySem.W.fnOf "without" "without" (defArgs sWithout) (defBody sWithout) (defScope sWithout) .none kV13 dc13 pm13 an13 cd13 ct13), sl13⟩)
    (c13 : PySem.W.codeIn K cd13 "without" = true) (k13 : PySem.W.keepIn K (.ref f13) = true)
    {f14 : Addr} {oc14 kV14 dc14 pm14 cd14 ct14 : Value} {od14 an14 : Option Addr} {sl14 : Array (Option Value)}
    (a14 : PySem.W.nsIn K mainGlobals "shifted" = some (some (.ref f14)))
    (l14 : K.lookup f14 = some ⟨oc14, od14, .func (PySem.W.fnOf "shifted" "shifted" (defArgs sShifted) (defBody sShifted) (defScope sShifted) .none kV14 dc14 pm14 an14 cd14 ct14), sl14⟩)
    (c14 : PySem.W.codeIn K cd14 "shifted" = true) (k14 : PySem.W.keepIn K (.ref f14) = true)
    {f15 : Addr} {oc15 kV15 dc15 pm15 cd15 ct15 : Value} {od15 an15 : Option Addr} {sl15 : Array (Option Value)}
    (a15 : PySem.W.nsIn K mainGlobals "with_border" = some (some (.ref f15)))
    (l15 : K.lookup f15 = some ⟨oc15, od15, .func (PySem.W.fnOf "with_border" "with_border" (defArgs sWithBorder) (defBody sWithBorder) (defScope sWithBorder) .none kV15 dc15 pm15 an15 cd15 ct15), sl15⟩)
    (c15 : PySem.W.codeIn K cd15 "with_border" = true) (k15 : PySem.W.keepIn K (.ref f15) = true)
    {f16 : Addr} {oc16 kV16 dc16 pm16 cd16 ct16 : Value} {od16 an16 : Option Addr} {sl16 : Array (Option Value)}
    (a16 : PySem.W.nsIn K mainGlobals "moved" = some (some (.ref f16)))
    (l16 : K.lookup f16 = some ⟨oc16, od16, .func (PySem.W.fnOf "moved" "moved" (defArgs sMoved) (defBody sMoved) (defScope sMoved) .none kV16 dc16 pm16 an16 cd16 ct16), sl16⟩)
    (c16 : PySem.W.codeIn K cd16 "moved" = true) (k16 : PySem.W.keepIn K (.ref f16) = true)
    {f17 : Addr} {oc17 kV17 dc17 pm17 cd17 ct17 : Value} {od17 an17 : Option Addr} {sl17 : Array (Option Value)}
    (a17 : PySem.W.nsIn K mainGlobals "_law_cell" = some (some (.ref f17)))
    (l17 : K.lookup f17 = some ⟨oc17, od17, .func (PySem.W.fnOf "_law_cell" "_law_cell" (defArgs sCell) (defBody sCell) (defScope sCell) .none kV17 dc17 pm17 an17 cd17 ct17), sl17⟩)
    (c17 : PySem.W.codeIn K cd17 "_law_cell" = true) (k17 : PySem.W.keepIn K (.ref f17) = true)
    {f18 : Addr} {oc18 kV18 dc18 pm18 cd18 ct18 : Value} {od18 an18 : Option Addr} {sl18 : Array (Option Value)}
    (a18 : PySem.W.nsIn K mainGlobals "_law_step" = some (some (.ref f18)))
    (l18 : K.lookup f18 = some ⟨oc18, od18, .func (PySem.W.fnOf "_law_step" "_law_step" (defArgs sStep) (defBody sStep) (defScope sStep) .none kV18 dc18 pm18 an18 cd18 ct18), sl18⟩)
    (c18 : PySem.W.codeIn K cd18 "_law_step" = true) (k18 : PySem.W.keepIn K (.ref f18) = true)
    {f19 : Addr} {oc19 kV19 dc19 pm19 cd19 ct19 : Value} {od19 an19 : Option Addr} {sl19 : Array (Option Value)}
    (a19 : PySem.W.nsIn K mainGlobals "_law_sheet" = some (some (.ref f19)))
    (l19 : K.lookup f19 = some ⟨oc19, od19, .func (PySem.W.fnOf "_law_sheet" "_law_sheet" (defArgs sSheet) (defBody sSheet) (defScope sSheet) .none kV19 dc19 pm19 an19 cd19 ct19), sl19⟩)
    (c19 : PySem.W.codeIn K cd19 "_law_sheet" = true) (k19 : PySem.W.keepIn K (.ref f19) = true)
    {f20 : Addr} {oc20 kV20 dc20 pm20 cd20 ct20 : Value} {od20 an20 : Option Addr} {sl20 : Array (Option Value)}
    (a20 : PySem.W.nsIn K mainGlobals "_law_borders_right" = some (some (.ref f20)))
    (l20 : K.lookup f20 = some ⟨oc20, od20, .func (PySem.W.fnOf "_law_borders_right" "_law_borders_right" (defArgs sBorders) (defBody sBorders) (defScope sBorders) .none kV20 dc20 pm20 an20 cd20 ct20), sl20⟩)
    (c20 : PySem.W.codeIn K cd20 "_law_borders_right" = true) (k20 : PySem.W.keepIn K (.ref f20) = true)
    {f21 : Addr} {oc21 kV21 dc21 pm21 cd21 ct21 : Value} {od21 an21 : Option Addr} {sl21 : Array (Option Value)}
    (a21 : PySem.W.nsIn K mainGlobals "law" = some (some (.ref f21)))
    (l21 : K.lookup f21 = some ⟨oc21, od21, .func (PySem.W.fnOf "law" "law" (defArgs sLaw) (defBody sLaw) (defScope sLaw) .none kV21 dc21 pm21 an21 cd21 ct21), sl21⟩)
    (c21 : PySem.W.codeIn K cd21 "law" = true) (k21 : PySem.W.keepIn K (.ref f21) = true)
    (z_isinstance : PySem.W.nsIn K mainGlobals "isinstance" = some none)
    (z_int : PySem.W.nsIn K mainGlobals "int" = some none)
    (z_len : PySem.W.nsIn K mainGlobals "len" = some none)
    (z_zip : PySem.W.nsIn K mainGlobals "zip" = some none)
    (z_enumerate : PySem.W.nsIn K mainGlobals "enumerate" = some none)
    (z_max : PySem.W.nsIn K mainGlobals "max" = some none)
    (z_min : PySem.W.nsIn K mainGlobals "min" = some none)
    (z_sum : PySem.W.nsIn K mainGlobals "sum" = some none)
    (z_tuple : PySem.W.nsIn K mainGlobals "tuple" = some none)
    (z_range : PySem.W.nsIn K mainGlobals "range" = some none)
    (z_sorted : PySem.W.nsIn K mainGlobals "sorted" = some none)
    {tB : Tok} (gB : PySem.W.nsIn K mainGlobals "BESIDE" = some (some (.str "beside" tB)))
    {aP : Addr} (gP : PySem.W.nsIn K mainGlobals "LEAST_PANE" = some (some (.ref aP)))
    {oP : Option Addr} {nP : Nat} {sP : Array (Option Value)} {tP uP : Tok} (lP : K.lookup aP = some ⟨.type "tuple", oP, .seq #[.int 2 tP, .int 1 uP] nP, sP⟩)
    {aS : Addr} (gS : PySem.W.nsIn K mainGlobals "LEAST_SPLIT" = some (some (.ref aS)))
    {es : Array DictEntry} {nS : Nat} (lS : K.lookup aS = some ⟨.type "dict", none, .dict es nS, #[]⟩) (yS : PySem.W.KeysLit w.params es.toList)
    {tS uS : Tok} (bS : PySem.W.nsIn K aS "beside" = some (some (.int 5 tS))) (eS : PySem.W.nsIn K aS "below" = some (some (.int 3 uS)))
    {C : Addr} (aC : PySem.W.nsIn K mainGlobals "NoRoom" = some (some (.ref C)))
    (xC : PySem.W.excIn K C [.type "ValueError", .type "Exception", .type "BaseException", .type "object"] "ValueError.__new__" = true)
    (kC : PySem.W.keepIn K (.ref C) = true) (eC : PySem.W.subIn K (.ref C) (.type "BaseException") = some true) (tC : PySem.W.typeIn K (.ref C) = some (.type "type")) (iC : PySem.W.isClsIn K C = true) (sC : PySem.W.subIn K (.ref C) (.ref C) = some true) : Txt K w mg where
  dPanes := df_mk (PySem.W.mg_of X G a0) (fun_mk (st := sPanes) l0 c0 k0) fun _ _ _ _ _ _ us hl => match us, hl with | [_], _ => rfl
  dAxis := df_mk (PySem.W.mg_of X G a1) (fun_mk (st := sAxis) l1 c1 k1) fun _ _ _ _ _ _ us hl => match us, hl with | [_], _ => rfl
  dLeast := df_mk (PySem.W.mg_of X G a2) (fun_mk (st := sLeast) l2 c2 k2) fun _ _ _ _ _ _ us hl => match us, hl with | [_], _ => rfl
  dShare := df_mk (PySem.W.mg_of X G a3) (fun_mk (st := sShare) l3 c3 k3) fun _ _ _ _ _ _ us hl => match us, hl with | [_, _, _], _ => rfl
  dFitted := df_mk (PySem.W.mg_of X G a4) (fun_mk (st := sFitted) l4 c4 k4) fun _ _ _ _ _ _ us hl => match us, hl with | [_, _, _], _ => rfl
  dPlaced := df_mk (PySem.W.mg_of X G a5) (fun_mk (st := sPlaced) l5 c5 k5) fun _ _ _ _ _ _ us hl => match us, hl with | [_, _, _, _, _], _ => rfl
  dWhole := df_mk (PySem.W.mg_of X G a6) (fun_mk (st := sWhole) l6 c6 k6) fun _ _ _ _ _ _ us hl => match us, hl with | [_, _, _], _ => rfl
  dBoxes := df_mk (PySem.W.mg_of X G a7) (fun_mk (st := sBoxes) l7 c7 k7) fun _ _ _ _ _ _ us hl => match us, hl with | [_, _, _], _ => rfl
  dSizeOf := df_mk (PySem.W.mg_of X G a8) (fun_mk (st := sSizeOf) l8 c8 k8) fun _ _ _ _ _ _ us hl => match us, hl with | [_, _, _, _, _], _ => rfl
  dWithNew := df_mk (PySem.W.mg_of X G a9) (fun_mk (st := sWithNew) l9 c9 k9) fun _ _ _ _ _ _ us hl => match us, hl with | [_, _, _, _, _], _ => rfl
  dDivided := df_mk (PySem.W.mg_of X G a10) (fun_mk (st := sDivided) l10 c10 k10) fun _ _ _ _ _ _ us hl => match us, hl with | [_, _, _, _, _, _], _ => rfl
  dDropped := df_mk (PySem.W.mg_of X G a11) (fun_mk (st := sDropped) l11 c11 k11) fun _ _ _ _ _ _ us hl => match us, hl with | [_, _], _ => rfl
  dTakenOut := df_mk (PySem.W.mg_of X G a12) (fun_mk (st := sTakenOut) l12 c12 k12) fun _ _ _ _ _ _ us hl => match us, hl with | [_, _], _ => rfl
  dWithout := df_mk (PySem.W.mg_of X G a13) (fun_mk (st := sWithout) l13 c13 k13) fun _ _ _ _ _ _ us hl => match us, hl with | [_, _, _, _], _ => rfl
  dShifted := df_mk (PySem.W.mg_of X G a14) (fun_mk (st := sShifted) l14 c14 k14) fun _ _ _ _ _ _ us hl => match us, hl with | [_, _, _, _], _ => rfl
  dWithBorder := df_mk (PySem.W.mg_of X G a15) (fun_mk (st := sWithBorder) l15 c15 k15) fun _ _ _ _ _ _ us hl => match us, hl with | [_, _, _, _], _ => rfl
  dMoved := df_mk (PySem.W.mg_of X G a16) (fun_mk (st := sMoved) l16 c16 k16) fun _ _ _ _ _ _ us hl => match us, hl with | [_, _, _, _, _, _], _ => rfl
  dCell := df_mk (PySem.W.mg_of X G a17) (fun_mk (st := sCell) l17 c17 k17) fun _ _ _ _ _ _ us hl => match us, hl with | [_, _], _ => rfl
  dStep := df_mk (PySem.W.mg_of X G a18) (fun_mk (st := sStep) l18 c18 k18) fun _ _ _ _ _ _ us hl => match us, hl with | [_, _, _, _, _], _ => rfl
  dSheet := df_mk (PySem.W.mg_of X G a19) (fun_mk (st := sSheet) l19 c19 k19) fun _ _ _ _ _ _ us hl => match us, hl with | [_, _, _], _ => rfl
  dBorders := df_mk (PySem.W.mg_of X G a20) (fun_mk (st := sBorders) l20 c20 k20) fun _ _ _ _ _ _ us hl => match us, hl with | [_, _, _], _ => rfl
  dLaw := df_mk (PySem.W.mg_of X G a21) (fun_mk (st := sLaw) l21 c21 k21) fun _ _ _ _ _ _ us hl => match us, hl with | [_], _ => rfl
  f_isinstance := PySem.W.mg_none_of X G z_isinstance
  f_int := PySem.W.mg_none_of X G z_int
  f_len := PySem.W.mg_none_of X G z_len
  f_zip := PySem.W.mg_none_of X G z_zip
  f_enumerate := PySem.W.mg_none_of X G z_enumerate
  f_max := PySem.W.mg_none_of X G z_max
  f_min := PySem.W.mg_none_of X G z_min
  f_sum := PySem.W.mg_none_of X G z_sum
  f_tuple := PySem.W.mg_none_of X G z_tuple
  f_range := PySem.W.mg_none_of X G z_range
  f_sorted := PySem.W.mg_none_of X G z_sorted
  cBeside := ⟨tB, PySem.W.mg_of X G gB⟩
  cPane := ⟨aP, PySem.W.mg_of X G gP, fun H => .inr ⟨_, _, _, lP, rfl, rfl, (by show 2 ≤ sizeLine; decide +kernel), .cons ⟨_, rfl⟩ (.cons ⟨_, rfl⟩ .nil)⟩⟩
  cSplit := ⟨aS, PySem.W.mg_of X G gS, ⟨_, _, _, lS, yS, bS, ⟨_, rfl⟩⟩, ⟨_, _, _, lS, yS, eS, ⟨_, rfl⟩⟩⟩
  cRoom := ⟨C, ⟨PySem.W.mg_of X G aC, xC, kC, eC, tC, exm_me eC iC tC sC⟩⟩
end Mp
open PySem PySem.W PyProof.Rows
set_option maxRecDepth 100000 in
set_option maxHeartbeats 0 in
theorem PySem.Challenge.cw_manypanes_k25_whole_layouts_tile_the_are_holds : PySem.Challenge.rw_manypanes_k25_whole_layouts_tile_the_are.Holds := by
  w_on; o_law; k_head; (case hw => w_witness2)
  k_fill
  refine Mp.walk (l := PySem.Challenge.rw_manypanes_k25_whole_layouts_tile_the_are) rfl rfl (fun w h Y => PySem.W.kIn_of Y) ?F
  case F =>
    intro w mg fa h KX G hmg
    refine Mp.law_end hmg ?T
    case T =>
      refine' Mp.txt_mk KX G ?a0 ?l0 ?c0 ?k0 ?a1 ?l1 ?c1 ?k1 ?a2 ?l2 ?c2 ?k2 ?a3 ?l3 ?c3 ?k3 ?a4 ?l4 ?c4 ?k4 ?a5 ?l5 ?c5 ?k5 ?a6 ?l6 ?c6 ?k6 ?a7 ?l7 ?c7 ?k7 ?a8 ?l8 ?c8 ?k8 ?a9 ?l9 ?c9 ?k9 ?a10 ?l10 ?c10 ?k10 ?a11 ?l11 ?c11 ?k11 ?a12 ?l12 ?c12 ?k12 ?a13 ?l13 ?c13 ?k13 ?a14 ?l14 ?c14 ?k14 ?a15 ?l15 ?c15 ?k15 ?a16 ?l16 ?c16 ?k16 ?a17 ?l17 ?c17 ?k17 ?a18 ?l18 ?c18 ?k18 ?a19 ?l19 ?c19 ?k19 ?a20 ?l20 ?c20 ?k20 ?a21 ?l21 ?c21 ?k21 ?z_isinstance ?z_int ?z_len ?z_zip ?z_enumerate ?z_max ?z_min ?z_sum ?z_tuple ?z_range ?z_sorted ?gB ?gP ?lP ?gS ?lS ?yS ?bS ?eS ?aC ?xC ?kC ?eC ?tC ?iC ?sC
      (case a0 => k_is)
      (case l0 => k_is)
      (case c0 => k_is)
      (case k0 => k_is)
      (case a1 => k_is)
      (case l1 => k_is)
      (case c1 => k_is)
      (case k1 => k_is)
      (case a2 => k_is)
      (case l2 => k_is)
      (case c2 => k_is)
      (case k2 => k_is)
      (case a3 => k_is)
      (case l3 => k_is)
      (case c3 => k_is)
      (case k3 => k_is)
      (case a4 => k_is)
      (case l4 => k_is)
      (case c4 => k_is)
      (case k4 => k_is)
      (case a5 => k_is)
      (case l5 => k_is)
      (case c5 => k_is)
      (case k5 => k_is)
      (case a6 => k_is)
      (case l6 => k_is)
      (case c6 => k_is)
      (case k6 => k_is)
      (case a7 => k_is)
      (case l7 => k_is)
      (case c7 => k_is)
      (case k7 => k_is)
      (case a8 => k_is)
      (case l8 => k_is)
      (case c8 => k_is)
      (case k8 => k_is)
      (case a9 => k_is)
      (case l9 => k_is)
      (case c9 => k_is)
      (case k9 => k_is)
      (case a10 => k_is)
      (case l10 => k_is)
      (case c10 => k_is)
      (case k10 => k_is)
      (case a11 => k_is)
      (case l11 => k_is)
      (case c11 => k_is)
      (case k11 => k_is)
      (case a12 => k_is)
      (case l12 => k_is)
      (case c12 => k_is)
      (case k12 => k_is)
      (case a13 => k_is)
      (case l13 => k_is)
      (case c13 => k_is)
      (case k13 => k_is)
      (case a14 => k_is)
      (case l14 => k_is)
      (case c14 => k_is)
      (case k14 => k_is)
      (case a15 => k_is)
      (case l15 => k_is)
      (case c15 => k_is)
      (case k15 => k_is)
      (case a16 => k_is)
      (case l16 => k_is)
      (case c16 => k_is)
      (case k16 => k_is)
      (case a17 => k_is)
      (case l17 => k_is)
      (case c17 => k_is)
      (case k17 => k_is)
      (case a18 => k_is)
      (case l18 => k_is)
      (case c18 => k_is)
      (case k18 => k_is)
      (case a19 => k_is)
      (case l19 => k_is)
      (case c19 => k_is)
      (case k19 => k_is)
      (case a20 => k_is)
      (case l20 => k_is)
      (case c20 => k_is)
      (case k20 => k_is)
      (case a21 => k_is)
      (case l21 => k_is)
      (case c21 => k_is)
      (case k21 => k_is)
      (case z_isinstance => k_is)
      (case z_int => k_is)
      (case z_len => k_is)
      (case z_zip => k_is)
      (case z_enumerate => k_is)
      (case z_max => k_is)
      (case z_min => k_is)
      (case z_sum => k_is)
      (case z_tuple => k_is)
      (case z_range => k_is)
      (case z_sorted => k_is)
      (case gB => k_is)
      (case gP => k_is)
      (case lP => k_is)
      (case gS => k_is)
      (case lS => k_is)
      (case yS => first | exact ⟨⟨_, _, rfl, rfl⟩, ⟨_, _, rfl, rfl⟩, trivial⟩ | k_is)
      (case bS => k_is)
      (case eS => k_is)
      (case aC => k_is)
      (case xC => first | k_exc | k_is)
      (case kC => k_is)
      (case eC => k_is)
      (case tC => k_is)
      (case iC => k_is)
      (case sC => first | rfl | k_is)
