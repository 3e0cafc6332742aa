import PyProof.Rows.All
import Wide.All
import OpenK.AllK
import Wide.FinOn
import HandS.ForMost
import HandS.Walk
import KE.GoesNew
import HandS.SetFor
import HandS.Strs
import HandS.Style
import HandS.TupAny
import HandS.DictComp
import PyProof.TupleOfSeq
import HandS.Codes
import HandS.IsInst
import KE.KEqSeq
import HandS.Conv
import PySem.Challenge.RW_chipfloor_k35_whole_lengths_in_a_row
set_option Elab.async false
set_option linter.all false
set_option maxRecDepth 100000
set_option maxHeartbeats 8000000
/-! The plain law: lengths of nets in a row and the gaps that they cross. -/
namespace CF
/-! ### places -/
theorem idx_at : ∀ {o : List Int} {i : Nat} {c : Int}, o.Nodup → o[i]? = some c → o.idxOf c = i
  | [], i, c, _, h => by simp at h
  | x :: r, 0, c, _, h => by
    have e : x = c := Option.some.inj h
    subst e
    simp [List.idxOf_cons]
  | x :: r, i + 1, c, hn, h => by
    have h' : r[i]? = some c := h
    have hc : c ∈ r := List.mem_of_getElem? h'
    have hne : x ≠ c := fun e => (List.nodup_cons.mp hn).1 (e ▸ hc)
    have ih := idx_at (List.nodup_cons.mp hn).2 h'
    rw [List.idxOf_cons]
    have hb : (x == c) = false := beq_eq_false_iff_ne.mpr hne
    rw [hb, cond_false, ih]
theorem idx_get {o : List Int} {c : Int} (h : c ∈ o) : o[o.idxOf c]? = some c := by
  have hl : o.idxOf c < o.length := List.idxOf_lt_length_iff.mpr h
  rw [List.getElem?_eq_getElem hl, List.getElem_idxOf hl]
theorem idx_lt {o : List Int} {c : Int} (h : c ∈ o) : o.idxOf c < o.length := List.idxOf_lt_length_iff.mpr h
theorem mem_take {o : List Int} {c : Int} (hn : o.Nodup) (h : c ∈ o) (k : Nat) : c ∈ o.take k ↔ o.idxOf c < k := by
  constructor
  · intro hm
    obtain ⟨i, hi⟩ := List.mem_iff_getElem?.mp hm
    rw [List.getElem?_take] at hi
    by_cases hk : i < k
    · rw [if_pos hk] at hi
      rw [idx_at hn hi]
      exact hk
    · rw [if_neg hk] at hi
      cases hi
  · intro hk
    refine List.mem_iff_getElem?.mpr ⟨o.idxOf c, ?_⟩
    rw [List.getElem?_take, if_pos hk]
    exact idx_get h
theorem idx_rev {o : List Int} {c : Int} (hn : o.Nodup) (h : c ∈ o) : o.reverse.idxOf c = o.length - 1 - o.idxOf c := by
  have hl := idx_lt h
  refine idx_at ((List.reverse_perm _).nodup_iff.mpr hn) ?_
  rw [List.getElem?_reverse (by omega)]
  rw [show o.length - 1 - (o.length - 1 - o.idxOf c) = o.idxOf c by omega]
  exact idx_get h

/-! ### a net and the head of an order -/
def cnt (net head : List Int) : Nat := (net.filter fun c => decide (c ∈ head)).length
theorem cnt_le (net head : List Int) : cnt net head ≤ net.length := List.length_filter_le ..
theorem cnt_pos {net head : List Int} : 0 < cnt net head ↔ ∃ c, c ∈ net ∧ c ∈ head := by
  unfold cnt
  rw [List.length_pos_iff_exists_mem]
  simp only [List.mem_filter, decide_eq_true_eq]
theorem cnt_lt {net head : List Int} : cnt net head < net.length ↔ ∃ c, c ∈ net ∧ c ∉ head := by
  unfold cnt
  constructor
  · intro h
    by_cases hall : ∀ c ∈ net, decide (c ∈ head) = true
    · rw [List.filter_eq_self.mpr hall] at h
      omega
    · have : ∃ c, c ∈ net ∧ ¬ decide (c ∈ head) = true := by
        refine Classical.byContradiction fun q => hall fun c hc => ?_
        exact Classical.byContradiction fun z => q ⟨c, hc, z⟩
      obtain ⟨c, hc, hd⟩ := this
      exact ⟨c, hc, fun z => hd (decide_eq_true z)⟩
  · rintro ⟨c, hc, hd⟩
    have hle : (net.filter fun c => decide (c ∈ head)).length ≤ net.length := List.length_filter_le ..
    refine Nat.lt_of_le_of_ne hle fun e => ?_
    have hs := (List.filter_sublist (p := fun c => decide (c ∈ head)) (l := net)).eq_of_length e
    have hm : c ∈ net.filter fun c => decide (c ∈ head) := by rw [hs]; exact hc
    exact hd (of_decide_eq_true (List.mem_filter.mp hm).2)
/-- the net has cells on both sides -/
def crs (net head : List Int) : Bool := decide (0 < cnt net head) && decide (cnt net head < net.length)
def ncrs (nets : List (List Int)) (head : List Int) : Nat := (nets.filter fun net => crs net head).length
/-- the gaps of an order that a net crosses -/
def gaps (m : Nat) (o net : List Int) : Nat := ((List.range (m - 1)).filter fun k => crs net (o.take (k + 1))).length
theorem range_between (a b : Nat) : ∀ n, b ≤ n → a ≤ b → ((List.range n).filter fun k => decide (a ≤ k) && decide (k < b)).length = b - a
  | 0, hb, ha => by
    have e : b = 0 := by omega
    subst e
    simp
  | n + 1, hb, ha => by
    rw [List.range_succ, List.filter_append, List.length_append]
    by_cases h : b ≤ n
    · rw [range_between a b n h ha]
      have hf : (decide (a ≤ n) && decide (n < b)) = false := by
        rw [decide_eq_false (show ¬ n < b by omega), Bool.and_false]
      rw [List.filter_cons_of_neg (by simp [hf])]
      simp
    · have e : b = n + 1 := by omega
      subst e
      by_cases h2 : a ≤ n
      · have ih := range_between a n n (Nat.le_refl _) h2
        have hc : (List.range n).filter (fun k => decide (a ≤ k) && decide (k < n + 1)) = (List.range n).filter (fun k => decide (a ≤ k) && decide (k < n)) := by
          refine List.filter_congr fun k hk => ?_
          have hk' := List.mem_range.mp hk
          rw [decide_eq_true (show k < n + 1 by omega), decide_eq_true hk']
        rw [hc, ih]
        rw [List.filter_cons_of_pos (by simp [h2])]
        simp
        omega
      · have e2 : a = n + 1 := by omega
        subst e2
        have hc : (List.range n).filter (fun k => decide (n + 1 ≤ k) && decide (k < n + 1)) = [] := by
          refine List.filter_eq_nil_iff.mpr fun k hk => ?_
          have hk' := List.mem_range.mp hk
          rw [decide_eq_false (show ¬ n + 1 ≤ k by omega)]
          simp
        rw [hc]
        simp
/-- the places of a net's cells -/
def posL (o net : List Int) : List Int := net.map fun c => ((o.idxOf c : Nat) : Int)
theorem len_gaps {m : Nat} {o net : List Int} (hn : o.Nodup) (hl : o.length = m) (hs : ∀ c ∈ net, c ∈ o) {M m' : Int} (h1 : M ∈ posL o net) (h2 : ∀ y, y ∈ posL o net → y ≤ M) (h3 : m' ∈ posL o net) (h4 : ∀ y, y ∈ posL o net → m' ≤ y) :
    M - m' = (gaps m o net : Int) := by
  obtain ⟨c1, hc1, rfl⟩ := List.mem_map.mp h1
  obtain ⟨c2, hc2, rfl⟩ := List.mem_map.mp h3
  have hle : o.idxOf c2 ≤ o.idxOf c1 := by
    have := h4 _ h1
    omega
  have hlt : o.idxOf c1 < m := by rw [← hl]; exact idx_lt (hs c1 hc1)
  have e : gaps m o net = o.idxOf c1 - o.idxOf c2 := by
    unfold gaps
    rw [← range_between (o.idxOf c2) (o.idxOf c1) (m - 1) (by omega) hle]
    congr 1
    refine List.filter_congr fun k hk => ?_
    unfold crs
    have e1 : (0 < cnt net (o.take (k + 1))) ↔ o.idxOf c2 ≤ k := by
      rw [cnt_pos]
      constructor
      · rintro ⟨c, hc, hm⟩
        have q := (mem_take hn (hs c hc) (k + 1)).mp hm
        have := h4 _ (List.mem_map.mpr ⟨c, hc, rfl⟩)
        omega
      · intro q
        exact ⟨c2, hc2, (mem_take hn (hs c2 hc2) (k + 1)).mpr (by omega)⟩
    have e2 : (cnt net (o.take (k + 1)) < net.length) ↔ k < o.idxOf c1 := by
      rw [cnt_lt]
      constructor
      · rintro ⟨c, hc, hm⟩
        have q : ¬ o.idxOf c < k + 1 := fun z => hm ((mem_take hn (hs c hc) (k + 1)).mpr z)
        have := h2 _ (List.mem_map.mpr ⟨c, hc, rfl⟩)
        omega
      · intro q
        exact ⟨c1, hc1, fun z => by
          have := (mem_take hn (hs c1 hc1) (k + 1)).mp z
          omega⟩
    simp only [e1, e2]
  rw [e]
  omega
theorem gaps_rev {m : Nat} {o net : List Int} (hn : o.Nodup) (hl : o.length = m) (hs : ∀ c ∈ net, c ∈ o) (hne : net ≠ []) : gaps m o.reverse net = gaps m o net := by
  have ex : ∀ l : List Int, l ≠ [] → (∃ M, M ∈ l ∧ ∀ y, y ∈ l → y ≤ M) ∧ ∃ m', m' ∈ l ∧ ∀ y, y ∈ l → m' ≤ y := by
    intro l
    induction l with
    | nil => intro h; exact absurd rfl h
    | cons x r ih =>
      intro _
      cases r with
      | nil =>
        exact ⟨⟨x, by simp, fun y hy => by simp at hy; omega⟩, ⟨x, by simp, fun y hy => by simp at hy; omega⟩⟩
      | cons z r =>
        obtain ⟨⟨M, hM, h1⟩, ⟨m', hm, h2⟩⟩ := ih (by simp)
        refine ⟨?_, ?_⟩
        · by_cases h : M ≤ x
          · refine ⟨x, by simp, fun y hy => ?_⟩
            rcases List.mem_cons.mp hy with e | hy
            · omega
            · have := h1 y hy
              omega
          · refine ⟨M, List.mem_cons_of_mem _ hM, fun y hy => ?_⟩
            rcases List.mem_cons.mp hy with e | hy
            · omega
            · exact h1 y hy
        · by_cases h : x ≤ m'
          · refine ⟨x, by simp, fun y hy => ?_⟩
            rcases List.mem_cons.mp hy with e | hy
            · omega
            · have := h2 y hy
              omega
          · refine ⟨m', List.mem_cons_of_mem _ hm, fun y hy => ?_⟩
            rcases List.mem_cons.mp hy with e | hy
            · omega
            · exact h2 y hy
  have hp : posL o net ≠ [] := by
    unfold posL
    intro z
    exact hne (List.map_eq_nil_iff.mp z)
  obtain ⟨⟨M, hM, h1⟩, ⟨m', hm, h2⟩⟩ := ex _ hp
  have g1 := len_gaps hn hl hs hM h1 hm h2
  have key : ∀ c, c ∈ net → ((o.reverse.idxOf c : Nat) : Int) = (m : Int) - 1 - ((o.idxOf c : Nat) : Int) := by
    intro c hc
    have q := idx_lt (hs c hc)
    rw [idx_rev hn (hs c hc)]
    omega
  have g2 := len_gaps (m := m) (o := o.reverse) (net := net) (M := (m : Int) - 1 - m') (m' := (m : Int) - 1 - M) ((List.reverse_perm _).nodup_iff.mpr hn) (by rw [List.length_reverse]; exact hl) (fun c hc => List.mem_reverse.mpr (hs c hc))
    (by
      obtain ⟨c, hc, e⟩ := List.mem_map.mp hm
      exact List.mem_map.mpr ⟨c, hc, by rw [key c hc, e]⟩)
    (fun y hy => by
      obtain ⟨c, hc, e⟩ := List.mem_map.mp hy
      rw [key c hc] at e
      have := h2 _ (List.mem_map.mpr ⟨c, hc, rfl⟩)
      omega)
    (by
      obtain ⟨c, hc, e⟩ := List.mem_map.mp hM
      exact List.mem_map.mpr ⟨c, hc, by rw [key c hc, e]⟩)
    (fun y hy => by
      obtain ⟨c, hc, e⟩ := List.mem_map.mp hy
      rw [key c hc] at e
      have := h1 _ (List.mem_map.mpr ⟨c, hc, rfl⟩)
      omega)
  omega
/-! ### the sum both ways -/
def total (m : Nat) (nets : List (List Int)) (o : List Int) : Int := (nets.map fun net => ((gaps m o net : Nat) : Int)).sum
def dueL (m : Nat) (nets : List (List Int)) (o : List Int) : List Int := (List.range (m - 1)).map fun k => ((ncrs nets (o.take (k + 1)) : Nat) : Int)
theorem sum_add (f g : Nat → Int) : ∀ ks : List Nat, (ks.map fun k => f k + g k).sum = (ks.map f).sum + (ks.map g).sum
  | [] => rfl
  | k :: ks => by
    simp only [List.map_cons, List.sum_cons]
    rw [sum_add f g ks]
    omega
theorem count_sum (p : Nat → Bool) : ∀ ks : List Nat, ((ks.filter p).length : Int) = (ks.map fun k => if p k = true then (1 : Int) else 0).sum
  | [] => rfl
  | k :: ks => by
    rw [List.map_cons, List.sum_cons, ← count_sum p ks]
    cases h : p k with
    | true =>
      rw [List.filter_cons_of_pos h, List.length_cons]
      simp
      omega
    | false =>
      rw [List.filter_cons_of_neg (by simp [h])]
      simp
theorem due_total (m : Nat) (o : List Int) : ∀ nets : List (List Int), (dueL m nets o).sum = total m nets o
  | [] => by
    unfold dueL total
    show ((List.range (m - 1)).map fun k => ((ncrs [] (o.take (k + 1)) : Nat) : Int)).sum = 0
    have e : ∀ ks : List Nat, (ks.map fun k => ((ncrs [] (o.take (k + 1)) : Nat) : Int)).sum = 0 := by
      intro ks
      induction ks with
      | nil => rfl
      | cons k ks ih =>
        rw [List.map_cons, List.sum_cons, ih]
        rfl
    exact e _
  | net :: nets => by
    have ih := due_total m o nets
    have e : total m (net :: nets) o = ((gaps m o net : Nat) : Int) + total m nets o := by
      unfold total
      rw [List.map_cons, List.sum_cons]
    rw [e, ← ih]
    unfold dueL gaps
    rw [count_sum, ← sum_add]
    congr 1
    refine List.map_congr_left fun k _ => ?_
    unfold ncrs
    cases h : crs net (o.take (k + 1)) with
    | true =>
      have e2 : (net :: nets).filter (fun net => crs net (o.take (k + 1))) = net :: nets.filter (fun net => crs net (o.take (k + 1))) := List.filter_cons_of_pos (p := fun net => crs net (o.take (k + 1))) h
      rw [e2, List.length_cons, if_pos rfl]
      omega
    | false =>
      have e2 : (net :: nets).filter (fun net => crs net (o.take (k + 1))) = nets.filter (fun net => crs net (o.take (k + 1))) := List.filter_cons_of_neg (p := fun net => crs net (o.take (k + 1))) (by simp [h])
      rw [e2, if_neg (by decide)]
      omega
theorem total_rev {m : Nat} {o : List Int} (hn : o.Nodup) (hl : o.length = m) : ∀ nets : List (List Int), (∀ net ∈ nets, (∀ c ∈ net, c ∈ o) ∧ net ≠ []) → total m nets o.reverse = total m nets o
  | [], _ => rfl
  | net :: nets, h => by
    have ih := total_rev hn hl nets fun n hm => h n (List.mem_cons_of_mem _ hm)
    obtain ⟨h1, h2⟩ := h net List.mem_cons_self
    unfold total at ih ⊢
    rw [List.map_cons, List.sum_cons, List.map_cons, List.sum_cons, ih, gaps_rev hn hl h1 h2]
/-- the law's own way to say that a net has cells on both sides -/
theorem crs_not (net head : List Int) : (!decide (cnt net head = 0) && !decide (cnt net head = net.length)) = crs net head := by
  have h := cnt_le net head
  unfold crs
  by_cases h1 : cnt net head = 0
  · rw [decide_eq_true h1, decide_eq_false (show ¬ 0 < cnt net head by omega)]
    rfl
  · by_cases h2 : cnt net head = net.length
    · rw [decide_eq_false h1, decide_eq_true h2, decide_eq_true (show 0 < cnt net head by omega), decide_eq_false (show ¬ cnt net head < net.length by omega)]
      rfl
    · rw [decide_eq_false h1, decide_eq_false h2, decide_eq_true (show 0 < cnt net head by omega), decide_eq_true (show cnt net head < net.length by omega)]
      rfl
/-! ### orders -/
def iota (n : Nat) : List Int := (List.range n).map fun i => ((i : Nat) : Int)
theorem iota_nodup (n : Nat) : (iota n).Nodup := by
  unfold iota
  refine List.Pairwise.map _ (fun a b hab => ?_) List.nodup_range
  intro z
  exact hab (by omega)
theorem iota_mem {n : Nat} {c : Int} : c ∈ iota n ↔ 0 ≤ c ∧ c < n := by
  unfold iota
  rw [List.mem_map]
  constructor
  · rintro ⟨i, hi, rfl⟩
    have := List.mem_range.mp hi
    omega
  · rintro ⟨h1, h2⟩
    exact ⟨c.toNat, List.mem_range.mpr (by omega), by omega⟩
theorem iota_length (n : Nat) : (iota n).length = n := by
  unfold iota
  rw [List.length_map, List.length_range]
structure OrdOk (m : Nat) (o : List Int) : Prop where
  nd : o.Nodup
  len : o.length = m
  mem : ∀ c, c ∈ o ↔ 0 ≤ c ∧ c < m
theorem OrdOk.of_perm {m : Nat} {o : List Int} (h : o.Perm (iota m)) : OrdOk m o :=
  ⟨h.nodup_iff.mpr (iota_nodup m), by rw [h.length_eq, iota_length], fun c => by rw [h.mem_iff, iota_mem]⟩
theorem OrdOk.rev {m : Nat} {o : List Int} (h : OrdOk m o) : OrdOk m o.reverse :=
  ⟨(List.reverse_perm _).nodup_iff.mpr h.nd, by rw [List.length_reverse]; exact h.len, fun c => by rw [List.mem_reverse]; exact h.mem c⟩
structure NetOk (m : Nat) (net : List Int) : Prop where
  asc : net.Pairwise (· < ·)
  two : 2 ≤ net.length
  len : net.length ≤ m
  mem : ∀ c ∈ net, 0 ≤ c ∧ c < m
end CF
/-! enumerate(t), t a tuple: walked with a target of two names. -/
namespace CF
open PySem PySem.Spec PyProof.Rows L2
/-- enumerate(v): the iterator o of v, then the enumeration over it -/
def enumOver (h : Heap) (o : Obj) : Heap := (h.push o).push { cls := .type "enumerate", data := .fields #[.none, .bool false, .ref h.objs.size, rawInt 0, .none, .none] }
theorem meets_enum1 {v : Value} {o : Obj} {G : Heap → Prop} (B : Begins v o G) :
    Meets (Builtin.«enumerate.__new__» ⟨[.type "enumerate", v], []⟩) (fun _ R s => G s.heap ∧ R (.ok (.ret (.ref (s.heap.push o).objs.size))) { s with heap := enumOver s.heap o }) := by
  refine .of_wp fun prog w A R s hs => ?_
  obtain ⟨heap, gens, drawn, toks, os⟩ := s
  obtain ⟨hG, hR⟩ := hs
  have hsub := sub_enumerate
  have begins : ∀ {A' : Around} {E Q : Value → Shared → Prop}, Q (.ref heap.objs.size) ⟨heap.push o, gens, drawn, toks, os⟩ → wpAny (model prog w) A' (pyIter v) Q E ⟨heap, gens, drawn, toks, os⟩ :=
    fun z => B.iter _ _ _ _ ⟨heap, gens, drawn, toks, os⟩ _ hG z
  wp_walk using begins
  refine wpAny_stack_any fun calls => wpAny_pure ?_
  split
  · rename_i c _ _ _ _ _
    cases (c == Value.type "enumerate") <;> (wp_walk using begins; exact ⟨_, rfl, hR⟩)
  · wp_walk using begins
    exact ⟨_, rfl, hR⟩
section
variable {prog : Program} {w : World} {A : Around} {E : Value → Shared → Prop} {s : Shared}
/-- .. of a tuple: both cells lie at the heap's end -/
theorem call_enum1 {t : Addr} {items : Array Value} {Q : Value → Shared → Prop} (ht : s.heap.IsTuple t items)
    (k : ∀ h', (∀ b ob, s.heap.get? b = some ob → h'.get? b = some ob) → h'.IsTupleIter s.heap.objs.size t 0 → IsEnum h' (s.heap.objs.size + 1) s.heap.objs.size 0 .none →
      Q (.ref (s.heap.objs.size + 1)) { s with heap := h' }) : wpAny (model prog w) A (call (.type "enumerate") [.ref t]) Q E s := by
  let o : Obj := { cls := .type "tuple_iterator", data := .fields #[.ref t, .int 0 0] }
  have size1 : (s.heap.push o).objs.size = s.heap.objs.size + 1 := Heap.size_push ..
  have atEnd : (enumOver s.heap o).get? (s.heap.push o).objs.size = some { cls := .type "enumerate", data := .fields #[.none, .bool false, .ref s.heap.objs.size, rawInt 0, .none, .none] } := Heap.get?_push_size _ rfl
  have atIt : (enumOver s.heap o).get? s.heap.objs.size = some o := Heap.get?_push_of_some _ (Heap.get?_push_size _ rfl)
  refine callType_new F.called_enumerate (by decide) (F.typeCall_enumerate_1 (.ref t)) (F.newCall_enumerate_1 (.ref t)) (fun self => F.args_object_init_2 self (.ref t)) F.entry_enumerate_new (meets_enum1 (begins_tuple t items)) ⟨ht, ?_⟩
  rw [size1] at atEnd
  show _ ∧ Q (.ref (s.heap.push o).objs.size) _
  rw [size1]
  exact ⟨⟨_, atEnd, rfl⟩, k _ (fun b ob hb => Heap.get?_push_of_some _ (Heap.get?_push_of_some _ hb)) ⟨o, atIt, rfl, rfl⟩ atEnd⟩
end
/-- the tuple at a, each item in a new pair with its place -/
def IteT (K : PySem.W.Frag) (a : Addr) : It where
  go := fun i H => ∃ xs : List V, SqT K H a xs ∧ i < xs.length
  yld := fun i H v H' => ∃ T x, v = .ref T ∧ H T = none ∧ H' = upd H T (.tup [.int (i : Nat), x]) ∧ ∀ xs, SqT K H a xs → xs[i]? = some x
  stop := fun i H => ∃ xs : List V, SqT K H a xs ∧ xs.length = i
/-- what stands between two turns: the enumeration at e over the iterator at it over the tuple at a -/
structure EnumAt (a e it : Addr) (i : Nat) (h : Heap) : Prop where
  en : ∃ old, IsEnum h e it (0 + (i : Int)) old
  ti : h.IsTupleIter it a i
  ei : e ≠ it
  ai : a ≠ it
  ae : a ≠ e
theorem turn_enumT {P : Program} {w : World} {K : PySem.W.Frag} {elts : List Expr} {kk : Nat} {tpos : Pos} (a e it : Addr) : Turn P w K (.Tuple elts kk tpos) (IteT K a) [e, it] e (EnumAt a e it) := by
  -- the library's walk of an enumeration, at any place where nothing is handled
  have goes : ∀ (A : Around) (items : Array Value), A.handled = none → e ≠ it → a ≠ it → a ≠ e → GoesN P w A (.Tuple elts kk tpos) e [e, it, a] [e, it] items.size
      (fun i h0 v h => ∃ T t x, v = .ref T ∧ h0.objs.size ≤ T ∧ items[i]? = some x ∧ h.IsTuple T #[.int (0 + (i : Int)) t, x]) (fun i h => (∃ old, IsEnum h e it (0 + (i : Int)) old) ∧ h.IsTupleIter it a i ∧ h.IsTuple a items) :=
    fun A items quiet ei ai ae => GoesN.enumFrom 0 (Draws.tuple (A := A.in1) (by simpa using quiet) it a ai items) e ei (by simp [ei, Ne.symm ae]) (by simp)
  refine ⟨by simp, fun i h z b hb => ?_, fun i h h' z k => ?_, ?_, ?_, fun A i s Q E z q => ?_⟩
  · obtain ⟨⟨old, en⟩, ⟨ob, at_, _, dat⟩, _⟩ := z
    rcases List.mem_cons.mp hb with rfl | hb
    · exact ⟨_, en, fun v c => nomatch c⟩
    · rcases List.mem_singleton.mp hb with rfl
      exact ⟨ob, at_, fun v c => by rw [dat] at c; cases c⟩
  · obtain ⟨old, en⟩ := z.en
    exact ⟨⟨old, k e (by simp) _ en⟩, z.ti.at fun ob c => k it (by simp) ob c, z.ei, z.ai, z.ae⟩
  · intro X hP hw hK calm i pins s σ H E I fp z ⟨xs, hq, hi⟩
    subst hP hw hK
    obtain ⟨items, rel, tup, _⟩ := I.tuple hq
    have len : items.toArray.size = xs.length := by rw [List.size_toArray, ← rel.length]
    have W := goes X.A items.toArray (I.ok.hd calm) z.ei z.ai z.ae
    refine W.goes i s _ E (by omega) ⟨z.en, z.ti, tup⟩ fun v h' tk ⟨T, t, x, ev, new, hx, hT⟩ ⟨en', ti', _⟩ kept _ => ?_
    subst ev
    obtain ⟨u, hu, ru⟩ := rel.get (List.getElem?_eq_getElem hi)
    have eu : x = u := Option.some.inj (hx.symm.trans (by simpa using hu))
    subst eu
    have pair : ObjOk X.prog X.w (upd H T (.tup [.int (i : Nat), xs[i]])) h' T (.tup [.int (i : Nat), xs[i]]) := by
      rw [Int.zero_add] at hT
      exact ⟨(by show 2 ≤ sizeLine; decide), [.int (i : Int) t, x], .cons ⟨t, rfl⟩ (.cons ru .nil), hT⟩
    refine ⟨.ref T, _, I.turnedNew (t' := tk) (ch := [e, it]) (fun b ob hb c => kept b ob hb c) fp new pair, rfl, ⟨T, xs[i], rfl, I.hok.fresh new, rfl, fun ys hy => ?_⟩, ⟨en', ti', z.ei, z.ai, z.ae⟩, fun b hb => ?_⟩
    · rw [I.tuple_inj hy hq]
      exact List.getElem?_eq_getElem hi
    · have old : b ≠ T := fun c => by
        have hlt : b < s.heap.objs.size := by
          rcases List.mem_cons.mp hb with rfl | hb
          · obtain ⟨_, en⟩ := z.en
            exact Heap.lt_size en
          · rcases List.mem_singleton.mp hb with rfl
            obtain ⟨_, c, _⟩ := z.ti
            exact Heap.lt_size c
        rw [c] at hlt
        exact absurd (Nat.lt_of_lt_of_le hlt new) (Nat.lt_irrefl _)
      rw [upd_ne old]
      exact (fp b hb).1
  · intro X hP hw hK calm i pins s σ H E I fp z ⟨xs, hq, hi⟩
    subst hP hw hK
    obtain ⟨items, rel, tup, _⟩ := I.tuple hq
    have len : items.toArray.size = i := by rw [List.size_toArray, ← rel.length, hi]
    subst len
    exact (goes X.A items.toArray (I.ok.hd calm) z.ei z.ai z.ae).stops s (fun s' => Inv X pins σ H s') E ⟨z.en, z.ti, tup⟩ fun h' tk kept _ => I.turnedL (t' := tk) kept fp
  · obtain ⟨_, en⟩ := z.en
    exact wpAny_pyIter_enum en q
def iEnumT (K : PySem.W.Frag) (ta : TA) : TI := fun σ H R => ta σ H fun vs H1 => ∃ a xs, vs = [.ref a] ∧ SqT K H1 a xs ∧ R (IteT K a) H1
theorem pi_enumT {X : Cx} {e : Expr} {ta : TA} {p pos tpos : Pos} {elts : List Expr} {kk : Nat} (hg : Gl X "enumerate") (hm : X.mg "enumerate" = none) (ha : PA X [e] ta) (one : starEach [e] X.env = [(false, eval e X.env)] := by rfl) :
    PI X (.Tuple elts kk tpos) (.Call (.Name "enumerate" p) [e] [] pos) (iEnumT X.K ta) := by
  refine ⟨fun pins s σ H R I hta => Call_ (ld_blt I hg hm boot_enumerate (PyProof.Rows.callWith_type1 (thn (ha.run pos pins s σ H _ I hta) fun us s1 made => ?_) one rfl))⟩
  obtain ⟨vs, H1, J, rel, a, xs, rfl, hq, hR⟩ := made
  rw [Vals.ref1 rel]
  obtain ⟨items, _, tup, _⟩ := J.tuple hq
  have old : a < s1.heap.objs.size := tup.lt
  refine call_enum1 tup fun h' kept ti en => wpAny_pyIter_enum en ?_
  refine ⟨s1.heap.objs.size + 1, [s1.heap.objs.size + 1, s1.heap.objs.size], _, IteT X.K a, H1, rfl, J.kept (t' := s1.toks) kept, turn_enumT a (s1.heap.objs.size + 1) s1.heap.objs.size, ⟨⟨.none, en⟩, ti, Nat.succ_ne_self _, Nat.ne_of_lt old, Nat.ne_of_lt (Nat.lt_succ_of_lt old)⟩, fun b hb => ?_, hR⟩
  have above : s1.heap.objs.size ≤ b := by
    rcases List.mem_cons.mp hb with rfl | hb
    · exact Nat.le_succ _
    · rw [List.mem_singleton.mp hb]
      exact Nat.le_refl _
  exact J.fpOk above (J.hok.fresh above)
theorem walk_enumT {K : PySem.W.Frag} {a : Addr} {xs : List V} : Walk (IteT K a) xs.length (fun H => SqT K H a xs) (YPair (fun i => some (.int (i : Nat))) (fun i => xs[i]?)) where
  goes := fun i _ hi hq => ⟨xs, hq, hi⟩
  stops := fun _ hq => ⟨xs, hq, rfl⟩
  yields := fun i _ _ _ _ hq ⟨T, x, ev, new, eh, look⟩ => ⟨T, .int (i : Nat), x, ev, new, eh, rfl, look xs hq⟩
end CF
/-! set(t), len(set(t)), t.index(k), t[::-1], sorted(t) for a tuple t of whole numbers. -/
namespace CF
open PySem PySem.Spec PyProof.Rows L2
theorem nodup_len_le : ∀ {l1 l2 : List Int}, l1.Nodup → (∀ k, k ∈ l1 → k ∈ l2) → l1.length ≤ l2.length
  | [], _, _, _ => Nat.zero_le _
  | x :: r, l2, hn, hs => by
    obtain ⟨h1, h2⟩ := List.nodup_cons.mp hn
    have hx : x ∈ l2 := hs x List.mem_cons_self
    have ih := nodup_len_le (l2 := l2.erase x) h2 fun k hk => by
      have hne : k ≠ x := fun e => h1 (e ▸ hk)
      exact (List.mem_erase_of_ne hne).mpr (hs k (List.mem_cons_of_mem _ hk))
    have he := List.length_erase_of_mem hx
    have hp : 0 < l2.length := List.length_pos_of_mem hx
    rw [List.length_cons]
    omega
section
variable {X : Cx}
/-- set(t): c is the number of its members -/
def rSetTup (K : PySem.W.Frag) (w : World) : List V → Hp → VK → Prop := fun vs H Q => ∃ (p : Addr) (ns : List Int), vs = [.ref p] ∧ SqT K H p (ns.map V.int) ∧ ns.length ≤ 60 ∧
  ∀ a c, H a = none → c ≤ ns.length → (ns.Nodup → c = ns.length) → Q (.ref a) (upd H a (SetO w a (fun j => decide (j ∈ ns)) c))
theorem cr_setTup (hc : X.calm = true) : CallR X (.type "set") (rSetTup X.K X.w) := by
  intro pins s σ H vs us Q I r h
  obtain ⟨p, ns, rfl, hq, hl, q⟩ := h
  rw [Vals.ref1 r]
  obtain ⟨its, rv, ht, hz⟩ := I.tuple hq
  have hb : ns.length + 1 < scanBound := Nat.lt_of_le_of_lt (Nat.succ_le_succ hl) (by decide)
  refine call_set_tupI ns (I.ok.hd hc) ht (intsAre_of (by simpa using rv)) hb fun h' tk c R hcl hk => ?_
  refine ⟨.ref s.heap.objs.size, upd H s.heap.objs.size (SetO X.w s.heap.objs.size (fun j => decide (j ∈ ns)) c), I.laid (t' := tk) hk (Nat.le_refl _) (setO_new R), rfl, q _ c (I.hok.fresh (Nat.le_refl _)) hcl fun hn => ?_⟩
  obtain ⟨o, es, ep, t, ho, hex, hd, g, nd, hm, hbb, hf, hsz, hr, hled⟩ := R
  have e1 : ns.length ≤ (es.toList.map keyOf).length := nodup_len_le hn fun k hk => (hm k).mp (decide_eq_true hk)
  have e2 : (es.toList.map keyOf).length = c := by
    rw [List.length_map]
    show es.toList.length = c
    rw [← hsz]
    simp
  omega
/-- len(s) -/
def rLenSet (w : World) : List V → Hp → VK → Prop := fun vs H Q => ∃ (a : Addr) (S : Int → Bool) (n : Nat), vs = [.ref a] ∧ H a = some (SetO w a S n) ∧ Q (.int (n : Nat)) H
theorem cr_lenSet : CallR X (.builtin "len") (rLenSet X.w) := by
  intro pins s σ H vs us Q I r h
  obtain ⟨a, S, n, rfl, ha, q⟩ := h
  rw [Vals.ref1 r]
  obtain ⟨o, es, ep, t, ho, hex, hd, g, nd, hm, hbb, hf, hsz, hr, hled⟩ := setO_get I ha
  have h62 : (es.size : Int) < 2 ^ 63 := by
    have z : scanBound < 2 ^ 62 := by decide
    omega
  exact call_len_set ho hex hd hf h62 ⟨.int (n : Nat), H, I.tok _, ⟨_, by rw [hsz]⟩, q⟩
theorem flat_ints (ys : List Int) : (ys.map V.int).all flatV = true := by
  rw [List.all_map]
  exact List.all_eq_true.mpr fun _ _ => rfl
/-- t.index(k), the first place -/
def rTupIx (K : PySem.W.Frag) : V → List V → Hp → VK → Prop := fun x xs H Q => ∃ (p : Addr) (ks : List Int) (k : Int) (j : Nat), x = .ref p ∧ xs = [.int k] ∧ SqT K H p (ks.map V.int) ∧ ks[j]? = some k ∧ (∀ n : Nat, n < j → ks[n]? ≠ some k) ∧ Q (.int (j : Nat)) H
/-- an item of the values is the number at its place -/
theorem int_item {ks : List Int} {us : List Value} (rel : Vals (ks.map V.int) us) {n : Nat} (hn : n < us.toArray.size) : ∃ k t, ks[n]? = some k ∧ us.toArray[n] = Value.int k t := by
  have hk : n < ks.length := by
    have len := rel.length
    rw [List.length_map] at len
    rw [List.size_toArray] at hn
    omega
  obtain ⟨u, hu, t, eu⟩ := Vals.get (i := n) (x := V.int ks[n]) rel (by rw [List.getElem?_map, List.getElem?_eq_getElem hk]; rfl)
  refine ⟨ks[n], t, List.getElem?_eq_getElem hk, ?_⟩
  obtain ⟨_, at_⟩ := List.getElem?_eq_some_iff.mp hu
  rw [← eu, ← at_, List.getElem_toArray]
theorem mt_tupIx : MtR X "tuple.index" (rTupIx X.K) := by
  intro pins s σ H x args v us Q I rx rargs
  rintro ⟨p, ks, k, j, rfl, rfl, hq, hj, first, q⟩
  cases rx
  obtain ⟨u, rfl, t, rfl⟩ := vals1 rargs
  obtain ⟨items, rel, ⟨⟨cls, dict, data, slots⟩, obj, isTup, n, isSeq⟩, _⟩ := I.tuple hq
  simp only at isTup isSeq
  subst isTup isSeq
  have eq_at : ∀ (i : Nat) (hi : i < items.toArray.size), eqU (.int k) items.toArray[i] = decide (ks[i]? = some k) := fun i hi => by
    obtain ⟨k', t', h1, h2⟩ := int_item rel hi
    rw [h2, h1]
    by_cases e : k' = k
    · rw [decide_eq_true (congrArg some e), e]
      exact beq_self_eq_true k
    · rw [decide_eq_false fun z => e (Option.some.inj z)]
      exact beq_eq_false_iff_ne.mpr e
  have inside : j < items.toArray.size := by
    have h1 := rel.length
    have h2 := (List.getElem?_eq_some_iff.mp hj).1
    rw [List.length_map] at h1
    rw [List.size_toArray]
    omega
  have search := TI.tuple_indexAt p items.toArray n dict slots (.int k t) (eqU (.int k)) j inside (by rw [eq_at j inside]; exact decide_eq_true hj) fun i hi hij => by rw [eq_at i hi]; exact decide_eq_false (first i hij)
  exact call_meets F.slot_tuple_index ⟨_, obj, rfl⟩ F.entry_tuple_index (F.args_tuple_index_2 _ _) search
    ⟨obj, fun y hy => mem_eqAt (x := .int k) ⟨t, rfl⟩ rfl rel (flat_ints ks) y (by simpa using hy), .int (j : Nat), H, I.tok _, ⟨_, rfl⟩, q⟩
end
/-! ### t[::-1] -/
section
variable {prog : Program} {w : World} {A : Around} {E : Value → Shared → Prop} {s : Shared}
/-- the places of [::-1], the last one first -/
theorem back_places (n : Nat) : Builtin.Slice.slicePlaces ((n : Int) - 1) (-1) (-1) = n := by
  show (if (-1 : Int) > 0 then _ else if (n : Int) - 1 > -1 then ((n : Int) - 1 - -1 - 1) / (- -1) + 1 else 0).toNat = n
  rw [if_neg (by decide), show (- -1 : Int) = 1 by decide, Int.ediv_one]
  split <;> omega
theorem fm_congr {f g : Nat → Option Value} : ∀ {l : List Nat}, (∀ k, k ∈ l → f k = g k) → l.filterMap f = l.filterMap g
  | [], _ => rfl
  | k :: l, h => by
    rw [List.filterMap_cons, List.filterMap_cons, h k List.mem_cons_self, fm_congr fun j hj => h j (List.mem_cons_of_mem _ hj)]
theorem back_items (xs : Array Value) : ((List.range xs.size).filterMap fun (k : Nat) => xs[((xs.size : Int) - 1 + (k : Int) * (-1)).toNat]?) = xs.toList.reverse := by
  have by_end : ∀ k, k ∈ List.range xs.size → xs[((xs.size : Int) - 1 + (k : Int) * (-1)).toNat]? = ((xs[·]?) ∘ fun k => xs.size - 1 - k) k := fun k hk => by
    have := List.mem_range.mp hk
    show _ = xs[xs.size - 1 - k]?
    congr 1
    omega
  rw [fm_congr by_end, ← List.filterMap_map, PySem.W.krv_range, List.filterMap_reverse, PySem.W.krv_all]
/-- a tuple's item by such a slice object -/
theorem getItem_back {t sl : Addr} {items : Array Value} {vl vu vs : Value} {Q : Value → Shared → Prop} (ht : IsTup s.heap t items) (hs : s.heap.IsSliceOf sl vl vu vs) (lo : IsPart vl none) (hi : IsPart vu none) (st : IsPart vs (some (-1))) (room : items.size ≤ sizeLine)
    (q : Q (.ref s.heap.objs.size) { s with heap := s.heap.push { cls := .type "tuple", data := .seq items.toList.reverse.toArray } }) : wpAny (model prog w) A (getItem (.ref t) (.ref sl)) Q E s := by
  obtain ⟨so, atSl, slCls, slData⟩ := id hs
  refine wpAny_getItem_slot ht.typeIs (by decide) F.slot_tuple_getitem (wpAny_call_entry F.slot_tuple_getitem ht.typeIs F.entry_tuple_getitem ?_ (F.args_tuple_getitem_2 _ _))
  show wpAny _ _ (Builtin.Tuple.tupleItemsOf (.ref t) >>= _) _ _ _
  refine wpAny_bind (tupleItemsOf_ ht (wpAny_bind (wpAny_typeOf ⟨so, atSl, slCls⟩ ?_)))
  rw [if_pos (by decide)]
  -- where it begins, its step, how many
  have applied : ∀ {A' : Around} {E' : Value → Shared → Prop} {R : Int × Int × Nat → Shared → Prop}, R ((items.size : Int) - 1, -1, items.size) s → wpAny (model prog w) A' (Builtin.Slice.sliceApplied (.ref sl) (pure (items.size : Int))) R E' s := by
    intro A' E' R hR
    have parts : wpAny (model prog w) A' (Builtin.Slice.sliceFields (.ref sl)) (fun p s' => p = (vl, vu, vs) ∧ s' = s) E' s :=
      wpAny_bind (wpAny_field atSl slData (x := vl) rfl (wpAny_bind (wpAny_field atSl slData (x := vu) rfl (wpAny_bind (wpAny_field atSl slData (x := vs) rfl (wpAny_pure ⟨rfl, rfl⟩))))))
    refine wpAny_bind (wpAny_mono parts (fun p s' hp => ?_) fun _ _ z => z)
    obtain ⟨rfl, rfl⟩ := hp
    refine wpAny_bind (HT.slicePart_ st ?_)
    show wpAny _ _ (if ((-1 : Int) == 0) = true then _ else _) _ _ _
    rw [if_neg (by decide)]
    refine wpAny_bind (HT.slicePart_ lo (wpAny_bind (HT.slicePart_ hi (wpAny_bind (wpAny_pure ?_)))))
    show wpAny _ _ (pure ((items.size : Int) - 1, (-1 : Int), Builtin.Slice.slicePlaces ((items.size : Int) - 1) (-1) (-1))) _ _ _
    rw [back_places]
    exact wpAny_pure hR
  refine wpAny_bind (applied ?_)
  have step : ¬ (((items.size : Int) - 1 == 0 && (-1 : Int) == 1 && items.size == items.size) = true) := by
    rw [show ((-1 : Int) == 1) = false from rfl, Bool.and_false, Bool.false_and]
    decide
  show wpAny _ _ (if ((items.size : Int) - 1 == 0 && (-1 : Int) == 1 && items.size == items.size) = true then _ else _) _ _ _
  rw [if_neg step, back_items]
  have fits : sizeOk (.seq items.toList.reverse.toArray) := by
    show items.toList.reverse.toArray.size ≤ sizeLine
    simpa using room
  exact wpAny_bind (m := Builtin.Tuple.tupleExact _) (wpAny_newObj_type (wpAny_pure ⟨_, rfl, q⟩) fits)
end
section
variable {X : Cx}
def tBackT (K : PySem.W.Frag) (te : TE) : TE := fun σ H Q => te σ H fun x H1 => ∃ a xs, x = .ref a ∧ SqT K H1 a xs ∧ ∀ p, H1 p = none → Q (.ref p) (upd H1 p (.tup xs.reverse))
theorem pe_backT {e : Expr} {te : TE} {k : Nat} {p1 p2 p3 pos : Pos} (he : PE X e te) : PE X (.Subscript e (.Slice none none (some (.UnaryOp .USub (.Constant (.int 1) k p1) p2)) p3) pos) (tBackT X.K te) := by
  have minus : PE X (.UnaryOp .USub (.Constant (.int 1) k p1) p2) (tUn (rU fun i => .int (-i)) (tC (.int 1))) := pe_un un_neg pe_int
  refine ⟨fun pins s σ H Q I hw => Subscript_ (thn (he.run pins s σ H _ I hw) fun v s1 got => wpAny_Slice ?_)⟩
  obtain ⟨_, H1, I1, rel, a, xs, rfl, hq, q⟩ := got
  cases rel
  -- the parts: left out, left out, -1
  refine thn (po_none.run pins s1 σ H1 (fun o G => o = none ∧ G = H1) I1 ⟨rfl, rfl⟩) fun vl s2 ⟨_, _, I2, lo, e1, e2⟩ => ?_
  subst e1 e2
  refine thn (po_none.run pins s2 σ _ (fun o G => o = none ∧ G = _) I2 ⟨rfl, rfl⟩) fun vu s3 ⟨_, _, I3, hi, e3, e4⟩ => ?_
  subst e3 e4
  refine thn ((po_some minus).run pins s3 σ _ (fun o G => o = some (-1) ∧ G = _) I3 ⟨_, rfl, _, rfl, rfl, rfl⟩) fun vs s4 ⟨_, _, I4, st, e5, e6⟩ => ?_
  subst e5 e6
  have J : Inv X pins σ _ { s4 with heap := s4.heap.push { cls := .type "slice", data := .fields #[vl, vu, vs] } } := I4.kept (t' := s4.toks) fun _ _ c => Heap.get?_push_of_some _ c
  obtain ⟨items, vals, tup, room⟩ := J.tuple hq
  have len := vals.length
  refine tail_any (ops := [.ref a, .ref s4.heap.objs.size]) tup.typeIs F.slot_tuple_getitem.lookup (getItem_back tup (Heap.IsSliceOf.new _ vl vu vs) lo hi st (by rw [List.size_toArray]; omega) ?_) (by with_unfolding_all rfl)
  exact ⟨.ref _, _, J.laid (t' := s4.toks) (o := .tup xs.reverse) (fun _ _ c => Heap.get?_push_of_some _ c) (Nat.le_refl _) ⟨by rw [List.length_reverse]; exact room, _, vals.reverse, IsTup.new _ _⟩, rfl, q _ (J.hok.fresh (Nat.le_refl _))⟩
end
end CF
/-! sorted(t), t a tuple of whole numbers; a dict comprehension over any walk. -/
namespace CF
open PySem PySem.Spec PyProof.Rows L2
/-- sorted(t), t a tuple of fewer than 64 whole numbers: some ascending arrangement -/
def rSortedTup (K : PySem.W.Frag) : List V → Hp → VK → Prop := fun vs H Q => ∃ (a : Addr) (ks : List Int), vs = [V.ref a] ∧ SqT K H a (ks.map V.int) ∧ ks.length < 64 ∧
  ∀ (up : List Int) (p : Addr), up.Perm ks → up.Pairwise (· ≤ ·) → H p = none → Q (.ref p) (upd H p (.lst (up.map V.int)))
theorem cr_sortedTup {X : Cx} : CallR X (.builtin "sorted") (rSortedTup X.K) := by
  intro pins s σ H vs us Q I rel
  rintro ⟨a, ks, rfl, hq, few, q⟩
  rw [Vals.ref1 rel]
  obtain ⟨items, vals, ⟨ob, atA, isTup, n, isSeq⟩, room⟩ := I.tuple hq
  have nums : IntsAre items ks := intsAre_of vals
  have count : items.length = ks.length := nums.length
  refine Calls.call_function_entry kind_sorted plain_sorted entry_sorted (args_sorted1 _) ?_
  unfold Builtin.«sorted»
  refine wpAny_bind (m := checkCount "sorted" 1 1 _) (wpAny_pure (wpAny_bind ?_))
  -- the items into a list of their own
  refine wpAny_collect_seq a (.inr rfl) atA isTup isSeq (fun h1 kept => ?_) (by rw [List.size_toArray]; rw [List.length_map] at room; omega)
  have I1 : Inv X pins σ H { s with heap := h1 } := I.kept (t' := s.toks) kept
  refine wpAny_bind (wpAny_newList ?_ (by rw [count]; exact small64 few))
  have there : (h1.push (seqObj "list" items.toArray 0)).get? h1.objs.size = some (seqObj "list" items.toArray 0) := Heap.get?_push_size _ rfl
  -- its sort
  refine wpAny_bind (wpAny_holding (wpAny_call_entry slot_list_sort ⟨_, there, rfl⟩ entry_list_sort (list_sort_tree there nums (by omega) fun out up rises perm asc => ⟨_, rfl, wpAny_pure ⟨_, rfl, ?_⟩⟩) (args_list_sort _)))
  obtain ⟨ep, behind⟩ := sortedHeap_at (vs := items) (out := out) there
  have free : H h1.objs.size = none := I1.hok.fresh (Nat.le_refl _)
  have short : (up.map V.int).length ≤ sizeLine := by
    rw [List.length_map, perm.length_eq]
    exact small64 few
  refine ⟨.ref h1.objs.size, _, I1.laid (t' := s.toks) (o := .lst (up.map V.int)) (fun b u hb => ?_) (Nat.le_refl _) ⟨short, out.toList, ep, vals_of_ints rises, behind⟩, rfl, q up _ perm asc free⟩
  have below := Heap.lt_size hb
  rw [sortedHeap_old (Nat.ne_of_lt below) (by rw [size_push']; exact Nat.lt_succ_of_lt below)]
  exact Heap.get?_push_of_some _ hb
/-- a dict comprehension without a test, over any walk J from the heap H on: Pv by the new dict's place, the turn and the heap -/
theorem dc_walk {wi : TI} {J : It} {n : Nat} {G : Hp → Prop} {Y : Nat → Hp → V → Hp → Prop} {g : TG} {tk tv : TE} {vs : List Nat} {σ : L2.St} {H : Hp} {Q : VK} (src : ∀ R, R J H → wi σ H R) (w : Walk J n G Y) (Pv : Addr → Nat → Hp → Prop)
    (start : ∀ D, H D = none → Pv D 0 (upd H D (.dK []))) (stands : ∀ D i H', H D = none → Pv D i H' → G H')
    (turn : ∀ D i x H1 H2, H D = none → i < n → Pv D i H1 → Y i H1 x H2 → g x (wipe σ vs) H2 fun σ' H3 => wipe σ' vs = wipe σ vs ∧ tk σ' H3 fun y H4 => tv σ' H4 fun z H5 =>
      ∃ kvs k, y = kV k ∧ H5 D = some (.dK kvs) ∧ kvs.length < sizeLine ∧ Pv D (i + 1) (upd H5 D (.dK (putK kvs k z))))
    (done : ∀ D H', H D = none → Pv D n H' → Q (.ref D) H') : tDc wi g tYes tk tv vs σ H Q := by
  refine src _ fun D new => ?_
  refine ⟨fun i left H' => left + i = n ∧ Pv D i H', ⟨n, rfl, start D new⟩, fun i left H1 now => ?_⟩
  obtain ⟨e, hv⟩ := now
  cases left with
  | zero =>
    rw [Nat.zero_add] at e
    subst e
    exact .inl ⟨w.stops H1 (stands D i H1 new hv), done D H1 new hv⟩
  | succ left =>
    have more : i < n := by omega
    exact .inr ⟨w.goes i H1 more (stands D i H1 new hv), fun H' => Pv D (i + 1) H', fun H' h => ⟨left, Nat.lt_succ_self _, by omega, h⟩, fun x H2 y => turn D i x H1 H2 new more hv (w.yields i H1 x H2 more (stands D i H1 new hv) y)⟩
end CF
/-! A tuple made by tuple(list), its object known (no dict of its own); t.index(k) of such a tuple. -/
namespace CF
open PySem PySem.Spec PyProof.Rows L2
/-- a plain tuple: its object is known, it has no dict -/
def TupF (H : Hp) (a : Addr) (xs : List V) : Prop := ∃ ob : Obj, H a = some (.frz ob (.tup xs)) ∧ ob.cls = .type "tuple" ∧ ob.dict = none
theorem TupF.rd {H : Hp} {a : Addr} {xs : List V} (h : TupF H a xs) : Rd H a (.tup xs) := let ⟨ob, e, _⟩ := h; .inr ⟨ob, e⟩
section
variable {X : Cx}
def rTupF (K : PySem.W.Frag) : List V → Hp → VK → Prop := fun vs H Q => ∃ p ys, vs = [.ref p] ∧ SqL K H p ys ∧ ∀ l H', H l = none → (∀ b o, H b = some o → H' b = some o) → TupF H' l ys → (∀ b, b ≠ l → H' b = H b) → Q (.ref l) H'
theorem cr_tupF : CallR X (.type "tuple") (rTupF X.K) := by
  intro pins s σ H args us Q I rel
  rintro ⟨p, ys, rfl, hq, q⟩
  rw [Vals.ref1 rel]
  obtain ⟨items, vals, list, room⟩ := I.list hq
  have fits : items.toArray.size ≤ sizeLine := by
    rw [List.size_toArray, ← vals.length]
    exact room
  refine call_tuple_list list.isList (fun h1 kept => ?_) fits
  let ob : Obj := { cls := .type "tuple", data := .seq items.toArray }
  have J : Inv X pins σ H { s with heap := h1 } := I.kept (t' := s.toks) kept
  have free : H h1.objs.size = none := J.hok.fresh (Nat.le_refl _)
  have known : ObjOk X.prog X.w (upd H h1.objs.size (.frz ob (.tup ys))) (h1.push ob) h1.objs.size (.frz ob (.tup ys)) := ⟨Heap.get?_push_size _ rfl, room, items, vals, IsTup.new _ _⟩
  refine ⟨.ref h1.objs.size, _, J.laid (t' := s.toks) (fun _ _ c => Heap.get?_push_of_some _ c) (Nat.le_refl _) known, rfl, q _ _ free (fun b o c => ?_) ⟨ob, upd_same, rfl, rfl⟩ fun b hb => upd_ne hb⟩
  rw [upd_ne (ne_of_none c free)]
  exact c
/-- t.index(k) -/
def tTIx (K : PySem.W.Frag) (to : TE) (t : TA) : TE := fun σ H Q => to σ H fun x H1 => (∃ a xs, x = V.ref a ∧ TupF H1 a xs) ∧ t σ H1 fun xs H2 => rTupIx K x xs H2 Q
theorem pe_tupIx {recv arg : Expr} {more : List Expr} {tr : TE} {ta : TA} {ap cp : Pos} (hr : PE X recv tr) (ha : PA X (arg :: more) ta) (plain : attributeBase recv "index" X.env (eval recv X.env) = eval recv X.env := by rfl)
    (few : ((backTo cp (starEach (arg :: more) X.env)).all (fun x => !x.1) && (backToKw cp (keywordEach [] X.env)).all (fun x => x.1.isSome) && decide ((arg :: more).length + ([] : List Keyword).length + (if ([] : List Keyword).isEmpty then 0 else 1) < 30)) = true := by rfl)
    (line : (ap.endLine == cp.line) = true := by rfl) (first : starEach (arg :: more) X.env = (false, eval arg X.env) :: starEach more X.env := by rfl) (nostar : (backTo cp (starEach more X.env)).any (·.1) = false := by rfl) :
    PE X (.Call (.Attribute recv "index" ap) (arg :: more) [] cp) (tTIx X.K tr ta) := by
  refine ⟨fun pins s σ H Q I hw => wpAny_Call_method_late plain few line rfl (thn (hr.run pins s σ H _ I hw) fun v s1 got => ?_)⟩
  obtain ⟨_, H1, J, rel, ⟨a, xs, rfl, ob, frozen, isTup, bare⟩, args⟩ := got
  cases rel
  have there : s1.heap.get? a = some ob := (J.hok a _ frozen).1
  have run := ha.run cp pins s1 σ H1 _ J args
  refine ⟨"tuple", "tuple.index", F.plainAttrs_tuple, F.slot_tuple_index, F.type_tuple_index, ⟨ob, there, isTup⟩, (fun b z => by cases z; exact ⟨ob, there, bare⟩), ?_⟩
  rw [first] at run ⊢
  refine Calls.callWith_builtin ?_ (Calls.evalArgs_plain (thn run fun us s2 ⟨vs, H2, J2, vals, ask⟩ => mt_tupIx pins s2 σ H2 (.ref a) vs (.ref a) us Q J2 rfl vals ask))
  show (false || (backTo cp (starEach more X.env)).any (·.1)) = false
  rw [Bool.false_or]
  exact nostar
end
end CF
/-! ### the text: the defs of the row's top by their places -/
namespace CF
open PySem PySem.Spec PyProof.Rows L2
def topS (i : Nat) : Stmt := PySem.Challenge.pw_chipfloor_k35_whole_lengths_in_a_row.main.body.getD i (.Pass ⟨0, 0, 0, 0⟩)
abbrev sIsInteger : Stmt := topS 1
theorem scIsInteger : FnScope ["value"] ["value"] (defScope sIsInteger) := ⟨rfl, rfl, rfl, by decide +kernel, rfl, by decide +kernel, by decide +kernel⟩
abbrev sIsIn : Stmt := topS 2
theorem scIsIn : FnScope ["value", "least", "most"] ["value", "least", "most"] (defScope sIsIn) := ⟨rfl, rfl, rfl, by decide +kernel, rfl, by decide +kernel, by decide +kernel⟩
abbrev sIsList : Stmt := topS 3
theorem scIsList : FnScope ["value", "least", "most"] ["value", "least", "most"] (defScope sIsList) := ⟨rfl, rfl, rfl, by decide +kernel, rfl, by decide +kernel, by decide +kernel⟩
abbrev sIsPart : Stmt := topS 13
theorem scIsPart : FnScope ["value", "many", "cell"] ["value", "many"] (defScope sIsPart) := ⟨rfl, rfl, rfl, by decide +kernel, rfl, by decide +kernel, by decide +kernel⟩
abbrev sNeedNets : Stmt := topS 14
theorem scNeedNets : FnScope ["many", "nets", "index", "net"] ["many", "nets"] (defScope sNeedNets) := ⟨rfl, rfl, rfl, by decide +kernel, rfl, by decide +kernel, by decide +kernel⟩
abbrev sNeedSides : Stmt := topS 15
theorem scNeedSides : FnScope ["many", "nets", "side"] ["many", "nets", "side"] (defScope sNeedSides) := ⟨rfl, rfl, rfl, by decide +kernel, rfl, by decide +kernel, by decide +kernel⟩
abbrev sCutIn : Stmt := topS 16
theorem scCutIn : FnScope ["nets", "side", "net", "cell"] ["nets", "side"] (defScope sCutIn) := ⟨rfl, rfl, rfl, by decide +kernel, rfl, by decide +kernel, by decide +kernel⟩
abbrev sCut : Stmt := topS 17
theorem scCut : FnScope ["many", "nets", "side"] ["many", "nets", "side"] (defScope sCut) := ⟨rfl, rfl, rfl, by decide +kernel, rfl, by decide +kernel, by decide +kernel⟩
abbrev sIsOrder : Stmt := topS 19
theorem scIsOrder : FnScope ["value", "many", "one"] ["value", "many"] (defScope sIsOrder) := ⟨rfl, rfl, rfl, by decide +kernel, rfl, by decide +kernel, by decide +kernel⟩
abbrev sNeedOrder : Stmt := topS 21
theorem scNeedOrder : FnScope ["many", "nets", "order"] ["many", "nets", "order"] (defScope sNeedOrder) := ⟨rfl, rfl, rfl, by decide +kernel, rfl, by decide +kernel, by decide +kernel⟩
abbrev sLengthsIn : Stmt := topS 22
theorem scLengthsIn : FnScope ["nets", "order", "places", "at", "cell", "net"] ["nets", "order"] (defScope sLengthsIn) := ⟨rfl, rfl, rfl, by decide +kernel, rfl, by decide +kernel, by decide +kernel⟩
abbrev sWireLength : Stmt := topS 23
theorem scWireLength : FnScope ["many", "nets", "order"] ["many", "nets", "order"] (defScope sWireLength) := ⟨rfl, rfl, rfl, by decide +kernel, rfl, by decide +kernel, by decide +kernel⟩
abbrev sCrossings : Stmt := topS 24
theorem scCrossings : FnScope ["many", "nets", "order", "at"] ["many", "nets", "order"] (defScope sCrossings) := ⟨rfl, rfl, rfl, by decide +kernel, rfl, by decide +kernel, by decide +kernel⟩
abbrev sCrossing : Stmt := topS 25
theorem scCrossing : FnScope ["nets", "head", "net", "cell"] ["nets", "head"] (defScope sCrossing) := ⟨rfl, rfl, rfl, by decide +kernel, rfl, by decide +kernel, by decide +kernel⟩
abbrev sLawTaken : Stmt := topS 27
theorem scLawTaken : FnScope ["_law_row", "_law_many", "_law_found", "_law_cell"] ["_law_row", "_law_many"] (defScope sLawTaken) := ⟨rfl, rfl, rfl, by decide +kernel, rfl, by decide +kernel, by decide +kernel⟩
abbrev sLawPick : Stmt := topS 28
theorem scLawPick : FnScope ["_law_row", "_law_things"] ["_law_row", "_law_things"] (defScope sLawPick) := ⟨rfl, rfl, rfl, by decide +kernel, rfl, by decide +kernel, by decide +kernel⟩
abbrev sLawAlike : Stmt := topS 29
theorem scLawAlike : FnScope ["_law_found", "_law_due", "_law_k"] ["_law_found", "_law_due"] (defScope sLawAlike) := ⟨rfl, rfl, rfl, by decide +kernel, rfl, by decide +kernel, by decide +kernel⟩
abbrev sLawOrder : Stmt := topS 30
theorem scLawOrder : FnScope ["_law_row", "_law_many", "_law_left", "_law_found", "_law_turn"] ["_law_row", "_law_many"] (defScope sLawOrder) := ⟨rfl, rfl, rfl, by decide +kernel, rfl, by decide +kernel, by decide +kernel⟩
abbrev sLawNets : Stmt := topS 31
theorem scLawNets : FnScope ["_law_row", "_law_many", "_law_most", "_law_found", "_law_turn", "_law_size", "_law_left", "_law_net", "_law_again"] ["_law_row", "_law_many", "_law_most"] (defScope sLawNets) := ⟨rfl, rfl, rfl, by decide +kernel, rfl, by decide +kernel, by decide +kernel⟩
abbrev sLawCut : Stmt := topS 32
theorem scLawCut : FnScope ["_law_nets_here", "_law_side", "_law_net", "_law_cell"] ["_law_nets_here", "_law_side"] (defScope sLawCut) := ⟨rfl, rfl, rfl, by decide +kernel, rfl, by decide +kernel, by decide +kernel⟩
abbrev sLaw : Stmt := topS 33
theorem scLaw : FnScope ["_law_script", "_law_row", "_law_turn", "_law_many", "_law_nets_here", "_law_order_here", "_law_total", "_law_net", "_law_places", "_law_due", "_law_cell", "_law_at"] ["_law_script"] (defScope sLaw) := ⟨rfl, rfl, rfl, by decide +kernel, rfl, by decide +kernel, by decide +kernel⟩
/-- the built-in names that the text uses stand for the built-ins -/
structure Bl (mg : Str → Option Value) : Prop where
  m_isinstance : mg "isinstance" = none
  m_int : mg "int" = none
  m_bool : mg "bool" = none
  m_tuple : mg "tuple" = none
  m_list : mg "list" = none
  m_len : mg "len" = none
  m_all : mg "all" = none
  m_range : mg "range" = none
  m_sorted : mg "sorted" = none
  m_set : mg "set" = none
  m_enumerate : mg "enumerate" = none
  m_max : mg "max" = none
  m_min : mg "min" = none
  m_sum : mg "sum" = none
  m_str : mg "str" = none
  c_MOST_CELLS : ∃ u, mg "MOST_CELLS" = some u ∧ RelV (.int 8) u
  c_MOST_NETS : ∃ u, mg "MOST_NETS" = some u ∧ RelV (.int 20) u
/-- a def that may be called by its name -/
abbrev Cal0 (P : Program) (w : World) (K : PySem.W.Frag) (mg : Str → Option Value) (base : Heap) (k : Nat) (x : Str) (sp : Sp) : Prop := C8.Cal P w K mg base k x sp []
end CF
/-! The checks: is_integer, is_in, is_list. -/
namespace CF
open PySem PySem.Spec PyProof.Rows L2
theorem same_new {H H' : Hp} {p : Addr} {o : HO} (s : Same H H') (h : H p = none) : Same H (upd H' p o) := fun b x e => by
  rw [upd_ne (ne_of_none e h)]
  exact s b x e
theorem same_upd {H : Hp} {p : Addr} {o : HO} (h : H p = none) : Same H (upd H p o) := same_new (Same.refl H) h
theorem rd_same {H H' : Hp} {a : Addr} {u : HO} (s : Same H H') (h : Rd H a u) : Rd H' a u := h.elim (fun e => .inl (s _ _ e)) fun ⟨o, e⟩ => .inr ⟨o, s _ _ e⟩
theorem ty_tup {K : PySem.W.Frag} {H : Hp} {a : Addr} {xs : List V} (h : Rd H a (.tup xs)) : TyX K H (.ref a) (.type "tuple") := h.elim (fun e => .base (.tup e)) fun ⟨o, e⟩ => .fTuple e
theorem qT {Q : VK} {c : Prop} [Decidable c] {H : Hp} (hc : c) (q : Q (.bl true) H) : Q (.bl (decide c)) H := by
  rw [decide_eq_true hc]
  exact q
section
variable {P : Program} {w : World} {K : PySem.W.Frag} {mg : Str → Option Value} {base : Heap} {f : Addr} {fd : FuncData}
theorem cal_of {x : Str} {st : Stmt} {ps : List Str} {k : Nat} {sp : Sp} (F : Fun K x x st f fd) (g : mg x = some (.ref f)) (b : Binds K fd ps []) (h : FnOk P w K mg base CX0 k f fd ps sp) : Cal0 P w K mg base k x sp :=
  ⟨f, fd, ps, [], h, g, F.kp, b, .nil⟩
def spInteger : Sp := fun vs H Q _ => ∃ n : Int, vs = [.int n] ∧ Q (.bl true) H
theorem ok_integer (B : Bl mg) (F : Fun K "is_integer" "is_integer" sIsInteger f fd) : FnOk P w K mg base CX0 1 f fd ["value"] spInteger := by
  refine F.ok scIsInteger (fun vs H Q E h => ?_) (fun cdv A outer s H vs Q E hr h => ?_)
  · obtain ⟨n, rfl, _⟩ := h
    rfl
  · obtain ⟨n, rfl, q⟩ := h
    refine ⟨_, pss_one (ps_ret (pe_and (pe_callB call_isi (by rfl) B.m_isinstance boot_isinstance (pa_cons (pv 0) (pa_cons (pe_bltn (v := .ty "int") (by rfl) B.m_int boot_int rfl) pa_nil)))
      (pe_one (pe_not (pe_callB call_isi (by rfl) B.m_isinstance boot_isinstance (pa_cons (pv 0) (pa_cons (pe_bltn (v := .ty "bool") (by rfl) B.m_bool boot_bool rfl) pa_nil))))))), ?_⟩
    refine ⟨_, rfl, _, _, _, _, true, rfl, .ty _, .base (.int n), kit_ty (by decide +kernel), true, rfl, iteT ?_⟩
    exact ⟨_, rfl, _, _, _, _, false, rfl, .ty _, .base (.int n), kit_ty (by decide +kernel), false, rfl, q⟩
def spIn : Sp := fun vs H Q _ => ∃ v a b : Int, vs = [.int v, .int a, .int b] ∧ a ≤ v ∧ v ≤ b ∧ Q (.bl true) H
theorem ok_in (B : Bl mg) (c1 : Cal0 P w K mg base 1 "is_integer" spInteger) (F : Fun K "is_in" "is_in" sIsIn f fd) : FnOk P w K mg base CX0 2 f fd ["value", "least", "most"] spIn := by
  refine F.ok scIsIn (fun vs H Q E h => ?_) (fun cdv A outer s H vs Q E hr h => ?_)
  · obtain ⟨v, a, b, rfl, _⟩ := h
    rfl
  · obtain ⟨v, a, b, rfl, h1, h2, q⟩ := h
    refine ⟨_, pss_one (ps_ret (pe_and (C8.pe_c c1 hr (by decide) (by rfl) (pa_cons (pv 0) pa_nil)) (pe_one (pe_chain op_le op_le (pv 1) (pv 0) (pv 2))))), ?_⟩
    refine ⟨_, rfl, v, rfl, true, rfl, iteT ?_⟩
    refine ⟨_, rfl, _, rfl, _, _, rfl, rfl, _, rfl, ?_⟩
    rw [decide_eq_true h1]
    exact iteT ⟨_, rfl, _, _, rfl, rfl, qT h2 q⟩
def spList (K : PySem.W.Frag) : Sp := fun vs H Q _ => ∃ (p : Addr) (xs : List V) (a b : Int), vs = [.ref p, .int a, .int b] ∧ Rd H p (.tup xs) ∧ a ≤ xs.length ∧ (xs.length : Int) ≤ b ∧ Q (.bl true) H
theorem ok_list (B : Bl mg) (F : Fun K "is_list" "is_list" sIsList f fd) : FnOk P w K mg base CX0 1 f fd ["value", "least", "most"] (spList K) := by
  refine F.ok scIsList (fun vs H Q E h => ?_) (fun cdv A outer s H vs Q E hr h => ?_)
  · obtain ⟨p, xs, a, b, rfl, _⟩ := h
    rfl
  · obtain ⟨p, xs, a, b, rfl, hp, h1, h2, q⟩ := h
    refine ⟨_, pss_one (ps_ret (pe_and (pe_callB call_isi (by rfl) B.m_isinstance boot_isinstance (pa_cons (pv 0) (pa_cons (pe_bltn (v := .ty "tuple") (by rfl) B.m_tuple boot_tuple rfl) pa_nil)))
      (pe_one (pe_chain op_le op_le (pv 1) (pe_callB call_len_seq (by rfl) B.m_len PySem.boot_len (pa_cons (pv 0) pa_nil)) (pv 2))))), ?_⟩
    refine ⟨_, rfl, _, _, _, _, true, rfl, .ty _, ty_tup hp, kit_ty (by decide +kernel), true, rfl, iteT ?_⟩
    refine ⟨_, rfl, _, rfl, p, xs, rfl, .inr (.inl hp), _, _, rfl, rfl, _, rfl, ?_⟩
    rw [decide_eq_true h1]
    exact iteT ⟨_, rfl, _, _, rfl, rfl, qT h2 q⟩
end
end CF
/-! The checks: is_part, is_order. -/
namespace CF
open PySem PySem.Spec PyProof.Rows L2
section
variable {P : Program} {w : World} {K : PySem.W.Frag} {mg : Str → Option Value} {base : Heap} {f : Addr} {fd : FuncData}
/-- a comprehension without a test goes on to its element -/
theorem yes_of {σ : L2.St} {H : Hp} {A C : Hp → Prop} (h : A H) : tYes σ H (fun b H3 => if b = true then A H3 else C H3) := by
  show if true = true then A H else C H
  exact iteT h
def trues (n : Nat) : List Bool := List.replicate n true
theorem trues_more (n : Nat) : (trues (n + 1)).map V.bl = (trues n).map V.bl ++ [V.bl true] := by
  unfold trues
  rw [List.replicate_succ', List.map_append]
  rfl
theorem trues_all (n : Nat) : (trues n).all id = true := by
  unfold trues
  rw [List.all_replicate]
  cases n <;> rfl
theorem trues_len (n : Nat) : ((trues n).map V.bl).length = n := by
  unfold trues
  rw [List.length_map, List.length_replicate]
theorem small60 {n : Nat} (h : n ≤ 60) : n < sizeLine := Nat.lt_of_le_of_lt h (by decide)
theorem ints_at {ns : List Int} {i : Nat} {x : V} (h : (ns.map V.int)[i]? = some x) : ∃ k, ns[i]? = some k ∧ x = .int k := by
  rw [List.getElem?_map] at h
  cases e : ns[i]? with
  | none =>
    rw [e] at h
    cases h
  | some k =>
    rw [e] at h
    exact ⟨k, rfl, (Option.some.inj h).symm⟩
theorem dp_ints {H : Hp} : ∀ ns : List Int, DpAll K H (ns.map V.int) (ns.map PyData.int)
  | [] => .nil
  | n :: ns => .cons (.int n) (dp_ints ns)
theorem dp_list {H : Hp} {a : Addr} {ns : List Int} (h : H a = some (.lst (ns.map V.int))) : Dp K H (.ref a) (.list (ns.map PyData.int)) := .lst (SqL.of h) (dp_ints ns)
theorem shaped_ints (ns : List Int) : SeqAt.shaped (.list (ns.map PyData.int)) = true := PySem.W.ke_shaped_ints ns
theorem eqv_ints (ns : List Int) : PyData.eqv (.list (ns.map PyData.int)) (.list (ns.map PyData.int)) = true := SeqAt.eqv_refl _ (SeqAt.canLay_of_shaped (shaped_ints ns))
theorem asc_unique : ∀ {xs ys : List Int}, xs.Pairwise (· < ·) → ys.Pairwise (· < ·) → (∀ k, k ∈ xs ↔ k ∈ ys) → xs = ys
  | [], [], _, _, _ => rfl
  | [], y :: ys, _, _, h => by
    have := (h y).mpr List.mem_cons_self
    cases this
  | x :: xs, [], _, _, h => by
    have := (h x).mp List.mem_cons_self
    cases this
  | x :: xs, y :: ys, hx, hy, h => by
    obtain ⟨x1, x2⟩ := List.pairwise_cons.mp hx
    obtain ⟨y1, y2⟩ := List.pairwise_cons.mp hy
    have e : x = y := by
      have a := (h x).mp List.mem_cons_self
      have b := (h y).mpr List.mem_cons_self
      rcases List.mem_cons.mp a with a | a
      · exact a
      · rcases List.mem_cons.mp b with b | b
        · exact b.symm
        · have p := y1 x a
          have q := x1 y b
          omega
    subst e
    rw [asc_unique x2 y2 fun k => ?_]
    constructor
    · intro hk
      rcases List.mem_cons.mp ((h k).mp (List.mem_cons_of_mem _ hk)) with e | q
      · have := x1 k hk
        omega
      · exact q
    · intro hk
      rcases List.mem_cons.mp ((h k).mpr (List.mem_cons_of_mem _ hk)) with e | q
      · have := y1 k hk
        omega
      · exact q
theorem asc_nodup {xs : List Int} (h : xs.Pairwise (· < ·)) : xs.Nodup := h.imp fun hab e => by omega
/-- value, many: value an ascending tuple of numbers below many -/
def spPart : Sp := fun vs H Q _ => ∃ (p : Addr) (ns : List Int) (m : Int), vs = [.ref p, .int m] ∧ H p = some (.tup (ns.map V.int)) ∧ ns.length ≤ 60 ∧ ns.Pairwise (· < ·) ∧ (∀ c ∈ ns, 0 ≤ c ∧ c < m) ∧ ∀ H', Same H H' → Q (.bl true) H'
theorem ok_part (B : Bl mg) (c1 : Cal0 P w K mg base 2 "is_in" spIn) (F : Fun K "is_part" "is_part" sIsPart f fd) : FnOk P w K mg base CX0 3 f fd ["value", "many"] spPart := by
  refine F.ok scIsPart (fun vs H Q E h => ?_) (fun cdv A outer s H vs Q E hr h => ?_)
  · obtain ⟨p, ns, m, rfl, _⟩ := h
    rfl
  · obtain ⟨p, ns, m, rfl, hp, hl, ha, hm, q⟩ := h
    refine ⟨_, pss_one (ps_ret (pe_and (pe_callB (cr_all rfl) (by rfl) B.m_all (by decide +kernel) (pa_cons
        (pe_lc (own := [("cell", 2)]) (g := gName 2) (tt := tYes) rfl scIsPart.nd (pi_tup (pv 0)) (blkOk_by (own := [("cell", 2)]) (N := ["value", "many", "cell"]) (sc := defScope sIsPart) (by decide +kernel))
          (fun _ _ _ _ _ => pg_name (i := 2) scIsPart.nd rfl (Or.inl rfl)) (fun _ _ _ _ _ => pts_nil)
          (fun _ _ _ _ _ => C8.pe_c c1 hr (by decide) (by rfl) (pa_cons (pv 2) (pa_cons pe_int (pa_cons (pe_op op_sub (pv 1) pe_int) pa_nil))))) pa_nil))
      (pe_one (pe_cmpR (op_eqD hr.units) (pe_callTy call_list_of (by rfl) B.m_list boot_list (pa_cons (pv 0) pa_nil))
        (pe_callB (cr_sortedSet rfl) (by rfl) B.m_sorted boot_sorted (pa_cons (pe_callTy (cr_setTup rfl) (by rfl) B.m_set boot_set (pa_cons (pv 0) pa_nil)) pa_nil)) (nomark _))))), ?_⟩
    -- all([..])
    refine ⟨_, rfl, p, rfl, ⟨_, SqT.of hp⟩, fun D nD => lc_tup (K := K) (a := p) (xs := ns.map V.int) (fun i H' => Same H H' ∧ H' D = some (.lst ((trues i).map V.bl))) ⟨same_upd nD, upd_same⟩ (fun i H' _ q => SqT.of (q.1 _ _ hp)) ?_ ?_⟩
    · rintro i x H1 hx ⟨s1, hD⟩
      obtain ⟨k, hk, rfl⟩ := ints_at hx
      have hkm := hm k (List.mem_of_getElem? hk)
      have hil : i < ns.length := (List.getElem?_eq_some_iff.mp hk).1
      refine ⟨rfl, yes_of ⟨_, rfl, _, rfl, _, _, rfl, rfl, k, 0, m - 1, rfl, hkm.1, by omega, _, hD, ?_, same_new s1 nD, ?_⟩⟩
      · rw [trues_len]
        exact small60 (by omega)
      · rw [upd_same, trues_more]
    · rintro H1 ⟨s1, hD⟩
      rw [List.length_map] at hD
      refine ⟨D, trues ns.length, rfl, SqL.of hD, true, ?_, iteT ?_⟩
      · rw [trues_all]
      -- list(value) == sorted(set(value))
      have hp1 : H1 p = some (.tup (ns.map V.int)) := s1 _ _ hp
      refine ⟨_, rfl, p, _, rfl, .inr (SqT.of hp1), fun l nl => ?_⟩
      have hp2 : (upd H1 l (.lst (ns.map V.int))) p = some (.tup (ns.map V.int)) := same_upd nl _ _ hp1
      refine ⟨_, rfl, p, ns, rfl, SqT.of hp2, hl, fun a c na hc1 hc2 => ?_⟩
      refine ⟨a, _, c, rfl, upd_same, by omega, fun ns' d h1 h2 h3 nd => ?_⟩
      have e : ns' = ns := asc_unique h1 ha fun k => by
        rw [h2 k]
        exact ⟨fun z => of_decide_eq_true z, fun z => decide_eq_true z⟩
      subst e
      have nla : l ≠ a := fun e => by
        subst e
        rw [upd_same] at na
        cases na
      have nld : l ≠ d := fun e => by
        subst e
        rw [upd_ne nla, upd_same] at nd
        cases nd
      refine ⟨_, _, dp_list (ns := ns') ?_, dp_list (ns := ns') upd_same, shaped_ints _, shaped_ints _, ?_⟩
      · rw [upd_ne nld, upd_ne nla, upd_same]
      · rw [eqv_ints]
        refine q _ ?_
        exact ((s1.trans (same_upd nl)).trans (same_upd na)).trans (same_upd nd)
/-- value, many: value an order of so many -/
def spOrder : Sp := fun vs H Q _ => ∃ (p : Addr) (o : List Int) (m : Nat), vs = [.ref p, .int (m : Nat)] ∧ Rd H p (.tup (o.map V.int)) ∧ OrdOk m o ∧ m ≤ 60 ∧ ∀ H', Same H H' → Q (.bl true) H'
theorem ok_order (B : Bl mg) (c1 : Cal0 P w K mg base 2 "is_in" spIn) (c2 : Cal0 P w K mg base 1 "is_list" (spList K)) (F : Fun K "is_order" "is_order" sIsOrder f fd) : FnOk P w K mg base CX0 3 f fd ["value", "many"] spOrder := by
  refine F.ok scIsOrder (fun vs H Q E h => ?_) (fun cdv A outer s H vs Q E hr h => ?_)
  · obtain ⟨p, ns, m, rfl, _⟩ := h
    rfl
  · obtain ⟨p, o, m, rfl, hp, ho, hl, q⟩ := h
    have hlen : (o.map V.int).length = m := by rw [List.length_map]; exact ho.len
    refine ⟨_, pss_one (ps_ret (pe_and (C8.pe_c c2 hr (by decide) (by rfl) (pa_cons (pv 0) (pa_cons (pv 1) (pa_cons (pv 1) pa_nil)))) (pe_and (pe_callB (cr_all rfl) (by rfl) B.m_all (by decide +kernel) (pa_cons
        (pe_lc (own := [("one", 2)]) (g := gName 2) (tt := tYes) rfl scIsOrder.nd (pi_tup (pv 0)) (blkOk_by (own := [("one", 2)]) (N := ["value", "many", "one"]) (sc := defScope sIsOrder) (by decide +kernel))
          (fun _ _ _ _ _ => pg_name (i := 2) scIsOrder.nd rfl (Or.inl rfl)) (fun _ _ _ _ _ => pts_nil)
          (fun _ _ _ _ _ => C8.pe_c c1 hr (by decide) (by rfl) (pa_cons (pv 2) (pa_cons pe_int (pa_cons (pe_op op_sub (pv 1) pe_int) pa_nil))))) pa_nil))
      (pe_one (pe_cmpR op_eq (pe_callB cr_lenSet (by rfl) B.m_len PySem.boot_len (pa_cons (pe_callTy (cr_setTup rfl) (by rfl) B.m_set boot_set (pa_cons (pv 0) pa_nil)) pa_nil)) (pv 1) (nomark _)))))), ?_⟩
    refine ⟨_, rfl, _, rfl, _, rfl, p, _, _, _, rfl, hp, by omega, by omega, true, rfl, iteT ?_⟩
    -- all([..])
    refine ⟨_, rfl, p, rfl, ⟨_, .inl hp⟩, fun D nD => lc_tup (K := K) (a := p) (xs := o.map V.int) (fun i H' => Same H H' ∧ H' D = some (.lst ((trues i).map V.bl))) ⟨same_upd nD, upd_same⟩ (fun i H' _ q => .inl (rd_same q.1 hp)) ?_ ?_⟩
    · rintro i x H1 hx ⟨s1, hD⟩
      obtain ⟨k, hk, rfl⟩ := ints_at hx
      have hkm := (ho.mem k).mp (List.mem_of_getElem? hk)
      have hil : i < o.length := (List.getElem?_eq_some_iff.mp hk).1
      have hol := ho.len
      refine ⟨rfl, yes_of ⟨_, rfl, _, rfl, _, _, rfl, rfl, k, 0, (m : Int) - 1, rfl, hkm.1, by omega, _, hD, ?_, same_new s1 nD, ?_⟩⟩
      · rw [trues_len]
        exact small60 (by omega)
      · rw [upd_same, trues_more]
    · rintro H1 ⟨s1, hD⟩
      rw [hlen] at hD
      refine ⟨D, trues m, rfl, SqL.of hD, true, ?_, iteT ?_⟩
      · rw [trues_all]
      -- len(set(value)) == many
      have hp1 : Rd H1 p (.tup (o.map V.int)) := rd_same s1 hp
      have hol := ho.len
      refine ⟨_, rfl, p, o, rfl, .inl hp1, by omega, fun a c na hc1 hc2 => ?_⟩
      have hc := hc2 ho.nd
      refine ⟨a, _, c, rfl, upd_same, _, rfl, rfl, ?_⟩
      rw [hc, hol]
      refine qT rfl (q _ ?_)
      exact s1.trans (same_upd na)
end
end CF
/-! The checks of nets: need_nets, need_sides, need_order. -/
namespace CF
open PySem PySem.Spec PyProof.Rows L2
/-- nets: a tuple at p of tuples at ps -/
structure NetsAt (H : Hp) (p : Addr) (ps : List Addr) (nets : List (List Int)) : Prop where
  tup : H p = some (.tup (ps.map V.ref))
  len : ps.length = nets.length
  at_ : ∀ (i : Nat) (q : Addr) (net : List Int), ps[i]? = some q → nets[i]? = some net → H q = some (.tup (net.map V.int))
theorem NetsAt.mono {H H' : Hp} {p : Addr} {ps : List Addr} {nets : List (List Int)} (N : NetsAt H p ps nets) (s : Same H H') : NetsAt H' p ps nets :=
  ⟨s _ _ N.tup, N.len, fun i q net h1 h2 => s _ _ (N.at_ i q net h1 h2)⟩
theorem NetsAt.item {H : Hp} {p : Addr} {ps : List Addr} {nets : List (List Int)} (N : NetsAt H p ps nets) {i : Nat} {x : V} (h : (ps.map V.ref)[i]? = some x) :
    ∃ q net, x = .ref q ∧ nets[i]? = some net ∧ H q = some (.tup (net.map V.int)) ∧ i < nets.length := by
  rw [List.getElem?_map] at h
  cases e : ps[i]? with
  | none =>
    rw [e] at h
    cases h
  | some q =>
    rw [e] at h
    have hi : i < nets.length := by
      rw [← N.len]
      exact (List.getElem?_eq_some_iff.mp e).1
    exact ⟨q, nets[i], (Option.some.inj h).symm, List.getElem?_eq_getElem hi, N.at_ i q _ e (List.getElem?_eq_getElem hi), hi⟩
theorem if_no {A B : Prop} (h : B) : if (!true) = true then A else B := h
section
variable {P : Program} {w : World} {K : PySem.W.Frag} {mg : Str → Option Value} {base : Heap} {f : Addr} {fd : FuncData}
/-- many, nets -/
def spNeedNets : Sp := fun vs H Q _ => ∃ (p : Addr) (ps : List Addr) (nets : List (List Int)) (m : Nat), vs = [.int (m : Nat), .ref p] ∧ NetsAt H p ps nets ∧ 1 ≤ m ∧ m ≤ 8 ∧ nets.length ≤ 20 ∧ (∀ net ∈ nets, NetOk m net) ∧ ∀ H', Same H H' → Q .non H'
theorem ok_needNets (B : Bl mg) (c1 : Cal0 P w K mg base 2 "is_in" spIn) (c2 : Cal0 P w K mg base 1 "is_list" (spList K)) (c3 : Cal0 P w K mg base 3 "is_part" spPart) (F : Fun K "need_nets" "need_nets" sNeedNets f fd) :
    FnOk P w K mg base CX0 4 f fd ["many", "nets"] spNeedNets := by
  refine F.ok scNeedNets (fun vs H Q E h => ?_) (fun cdv A outer s H vs Q E hr h => ?_)
  · obtain ⟨p, ps, nets, m, rfl, _⟩ := h
    rfl
  · obtain ⟨p, ps, nets, m, rfl, N, hm1, hm8, hn, hok, q⟩ := h
    obtain ⟨u1, g1, r1⟩ := B.c_MOST_CELLS
    obtain ⟨u2, g2, r2⟩ := B.c_MOST_NETS
    refine ⟨_, pss_cons (ps_if (pt_not (pt_val (C8.pe_c c1 hr (by decide) (by rfl) (pa_cons (pv 0) (pa_cons pe_int (pa_cons (pe_glob (by rfl) g1 r1) pa_nil)))))) pss_never pss_nil)
      (pss_cons (ps_if (pt_not (pt_val (C8.pe_c c2 hr (by decide) (by rfl) (pa_cons (pv 1) (pa_cons pe_int (pa_cons (pe_glob (by rfl) g2 r2) pa_nil)))))) pss_never pss_nil)
      (pss_one (ps_for PassesOwn.never rfl (pi_enumT (by rfl) B.m_enumerate (pa_cons (pv 1) pa_nil)) (pg_tup rfl (pgs_cons (pg_name (i := 2) scNeedNets.nd rfl (Or.inl rfl)) (pgs_cons (pg_name (i := 3) scNeedNets.nd rfl (Or.inl rfl)) pgs_nil)))
        (pss_one (ps_if (PW.pt (pw_or (pt_not (pt_val (C8.pe_c c2 hr (by decide) (by rfl) (pa_cons (pv 3) (pa_cons pe_int (pa_cons (pv 0) pa_nil))))))
          (pw_or1 (pt_not (pt_val (C8.pe_c c3 hr (by decide) (by rfl) (pa_cons (pv 3) (pa_cons (pv 0) pa_nil)))))))) pss_never pss_nil))))), ?_⟩
    -- is_in(many, 1, MOST_CELLS)
    refine ⟨_, rfl, _, _, _, rfl, by omega, by omega, true, rfl, if_no ?_⟩
    -- is_list(nets, 0, MOST_NETS)
    have hlen : (ps.map V.ref).length = nets.length := by rw [List.length_map, N.len]
    refine ⟨_, rfl, p, _, _, _, rfl, .inl N.tup, by omega, by omega, true, rfl, if_no ?_⟩
    -- for index, net in enumerate(nets)
    refine ⟨_, rfl, p, ps.map V.ref, rfl, SqT.of N.tup, for_it walk_enumT (fun i σ H' => (∃ y2 y3, σ = [some (.int (m : Nat)), some (.ref p), y2, y3]) ∧ Same H H') ⟨⟨_, _, rfl⟩, Same.refl H⟩ (fun i σ H' _ h => SqT.of (h.2 _ _ N.tup)) ?_ ?_⟩
    · rintro i x σ H1 H2 hi ⟨⟨y2, y3, rfl⟩, s1⟩ ⟨T, a, b, rfl, nT, rfl, ha, hb⟩
      obtain ⟨q', net, rfl, hnet, hq, hil⟩ := (N.mono s1).item hb
      have ok := hok net (List.mem_of_getElem? hnet)
      have sT := same_upd (o := .tup [a, V.ref q']) nT
      have hq2 := sT _ _ hq
      have hnl : (net.map V.int).length = net.length := List.length_map _
      have h2 := ok.two
      have hl := ok.len
      refine ⟨T, [a, .ref q'], rfl, SqT.of upd_same, rfl, _, _, rfl, _, _, rfl, rfl, ?_⟩
      refine ⟨_, rfl, _, rfl, q', _, _, _, rfl, .inl hq2, by omega, by omega, true, rfl, if_no ?_⟩
      refine ⟨_, rfl, _, rfl, q', net, _, rfl, hq2, by omega, ok.asc, ok.mem, fun H3 s3 => ⟨true, rfl, if_no ?_⟩⟩
      exact ⟨⟨_, _, rfl⟩, (s1.trans sT).trans s3⟩
    · rintro σ H1 ⟨_, s1⟩
      exact q H1 s1
/-- many, nets, side -/
def spNeedSides : Sp := fun vs H Q _ => ∃ (p : Addr) (ps : List Addr) (nets : List (List Int)) (m : Nat) (d : Addr) (side : List Int), vs = [.int (m : Nat), .ref p, .ref d] ∧ NetsAt H p ps nets ∧ 1 ≤ m ∧ m ≤ 8 ∧ nets.length ≤ 20 ∧ (∀ net ∈ nets, NetOk m net) ∧
  H d = some (.tup (side.map V.int)) ∧ side.length ≤ m ∧ side.Pairwise (· < ·) ∧ (∀ c ∈ side, 0 ≤ c ∧ c < m) ∧ ∀ H', Same H H' → Q .non H'
theorem ok_needSides (B : Bl mg) (c1 : Cal0 P w K mg base 4 "need_nets" spNeedNets) (c2 : Cal0 P w K mg base 1 "is_list" (spList K)) (c3 : Cal0 P w K mg base 3 "is_part" spPart) (F : Fun K "need_sides" "need_sides" sNeedSides f fd) :
    FnOk P w K mg base CX0 5 f fd ["many", "nets", "side"] spNeedSides := by
  refine F.ok scNeedSides (fun vs H Q E h => ?_) (fun cdv A outer s H vs Q E hr h => ?_)
  · obtain ⟨p, ps, nets, m, d, side, rfl, _⟩ := h
    rfl
  · obtain ⟨p, ps, nets, m, d, side, rfl, N, hm1, hm8, hn, hok, hd, hl, ha, hm, q⟩ := h
    refine ⟨_, pss_cons (ps_expr (C8.pe_c c1 hr (by decide) (by rfl) (pa_cons (pv 0) (pa_cons (pv 1) pa_nil))))
      (pss_one (ps_if (PW.pt (pw_or (pt_not (pt_val (C8.pe_c c2 hr (by decide) (by rfl) (pa_cons (pv 2) (pa_cons pe_int (pa_cons (pv 0) pa_nil))))))
          (pw_or1 (pt_not (pt_val (C8.pe_c c3 hr (by decide) (by rfl) (pa_cons (pv 2) (pa_cons (pv 0) pa_nil)))))))) pss_never pss_nil)), ?_⟩
    refine ⟨_, rfl, _, rfl, p, ps, nets, m, rfl, N, hm1, hm8, hn, hok, fun H1 s1 => ?_⟩
    have hd1 := s1 _ _ hd
    have hsl : (side.map V.int).length = side.length := List.length_map _
    refine ⟨_, rfl, _, rfl, d, _, _, _, rfl, .inl hd1, by omega, by omega, true, rfl, if_no ?_⟩
    refine ⟨_, rfl, _, rfl, d, side, _, rfl, hd1, by omega, ha, hm, fun H2 s2 => ⟨true, rfl, if_no ?_⟩⟩
    exact q H2 (s1.trans s2)
/-- many, nets, order -/
def spNeedOrder : Sp := fun vs H Q _ => ∃ (p : Addr) (ps : List Addr) (nets : List (List Int)) (m : Nat) (d : Addr) (o : List Int), vs = [.int (m : Nat), .ref p, .ref d] ∧ NetsAt H p ps nets ∧ 1 ≤ m ∧ m ≤ 8 ∧ nets.length ≤ 20 ∧ (∀ net ∈ nets, NetOk m net) ∧
  Rd H d (.tup (o.map V.int)) ∧ OrdOk m o ∧ ∀ H', Same H H' → Q .non H'
theorem ok_needOrder (B : Bl mg) (c1 : Cal0 P w K mg base 4 "need_nets" spNeedNets) (c2 : Cal0 P w K mg base 3 "is_order" spOrder) (F : Fun K "need_order" "need_order" sNeedOrder f fd) :
    FnOk P w K mg base CX0 5 f fd ["many", "nets", "order"] spNeedOrder := by
  refine F.ok scNeedOrder (fun vs H Q E h => ?_) (fun cdv A outer s H vs Q E hr h => ?_)
  · obtain ⟨p, ps, nets, m, d, o, rfl, _⟩ := h
    rfl
  · obtain ⟨p, ps, nets, m, d, o, rfl, N, hm1, hm8, hn, hok, hd, ho, q⟩ := h
    refine ⟨_, pss_cons (ps_expr (C8.pe_c c1 hr (by decide) (by rfl) (pa_cons (pv 0) (pa_cons (pv 1) pa_nil))))
      (pss_one (ps_if (pt_not (pt_val (C8.pe_c c2 hr (by decide) (by rfl) (pa_cons (pv 2) (pa_cons (pv 0) pa_nil))))) pss_never pss_nil)), ?_⟩
    refine ⟨_, rfl, _, rfl, p, ps, nets, m, rfl, N, hm1, hm8, hn, hok, fun H1 s1 => ?_⟩
    exact ⟨_, rfl, _, rfl, d, o, m, rfl, rd_same s1 hd, ho, by omega, fun H2 s2 => ⟨true, rfl, if_no (q H2 (s1.trans s2))⟩⟩
end
end CF
/-! How many nets have cells on both sides: cut_in, crossing, _law_cut; cut, crossings. -/
namespace CF
open PySem PySem.Spec PyProof.Rows L2
theorem inV_ints (c : Int) : ∀ ns : List Int, inV (.int c) (ns.map V.int) = decide (c ∈ ns)
  | [] => by simp [inV]
  | n :: ns => by
    have ih := inV_ints c ns
    unfold inV at ih ⊢
    rw [List.map_cons, List.any_cons, ih]
    show ((n == c) || decide (c ∈ ns)) = decide (c ∈ n :: ns)
    by_cases e : n = c
    · subst e
      simp
    · have e' : ¬ c = n := fun z => e z.symm
      rw [beq_eq_false_iff_ne.mpr e, Bool.false_or]
      by_cases h : c ∈ ns
      · rw [decide_eq_true h, decide_eq_true (List.mem_cons_of_mem _ h)]
      · rw [decide_eq_false h, decide_eq_false fun z => (List.mem_cons.mp z).elim e' h]
/-- len of a list or a tuple -/
def rLenSq (K : PySem.W.Frag) : List V → Hp → VK → Prop := fun xs H Q => ∃ p ys, xs = [.ref p] ∧ (SqL K H p ys ∨ SqT K H p ys) ∧ Q (.int ys.length) H
def rLt : R2 := rI0 fun i j => .bl (decide (i < j))
/-- [cell for cell in net if cell in head], net in slot 2, cell in 3, head in 1 -/
def tFlt (K : PySem.W.Frag) : TE := tLc (iTup K (tVar 2)) (gName 3) (tTest (tOp (rIn K false) (tVar 3) (tVar 1))) (tVar 3) [3]
def tBoth (K : PySem.W.Frag) : TT := tTest (tChain rLt rLt (tC (.int 0)) (tCB (rLenSq K) (tCons (tFlt K) tNil)) (tCB (rLenSq K) (tCons (tVar 2) tNil)))
def tNotAll (K : PySem.W.Frag) : TT := tTest (tOp (rIn K true) (tCB (rLenSq K) (tCons (tFlt K) tNil)) (tLst (tCons (tC (.int 0)) (tCons (tCB (rLenSq K) (tCons (tVar 2) tNil)) tNil))))
theorem if_true_of {c : Bool} {A B : Prop} (hc : c = true) (h : A) : if c = true then A else B := by
  rw [if_pos hc]
  exact h
theorem if_false_of {c : Bool} {A B : Prop} (hc : c = false) (h : B) : if c = true then A else B := by
  rw [hc, if_neg Bool.false_ne_true]
  exact h
theorem cnt_le_take (net head : List Int) (j : Nat) : (((net.take j).filter fun c => decide (c ∈ head)).map V.int).length ≤ net.length := by
  rw [List.length_map]
  exact Nat.le_trans (List.length_filter_le ..) (by rw [List.length_take]; omega)
theorem flt_more {net head : List Int} {j : Nat} {c : Int} (h : net[j]? = some c) : ((net.take (j + 1)).filter fun c => decide (c ∈ head)) = ((net.take j).filter fun c => decide (c ∈ head)) ++ if c ∈ head then [c] else [] := by
  rw [List.take_add_one, h, List.filter_append]
  congr 1
  by_cases e : c ∈ head
  · rw [if_pos e]
    simp [e]
  · rw [if_neg e]
    simp [e]
theorem ncrs_more {nets : List (List Int)} {head net : List Int} {i : Nat} (h : nets[i]? = some net) : ncrs (nets.take (i + 1)) head = ncrs (nets.take i) head + if crs net head = true then 1 else 0 := by
  unfold ncrs
  rw [List.take_add_one, h, List.filter_append, List.length_append]
  congr 1
  by_cases e : crs net head = true
  · rw [if_pos e]
    simp [e]
  · rw [if_neg e]
    simp [e]
theorem ncrs_le (nets : List (List Int)) (head : List Int) (i : Nat) : ncrs (nets.take i) head ≤ nets.length := by
  unfold ncrs
  exact Nat.le_trans (List.length_filter_le ..) (by rw [List.length_take]; omega)
section
variable {P : Program} {w : World} {K : PySem.W.Frag} {mg : Str → Option Value} {base : Heap} {f : Addr} {fd : FuncData}
/-- nets, head -/
def spCut2 : Sp := fun vs H Q _ => ∃ (p : Addr) (ps : List Addr) (nets : List (List Int)) (d : Addr) (head : List Int), vs = [.ref p, .ref d] ∧ NetsAt H p ps nets ∧ nets.length ≤ 20 ∧ (∀ net ∈ nets, net.length ≤ 60) ∧ H d = some (.tup (head.map V.int)) ∧
  ∀ H', Same H H' → Q (.int (ncrs nets head : Nat)) H'
theorem ok_cutIn (B : Bl mg) (F : Fun K "cut_in" "cut_in" sCutIn f fd) : FnOk P w K mg base CX0 1 f fd ["nets", "side"] spCut2 := by
  refine F.ok scCutIn (fun vs H Q E h => ?_) (fun cdv A outer s H vs Q E hr h => ?_)
  · obtain ⟨p, ps, nets, d, head, rfl, _⟩ := h
    rfl
  · obtain ⟨p, ps, nets, d, head, rfl, N, hn, hnl, hd, q⟩ := h
    refine ⟨_, pss_one (ps_ret (pe_callB call_len_seq (by rfl) B.m_len PySem.boot_len (pa_cons
      (pe_lc (own := [("net", 2)]) (g := gName 2) (tt := tBoth K) (te := tVar 2) rfl scCutIn.nd (pi_tup (pv 0)) (blkOk_by (by kernel_rfl)) (fun _ _ _ _ _ => pg_name (i := 2) scCutIn.nd rfl (Or.inl rfl))
        (fun _ _ _ _ _ => pts_one (pt_chain op_lt op_lt pe_int (pe_callB call_len_seq (by rfl) B.m_len PySem.boot_len (pa_cons
          (pe_lc (own := [("cell", 3)]) (wi := iTup K (tVar 2)) (g := gName 3) (tt := tTest (tOp (rIn K false) (tVar 3) (tVar 1))) (te := tVar 3) rfl scCutIn.nd (pi_tup (pv 2)) (blkOk_by (by kernel_rfl)) (fun _ _ _ _ _ => pg_name (i := 3) scCutIn.nd rfl (Or.inl rfl)) (fun _ _ _ _ _ => pts_one (pt_cmpR op_in_seq (pv 3) (pv 1) rfl)) (fun _ _ _ _ _ => pv 3)) pa_nil)) (pe_callB call_len_seq (by rfl) B.m_len PySem.boot_len (pa_cons (pv 2) pa_nil))))
        (fun _ _ _ _ _ => pv 2)) pa_nil))), ?_⟩
    have hlen : (ps.map V.ref).length = nets.length := by rw [List.length_map, N.len]
    refine ⟨_, rfl, p, rfl, ⟨_, SqT.of N.tup⟩, fun D nD => lc_tup (K := K) (a := p) (xs := ps.map V.ref) (fun i H' => Same H H' ∧ ∃ acc, H' D = some (.lst acc) ∧ acc.length = ncrs (nets.take i) head) ⟨same_upd nD, [], upd_same, rfl⟩ (fun i H' _ z => SqT.of (z.1 _ _ N.tup)) ?_ ?_⟩
    · rintro i x H1 hx ⟨s1, acc, hD, hacc⟩
      obtain ⟨q', net, rfl, hnet, hq, hil⟩ := (N.mono s1).item hx
      have hnn := hnl net (List.mem_of_getElem? hnet)
      have hle := ncrs_le nets head i
      have hmore := ncrs_more (head := head) hnet
      have hd1 := s1 _ _ hd
      refine ⟨rfl, ?_⟩
      refine ⟨_, rfl, q', rfl, ⟨_, SqT.of hq⟩, fun D2 nD2 => lc_tup (K := K) (a := q') (xs := net.map V.int) (fun j H' => Same H1 H' ∧ H' D2 = some (.lst (((net.take j).filter fun c => decide (c ∈ head)).map V.int))) ⟨same_upd nD2, upd_same⟩ (fun j H' _ z => SqT.of (z.1 _ _ hq)) ?_ ?_⟩
      · rintro j y H2 hy ⟨s2, hD2⟩
        obtain ⟨c, hc, rfl⟩ := ints_at hy
        refine ⟨rfl, _, rfl, _, rfl, d, _, rfl, .inr (SqT.of (s2 _ _ hd1)), rfl, flat_ints head, _, rfl, ?_⟩
        have hf := flt_more (head := head) hc
        show if inV (V.int c) (head.map V.int) = true then _ else _
        rw [inV_ints]
        by_cases e : c ∈ head
        · rw [if_pos e] at hf
          refine if_true_of (decide_eq_true e) ⟨_, rfl, _, hD2, Nat.lt_of_le_of_lt (cnt_le_take net head j) (small60 hnn), same_new s2 nD2, ?_⟩
          rw [upd_same, hf, List.map_append]
          rfl
        · rw [if_neg e, List.append_nil] at hf
          refine if_false_of (decide_eq_false e) ⟨s2, ?_⟩
          rw [hf]
          exact hD2
      · rintro H2 ⟨s2, hD2⟩
        rw [List.length_map, List.take_length] at hD2
        have hcnt : ((((net.filter fun c => decide (c ∈ head)).map V.int).length : Nat) : Int) = ((cnt net head : Nat) : Int) := by
          rw [List.length_map]
          rfl
        have hDs := s2 _ _ hD
        have hq2 := s2 _ _ hq
        have sN := s1.trans s2
        refine ⟨D2, _, rfl, .inl (SqL.of hD2), _, _, rfl, rfl, _, rfl, ?_⟩
        show if decide ((0 : Int) < ((((net.filter fun c => decide (c ∈ head)).map V.int).length : Nat) : Int)) = true then _ else _
        rw [hcnt]
        by_cases h1 : (0 : Int) < ((cnt net head : Nat) : Int)
        · refine if_true_of (decide_eq_true h1) ⟨_, rfl, q', _, rfl, .inr (SqT.of hq2), _, _, rfl, rfl, _, rfl, ?_⟩
          show if decide (((cnt net head : Nat) : Int) < (((net.map V.int).length : Nat) : Int)) = true then _ else _
          rw [List.length_map]
          by_cases h2 : ((cnt net head : Nat) : Int) < ((net.length : Nat) : Int)
          · have hcr : crs net head = true := by
              unfold crs
              rw [decide_eq_true (by omega), decide_eq_true (by omega)]
              rfl
            rw [if_pos hcr] at hmore
            refine if_true_of (decide_eq_true h2) ⟨_, rfl, acc, hDs, small60 (by omega), same_new sN nD, _, upd_same, ?_⟩
            rw [List.length_append, hacc, hmore]
            rfl
          · have hcr : ¬ crs net head = true := by
              unfold crs
              rw [decide_eq_false (show ¬ cnt net head < net.length by omega), Bool.and_false]
              exact Bool.false_ne_true
            rw [if_neg hcr] at hmore
            exact if_false_of (decide_eq_false h2) ⟨sN, acc, hDs, by rw [hmore, hacc]; rfl⟩
        · have hcr : ¬ crs net head = true := by
            unfold crs
            rw [decide_eq_false (show ¬ 0 < cnt net head by omega), Bool.false_and]
            exact Bool.false_ne_true
          rw [if_neg hcr] at hmore
          refine if_false_of (decide_eq_false h1) ⟨_, rfl, ?_⟩
          exact if_false_of rfl ⟨sN, acc, hDs, by rw [hmore, hacc]; rfl⟩
    · rintro H1 ⟨s1, acc, hD, hacc⟩
      refine ⟨D, acc, rfl, .inl (SqL.of hD), ?_⟩
      rw [hlen, List.take_length] at hacc
      rw [hacc]
      exact q H1 s1
theorem ok_crossing (B : Bl mg) (F : Fun K "crossing" "crossing" sCrossing f fd) : FnOk P w K mg base CX0 1 f fd ["nets", "head"] spCut2 := by
  refine F.ok scCrossing (fun vs H Q E h => ?_) (fun cdv A outer s H vs Q E hr h => ?_)
  · obtain ⟨p, ps, nets, d, head, rfl, _⟩ := h
    rfl
  · obtain ⟨p, ps, nets, d, head, rfl, N, hn, hnl, hd, q⟩ := h
    refine ⟨_, pss_one (ps_ret (pe_callB call_len_seq (by rfl) B.m_len PySem.boot_len (pa_cons
      (pe_lc (own := [("net", 2)]) (g := gName 2) (tt := tBoth K) (te := tVar 2) rfl scCrossing.nd (pi_tup (pv 0)) (blkOk_by (by kernel_rfl)) (fun _ _ _ _ _ => pg_name (i := 2) scCrossing.nd rfl (Or.inl rfl))
        (fun _ _ _ _ _ => pts_one (pt_chain op_lt op_lt pe_int (pe_callB call_len_seq (by rfl) B.m_len PySem.boot_len (pa_cons
          (pe_lc (own := [("cell", 3)]) (wi := iTup K (tVar 2)) (g := gName 3) (tt := tTest (tOp (rIn K false) (tVar 3) (tVar 1))) (te := tVar 3) rfl scCrossing.nd (pi_tup (pv 2)) (blkOk_by (by kernel_rfl)) (fun _ _ _ _ _ => pg_name (i := 3) scCrossing.nd rfl (Or.inl rfl)) (fun _ _ _ _ _ => pts_one (pt_cmpR op_in_seq (pv 3) (pv 1) rfl)) (fun _ _ _ _ _ => pv 3)) pa_nil)) (pe_callB call_len_seq (by rfl) B.m_len PySem.boot_len (pa_cons (pv 2) pa_nil))))
        (fun _ _ _ _ _ => pv 2)) pa_nil))), ?_⟩
    have hlen : (ps.map V.ref).length = nets.length := by rw [List.length_map, N.len]
    refine ⟨_, rfl, p, rfl, ⟨_, SqT.of N.tup⟩, fun D nD => lc_tup (K := K) (a := p) (xs := ps.map V.ref) (fun i H' => Same H H' ∧ ∃ acc, H' D = some (.lst acc) ∧ acc.length = ncrs (nets.take i) head) ⟨same_upd nD, [], upd_same, rfl⟩ (fun i H' _ z => SqT.of (z.1 _ _ N.tup)) ?_ ?_⟩
    · rintro i x H1 hx ⟨s1, acc, hD, hacc⟩
      obtain ⟨q', net, rfl, hnet, hq, hil⟩ := (N.mono s1).item hx
      have hnn := hnl net (List.mem_of_getElem? hnet)
      have hle := ncrs_le nets head i
      have hmore := ncrs_more (head := head) hnet
      have hd1 := s1 _ _ hd
      refine ⟨rfl, ?_⟩
      refine ⟨_, rfl, q', rfl, ⟨_, SqT.of hq⟩, fun D2 nD2 => lc_tup (K := K) (a := q') (xs := net.map V.int) (fun j H' => Same H1 H' ∧ H' D2 = some (.lst (((net.take j).filter fun c => decide (c ∈ head)).map V.int))) ⟨same_upd nD2, upd_same⟩ (fun j H' _ z => SqT.of (z.1 _ _ hq)) ?_ ?_⟩
      · rintro j y H2 hy ⟨s2, hD2⟩
        obtain ⟨c, hc, rfl⟩ := ints_at hy
        refine ⟨rfl, _, rfl, _, rfl, d, _, rfl, .inr (SqT.of (s2 _ _ hd1)), rfl, flat_ints head, _, rfl, ?_⟩
        have hf := flt_more (head := head) hc
        show if inV (V.int c) (head.map V.int) = true then _ else _
        rw [inV_ints]
        by_cases e : c ∈ head
        · rw [if_pos e] at hf
          refine if_true_of (decide_eq_true e) ⟨_, rfl, _, hD2, Nat.lt_of_le_of_lt (cnt_le_take net head j) (small60 hnn), same_new s2 nD2, ?_⟩
          rw [upd_same, hf, List.map_append]
          rfl
        · rw [if_neg e, List.append_nil] at hf
          refine if_false_of (decide_eq_false e) ⟨s2, ?_⟩
          rw [hf]
          exact hD2
      · rintro H2 ⟨s2, hD2⟩
        rw [List.length_map, List.take_length] at hD2
        have hcnt : ((((net.filter fun c => decide (c ∈ head)).map V.int).length : Nat) : Int) = ((cnt net head : Nat) : Int) := by
          rw [List.length_map]
          rfl
        have hDs := s2 _ _ hD
        have hq2 := s2 _ _ hq
        have sN := s1.trans s2
        refine ⟨D2, _, rfl, .inl (SqL.of hD2), _, _, rfl, rfl, _, rfl, ?_⟩
        show if decide ((0 : Int) < ((((net.filter fun c => decide (c ∈ head)).map V.int).length : Nat) : Int)) = true then _ else _
        rw [hcnt]
        by_cases h1 : (0 : Int) < ((cnt net head : Nat) : Int)
        · refine if_true_of (decide_eq_true h1) ⟨_, rfl, q', _, rfl, .inr (SqT.of hq2), _, _, rfl, rfl, _, rfl, ?_⟩
          show if decide (((cnt net head : Nat) : Int) < (((net.map V.int).length : Nat) : Int)) = true then _ else _
          rw [List.length_map]
          by_cases h2 : ((cnt net head : Nat) : Int) < ((net.length : Nat) : Int)
          · have hcr : crs net head = true := by
              unfold crs
              rw [decide_eq_true (by omega), decide_eq_true (by omega)]
              rfl
            rw [if_pos hcr] at hmore
            refine if_true_of (decide_eq_true h2) ⟨_, rfl, acc, hDs, small60 (by omega), same_new sN nD, _, upd_same, ?_⟩
            rw [List.length_append, hacc, hmore]
            rfl
          · have hcr : ¬ crs net head = true := by
              unfold crs
              rw [decide_eq_false (show ¬ cnt net head < net.length by omega), Bool.and_false]
              exact Bool.false_ne_true
            rw [if_neg hcr] at hmore
            exact if_false_of (decide_eq_false h2) ⟨sN, acc, hDs, by rw [hmore, hacc]; rfl⟩
        · have hcr : ¬ crs net head = true := by
            unfold crs
            rw [decide_eq_false (show ¬ 0 < cnt net head by omega), Bool.false_and]
            exact Bool.false_ne_true
          rw [if_neg hcr] at hmore
          refine if_false_of (decide_eq_false h1) ⟨_, rfl, ?_⟩
          exact if_false_of rfl ⟨sN, acc, hDs, by rw [hmore, hacc]; rfl⟩
    · rintro H1 ⟨s1, acc, hD, hacc⟩
      refine ⟨D, acc, rfl, .inl (SqL.of hD), ?_⟩
      rw [hlen, List.take_length] at hacc
      rw [hacc]
      exact q H1 s1
theorem ok_lawCut (B : Bl mg) (F : Fun K "_law_cut" "_law_cut" sLawCut f fd) : FnOk P w K mg base CX0 1 f fd ["_law_nets_here", "_law_side"] spCut2 := by
  refine F.ok scLawCut (fun vs H Q E h => ?_) (fun cdv A outer s H vs Q E hr h => ?_)
  · obtain ⟨p, ps, nets, d, head, rfl, _⟩ := h
    rfl
  · obtain ⟨p, ps, nets, d, head, rfl, N, hn, hnl, hd, q⟩ := h
    refine ⟨_, pss_one (ps_ret (pe_callB call_len_seq (by rfl) B.m_len PySem.boot_len (pa_cons
      (pe_lc (own := [("_law_net", 2)]) (g := gName 2) (tt := tNotAll K) (te := tVar 2) rfl scLawCut.nd (pi_tup (pv 0)) (blkOk_by (by kernel_rfl)) (fun _ _ _ _ _ => pg_name (i := 2) scLawCut.nd rfl (Or.inl rfl))
        (fun _ _ _ _ _ => pts_one (pt_cmpR op_notIn_seq (pe_callB call_len_seq (by rfl) B.m_len PySem.boot_len (pa_cons
          (pe_lc (own := [("_law_cell", 3)]) (wi := iTup K (tVar 2)) (g := gName 3) (tt := tTest (tOp (rIn K false) (tVar 3) (tVar 1))) (te := tVar 3) rfl scLawCut.nd (pi_tup (pv 2)) (blkOk_by (by kernel_rfl)) (fun _ _ _ _ _ => pg_name (i := 3) scLawCut.nd rfl (Or.inl rfl)) (fun _ _ _ _ _ => pts_one (pt_cmpR op_in_seq (pv 3) (pv 1) rfl)) (fun _ _ _ _ _ => pv 3)) pa_nil)) (pe_lst (pa_cons pe_int (pa_cons (pe_callB call_len_seq (by rfl) B.m_len PySem.boot_len (pa_cons (pv 2) pa_nil)) pa_nil))) rfl))
        (fun _ _ _ _ _ => pv 2)) pa_nil))), ?_⟩
    have hlen : (ps.map V.ref).length = nets.length := by rw [List.length_map, N.len]
    refine ⟨_, rfl, p, rfl, ⟨_, SqT.of N.tup⟩, fun D nD => lc_tup (K := K) (a := p) (xs := ps.map V.ref) (fun i H' => Same H H' ∧ ∃ acc, H' D = some (.lst acc) ∧ acc.length = ncrs (nets.take i) head) ⟨same_upd nD, [], upd_same, rfl⟩ (fun i H' _ z => SqT.of (z.1 _ _ N.tup)) ?_ ?_⟩
    · rintro i x H1 hx ⟨s1, acc, hD, hacc⟩
      obtain ⟨q', net, rfl, hnet, hq, hil⟩ := (N.mono s1).item hx
      have hnn := hnl net (List.mem_of_getElem? hnet)
      have hle := ncrs_le nets head i
      have hmore := ncrs_more (head := head) hnet
      have hd1 := s1 _ _ hd
      refine ⟨rfl, ?_⟩
      refine ⟨_, rfl, q', rfl, ⟨_, SqT.of hq⟩, fun D2 nD2 => lc_tup (K := K) (a := q') (xs := net.map V.int) (fun j H' => Same H1 H' ∧ H' D2 = some (.lst (((net.take j).filter fun c => decide (c ∈ head)).map V.int))) ⟨same_upd nD2, upd_same⟩ (fun j H' _ z => SqT.of (z.1 _ _ hq)) ?_ ?_⟩
      · rintro j y H2 hy ⟨s2, hD2⟩
        obtain ⟨c, hc, rfl⟩ := ints_at hy
        refine ⟨rfl, _, rfl, _, rfl, d, _, rfl, .inr (SqT.of (s2 _ _ hd1)), rfl, flat_ints head, _, rfl, ?_⟩
        have hf := flt_more (head := head) hc
        show if inV (V.int c) (head.map V.int) = true then _ else _
        rw [inV_ints]
        by_cases e : c ∈ head
        · rw [if_pos e] at hf
          refine if_true_of (decide_eq_true e) ⟨_, rfl, _, hD2, Nat.lt_of_le_of_lt (cnt_le_take net head j) (small60 hnn), same_new s2 nD2, ?_⟩
          rw [upd_same, hf, List.map_append]
          rfl
        · rw [if_neg e, List.append_nil] at hf
          refine if_false_of (decide_eq_false e) ⟨s2, ?_⟩
          rw [hf]
          exact hD2
      · rintro H2 ⟨s2, hD2⟩
        rw [List.length_map, List.take_length] at hD2
        have hcnt : ((((net.filter fun c => decide (c ∈ head)).map V.int).length : Nat) : Int) = ((cnt net head : Nat) : Int) := by
          rw [List.length_map]
          rfl
        have hDs := s2 _ _ hD
        have hq2 := s2 _ _ hq
        have sN := s1.trans s2
        refine ⟨D2, _, rfl, .inl (SqL.of hD2), _, rfl, q', _, rfl, .inr (SqT.of hq2), (by show 2 ≤ sizeLine; decide), fun G nG => ?_⟩
        have sG := same_upd (o := .lst [V.int 0, V.int (((net.map V.int).length : Nat) : Int)]) nG
        refine ⟨G, _, rfl, .inl (SqL.of upd_same), rfl, rfl, _, rfl, ?_⟩
        have hin : (!inV (V.int ((((net.filter fun c => decide (c ∈ head)).map V.int).length : Nat) : Int)) [V.int 0, V.int (((net.map V.int).length : Nat) : Int)]) = crs net head := by
          rw [← crs_not, hcnt, List.length_map]
          show (!(((0 : Int) == ((cnt net head : Nat) : Int)) || ((((net.length : Nat) : Int) == ((cnt net head : Nat) : Int)) || false))) = _
          have e1 : ((0 : Int) == ((cnt net head : Nat) : Int)) = decide (cnt net head = 0) := by
            by_cases z : cnt net head = 0
            · rw [decide_eq_true z, z]
              rfl
            · rw [decide_eq_false z]
              exact beq_eq_false_iff_ne.mpr (by omega)
          have e2 : (((net.length : Nat) : Int) == ((cnt net head : Nat) : Int)) = decide (cnt net head = net.length) := by
            by_cases z : cnt net head = net.length
            · rw [decide_eq_true z, z]
              exact beq_self_eq_true _
            · rw [decide_eq_false z]
              exact beq_eq_false_iff_ne.mpr (by omega)
          rw [e1, e2, Bool.or_false, Bool.not_or]
        show if (!inV (V.int ((((net.filter fun c => decide (c ∈ head)).map V.int).length : Nat) : Int)) [V.int 0, V.int (((net.map V.int).length : Nat) : Int)]) = true then _ else _
        rw [hin]
        by_cases hcr : crs net head = true
        · rw [if_pos hcr] at hmore
          refine if_true_of hcr ⟨_, rfl, acc, sG _ _ hDs, small60 (by omega), same_new (sN.trans sG) nD, _, upd_same, ?_⟩
          rw [List.length_append, hacc, hmore]
          rfl
        · rw [if_neg hcr] at hmore
          exact if_false_of (Bool.eq_false_iff.mpr hcr) ⟨sN.trans sG, acc, sG _ _ hDs, by rw [hmore, hacc]; rfl⟩
    · rintro H1 ⟨s1, acc, hD, hacc⟩
      refine ⟨D, acc, rfl, .inl (SqL.of hD), ?_⟩
      rw [hlen, List.take_length] at hacc
      rw [hacc]
      exact q H1 s1
/-- many, nets, side -/
def spCut : Sp := fun vs H Q _ => ∃ (p : Addr) (ps : List Addr) (nets : List (List Int)) (m : Nat) (d : Addr) (side : List Int), vs = [.int (m : Nat), .ref p, .ref d] ∧ NetsAt H p ps nets ∧ 1 ≤ m ∧ m ≤ 8 ∧ nets.length ≤ 20 ∧ (∀ net ∈ nets, NetOk m net) ∧
  H d = some (.tup (side.map V.int)) ∧ side.length ≤ m ∧ side.Pairwise (· < ·) ∧ (∀ c ∈ side, 0 ≤ c ∧ c < m) ∧ ∀ H', Same H H' → Q (.int (ncrs nets side : Nat)) H'
theorem nets_small {m : Nat} {nets : List (List Int)} (h8 : m ≤ 8) (h : ∀ net ∈ nets, NetOk m net) : ∀ net ∈ nets, net.length ≤ 60 := fun net hn => by
  have := (h net hn).len
  omega
theorem ok_cut (B : Bl mg) (c1 : Cal0 P w K mg base 5 "need_sides" spNeedSides) (c2 : Cal0 P w K mg base 1 "cut_in" spCut2) (F : Fun K "cut" "cut" sCut f fd) : FnOk P w K mg base CX0 6 f fd ["many", "nets", "side"] spCut := by
  refine F.ok scCut (fun vs H Q E h => ?_) (fun cdv A outer s H vs Q E hr h => ?_)
  · obtain ⟨p, ps, nets, m, d, side, rfl, _⟩ := h
    rfl
  · obtain ⟨p, ps, nets, m, d, side, rfl, N, hm1, hm8, hn, hok, hd, hl, ha, hm, q⟩ := h
    refine ⟨_, pss_cons (ps_expr (C8.pe_c c1 hr (by decide) (by rfl) (pa_cons (pv 0) (pa_cons (pv 1) (pa_cons (pv 2) pa_nil)))))
      (pss_one (ps_ret (C8.pe_c c2 hr (by decide) (by rfl) (pa_cons (pv 1) (pa_cons (pv 2) pa_nil))))), ?_⟩
    refine ⟨_, rfl, _, rfl, _, rfl, p, ps, nets, m, d, side, rfl, N, hm1, hm8, hn, hok, hd, hl, ha, hm, fun H1 s1 => ?_⟩
    exact ⟨_, rfl, _, rfl, p, ps, nets, d, side, rfl, N.mono s1, hn, nets_small hm8 hok, s1 _ _ hd, fun H2 s2 => q H2 (s1.trans s2)⟩
/-- many, nets, order -/
def spCrossings : Sp := fun vs H Q _ => ∃ (p : Addr) (ps : List Addr) (nets : List (List Int)) (m : Nat) (d : Addr) (o : List Int), vs = [.int (m : Nat), .ref p, .ref d] ∧ NetsAt H p ps nets ∧ 1 ≤ m ∧ m ≤ 8 ∧ nets.length ≤ 20 ∧ (∀ net ∈ nets, NetOk m net) ∧
  Rd H d (.tup (o.map V.int)) ∧ OrdOk m o ∧ ∀ H' r, Same H H' → H' r = some (.tup ((dueL m nets o).map V.int)) → Q (.ref r) H'
theorem due_more (m : Nat) (nets : List (List Int)) (o : List Int) {i : Nat} (h : i < m - 1) : ((dueL m nets o).take (i + 1)).map V.int = ((dueL m nets o).take i).map V.int ++ [V.int ((ncrs nets (o.take (i + 1)) : Nat) : Int)] := by
  have e : (dueL m nets o)[i]? = some ((ncrs nets (o.take (i + 1)) : Nat) : Int) := by
    unfold dueL
    rw [List.getElem?_map, List.getElem?_range h]
    rfl
  rw [List.take_add_one, e, List.map_append]
  rfl
theorem due_len (m : Nat) (nets : List (List Int)) (o : List Int) : (dueL m nets o).length = m - 1 := by
  unfold dueL
  rw [List.length_map, List.length_range]
theorem cut_head (o : List Int) (k : Nat) : cutV (o.map V.int) none (some (k : Int)) = (o.take k).map V.int := by
  unfold cutV
  rw [HT.sIx_none, show HT.sIx (o.map V.int).length (o.map V.int).length (some (k : Int)) = min k (o.map V.int).length from HT.sIx_nat _ _ k]
  rw [List.drop_zero, Nat.sub_zero, List.map_take]
  by_cases h : k ≤ (o.map V.int).length
  · rw [Nat.min_eq_left h]
  · rw [Nat.min_eq_right (by omega), List.take_of_length_le (Nat.le_refl _), List.take_of_length_le (by omega)]
theorem head_part {o : List Int} {m k : Nat} (hl : o.length = m) (hk : k < m) : ¬ (HT.sIx (o.map V.int).length 0 none = 0 ∧ HT.sIx (o.map V.int).length (o.map V.int).length (some (k : Int)) = (o.map V.int).length) := by
  rintro ⟨_, h⟩
  rw [show HT.sIx (o.map V.int).length (o.map V.int).length (some (k : Int)) = min k (o.map V.int).length from HT.sIx_nat _ _ k, List.length_map] at h
  omega
theorem ok_crossings (B : Bl mg) (c1 : Cal0 P w K mg base 5 "need_order" spNeedOrder) (c2 : Cal0 P w K mg base 1 "crossing" spCut2) (F : Fun K "crossings" "crossings" sCrossings f fd) : FnOk P w K mg base CX0 6 f fd ["many", "nets", "order"] spCrossings := by
  refine F.ok scCrossings (fun vs H Q E h => ?_) (fun cdv A outer s H vs Q E hr h => ?_)
  · obtain ⟨p, ps, nets, m, d, o, rfl, _⟩ := h
    rfl
  · obtain ⟨p, ps, nets, m, d, o, rfl, N, hm1, hm8, hn, hok, hd, ho, q⟩ := h
    have hol := ho.len
    refine ⟨_, pss_cons (ps_expr (C8.pe_c c1 hr (by decide) (by rfl) (pa_cons (pv 0) (pa_cons (pv 1) (pa_cons (pv 2) pa_nil)))))
      (pss_one (ps_ret (pe_callTy call_tuple_of (by rfl) B.m_tuple boot_tuple (pa_cons
        (pe_lc (own := [("at", 3)]) (g := gName 3) (tt := tYes) (te := tCall spCut2 [] C8.E0 (tCons (tVar 1) (tCons (tSl (rSlT K) (tVar 2) tNoPart (tPart (tVar 3))) tNil))) rfl scCrossings.nd (pi_range2 (by rfl) B.m_range (pa_cons pe_int (pa_cons (pv 0) pa_nil))) (blkOk_by (by kernel_rfl)) (fun _ _ _ _ _ => pg_name (i := 3) scCrossings.nd rfl (Or.inl rfl)) (fun _ _ _ _ _ => pts_nil)
          (fun _ _ _ _ _ => C8.pe_c c2 hr (by decide) (by rfl) (pa_cons (pv 1) (pa_cons (pe_slice sl_tup (pv 2) po_none (po_some (pv 3))) pa_nil)))) pa_nil)))), ?_⟩
    refine ⟨_, rfl, _, rfl, _, rfl, p, ps, nets, m, d, o, rfl, N, hm1, hm8, hn, hok, hd, ho, fun H1 s1 => ?_⟩
    refine ⟨_, rfl, 1, (m : Int), rfl, ⟨by omega, by omega, by omega, by omega⟩, fun D nD => lc_range (lo := 1) (n := ((m : Int) - 1).toNat) (fun i H' => Same H1 H' ∧ H' D = some (.lst (((dueL m nets o).take i).map V.int))) ⟨same_upd nD, upd_same⟩ ?_ ?_⟩
    · rintro i H2 hi ⟨s2, hD⟩
      have hi' : i + 1 < m := by omega
      have s12 := s1.trans s2
      have hd2 := rd_same s12 hd
      have ei : (1 : Int) + (i : Int) = ((i + 1 : Nat) : Int) := by omega
      refine ⟨rfl, yes_of ⟨_, rfl, _, rfl, _, rfl, _, rfl, d, o.map V.int, rfl, .inl hd2, ?_, fun t nt => ?_⟩⟩
      · rw [ei]
        exact head_part hol hi'
      · have st := same_upd (o := .tup (cutV (o.map V.int) none (some (1 + (i : Int))))) nt
        refine ⟨p, ps, nets, t, o.take (i + 1), rfl, (N.mono s12).mono st, hn, nets_small hm8 hok, ?_, fun H3 s3 => ?_⟩
        · rw [upd_same, ei, cut_head]
        · refine ⟨_, s3 _ _ (st _ _ hD), ?_, same_new ((s2.trans st).trans s3) nD, ?_⟩
          · rw [List.length_map, List.length_take, due_len]
            exact small60 (by omega)
          · rw [upd_same, due_more m nets o (by omega)]
    · rintro H2 ⟨s2, hD⟩
      have e : (dueL m nets o).take ((m : Int) - 1).toNat = dueL m nets o := List.take_of_length_le (by rw [due_len]; omega)
      rw [e] at hD
      refine ⟨D, _, rfl, .inl ⟨SqL.of hD, fun r nr => q _ r ((s1.trans s2).trans (same_upd nr)) upd_same⟩⟩
end
end CF
/-! The lengths of nets: lengths_in, wire_length. -/
namespace CF
open PySem PySem.Spec PyProof.Rows L2
theorem put_len (kvs : List (Key × V)) (k : Key) (v : V) : (putK kvs k v).length ≤ kvs.length + 1 := by
  unfold putK
  split
  · rw [List.length_map]
    omega
  · rw [List.length_append]
    exact Nat.le_refl _
/-- the places of the first i cells of an order -/
def Plc (kvs : List (Key × V)) (o : List Int) (i : Nat) : Prop := kvs.length ≤ i ∧ ∀ (j : Nat) (c : Int), j < i → o[j]? = some c → valV kvs (Sum.inl c) = some (.int (j : Nat))
section
variable {P : Program} {w : World} {K : PySem.W.Frag} {mg : Str → Option Value} {base : Heap} {f : Addr} {fd : FuncData}
theorem len_more (m : Nat) (o : List Int) {nets : List (List Int)} {i : Nat} {net : List Int} (h : nets[i]? = some net) :
    ((nets.take (i + 1)).map fun net => ((gaps m o net : Nat) : Int)).map V.int = ((nets.take i).map fun net => ((gaps m o net : Nat) : Int)).map V.int ++ [V.int ((gaps m o net : Nat) : Int)] := by
  rw [List.take_add_one, h, List.map_append, List.map_append]
  rfl
theorem pos_more (o : List Int) {net : List Int} {j : Nat} {c : Int} (h : net[j]? = some c) : (posL o (net.take (j + 1))).map V.int = (posL o (net.take j)).map V.int ++ [V.int ((o.idxOf c : Nat) : Int)] := by
  unfold posL
  rw [List.take_add_one, h, List.map_append, List.map_append]
  rfl
/-- [places[cell] for cell in net], net in slot 5, cell in 4, places in 2 -/
def tPl (K : PySem.W.Frag) : TE := tLc (iTup K (tVar 5)) (gName 4) tYes (tDGet (tVar 2) (tVar 4)) [4]
/-- nets, order -/
def spLengths : Sp := fun vs H Q _ => ∃ (p : Addr) (ps : List Addr) (nets : List (List Int)) (m : Nat) (d : Addr) (o : List Int), vs = [.ref p, .ref d] ∧ NetsAt H p ps nets ∧ m ≤ 8 ∧ nets.length ≤ 20 ∧ (∀ net ∈ nets, NetOk m net) ∧
  Rd H d (.tup (o.map V.int)) ∧ OrdOk m o ∧ ∀ H' r, Same H H' → H' r = some (.lst ((nets.map fun net => ((gaps m o net : Nat) : Int)).map V.int)) → Q (.ref r) H'
theorem ok_lengths (B : Bl mg) (F : Fun K "lengths_in" "lengths_in" sLengthsIn f fd) : FnOk P w K mg base CX0 1 f fd ["nets", "order"] spLengths := by
  refine F.ok scLengthsIn (fun vs H Q E h => ?_) (fun cdv A outer s H vs Q E hr h => ?_)
  · obtain ⟨p, ps, nets, m, d, o, rfl, _⟩ := h
    rfl
  · obtain ⟨p, ps, nets, m, d, o, rfl, N, hm8, hn, hok, hd, ho, q⟩ := h
    have hol := ho.len
    refine ⟨_, pss_cons (ps_set (i := 2) scLengthsIn.nd rfl (Or.inr rfl)
        (pe_dc (own := [("at", 3), ("cell", 4)]) (g := gTup K 2 (gCons (gName 3) (gCons (gName 4) gNil))) (tt := tYes) (tk := tVar 4) (tv := tVar 3) rfl scLengthsIn.nd (pi_enumT (by rfl) B.m_enumerate (pa_cons (pv 1) pa_nil)) (blkOk_by (by kernel_rfl))
          (fun _ _ _ _ _ => pg_tup rfl (pgs_cons (pg_name (i := 3) scLengthsIn.nd rfl (Or.inl rfl)) (pgs_cons (pg_name (i := 4) scLengthsIn.nd rfl (Or.inl rfl)) pgs_nil))) (fun _ _ _ _ _ => pts_nil) (fun _ _ _ _ _ => pv 4) (fun _ _ _ _ _ => pv 3)))
      (pss_one (ps_ret
        (pe_lc (own := [("net", 5)]) (g := gName 5) (tt := tYes) (te := tOp (rI0 fun i j => .int (i - j)) (tCB (rMax K) (tCons (tPl K) tNil)) (tCB (rMin K) (tCons (tPl K) tNil))) rfl scLengthsIn.nd (pi_tup (pv 0)) (blkOk_by (by kernel_rfl)) (fun _ _ _ _ _ => pg_name (i := 5) scLengthsIn.nd rfl (Or.inl rfl)) (fun _ _ _ _ _ => pts_nil)
          (fun _ _ _ _ _ => pe_op op_sub
            (pe_callB (cr_max rfl) (by rfl) B.m_max boot_max (pa_cons (pe_lc (own := [("cell", 4)]) (wi := iTup K (tVar 5)) (g := gName 4) (tt := tYes) (te := tDGet (tVar 2) (tVar 4)) rfl scLengthsIn.nd (pi_tup (pv 5)) (blkOk_by (by kernel_rfl)) (fun _ _ _ _ _ => pg_name (i := 4) scLengthsIn.nd rfl (Or.inl rfl)) (fun _ _ _ _ _ => pts_nil) (fun _ _ _ _ _ => pe_dget (hu_of hr) (pv 2) (pv 4) (fun _ _ => rfl))) pa_nil))
            (pe_callB (cr_min rfl) (by rfl) B.m_min boot_min (pa_cons (pe_lc (own := [("cell", 4)]) (wi := iTup K (tVar 5)) (g := gName 4) (tt := tYes) (te := tDGet (tVar 2) (tVar 4)) rfl scLengthsIn.nd (pi_tup (pv 5)) (blkOk_by (by kernel_rfl)) (fun _ _ _ _ _ => pg_name (i := 4) scLengthsIn.nd rfl (Or.inl rfl)) (fun _ _ _ _ _ => pts_nil) (fun _ _ _ _ _ => pe_dget (hu_of hr) (pv 2) (pv 4) (fun _ _ => rfl))) pa_nil)))))), ?_⟩
    -- places = {..}
    unfold tSeq tAsg
    refine dc_walk (fun R h => ⟨_, rfl, d, o.map V.int, rfl, .inl hd, h⟩) walk_enumT (fun D i H' => Same H H' ∧ ∃ kvs, H' D = some (.dK kvs) ∧ Plc kvs o i) (fun D nD => ⟨same_upd nD, [], upd_same, Nat.le_refl _, fun j c hj _ => absurd hj (Nat.not_lt_zero j)⟩) (fun D i H' _ z => .inl (rd_same z.1 hd)) ?_ ?_
    · rintro D i x H1 H2 nD hi ⟨s1, kvs, hD, hk1, hk2⟩ ⟨T, a, b, rfl, nT, rfl, ha, hb⟩
      obtain ⟨c, hc, rfl⟩ := ints_at hb
      have ea : a = V.int ((i : Nat) : Int) := (Option.some.inj ha).symm
      subst ea
      have sT := same_upd (o := .tup [V.int ((i : Nat) : Int), V.int c]) nT
      have hil : i < o.length := (List.getElem?_eq_some_iff.mp hc).1
      refine ⟨T, [V.int ((i : Nat) : Int), V.int c], rfl, SqT.of upd_same, rfl, _, _, rfl, _, _, rfl, rfl, rfl, _, rfl, _, rfl, kvs, Sum.inl c, rfl, sT _ _ hD, small60 (by omega), same_new (s1.trans sT) nD, _, upd_same, ?_, fun j c' hj hc' => ?_⟩
      · have := put_len kvs (Sum.inl c) (V.int ((i : Nat) : Int))
        omega
      · by_cases e : j = i
        · subst e
          rw [hc] at hc'
          cases hc'
          rw [valV_put, if_pos rfl]
        · have hne : c ≠ c' := fun z => by
            subst z
            have e1 := idx_at ho.nd hc
            have e2 := idx_at ho.nd hc'
            omega
          rw [valV_put, if_neg (fun z => hne (Sum.inl.inj z).symm)]
          exact hk2 j c' (by omega) hc'
    · rintro D H1 nD ⟨s1, kvs, hD, hk1, hk2⟩
      have look : ∀ c, c ∈ o → valV kvs (Sum.inl c) = some (.int (o.idxOf c : Nat)) := fun c hc => hk2 _ c (by rw [List.length_map]; exact idx_lt hc) (idx_get hc)
      have N1 := N.mono s1
      have hlen : (ps.map V.ref).length = nets.length := by rw [List.length_map, N.len]
      -- [max(..) - min(..) for net in nets]
      refine ⟨_, rfl, p, rfl, ⟨_, SqT.of N1.tup⟩, fun L nL => lc_tup (K := K) (a := p) (xs := ps.map V.ref) (fun i H' => Same H1 H' ∧ H' L = some (.lst (((nets.take i).map fun net => ((gaps m o net : Nat) : Int)).map V.int))) ⟨same_upd nL, upd_same⟩ (fun i H' _ z => SqT.of (z.1 _ _ N1.tup)) ?_ ?_⟩
      · rintro i x H2 hx ⟨s2, hL⟩
        obtain ⟨q', net, rfl, hnet, hq, hil⟩ := (N1.mono s2).item hx
        have ok := hok net (List.mem_of_getElem? hnet)
        have sub : ∀ c ∈ net, c ∈ o := fun c hc => (ho.mem c).mpr (ok.mem c hc)
        have hD2 := s2 _ _ hD
        have hn2 := ok.two
        have hnl := ok.len
        have turn : ∀ (H3 : Hp) (D3 : Addr), Same H2 H3 → ∀ (j : Nat) (y : V) (H4 : Hp), (net.map V.int)[j]? = some y → H3 D3 = none → (Same H3 H4 ∧ H4 D3 = some (.lst ((posL o (net.take j)).map V.int))) →
            ∃ c, y = .int c ∧ DGet H4 D (.int c) (some (V.int ((o.idxOf c : Nat) : Int))) ∧ ((posL o (net.take j)).map V.int).length < sizeLine ∧ Same H3 (upd H4 D3 (.lst ((posL o (net.take j)).map V.int ++ [V.int ((o.idxOf c : Nat) : Int)]))) ∧ upd H4 D3 (.lst ((posL o (net.take j)).map V.int ++ [V.int ((o.idxOf c : Nat) : Int)])) D3 = some (.lst ((posL o (net.take (j + 1))).map V.int)) := by
          intro H3 D3 s3 j y H4 hy n3 ⟨s4, h4⟩
          obtain ⟨c, hc, rfl⟩ := ints_at hy
          refine ⟨c, rfl, .inl ⟨kvs, Sum.inl c, .inl (s4 _ _ (s3 _ _ hD2)), rfl, (look c (sub c (List.mem_of_getElem? hc))).symm⟩, ?_, same_new s4 n3, ?_⟩
          · unfold posL
            rw [List.length_map, List.length_map, List.length_take]
            exact small60 (by omega)
          · rw [upd_same, pos_more o hc]
        have hpl : 0 < (posL o net).length := by
          unfold posL
          rw [List.length_map]
          omega
        refine ⟨rfl, yes_of ?_⟩
        refine ⟨_, rfl, q', rfl, ⟨_, SqT.of hq⟩, fun D3 n3 => lc_tup (K := K) (a := q') (xs := net.map V.int) (fun j H' => Same H2 H' ∧ H' D3 = some (.lst ((posL o (net.take j)).map V.int))) ⟨same_upd n3, upd_same⟩ (fun j H' _ z => SqT.of (z.1 _ _ hq)) ?_ ?_⟩
        · rintro j y H4 hy z
          obtain ⟨c, rfl, g1, g2, g3, g4⟩ := turn H2 D3 (Same.refl _) j y H4 hy n3 z
          exact ⟨rfl, yes_of ⟨_, rfl, _, rfl, D, _, rfl, g1, _, z.2, g2, g3, g4⟩⟩
        · rintro H4 ⟨s4, h4⟩
          rw [List.length_map, List.take_length] at h4
          refine ⟨D3, posL o net, rfl, SqL.of h4, hpl, fun M hM1 hM2 => ?_⟩
          have hq4 := s4 _ _ hq
          refine ⟨_, rfl, q', rfl, ⟨_, SqT.of hq4⟩, fun D5 n5 => lc_tup (K := K) (a := q') (xs := net.map V.int) (fun j H' => Same H4 H' ∧ H' D5 = some (.lst ((posL o (net.take j)).map V.int))) ⟨same_upd n5, upd_same⟩ (fun j H' _ z => SqT.of (z.1 _ _ hq4)) ?_ ?_⟩
          · rintro j y H6 hy z
            obtain ⟨c, rfl, g1, g2, g3, g4⟩ := turn H4 D5 s4 j y H6 hy n5 z
            exact ⟨rfl, yes_of ⟨_, rfl, _, rfl, D, _, rfl, g1, _, z.2, g2, g3, g4⟩⟩
          · rintro H6 ⟨s6, h6⟩
            rw [List.length_map, List.take_length] at h6
            refine ⟨D5, posL o net, rfl, SqL.of h6, hpl, fun M' hM3 hM4 => ?_⟩
            have hg := len_gaps ho.nd ho.len sub hM1 hM2 hM3 hM4
            refine ⟨M, M', rfl, rfl, _, s6 _ _ (s4 _ _ hL), ?_, same_new ((s2.trans s4).trans s6) nL, ?_⟩
            · rw [List.length_map, List.length_map, List.length_take]
              exact small60 (by omega)
            · rw [upd_same, len_more m o hnet]
              show some (HO.lst (_ ++ [V.int (M - M')])) = _
              rw [hg]
      · rintro H2 ⟨s2, hL⟩
        rw [hlen, List.take_length] at hL
        exact q H2 L (s1.trans s2) hL
/-- many, nets, order -/
def spWire : Sp := fun vs H Q _ => ∃ (p : Addr) (ps : List Addr) (nets : List (List Int)) (m : Nat) (d : Addr) (o : List Int), vs = [.int (m : Nat), .ref p, .ref d] ∧ NetsAt H p ps nets ∧ 1 ≤ m ∧ m ≤ 8 ∧ nets.length ≤ 20 ∧ (∀ net ∈ nets, NetOk m net) ∧
  Rd H d (.tup (o.map V.int)) ∧ OrdOk m o ∧ ∀ H', Same H H' → Q (.int (total m nets o)) H'
theorem ok_wire (B : Bl mg) (c1 : Cal0 P w K mg base 5 "need_order" spNeedOrder) (c2 : Cal0 P w K mg base 1 "lengths_in" spLengths) (F : Fun K "wire_length" "wire_length" sWireLength f fd) : FnOk P w K mg base CX0 6 f fd ["many", "nets", "order"] spWire := by
  refine F.ok scWireLength (fun vs H Q E h => ?_) (fun cdv A outer s H vs Q E hr h => ?_)
  · obtain ⟨p, ps, nets, m, d, o, rfl, _⟩ := h
    rfl
  · obtain ⟨p, ps, nets, m, d, o, rfl, N, hm1, hm8, hn, hok, hd, ho, q⟩ := h
    refine ⟨_, pss_cons (ps_expr (C8.pe_c c1 hr (by decide) (by rfl) (pa_cons (pv 0) (pa_cons (pv 1) (pa_cons (pv 2) pa_nil)))))
      (pss_one (ps_ret (pe_callB (cr_sum rfl) (by rfl) B.m_sum (by decide +kernel) (pa_cons (C8.pe_c c2 hr (by decide) (by rfl) (pa_cons (pv 1) (pa_cons (pv 2) pa_nil))) pa_nil)))), ?_⟩
    refine ⟨_, rfl, _, rfl, _, rfl, p, ps, nets, m, d, o, rfl, N, hm1, hm8, hn, hok, hd, ho, fun H1 s1 => ?_⟩
    refine ⟨_, rfl, _, rfl, p, ps, nets, m, d, o, rfl, N.mono s1, hm8, hn, hok, rd_same s1 hd, ho, fun H2 r s2 hr2 => ?_⟩
    exact ⟨r, _, rfl, SqL.of hr2, q H2 (s1.trans s2)⟩
end
end CF
/-! The draws: _law_taken, _law_pick. What is drawn is any number in its range. -/
namespace CF
open PySem PySem.Spec PyProof.Rows L2
/-- the row of the draws stands at r, the script at a -/
def RowAt (H : Hp) (r a : Addr) : Prop := ∃ i z c : Int, H r = some (.lst [.ref a, .int i, .int z, .int c]) ∧ 0 ≤ i ∧ 0 ≤ z ∧ z < 2147483647
/-- the script -/
def Scr (K : PySem.W.Frag) (H : Hp) (a : Addr) : Prop := ∃ ns : List Int, SqL K H a (ns.map V.int)
/-- all but r stands as it stood -/
def Off (r : Addr) (H H' : Hp) : Prop := ∀ b, b ≠ r → H' b = H b
theorem row_ne {K : PySem.W.Frag} {H : Hp} {r a : Addr} {xs : List V} {ns : List Int} (h : H r = some (.lst (.ref a :: xs))) : ¬ Rd H r (.lst (ns.map V.int)) := by
  rintro (e | ⟨o, e⟩)
  · rw [h] at e
    cases ns with
    | nil => cases e
    | cons n ns => cases e
  · rw [h] at e
    cases e
theorem Scr.keep {K : PySem.W.Frag} {H H' : Hp} {r a : Addr} (S : Scr K H a) (R : RowAt H r a) (k : ∀ b o, b ≠ r → H b = some o → H' b = some o) : Scr K H' a := by
  obtain ⟨ns, h⟩ := S
  obtain ⟨i, z, c, hr, _⟩ := R
  refine ⟨ns, ?_⟩
  rcases h with h | h
  · have ne : a ≠ r := fun e => by
      subst e
      exact row_ne (K := K) hr h
    rcases h with h | ⟨o, h⟩
    · exact .inl (.inl (k _ _ ne h))
    · exact .inl (.inr ⟨o, k _ _ ne h⟩)
  · exact .inr h
section
variable {P : Program} {w : World} {K : PySem.W.Frag} {mg : Str → Option Value} {base : Heap} {f : Addr} {fd : FuncData}
/-- row, many: some number below many -/
def spTaken (K : PySem.W.Frag) : Sp := fun vs H Q _ => ∃ (r a : Addr) (m : Int), vs = [.ref r, .int m] ∧ RowAt H r a ∧ Scr K H a ∧ 1 ≤ m ∧ m ≤ 1000 ∧ ∀ (v : Int) H', 0 ≤ v → v < m → RowAt H' r a → Off r H H' → Q (.int v) H'
theorem off_upd {r : Addr} {H : Hp} {o : HO} : Off r H (upd H r o) := fun b hb => upd_ne hb
theorem off_upd2 {r : Addr} {H H' : Hp} {o : HO} (h : Off r H H') : Off r H (upd H' r o) := fun b hb => (upd_ne hb).trans (h b hb)
theorem ok_taken (B : Bl mg) (F : Fun K "_law_taken" "_law_taken" sLawTaken f fd) : FnOk P w K mg base CX0 1 f fd ["_law_row", "_law_many"] (spTaken K) := by
  refine F.ok scLawTaken (fun vs H Q E h => ?_) (fun cdv A outer s H vs Q E hr h => ?_)
  · obtain ⟨r, a, m, rfl, _⟩ := h
    rfl
  · obtain ⟨r, a, m, rfl, R, S, hm1, hm2, q⟩ := h
    obtain ⟨i, z, c, h0, hi, hz0, hz1⟩ := id R
    refine ⟨_, pss_cons (ps_if (pt_cmpR op_gt (pe_ix ix_list (pv 0) pe_int (fun _ _ => rfl)) pe_int (nomark _))
        (pss_cons (ps_set (i := 2) scLawTaken.nd rfl (.inl rfl) (pe_op op_mod (pe_callTy call_int1 (by rfl) B.m_int boot_int (pa_cons (pe_ix ix_list (pv 0) pe_int (fun _ _ => rfl)) pa_nil)) (pv 1)))
        (pss_cons (ps_asg (pe_op op_fdivN (pe_ix ix_list (pv 0) pe_int (fun _ _ => rfl)) (pv 1)) (pg_sub (pv 0) pe_int set_list))
        (pss_one (ps_ret (pv 2))))) pss_nil)
      (pss_cons (ps_asg (pe_op op_add (pe_ix ix_list (pv 0) pe_int (fun _ _ => rfl)) pe_int) (pg_sub (pv 0) pe_int set_list))
      (pss_cons (ps_if (pt_cmpR op_gt (pe_ix ix_list (pv 0) pe_int (fun _ _ => rfl)) (pe_callB call_len_seq (by rfl) B.m_len PySem.boot_len (pa_cons (pe_ix ix_list (pv 0) pe_int (fun _ _ => rfl)) pa_nil)) (nomark _))
        (pss_cons (ps_asg (pe_op op_mod (pe_callTy call_int1 (by rfl) B.m_int boot_int (pa_cons (pe_op op_add (pe_op op_mul (pe_ix ix_list (pv 0) pe_int (fun _ _ => rfl)) pe_int) pe_int) pa_nil)) pe_int) (pg_sub (pv 0) pe_int set_list))
        (pss_one (ps_ret (pe_op op_mod (pe_callTy call_int1 (by rfl) B.m_int boot_int (pa_cons (pe_op op_fdivN (pe_ix ix_list (pv 0) pe_int (fun _ _ => rfl)) pe_int) pa_nil)) (pv 1))))) pss_nil)
      (pss_cons (ps_set (i := 3) scLawTaken.nd rfl (.inl rfl) (pe_ix ix_list (pe_ix ix_list (pv 0) pe_int (fun _ _ => rfl)) (pe_op op_sub (pe_ix ix_list (pv 0) pe_int (fun _ _ => rfl)) pe_int) (fun _ _ => rfl)))
      (pss_cons (ps_asg (pe_op op_mod (pe_callTy call_int1 (by rfl) B.m_int boot_int (pa_cons (pe_op op_add (pe_op op_add (pe_op op_mul (pe_ix ix_list (pv 0) pe_int (fun _ _ => rfl)) pe_int) (pv 3)) pe_int) pa_nil)) pe_int) (pg_sub (pv 0) pe_int set_list))
      (pss_cons (ps_if (pt_cmpR op_ge (pv 3) (pe_op op_pow pe_int pe_int) (nomark _))
        (pss_one (ps_asg (pe_op op_fdivN (pv 3) (pv 1)) (pg_sub (pv 0) pe_int set_list))) pss_nil)
      (pss_one (ps_ret (pe_op op_mod (pe_callTy call_int1 (by rfl) B.m_int boot_int (pa_cons (pv 3) pa_nil)) (pv 1))))))))), ?_⟩
    have hmm : m ≠ 0 ∧ m.natAbs < 1073741824 := ⟨by omega, by omega⟩
    have modP : ∀ x : Int, 0 ≤ x % m ∧ x % m < m := fun x => ⟨Int.emod_nonneg x (by omega), Int.emod_lt_of_pos x (by omega)⟩
    have modZ : ∀ x : Int, 0 ≤ x % 2147483647 ∧ x % 2147483647 < 2147483647 := fun x => ⟨Int.emod_nonneg x (by decide), Int.emod_lt_of_pos x (by decide)⟩
    -- if _law_row[3] > 0
    refine ⟨_, rfl, r, _, 3, .int c, rfl, rfl, SqL.of h0, rfl, _, _, rfl, rfl, _, rfl, ite2 (fun e => ?_) (fun e => ?_)⟩
    · refine ⟨_, rfl, r, _, 3, .int c, rfl, rfl, SqL.of h0, rfl, .inl ⟨_, rfl, _, rfl, _, _, rfl, rfl, (show (0 : Int) < m by omega), ?_⟩⟩
      refine ⟨_, rfl, r, _, 3, .int c, rfl, rfl, SqL.of h0, rfl, _, rfl, _, _, rfl, rfl, hmm, ?_⟩
      refine ⟨_, rfl, r, _, 3, 3, rfl, rfl, h0, rfl, _, rfl, ?_⟩
      exact q _ _ (modP c).1 (modP c).2 ⟨i, z, _, upd_same, hi, hz0, hz1⟩ off_upd
    -- _law_row[1] = _law_row[1] + 1
    · refine ⟨_, rfl, r, _, 1, .int i, rfl, rfl, SqL.of h0, rfl, _, _, rfl, rfl, _, rfl, r, _, 1, 1, rfl, rfl, h0, rfl, ?_⟩
      have R1 : RowAt (upd H r (.lst [.ref a, .int (i + 1), .int z, .int c])) r a := ⟨i + 1, z, c, upd_same, by omega, hz0, hz1⟩
      have h1 : (upd H r (.lst [.ref a, .int (i + 1), .int z, .int c])) r = some (.lst [.ref a, .int (i + 1), .int z, .int c]) := upd_same
      obtain ⟨ns, hns⟩ := S.keep R (H' := upd H r (.lst [.ref a, .int (i + 1), .int z, .int c])) fun b o hb e => (upd_ne hb).trans e
      have o1 : Off r H (upd H r (.lst [.ref a, .int (i + 1), .int z, .int c])) := off_upd
      generalize hG : upd H r (.lst [.ref a, .int (i + 1), .int z, .int c]) = H1 at R1 h1 hns o1
      show tSeq _ _ _ _ (upd H r (.lst [.ref a, .int (i + 1), .int z, .int c]))
      rw [hG]
      -- if _law_row[1] > len(_law_row[0])
      refine ⟨_, rfl, r, _, 1, .int (i + 1), rfl, rfl, SqL.of h1, rfl, _, rfl, r, _, 0, .ref a, rfl, rfl, SqL.of h1, rfl, a, _, rfl, .inl hns, _, _, rfl, rfl, _, rfl, ite2 (fun e2 => ?_) (fun e2 => ?_)⟩
      · refine ⟨_, rfl, r, _, 2, .int z, rfl, rfl, SqL.of h1, rfl, _, _, rfl, rfl, .inl ⟨by omega, by omega⟩, _, _, rfl, rfl, .inl ⟨_, rfl, _, _, rfl, rfl, (show (0 : Int) < 2147483647 by decide), _, rfl, r, _, 2, 2, rfl, rfl, h1, rfl, ?_⟩⟩
        have hz := modZ (z * 48271 + 11)
        refine ⟨_, rfl, r, _, 2, .int ((z * 48271 + 11) % 2147483647), rfl, rfl, SqL.of upd_same, rfl, _, _, rfl, rfl, ⟨by decide, by decide⟩, .inl ⟨_, rfl, _, rfl, _, _, rfl, rfl, (show (0 : Int) < m by omega), ?_⟩⟩
        exact q _ _ (modP _).1 (modP _).2 ⟨i + 1, _, c, upd_same, by omega, hz.1, hz.2⟩ (off_upd2 o1)
      -- _law_cell = _law_row[0][_law_row[1] - 1]
      · have hle : ¬ ((ns.map V.int).length : Int) < i + 1 := fun z => e2 (decide_eq_true z)
        rw [List.length_map] at hle
        have hil : i.toNat < ns.length := by omega
        have hat : atI (ns.map V.int) (i + 1 - 1) = some (.int ns[i.toNat]) := by
          have e3 : i + 1 - 1 = ((i.toNat : Nat) : Int) := by omega
          rw [e3]
          refine atI_nat ?_
          rw [List.getElem?_map, List.getElem?_eq_getElem hil]
          rfl
        refine ⟨_, rfl, r, _, 0, .ref a, rfl, rfl, SqL.of h1, rfl, _, rfl, r, _, 1, .int (i + 1), rfl, rfl, SqL.of h1, rfl, _, _, rfl, rfl, a, _, _, .int ns[i.toNat], rfl, rfl, hns, hat, ?_⟩
        generalize ns[i.toNat] = cell
        -- _law_row[2] = int(_law_row[2] * 48271 + _law_cell + 11) % 2147483647
        refine ⟨_, rfl, r, _, 2, .int z, rfl, rfl, SqL.of h1, rfl, _, _, rfl, rfl, .inl ⟨by omega, by omega⟩, _, rfl, _, _, rfl, rfl, _, _, rfl, rfl, .inl ⟨_, rfl, _, _, rfl, rfl, (show (0 : Int) < 2147483647 by decide), _, rfl, r, _, 2, 2, rfl, rfl, h1, rfl, ?_⟩⟩
        have hz := modZ (z * 48271 + cell + 11)
        -- if _law_cell >= 10 ** 18
        refine ⟨_, rfl, 10, 18, rfl, rfl, ⟨by decide, by decide, by decide⟩, _, _, rfl, rfl, _, rfl, ite2 (fun e4 => ?_) (fun e4 => ?_)⟩
        · refine ⟨_, rfl, _, rfl, _, _, rfl, rfl, hmm, _, rfl, r, _, 3, 3, rfl, rfl, upd_same, rfl, ?_⟩
          refine ⟨_, rfl, .inl ⟨_, rfl, _, rfl, _, _, rfl, rfl, (show (0 : Int) < m by omega), ?_⟩⟩
          exact q _ _ (modP _).1 (modP _).2 ⟨i + 1, _, _, upd_same, by omega, hz.1, hz.2⟩ (off_upd2 (off_upd2 o1))
        · refine ⟨_, rfl, .inl ⟨_, rfl, _, rfl, _, _, rfl, rfl, (show (0 : Int) < m by omega), ?_⟩⟩
          exact q _ _ (modP _).1 (modP _).2 ⟨i + 1, _, c, upd_same, by omega, hz.1, hz.2⟩ (off_upd2 o1)
/-- row, things: one of the things -/
def spPick (K : PySem.W.Frag) : Sp := fun vs H Q _ => ∃ (r a t : Addr) (ks : List Int), vs = [.ref r, .ref t] ∧ RowAt H r a ∧ Scr K H a ∧ H t = some (.lst (ks.map V.int)) ∧ t ≠ r ∧ 1 ≤ ks.length ∧ ks.length ≤ 10 ∧ ∀ (k : Int) H', k ∈ ks → RowAt H' r a → Off r H H' → Q (.int k) H'
theorem ok_pick (B : Bl mg) (c1 : Cal0 P w K mg base 1 "_law_taken" (spTaken K)) (F : Fun K "_law_pick" "_law_pick" sLawPick f fd) : FnOk P w K mg base CX0 2 f fd ["_law_row", "_law_things"] (spPick K) := by
  refine F.ok scLawPick (fun vs H Q E h => ?_) (fun cdv A outer s H vs Q E hr h => ?_)
  · obtain ⟨r, a, t, ks, rfl, _⟩ := h
    rfl
  · obtain ⟨r, a, t, ks, rfl, R, S, ht, hne, hl1, hl2, q⟩ := h
    refine ⟨_, pss_one (ps_ret (pe_ix ix_list (pv 1) (C8.pe_c c1 hr (by decide) (by rfl) (pa_cons (pv 0) (pa_cons (pe_callB call_len_seq (by rfl) B.m_len PySem.boot_len (pa_cons (pv 1) pa_nil)) pa_nil))) (fun _ _ => rfl))), ?_⟩
    have hkl : (ks.map V.int).length = ks.length := List.length_map _
    refine ⟨_, rfl, _, rfl, _, rfl, t, _, rfl, .inl (SqL.of ht), r, a, _, rfl, R, S, by omega, by omega, fun v H1 v0 v1 R1 o1 => ?_⟩
    have ht1 : H1 t = some (.lst (ks.map V.int)) := (o1 t hne).trans ht
    have hvl : v.toNat < ks.length := by omega
    have hat := atI_nat (xs := ks.map V.int) (j := v.toNat) (v := V.int ks[v.toNat]) (by rw [List.getElem?_map, List.getElem?_eq_getElem hvl]; rfl)
    rw [show ((v.toNat : Nat) : Int) = v by omega] at hat
    refine ⟨t, _, v, _, rfl, rfl, SqL.of ht1, hat, ?_⟩
    exact q _ H1 (List.getElem_mem hvl) R1 o1
end
end CF
/-! _law_alike: of two equal numbers, of two tuples of the same numbers. -/
namespace CF
open PySem PySem.Spec PyProof.Rows L2
section
variable {P : Program} {w : World} {K : PySem.W.Frag} {mg : Str → Option Value} {base : Heap} {f : Addr} {fd : FuncData}
theorem kit_two {T : String} {b1 b2 : Bool} (h1 : kitB T "tuple" = some b1) (h2 : kitB T "list" = some b2) : PySem.W.kitAny K (.type T) [.type "tuple", .type "list"] = some (b1 || b2) := by
  refine kitAny_cons (kit_ty h1) (fun e => ?_) (fun e => ?_)
  · subst e
    refine kitAny_cons (kit_ty h2) (fun e => ?_) (fun e => ?_)
    · subst e
      rfl
    · subst e
      rfl
  · subst e
    rfl
/-- two equal numbers -/
def spAlikeI : Sp := fun vs H Q _ => ∃ n : Int, vs = [.int n, .int n] ∧ ∀ H', Same H H' → Q (.bl true) H'
theorem ok_alikeI (B : Bl mg) (F : Fun K "_law_alike" "_law_alike" sLawAlike f fd) : FnOk P w K mg base CX0 1 f fd ["_law_found", "_law_due"] spAlikeI := by
  refine F.ok scLawAlike (fun vs H Q E h => ?_) (fun cdv A outer s H vs Q E hr h => ?_)
  · obtain ⟨n, rfl, _⟩ := h
    rfl
  · obtain ⟨n, rfl, q⟩ := h
    refine ⟨_, pss_cons (ps_if (pt_val (pe_callB call_isiT (by rfl) B.m_isinstance boot_isinstance (pa_cons (pv 1) (pa_cons (pe_tup (pa_cons (pe_bltn (v := .ty "tuple") (by rfl) B.m_tuple boot_tuple rfl) (pa_cons (pe_bltn (v := .ty "list") (by rfl) B.m_list boot_list rfl) pa_nil))) pa_nil)))) pss_never pss_nil)
      (pss_cons (ps_if (PW.pt (pw_or (pt_cmp (pc_isN (pv 1))) (pw_or1 (pt_val (pe_callB call_isi (by rfl) B.m_isinstance boot_isinstance (pa_cons (pv 1) (pa_cons (pe_bltn (v := .ty "str") (by rfl) B.m_str boot_str rfl) pa_nil))))))) pss_never pss_nil)
      (pss_one (ps_ret (pe_and (pe_callB call_isi (by rfl) B.m_isinstance boot_isinstance (pa_cons (pv 0) (pa_cons (pe_bltn (v := .ty "int") (by rfl) B.m_int boot_int rfl) pa_nil)))
        (pe_and (pe_cmpR op_eq (pe_callB call_isi (by rfl) B.m_isinstance boot_isinstance (pa_cons (pv 0) (pa_cons (pe_bltn (v := .ty "bool") (by rfl) B.m_bool boot_bool rfl) pa_nil)))
            (pe_callB call_isi (by rfl) B.m_isinstance boot_isinstance (pa_cons (pv 1) (pa_cons (pe_bltn (v := .ty "bool") (by rfl) B.m_bool boot_bool rfl) pa_nil))) (nomark _))
          (pe_one (pe_cmpR op_eq (pv 0) (pv 1) (nomark _)))))))), ?_⟩
    refine ⟨_, rfl, (by show 2 ≤ sizeLine; decide), fun t nt => ?_⟩
    have st := same_upd (o := .tup [V.ty "tuple", V.ty "list"]) nt
    refine ⟨_, t, _, _, [.type "tuple", .type "list"], false, rfl, upd_same, .cons (.ty _) (.cons (.ty _) .nil), .base (.int n), kit_two (b1 := false) (b2 := false) (by decide +kernel) (by decide +kernel), false, rfl, if_false_of rfl ?_⟩
    -- _law_due is None or isinstance(_law_due, str)
    refine ⟨_, rfl, _, rfl, if_false_of (decide_eq_false (fun z => nomatch z)) ?_⟩
    refine ⟨_, rfl, _, _, _, _, false, rfl, .ty _, .base (.int n), kit_ty (by decide +kernel), false, rfl, if_false_of rfl ?_⟩
    refine ⟨_, rfl, _, _, _, _, true, rfl, .ty _, .base (.int n), kit_ty (by decide +kernel), true, rfl, iteT ?_⟩
    refine ⟨_, rfl, _, _, _, _, false, rfl, .ty _, .base (.int n), kit_ty (by decide +kernel), _, rfl, _, _, _, _, false, rfl, .ty _, .base (.int n), kit_ty (by decide +kernel), rfl, _, rfl, if_true_of (decide_eq_true rfl) ?_⟩
    exact ⟨_, rfl, _, rfl, rfl, qT rfl (q _ st)⟩
/-- two tuples of the same numbers -/
def spAlikeT : Sp := fun vs H Q _ => ∃ (p q : Addr) (ns : List Int), vs = [.ref p, .ref q] ∧ H p = some (.tup (ns.map V.int)) ∧ H q = some (.tup (ns.map V.int)) ∧ ns.length ≤ 60 ∧ ∀ H', Same H H' → Q (.bl true) H'
theorem ok_alikeT (B : Bl mg) (c1 : Cal0 P w K mg base 1 "_law_alike" spAlikeI) (F : Fun K "_law_alike" "_law_alike" sLawAlike f fd) : FnOk P w K mg base CX0 2 f fd ["_law_found", "_law_due"] spAlikeT := by
  refine F.ok scLawAlike (fun vs H Q E h => ?_) (fun cdv A outer s H vs Q E hr h => ?_)
  · obtain ⟨p, q', ns, rfl, _⟩ := h
    rfl
  · obtain ⟨p, q', ns, rfl, hp, hq, hl, q⟩ := h
    refine ⟨_, pss_cons (ps_if (pt_val (pe_callB call_isiT (by rfl) B.m_isinstance boot_isinstance (pa_cons (pv 1) (pa_cons (pe_tup (pa_cons (pe_bltn (v := .ty "tuple") (by rfl) B.m_tuple boot_tuple rfl) (pa_cons (pe_bltn (v := .ty "list") (by rfl) B.m_list boot_list rfl) pa_nil))) pa_nil))))
        (pss_cons (ps_if (PW.pt (pw_or (pt_not (pt_val (pe_callB call_isiT (by rfl) B.m_isinstance boot_isinstance (pa_cons (pv 0) (pa_cons (pe_tup (pa_cons (pe_bltn (v := .ty "tuple") (by rfl) B.m_tuple boot_tuple rfl) (pa_cons (pe_bltn (v := .ty "list") (by rfl) B.m_list boot_list rfl) pa_nil))) pa_nil)))))
            (pw_or1 (pt_cmpR op_ne (pe_callB call_isi (by rfl) B.m_isinstance boot_isinstance (pa_cons (pv 0) (pa_cons (pe_bltn (v := .ty "list") (by rfl) B.m_list boot_list rfl) pa_nil)))
              (pe_callB call_isi (by rfl) B.m_isinstance boot_isinstance (pa_cons (pv 1) (pa_cons (pe_bltn (v := .ty "list") (by rfl) B.m_list boot_list rfl) pa_nil))) (nomark _))))) pss_never pss_nil)
        (pss_cons (ps_if (pt_cmpR op_ne (pe_callB call_len_seq (by rfl) B.m_len PySem.boot_len (pa_cons (pv 0) pa_nil)) (pe_callB call_len_seq (by rfl) B.m_len PySem.boot_len (pa_cons (pv 1) pa_nil)) (nomark _)) pss_never pss_nil)
        (pss_one (ps_ret (pe_cmpR (op_eqD hr.units)
          (pe_lc (own := [("_law_k", 2)]) (wi := iRng1 (tCons (tCB (rLenSq K) (tCons (tVar 1) tNil)) tNil)) (g := gName 2) (tt := tNot (tB (tCall spAlikeI [] C8.E0 (tCons (tOp (rIxT K) (tVar 0) (tVar 2)) (tCons (tOp (rIxT K) (tVar 1) (tVar 2)) tNil))))) (te := tVar 2) rfl scLawAlike.nd
            (pi_range1 (by rfl) B.m_range (pa_cons (pe_callB call_len_seq (by rfl) B.m_len PySem.boot_len (pa_cons (pv 1) pa_nil)) pa_nil)) (blkOk_by (by kernel_rfl)) (fun _ _ _ _ _ => pg_name (i := 2) scLawAlike.nd rfl (Or.inl rfl))
            (fun _ _ _ _ _ => pts_one (pt_not (pt_val (C8.pe_c c1 hr (by decide) (by rfl) (pa_cons (pe_ix ix_tup (pv 0) (pv 2) (fun _ _ => rfl)) (pa_cons (pe_ix ix_tup (pv 1) (pv 2) (fun _ _ => rfl)) pa_nil)))))) (fun _ _ _ _ _ => pv 2))
          (pe_lst pa_nil) (nomark _)))))) pss_nil) pss_never, ?_⟩
    refine ⟨_, rfl, (by show 2 ≤ sizeLine; decide), fun t nt => ?_⟩
    have st := same_upd (o := .tup [V.ty "tuple", V.ty "list"]) nt
    have hp1 := st _ _ hp
    have hq1 := st _ _ hq
    refine ⟨_, t, _, _, [.type "tuple", .type "list"], true, rfl, upd_same, .cons (.ty _) (.cons (.ty _) .nil), .base (.tup hq1), kit_two (b1 := true) (b2 := false) (by decide +kernel) (by decide +kernel), true, rfl, if_true_of rfl ?_⟩
    -- not isinstance(_law_found, (tuple, list)) or ..
    refine ⟨_, rfl, (by show 2 ≤ sizeLine; decide), fun t2 nt2 => ?_⟩
    have st2 := same_upd (o := .tup [V.ty "tuple", V.ty "list"]) nt2
    have hp2 := st2 _ _ hp1
    have hq2 := st2 _ _ hq1
    have s2 := st.trans st2
    refine ⟨_, t2, _, _, [.type "tuple", .type "list"], true, rfl, upd_same, .cons (.ty _) (.cons (.ty _) .nil), .base (.tup hp2), kit_two (b1 := true) (b2 := false) (by decide +kernel) (by decide +kernel), true, rfl, if_no ?_⟩
    refine ⟨_, rfl, _, _, _, _, false, rfl, .ty _, .base (.tup hp2), kit_ty (by decide +kernel), _, rfl, _, _, _, _, false, rfl, .ty _, .base (.tup hq2), kit_ty (by decide +kernel), rfl, _, rfl, iteNS rfl ?_⟩
    -- len(_law_found) != len(_law_due)
    refine ⟨_, rfl, p, _, rfl, .inr (SqT.of hp2), _, rfl, q', _, rfl, .inr (SqT.of hq2), rfl, _, rfl, iteNS rfl ?_⟩
    -- [..] == []
    have hnl : (ns.map V.int).length = ns.length := List.length_map _
    refine ⟨_, rfl, q', _, rfl, .inr (SqT.of hq2), _, rfl, (by omega), (by omega), fun D nD => ?_⟩
    have sD := same_upd (o := .lst []) nD
    generalize hG : upd (upd H t (.tup [V.ty "tuple", V.ty "list"])) t2 (.tup [V.ty "tuple", V.ty "list"]) = H2 at *
    refine lc_range (lo := 0) (n := (((ns.map V.int).length : Nat) : Int).toNat) (fun i H' => Same H2 H' ∧ H' D = some (.lst [])) ⟨sD, upd_same⟩ ?_ ?_
    · rintro i H3 hi ⟨s3, h3⟩
      have hil : i < ns.length := by omega
      have ei : (0 : Int) + (i : Int) = ((i : Nat) : Int) := by omega
      have hat : atI (ns.map V.int) ((0 : Int) + (i : Int)) = some (.int ns[i]) := by
        rw [ei]
        refine atI_nat ?_
        rw [List.getElem?_map, List.getElem?_eq_getElem hil]
        rfl
      refine ⟨rfl, _, rfl, _, rfl, p, _, _, _, rfl, rfl, SqT.of (s3 _ _ hp2), hat, _, rfl, _, rfl, q', _, _, _, rfl, rfl, SqT.of (s3 _ _ hq2), hat, ns[i], rfl, fun H4 s4 => ?_⟩
      exact ⟨true, rfl, if_no ⟨s3.trans s4, s4 _ _ h3⟩⟩
    · rintro H3 ⟨s3, h3⟩
      refine ⟨Nat.zero_le _, fun G nG => ?_⟩
      have sG := same_upd (o := .lst []) nG
      refine ⟨.list [], .list [], .lst (SqL.of (sG _ _ h3)) .nil, .lst (SqL.of upd_same) .nil, shaped_ints [], shaped_ints [], ?_⟩
      rw [show PyData.eqv (.list []) (.list []) = true from eqv_ints []]
      exact q _ ((s2.trans s3).trans sG)
end
end CF
/-! What is drawn: _law_order, _law_nets. -/
namespace CF
open PySem PySem.Spec PyProof.Rows L2
/-- all that stood but r stands -/
def Kp (r : Addr) (H H' : Hp) : Prop := ∀ b o, b ≠ r → H b = some o → H' b = some o
theorem Kp.refl {r : Addr} {H : Hp} : Kp r H H := fun _ _ _ h => h
theorem Kp.trans {r : Addr} {H H1 H2 : Hp} (a : Kp r H H1) (b : Kp r H1 H2) : Kp r H H2 := fun c o hc h => b c o hc (a c o hc h)
theorem Kp.off {r : Addr} {H H1 H2 : Hp} (a : Kp r H H1) (o : Off r H1 H2) : Kp r H H2 := fun b x hb h => (o b hb).trans (a b x hb h)
theorem Kp.new {r p : Addr} {H H1 : Hp} {o : HO} (a : Kp r H H1) (n : H p = none) : Kp r H (upd H1 p o) := fun b x hb h => by
  rw [upd_ne (ne_of_none h n)]
  exact a b x hb h
theorem Kp.of_same {r : Addr} {H H' : Hp} (s : Same H H') : Kp r H H' := fun b o _ h => s b o h
theorem RowAt.ne {H : Hp} {r a p : Addr} (R : RowAt H r a) (n : H p = none) : p ≠ r := fun e => by
  obtain ⟨i, z, c, h, _⟩ := R
  subst e
  rw [h] at n
  cases n
theorem RowAt.upd {H : Hp} {r a p : Addr} {o : HO} (R : RowAt H r a) (h : p ≠ r) : RowAt (upd H p o) r a := by
  obtain ⟨i, z, c, hr, q⟩ := R
  exact ⟨i, z, c, (upd_ne (Ne.symm h)).trans hr, q⟩
theorem RowAt.same {H H' : Hp} {r a : Addr} (R : RowAt H r a) (s : Same H H') : RowAt H' r a := by
  obtain ⟨i, z, c, hr, q⟩ := R
  exact ⟨i, z, c, s _ _ hr, q⟩
theorem Kp.free {r a p : Addr} {H H1 : Hp} (k : Kp r H H1) (R : RowAt H1 r a) (n : H1 p = none) : H p = none := by
  cases e : H p with
  | none => rfl
  | some o =>
    have := k p o (R.ne n) e
    rw [n] at this
    cases this
theorem Scr.kp {K : PySem.W.Frag} {H H' : Hp} {r a : Addr} (S : Scr K H a) (R : RowAt H r a) (k : Kp r H H') : Scr K H' a := S.keep R k
theorem RowAt.ne_tup {H : Hp} {r a p : Addr} {xs : List V} (R : RowAt H r a) (h : H p = some (.tup xs)) : p ≠ r := fun e => by
  obtain ⟨i, z, c, hr, _⟩ := R
  subst e
  rw [hr] at h
  cases h
theorem erase_perm : ∀ {L : List Int} {k : Nat} {y : Int}, L[k]? = some y → (y :: L.eraseIdx k).Perm L
  | [], _, _, h => by simp at h
  | x :: r, 0, y, h => by
    have e : x = y := Option.some.inj h
    subst e
    exact List.Perm.refl _
  | x :: r, k + 1, y, h => by
    have ih := erase_perm (L := r) (k := k) (y := y) h
    exact (List.Perm.swap x y _).trans (ih.cons x)
theorem draw_perm {F L : List Int} {k : Nat} {y : Int} (h : L[k]? = some y) : ((F ++ [y]) ++ L.eraseIdx k).Perm (F ++ L) := by
  rw [List.append_assoc]
  exact (erase_perm h).append_left F
theorem seq_at {n : Nat} {v : Int} (h0 : 0 ≤ v) (h1 : v < n) : seqIndex? v n = some v.toNat := by
  have e : ixN n v = some v.toNat := by
    unfold ixN
    rw [if_pos h0, if_pos h1]
  exact (ixN_seq e).1
theorem iota_rg (m : Nat) : rgV 0 (m : Int) = (iota m).map V.int := by
  unfold rgV iota
  rw [List.map_map, Int.sub_zero, Int.toNat_natCast]
  refine List.map_congr_left fun i _ => ?_
  show V.int (0 + (i : Int)) = V.int (i : Int)
  rw [Int.zero_add]
section
variable {P : Program} {w : World} {K : PySem.W.Frag} {mg : Str → Option Value} {base : Heap} {f : Addr} {fd : FuncData}
/-- row, many: an order of so many -/
def spOrd (K : PySem.W.Frag) : Sp := fun vs H Q _ => ∃ (r a : Addr) (m : Nat), vs = [.ref r, .int (m : Nat)] ∧ RowAt H r a ∧ Scr K H a ∧ 1 ≤ m ∧ m ≤ 8 ∧
  ∀ H' p o, Kp r H H' → RowAt H' r a → TupF H' p (o.map V.int) → OrdOk m o → Q (.ref p) H'
theorem ok_lawOrder (B : Bl mg) (c1 : Cal0 P w K mg base 1 "_law_taken" (spTaken K)) (F : Fun K "_law_order" "_law_order" sLawOrder f fd) : FnOk P w K mg base CX0 2 f fd ["_law_row", "_law_many"] (spOrd K) := by
  refine F.ok scLawOrder (fun vs H Q E h => ?_) (fun cdv A outer s H vs Q E hr h => ?_)
  · obtain ⟨r, a, m, rfl, _⟩ := h
    rfl
  · obtain ⟨r, a, m, rfl, R, S, hm1, hm8, q⟩ := h
    refine ⟨_, pss_cons (ps_par (i := 2) (j := 3) rfl scLawOrder.nd rfl rfl (by decide) rfl rfl (pa_cons (pe_listRg rfl (by rfl) B.m_list (prg_1 (by rfl) B.m_range (pv 1))) (pa_cons (pe_lst pa_nil) pa_nil)) (by rfl))
      (pss_cons (ps_for PassesOwn.never rfl (pi_range1 (by rfl) B.m_range (pa_cons (pv 1) pa_nil)) (pg_name (i := 4) scLawOrder.nd rfl (Or.inl rfl))
        (pss_one (ps_expr (pe_bm PySem.F.plainAttrs_list PySem.F.slot_list_append PySem.F.type_list_append mt_append (pv 3) (pa_cons
          (pe_bm PySem.F.plainAttrs_list PySem.F.slot_list_pop PySem.F.type_list_pop mt_popAt (pv 2) (pa_cons (C8.pe_c c1 hr (by decide) (by rfl) (pa_cons (pv 0) (pa_cons (pe_callB call_len_seq (by rfl) B.m_len PySem.boot_len (pa_cons (pv 2) pa_nil)) pa_nil))) pa_nil)) pa_nil)))))
      (pss_one (ps_ret (pe_callTy cr_tupF (by rfl) B.m_tuple boot_tuple (pa_cons (pv 3) pa_nil))))), ?_⟩
    refine ⟨_, rfl, _, rfl, RgOk.of_le (Int.le_refl 0) (by omega) (by omega) (by omega), fun l nl => ⟨Nat.zero_le _, fun g ng => ⟨_, _, rfl, ?_⟩⟩⟩
    have nlr := R.ne nl
    have ngl : g ≠ l := fun e => by
      subst e
      rw [upd_same] at ng
      cases ng
    have ng0 : H g = none := by
      rw [upd_ne ngl] at ng
      exact ng
    have ngr := R.ne ng0
    -- for _law_turn in range(_law_many)
    refine ⟨_, rfl, _, rfl, (by omega), (by omega), for_range (lo := 0) (n := ((m : Nat) : Int).toNat) (fun i σ H' => ∃ (L F : List Int) (y : Option V), σ = [some (.ref r), some (.int (m : Nat)), some (.ref l), some (.ref g), y] ∧ (F ++ L).Perm (iota m) ∧ F.length = i ∧
        H' l = some (.lst (L.map V.int)) ∧ H' g = some (.lst (F.map V.int)) ∧ RowAt H' r a ∧ Kp r H H') ?_ ?_ ?_⟩
    · refine ⟨iota m, [], none, rfl, List.Perm.refl _, rfl, ?_, upd_same, (R.upd nlr).upd ngr, (Kp.refl.new nl).new ng0⟩
      rw [upd_ne (Ne.symm ngl), upd_same, iota_rg]
    · rintro i σ H1 hi ⟨L, G, y, rfl, hp, hG, hl, hg, R1, k1⟩
      have hsz := hp.length_eq
      rw [List.length_append, iota_length, hG] at hsz
      have hLl : (L.map V.int).length = L.length := List.length_map _
      refine ⟨_, rfl, .inl ⟨rfl, _, SqL.of hg⟩, _, rfl, .inl ⟨rfl, _, SqL.of hl⟩, _, rfl, _, rfl, l, _, rfl, .inl (SqL.of hl), r, a, _, rfl, R1, S.kp R k1, by omega, by omega, fun v H2 v0 v1 R2 o2 => ?_⟩
      have hl2 : H2 l = some (.lst (L.map V.int)) := (o2 l nlr).trans hl
      have hg2 : H2 g = some (.lst (G.map V.int)) := (o2 g ngr).trans hg
      have hvl : v.toNat < L.length := by omega
      have hLv : L[v.toNat]? = some L[v.toNat] := List.getElem?_eq_getElem hvl
      refine ⟨l, L.map V.int, v, v.toNat, .int L[v.toNat], rfl, rfl, hl2, by omega, by omega, seq_at v0 v1, by rw [List.getElem?_map, hLv]; rfl, ?_⟩
      have hg3 : (upd H2 l (.lst ((L.map V.int).eraseIdx v.toNat))) g = some (.lst (G.map V.int)) := (upd_ne ngl).trans hg2
      refine ⟨g, _, _, rfl, rfl, hg3, ?_, ?_⟩
      · rw [List.length_map]
        exact small60 (by omega)
      · refine ⟨L.eraseIdx v.toNat, G ++ [L[v.toNat]], some (V.int (0 + (i : Int))), rfl, (draw_perm hLv).trans hp, by rw [List.length_append, hG]; rfl, ?_, ?_, (R2.upd nlr).upd ngr, (((k1.off o2).new nl).new ng0)⟩
        · rw [upd_ne (Ne.symm ngl), upd_same, erase_mapI]
        · rw [upd_same, List.map_append]
          rfl
    · rintro σ H1 ⟨L, G, y, rfl, hp, hG, hl, hg, R1, k1⟩
      have hsz := hp.length_eq
      rw [List.length_append, iota_length, hG] at hsz
      have hL : L = [] := List.eq_nil_of_length_eq_zero (by omega)
      subst hL
      rw [List.append_nil] at hp
      exact ⟨_, rfl, g, _, rfl, SqL.of hg, fun t H2 nt k2 tf _ => q _ t G (k1.trans (Kp.of_same k2)) (R1.same k2) tf (OrdOk.of_perm hp)⟩
end
end CF
/-! The nets that are drawn: _law_nets. -/
namespace CF
open PySem PySem.Spec PyProof.Rows L2
/-- behind i nets of _law_nets -/
def NetsIv (H0 : Hp) (r a g : Addr) (m : Nat) (i : Nat) (σ : L2.St) (H' : Hp) : Prop := ∃ (y4 y5 y6 y7 y8 : Option V) (ps : List Addr) (nets : List (List Int)),
  σ = [some (.ref r), some (.int (m : Nat)), some (.int 12), some (.ref g), y4, y5, y6, y7, y8] ∧ H' g = some (.lst (ps.map V.ref)) ∧ ps.length = nets.length ∧ nets.length = i ∧
  (∀ (j : Nat) (q : Addr) (net : List Int), ps[j]? = some q → nets[j]? = some net → H' q = some (.tup (net.map V.int))) ∧ (∀ net ∈ nets, NetOk m net) ∧ RowAt H' r a ∧ Kp r H0 H'
theorem netOk_of {m c : Nat} {G L ns : List Int} (h : (G ++ L).Perm (iota m)) (hG : G.length = c) (h2 : 2 ≤ c) (hc : c ≤ m) (hp : ns.Perm G) (ha : ns.Pairwise (· ≤ ·)) : NetOk m ns := by
  have nd : (G ++ L).Nodup := h.nodup_iff.mpr (iota_nodup m)
  have ndG : ns.Nodup := hp.nodup_iff.mpr (List.nodup_append.mp nd).1
  refine ⟨?_, by rw [hp.length_eq, hG]; exact h2, by rw [hp.length_eq, hG]; exact hc, fun k hk => ?_⟩
  · have both := ha.and ndG
    exact both.imp fun h => by
      have h1 := h.1
      have h2 := h.2
      omega
  · have hk2 : k ∈ G ++ L := List.mem_append_left _ (hp.mem_iff.mp hk)
    exact iota_mem.mp (h.mem_iff.mp hk2)
section
variable {P : Program} {w : World} {K : PySem.W.Frag} {mg : Str → Option Value} {base : Heap} {f : Addr} {fd : FuncData}
/-- row, many, 12: nets of so many cells -/
def spNets (K : PySem.W.Frag) : Sp := fun vs H Q _ => ∃ (r a : Addr) (m : Nat), vs = [.ref r, .int (m : Nat), .int 12] ∧ RowAt H r a ∧ Scr K H a ∧ 1 ≤ m ∧ m ≤ 8 ∧
  ∀ H' p ps nets, Kp r H H' → RowAt H' r a → NetsAt H' p ps nets → nets.length ≤ 20 → (∀ net ∈ nets, NetOk m net) → Q (.ref p) H'
theorem ok_lawNets (B : Bl mg) (c1 : Cal0 P w K mg base 1 "_law_taken" (spTaken K)) (c2 : Cal0 P w K mg base 2 "_law_pick" (spPick K)) (F : Fun K "_law_nets" "_law_nets" sLawNets f fd) : FnOk P w K mg base CX0 3 f fd ["_law_row", "_law_many", "_law_most"] (spNets K) := by
  refine F.ok scLawNets (fun vs H Q E h => ?_) (fun cdv A outer s H vs Q E hr h => ?_)
  · obtain ⟨r, a, m, rfl, _⟩ := h
    rfl
  · obtain ⟨r, a, m, rfl, R, S, hm1, hm8, q⟩ := h
    refine ⟨_, pss_cons (ps_set (i := 3) scLawNets.nd rfl (Or.inl rfl) (pe_lst pa_nil))
      (pss_cons (ps_for PassesOwn.never rfl (pi_range1 (by rfl) B.m_range (pa_cons (pe_ifExp (pt_cmpR op_gt (pv 1) pe_int (nomark _)) (C8.pe_c c1 hr (by decide) (by rfl) (pa_cons (pv 0) (pa_cons (pe_op op_add (pv 2) pe_int) pa_nil))) pe_int) pa_nil)) (pg_name (i := 4) scLawNets.nd rfl (Or.inl rfl))
        (pss_cons (ps_set (i := 5) scLawNets.nd rfl (Or.inl rfl) (pe_op op_add pe_int (C8.pe_c c1 hr (by decide) (by rfl) (pa_cons (pv 0) (pa_cons (C8.pe_c c2 hr (by decide) (by rfl) (pa_cons (pv 0) (pa_cons (pe_lst (pa_cons pe_int (pa_cons pe_int (pa_cons pe_int pa_nil)))) pa_nil))) pa_nil)))))
        (pss_cons (ps_par (i := 6) (j := 7) rfl scLawNets.nd rfl rfl (by decide) rfl rfl (pa_cons (pe_listRg rfl (by rfl) B.m_list (prg_1 (by rfl) B.m_range (pv 1))) (pa_cons (pe_lst pa_nil) pa_nil)) (by rfl))
        (pss_cons (ps_for PassesOwn.never rfl (pi_range1 (by rfl) B.m_range (pa_cons (pe_callB (call_min2 rfl) (by rfl) B.m_min boot_min (pa_cons (pv 5) (pa_cons (pv 1) pa_nil))) pa_nil)) (pg_name (i := 8) scLawNets.nd rfl (Or.inl rfl))
          (pss_one (ps_expr (pe_bm PySem.F.plainAttrs_list PySem.F.slot_list_append PySem.F.type_list_append mt_append (pv 7) (pa_cons
            (pe_bm PySem.F.plainAttrs_list PySem.F.slot_list_pop PySem.F.type_list_pop mt_popAt (pv 6) (pa_cons (C8.pe_c c1 hr (by decide) (by rfl) (pa_cons (pv 0) (pa_cons (pe_callB call_len_seq (by rfl) B.m_len PySem.boot_len (pa_cons (pv 6) pa_nil)) pa_nil))) pa_nil)) pa_nil)))))
        (pss_one (ps_expr (pe_bm PySem.F.plainAttrs_list PySem.F.slot_list_append PySem.F.type_list_append mt_append (pv 3) (pa_cons
          (pe_callTy call_tuple_of (by rfl) B.m_tuple boot_tuple (pa_cons (pe_callB cr_sorted (by rfl) B.m_sorted boot_sorted (pa_cons (pv 7) pa_nil)) pa_nil)) pa_nil))))))))
      (pss_one (ps_ret (pe_callTy call_tuple_of (by rfl) B.m_tuple boot_tuple (pa_cons (pv 3) pa_nil))))), ?_⟩
    -- _law_found = []
    refine ⟨Nat.zero_le _, fun g ng => ?_⟩
    have ngr := R.ne ng
    have R0 := R.upd (o := .lst []) ngr
    have k0 : Kp r H (upd H g (.lst [])) := Kp.refl.new ng
    have S0 := S.kp R k0
    have last : ∀ n σ H', n ≤ 20 → NetsIv H r a g m n σ H' → (tRet (tCB (fun xs H Q => ∃ p ys, xs = [.ref p] ∧ ((SqL K H p ys ∧ ∀ l, H l = none → Q (.ref l) (upd H l (.tup ys))) ∨ (SqT K H p ys ∧ Q (.ref p) H))) (tCons (tVar 3) tNil))) { nx := fun _ H' => Q .non H', rt := Q } σ H' := by
      rintro n σ H' hn ⟨y4, y5, y6, y7, y8, ps, nets, rfl, hg, hl, hN, hat, hok, R1, k1⟩
      refine ⟨_, rfl, g, _, rfl, .inl ⟨SqL.of hg, fun t nt => ?_⟩⟩
      refine q _ t ps nets (k1.new (k1.free R1 nt)) (R1.upd (R1.ne nt)) ⟨upd_same, hl, fun j q' net h1 h2 => ?_⟩ (by omega) hok
      rw [upd_ne (ne_of_none (hat j q' net h1 h2) nt)]
      exact hat j q' net h1 h2
    have start : NetsIv H r a g m 0 [some (.ref r), some (.int (m : Nat)), some (.int 12), some (.ref g), none, none, none, none, none] (upd H g (.lst [])) :=
      ⟨none, none, none, none, none, [], [], rfl, upd_same, rfl, rfl, fun j q' net h1 _ => by simp at h1, (fun net hn => nomatch hn), R0, k0⟩
    refine ⟨_, rfl, _, _, rfl, rfl, _, rfl, ?_⟩
    by_cases h1 : (1 : Int) < ((m : Nat) : Int)
    · refine if_true_of (decide_eq_true h1) ⟨_, rfl, _, rfl, _, _, rfl, rfl, r, a, 12 + 1, rfl, R0, S0, by decide, by decide, fun v H1 v0 v1 R1 o1 => ⟨v, rfl, by omega, by omega, for_range (lo := 0) (n := v.toNat) (NetsIv H r a g m) ?_ ?_ ?_⟩⟩
      · obtain ⟨y4, y5, y6, y7, y8, ps, nets, e, hg, hl, hN, hat, hok, R2, k2⟩ := start
        have e1 : ps = [] := by
          have : nets = [] := List.eq_nil_of_length_eq_zero hN
          subst this
          exact List.eq_nil_of_length_eq_zero hl
        subst e1
        exact ⟨y4, y5, y6, y7, y8, [], nets, e, (o1 g ngr).trans hg, hl, hN, fun j q' net h1 _ => by simp at h1, hok, R1, k2.off o1⟩
      · rintro i σ H2 hi ⟨y4, y5, y6, y7, y8, ps, nets, rfl, hg, hl, hN, hat, hok, R2, k2⟩
        have S2 := S.kp R k2
        -- _law_size = 2 + ..
        refine ⟨_, rfl, _, rfl, (by show 3 ≤ sizeLine; decide), fun t nt => ?_⟩
        have ntr := R2.ne nt
        have kt : Kp r H2 (upd H2 t (.lst [V.int 1, V.int 1, V.int 3])) := Kp.refl.new nt
        refine ⟨r, a, t, [1, 1, 3], rfl, R2.upd ntr, S2.kp R2 kt, upd_same, ntr, by decide, by decide, fun k H3 hk R3 o3 => ?_⟩
        have k3 := kt.off o3
        have hk1 : 1 ≤ k ∧ k ≤ 1000 := by
          simp only [List.mem_cons, List.not_mem_nil, or_false] at hk
          omega
        refine ⟨r, a, k, rfl, R3, S2.kp R2 k3, hk1.1, hk1.2, fun z H4 z0 z1 R4 o4 => ⟨_, _, rfl, rfl, ?_⟩⟩
        have k4 := k3.off o4
        -- _law_left, _law_net = (list(range(_law_many)), [])
        refine ⟨_, rfl, _, rfl, RgOk.of_le (Int.le_refl 0) (by omega) (by omega) (by omega), fun l nl => ⟨Nat.zero_le _, fun n nn => ⟨_, _, rfl, ?_⟩⟩⟩
        have nlr := R4.ne nl
        have nnl : n ≠ l := fun e => by
          subst e
          rw [upd_same] at nn
          cases nn
        have nn4 : H4 n = none := by
          rw [upd_ne nnl] at nn
          exact nn
        have nnr := R4.ne nn4
        have nl2 := k4.free R4 nl
        have nn2 := k4.free R4 nn4
        -- for _law_again in range(min(_law_size, _law_many))
        have hcnt : ∃ c : Nat, (if ((m : Nat) : Int) < 2 + z then ((m : Nat) : Int) else 2 + z) = (c : Int) ∧ 2 ≤ c ∧ c ≤ m := by
          by_cases hz : ((m : Nat) : Int) < 2 + z
          · exact ⟨m, by rw [if_pos hz], by omega, Nat.le_refl _⟩
          · exact ⟨(2 + z).toNat, by rw [if_neg hz]; omega, by omega, by omega⟩
        obtain ⟨c, hc, hc2, hcm⟩ := hcnt
        refine ⟨_, rfl, _, rfl, _, _, rfl, (c : Int), congrArg (fun x => [V.int x]) hc, (by omega), (by omega), for_range (lo := 0) (n := ((c : Nat) : Int).toNat) (fun j σ H' => ∃ (L G : List Int) (y : Option V), σ = [some (.ref r), some (.int (m : Nat)), some (.int 12), some (.ref g), some (.int (0 + (i : Int))), some (.int (2 + z)), some (.ref l), some (.ref n), y] ∧ (G ++ L).Perm (iota m) ∧ G.length = j ∧
          H' l = some (.lst (L.map V.int)) ∧ H' n = some (.lst (G.map V.int)) ∧ RowAt H' r a ∧ Kp r H2 H') ?_ ?_ ?_⟩
        · refine ⟨iota m, [], y8, rfl, List.Perm.refl _, rfl, ?_, upd_same, (R4.upd nlr).upd nnr, (k4.new nl2).new nn2⟩
          rw [upd_ne (Ne.symm nnl), upd_same, iota_rg]
        · rintro j σ H5 hj ⟨L, G, y, rfl, hp, hG, hl5, hn5, R5, k5⟩
          have hsz := hp.length_eq
          rw [List.length_append, iota_length, hG] at hsz
          have hLl : (L.map V.int).length = L.length := List.length_map _
          refine ⟨_, rfl, .inl ⟨rfl, _, SqL.of hn5⟩, _, rfl, .inl ⟨rfl, _, SqL.of hl5⟩, _, rfl, _, rfl, l, _, rfl, .inl (SqL.of hl5), r, a, _, rfl, R5, S2.kp R2 k5, by omega, by omega, fun v H6 v0 v1 R6 o6 => ?_⟩
          have hl6 : H6 l = some (.lst (L.map V.int)) := (o6 l nlr).trans hl5
          have hn6 : H6 n = some (.lst (G.map V.int)) := (o6 n nnr).trans hn5
          have hvl : v.toNat < L.length := by omega
          have hLv : L[v.toNat]? = some L[v.toNat] := List.getElem?_eq_getElem hvl
          refine ⟨l, L.map V.int, v, v.toNat, .int L[v.toNat], rfl, rfl, hl6, by omega, by omega, seq_at v0 v1, by rw [List.getElem?_map, hLv]; rfl, ?_⟩
          have hn7 : (upd H6 l (.lst ((L.map V.int).eraseIdx v.toNat))) n = some (.lst (G.map V.int)) := (upd_ne nnl).trans hn6
          refine ⟨n, _, _, rfl, rfl, hn7, ?_, ?_⟩
          · rw [List.length_map]
            exact small60 (by omega)
          · refine ⟨L.eraseIdx v.toNat, G ++ [L[v.toNat]], some (V.int (0 + (j : Int))), rfl, (draw_perm hLv).trans hp, by rw [List.length_append, hG]; rfl, ?_, ?_, (R6.upd nlr).upd nnr, (((k5.off o6).new nl2).new nn2)⟩
            · rw [upd_ne (Ne.symm nnl), upd_same, erase_mapI]
            · rw [upd_same, List.map_append]
              rfl
        · rintro σ H5 ⟨L, G, y, rfl, hp, hG, hl5, hn5, R5, k5⟩
          have hg5 := k5 g _ ngr hg
          -- _law_found.append(tuple(sorted(_law_net)))
          refine ⟨_, rfl, .inl ⟨rfl, _, SqL.of hg5⟩, _, rfl, n, G, rfl, SqL.of hn5, by omega, fun ns d hp2 ha nd => ?_⟩
          have sd := same_upd (o := .lst (ns.map V.int)) nd
          refine ⟨d, _, rfl, .inl ⟨SqL.of upd_same, fun e ne => ?_⟩⟩
          have se := same_upd (o := .tup (ns.map V.int)) ne
          have hg7 := se _ _ (sd _ _ hg5)
          have R7 := (R5.same sd).same se
          have k7 := (k5.trans (Kp.of_same sd)).trans (Kp.of_same (r := r) se)
          have ok := netOk_of hp hG (by omega) (by omega) hp2 ha
          have heg : e ≠ g := fun x => by
            subst x
            rw [sd _ _ hg5] at ne
            cases ne
          refine ⟨g, ps.map V.ref, .ref e, rfl, rfl, hg7, ?_, ?_⟩
          · rw [List.length_map]
            exact small60 (by omega)
          · refine ⟨_, _, _, _, _, ps ++ [e], nets ++ [ns], rfl, ?_, ?_, ?_, ?_, ?_, R7.upd ngr, fun b o hb hbo => ?_⟩
            · rw [upd_same, List.map_append]
              rfl
            · rw [List.length_append, List.length_append, hl]
              rfl
            · rw [List.length_append, hN]
              rfl
            · intro j q' net h1 h2
              have key : (upd (upd H5 d (.lst (ns.map V.int))) e (.tup (ns.map V.int))) q' = some (.tup (net.map V.int)) := by
                by_cases hj : j < ps.length
                · rw [List.getElem?_append_left hj] at h1
                  rw [List.getElem?_append_left (by omega)] at h2
                  have hq := hat j q' net h1 h2
                  exact k7 _ _ (R2.ne_tup hq) hq
                · have hj2 : j = ps.length := by
                    have := (List.getElem?_eq_some_iff.mp h1).1
                    rw [List.length_append] at this
                    have e1 : [e].length = 1 := rfl
                    omega
                  subst hj2
                  rw [List.getElem?_append_right (Nat.le_refl _), Nat.sub_self] at h1
                  rw [List.getElem?_append_right (by omega), hl, Nat.sub_self] at h2
                  cases h1
                  cases h2
                  exact upd_same
              have hqg : q' ≠ g := fun x => by
                subst x
                rw [hg7] at key
                cases key
              rw [upd_ne hqg]
              exact key
            · intro net hnet
              rcases List.mem_append.mp hnet with h | h
              · exact hok net h
              · rcases List.mem_singleton.mp h with rfl
                exact ok
            · rw [upd_ne (ne_of_none hbo ng)]
              exact k7 b o hb (k2 b o hb hbo)
      · intro σ H2 iv
        exact last v.toNat σ H2 (by omega) iv
    · refine if_false_of (decide_eq_false h1) ⟨0, rfl, by decide, by decide, for_range (lo := 0) (n := (0 : Int).toNat) (NetsIv H r a g m) start (fun i σ H2 hi => absurd hi (Nat.not_lt_zero i)) ?_⟩
      intro σ H2 iv
      exact last 0 σ H2 (by omega) iv
end
end CF
/-! The law itself. -/
namespace CF
open PySem PySem.Spec PyProof.Rows L2
theorem NetsAt.kp {H H' : Hp} {r a p : Addr} {ps : List Addr} {nets : List (List Int)} (N : NetsAt H p ps nets) (R : RowAt H r a) (k : Kp r H H') : NetsAt H' p ps nets :=
  ⟨k _ _ (R.ne_tup N.tup) N.tup, N.len, fun i q net h1 h2 => k _ _ (R.ne_tup (N.at_ i q net h1 h2)) (N.at_ i q net h1 h2)⟩
theorem TupF.same {H H' : Hp} {a : Addr} {xs : List V} (h : TupF H a xs) (s : Same H H') : TupF H' a xs := let ⟨ob, e, q⟩ := h; ⟨ob, s _ _ e, q⟩
theorem tot_more (m : Nat) (o : List Int) {nets : List (List Int)} {i : Nat} {net : List Int} (h : nets[i]? = some net) :
    ((nets.take (i + 1)).map fun net => ((gaps m o net : Nat) : Int)).sum = ((nets.take i).map fun net => ((gaps m o net : Nat) : Int)).sum + ((gaps m o net : Nat) : Int) := by
  rw [List.take_add_one, h, List.map_append, List.sum_append]
  show _ + ([((gaps m o net : Nat) : Int)] : List Int).sum = _
  rw [List.sum_cons, List.sum_nil, Int.add_zero]
theorem due_zero {m : Nat} (nets : List (List Int)) (o : List Int) (h : 1 < m) : ((dueL m nets o).map V.int)[0]? = some (V.int ((ncrs nets (o.take 1) : Nat) : Int)) := by
  unfold dueL
  rw [List.map_map, List.getElem?_map, List.getElem?_range (by omega)]
  rfl
section
variable {P : Program} {w : World} {K : PySem.W.Frag} {mg : Str → Option Value} {base : Heap} {f : Addr} {fd : FuncData}
def spLaw (K : PySem.W.Frag) : Sp := fun vs H Q _ => ∃ (a : Addr) (ns : List Int), vs = [.ref a] ∧ SqL K H a (ns.map V.int) ∧ ns.length ≤ 63 ∧ ∀ H', Q (.bl true) H'
theorem ok_law (B : Bl mg) (cT : Cal0 P w K mg base 1 "_law_taken" (spTaken K)) (cN : Cal0 P w K mg base 3 "_law_nets" (spNets K)) (cO : Cal0 P w K mg base 2 "_law_order" (spOrd K))
    (cAI : Cal0 P w K mg base 1 "_law_alike" spAlikeI) (cAT : Cal0 P w K mg base 2 "_law_alike" spAlikeT) (cW : Cal0 P w K mg base 6 "wire_length" spWire) (cC : Cal0 P w K mg base 1 "_law_cut" spCut2)
    (cX : Cal0 P w K mg base 6 "crossings" spCrossings) (cK : Cal0 P w K mg base 6 "cut" spCut) (F : Fun K "law" "law" sLaw f fd) : FnOk P w K mg base CX0 7 f fd ["_law_script"] (spLaw K) := by
  refine F.ok scLaw (fun vs H Q E h => ?_) (fun cdv A outer s H vs Q E hr h => ?_)
  · obtain ⟨a, ns, rfl, _⟩ := h
    rfl
  · obtain ⟨a, ns, rfl, hS, hns, q⟩ := h
    refine ⟨_, pss_cons (ps_set (i := 1) scLaw.nd rfl (Or.inl rfl) (pe_lst (pa_cons (pv 0) (pa_cons pe_int (pa_cons pe_int (pa_cons pe_int pa_nil))))))
      (pss_cons (ps_for PassesOwn.never rfl (pi_range1 (by rfl) B.m_range (pa_cons pe_int pa_nil)) (pg_name (i := 2) scLaw.nd rfl (Or.inl rfl))
        (pss_cons (ps_set (i := 3) scLaw.nd rfl (Or.inl rfl) (pe_op op_add pe_int (C8.pe_c cT hr (by decide) (by rfl) (pa_cons (pv 1) (pa_cons pe_int pa_nil)))))
        (pss_cons (ps_asg (pe_tup (pa_cons (C8.pe_c cN hr (by decide) (by rfl) (pa_cons (pv 1) (pa_cons (pv 3) (pa_cons pe_int pa_nil)))) (pa_cons (C8.pe_c cO hr (by decide) (by rfl) (pa_cons (pv 1) (pa_cons (pv 3) pa_nil))) pa_nil)))
          (pg_tup rfl (pgs_cons (pg_name (i := 4) scLaw.nd rfl (Or.inr rfl)) (pgs_cons (pg_name (i := 5) scLaw.nd rfl (Or.inr rfl)) pgs_nil))))
        (pss_cons (ps_set (i := 6) scLaw.nd rfl (Or.inl rfl) pe_int)
        (pss_cons (ps_for PassesOwn.never rfl (pi_tup (pv 4)) (pg_name (i := 7) scLaw.nd rfl (Or.inl rfl))
          (pss_cons (ps_setLc (i := 8) (own := [("_law_cell", 10)]) (g := gName 10) (tt := tYes) (te := tTIx K (tVar 5) (tCons (tVar 10) tNil)) rfl scLaw.nd rfl rfl (sw_true rfl rfl rfl (by decide +kernel)) (pi_tup (pv 7)) (blkOk_by (by kernel_rfl))
              (fun _ _ _ _ _ => pg_name (i := 10) scLaw.nd rfl (Or.inl rfl)) (fun _ _ _ _ _ => pts_nil) (fun _ _ _ _ _ => pe_tupIx (pv 5) (pa_cons (pv 10) pa_nil)))
          (pss_one (ps_set (i := 6) scLaw.nd rfl (Or.inl rfl) (pe_op op_sub (pe_op op_add (pv 6) (pe_callB (cr_max rfl) (by rfl) B.m_max boot_max (pa_cons (pv 8) pa_nil))) (pe_callB (cr_min rfl) (by rfl) B.m_min boot_min (pa_cons (pv 8) pa_nil)))))))
        (pss_cons (ps_if (pt_not (pt_val (C8.pe_c cAI hr (by decide) (by rfl) (pa_cons (C8.pe_c cW hr (by decide) (by rfl) (pa_cons (pv 3) (pa_cons (pv 4) (pa_cons (pv 5) pa_nil)))) (pa_cons (pv 6) pa_nil))))) pss_never pss_nil)
        (pss_cons (ps_setLc (i := 9) (own := [("_law_at", 11)]) (g := gName 11) (tt := tYes) (te := tCall spCut2 [] C8.E0 (tCons (tVar 4) (tCons (tSl (rSlT K) (tVar 5) tNoPart (tPart (tVar 11))) tNil))) rfl scLaw.nd rfl rfl (sw_true rfl rfl rfl (by decide +kernel))
            (pi_range2 (by rfl) B.m_range (pa_cons pe_int (pa_cons (pv 3) pa_nil))) (blkOk_by (by kernel_rfl)) (fun _ _ _ _ _ => pg_name (i := 11) scLaw.nd rfl (Or.inl rfl)) (fun _ _ _ _ _ => pts_nil)
            (fun _ _ _ _ _ => C8.pe_c cC hr (by decide) (by rfl) (pa_cons (pv 4) (pa_cons (pe_slice sl_tup (pv 5) po_none (po_some (pv 11))) pa_nil))))
        (pss_cons (ps_if (PW.pt (pw_or (pt_not (pt_val (C8.pe_c cAT hr (by decide) (by rfl) (pa_cons (C8.pe_c cX hr (by decide) (by rfl) (pa_cons (pv 3) (pa_cons (pv 4) (pa_cons (pv 5) pa_nil)))) (pa_cons (pe_callTy call_tuple_of (by rfl) B.m_tuple boot_tuple (pa_cons (pv 9) pa_nil)) pa_nil)))))
            (pw_or1 (pt_cmpR op_ne (pe_callB (cr_sum rfl) (by rfl) B.m_sum (by decide +kernel) (pa_cons (pv 9) pa_nil)) (pv 6) (nomark _))))) pss_never pss_nil)
        (pss_one (ps_if (PW.pt (pw_or (pt_cmpR op_ne (C8.pe_c cW hr (by decide) (by rfl) (pa_cons (pv 3) (pa_cons (pv 4) (pa_cons (pe_backT (pv 5)) pa_nil)))) (pv 6) (nomark _))
            (pw_or1 (PW.pt (pw_and (pt_cmpR op_gt (pv 3) pe_int (nomark _)) (pw_and1 (pt_cmpR op_ne (C8.pe_c cK hr (by decide) (by rfl) (pa_cons (pv 3) (pa_cons (pv 4) (pa_cons
              (pe_callTy call_tuple_of (by rfl) B.m_tuple boot_tuple (pa_cons (pe_callB cr_sortedTup (by rfl) B.m_sorted boot_sorted (pa_cons (pe_slice sl_tup (pv 5) po_none (po_some pe_int)) pa_nil)) pa_nil)) pa_nil))))
              (pe_ix ix_list (pv 9) pe_int (fun _ _ => rfl)) (nomark _)))))))) pss_never pss_nil))))))))))
      (pss_one (ps_ret pe_bl))), ?_⟩
    -- _law_row = [_law_script, 0, 3835, 0]
    refine ⟨_, rfl, (by show 4 ≤ sizeLine; decide), fun r nr => ?_⟩
    have R0 : RowAt (upd H r (.lst [.ref a, .int 0, .int 3835, .int 0])) r a := ⟨0, 3835, 0, upd_same, by decide, by decide, by decide⟩
    have S0 : Scr K (upd H r (.lst [.ref a, .int 0, .int 3835, .int 0])) a := ⟨ns, (same_upd nr).seq hS⟩
    generalize upd H r (.lst [.ref a, .int 0, .int 3835, .int 0]) = H0 at R0 S0
    refine ⟨3, rfl, by decide, by decide, for_range (lo := 0) (n := 3) (fun i σ H' => (∃ y2 y3 y4 y5 y6 y7 y8 y9 y10 y11 : Option V, σ = [some (.ref a), some (.ref r), y2, y3, y4, y5, y6, y7, y8, y9, y10, y11]) ∧ RowAt H' r a ∧ Kp r H0 H')
      ⟨⟨_, _, _, _, _, _, _, _, _, _, rfl⟩, R0, Kp.refl⟩ ?_ (fun σ H' _ => q H')⟩
    rintro i σ H1 hi ⟨⟨y2, y3, y4, y5, y6, y7, y8, y9, y10, y11, rfl⟩, R1, k1⟩
    have S1 := S0.kp R0 k1
    -- _law_many = 1 + _law_taken(_law_row, 8)
    refine ⟨_, rfl, r, a, 8, rfl, R1, S1, by decide, by decide, fun v H2 v0 v1 R2 o2 => ⟨1, v, rfl, rfl, ?_⟩⟩
    have k2 := k1.off o2
    obtain ⟨m, hm⟩ : ∃ m : Nat, 1 + v = (m : Int) := ⟨(1 + v).toNat, by omega⟩
    have hm1 : 1 ≤ m := by omega
    have hm8 : m ≤ 8 := by omega
    have hv : V.int (1 + v) = V.int ((m : Nat) : Int) := by rw [hm]
    -- _law_nets_here, _law_order_here = (.., ..)
    refine ⟨_, rfl, _, rfl, r, a, m, congrArg (fun x => [V.ref r, x, V.int 12]) hv, R2, S0.kp R0 k2, hm1, hm8, fun H3 p ps nets k3 R3 N3 hn hok => ?_⟩
    refine ⟨_, rfl, _, rfl, r, a, m, congrArg (fun x => [V.ref r, x]) hv, R3, S0.kp R0 (k2.trans k3), hm1, hm8, fun H4 d o k4 R4 tf4 ho => ?_⟩
    refine ⟨(by show 2 ≤ sizeLine; decide), fun T nT => ?_⟩
    have sT := same_upd (o := .tup [V.ref p, V.ref d]) nT
    refine ⟨T, [.ref p, .ref d], rfl, SqT.of upd_same, rfl, _, _, rfl, _, _, rfl, rfl, ?_⟩
    have k5 : Kp r H0 (upd H4 T (.tup [V.ref p, V.ref d])) := ((k2.trans k3).trans k4).trans (Kp.of_same sT)
    have R5 := R4.same sT
    have N5 := (N3.kp R3 k4).mono sT
    have tf5 := tf4.same sT
    generalize upd H4 T (.tup [V.ref p, V.ref d]) = H5 at k5 R5 N5 tf5
    have hol := ho.len
    have sub : ∀ net ∈ nets, (∀ c ∈ net, c ∈ o) ∧ net ≠ [] := fun net hnet => ⟨fun c hc => (ho.mem c).mpr ((hok net hnet).mem c hc), fun e => by
      have := (hok net hnet).two
      rw [e] at this
      exact absurd this (by decide)⟩
    have hlen : (ps.map V.ref).length = nets.length := by rw [List.length_map, N5.len]
    -- for _law_net in _law_nets_here
    refine ⟨_, rfl, p, rfl, ⟨_, SqT.of N5.tup⟩, for_tup (K := K) (a := p) (xs := ps.map V.ref) (fun i2 σ H' => (∃ (x : Int) (y7 y8 : Option V), σ = [some (.ref a), some (.ref r), some (.int (0 + (i : Int))), some (.int (1 + v)), some (.ref p), some (.ref d), some (.int x), y7, y8, y9, y10, y11] ∧ x = ((nets.take i2).map fun net => ((gaps m o net : Nat) : Int)).sum) ∧ Same H5 H')
      ⟨⟨0, y7, y8, rfl, rfl⟩, Same.refl _⟩ (fun i2 σ H' _ z => SqT.of (z.2 _ _ N5.tup)) ?_ ?_⟩
    · rintro i2 x2 σ H6 hx2 ⟨⟨x, y7, y8, rfl, hx⟩, s6⟩
      obtain ⟨q', net, rfl, hnet, hq, hil⟩ := (N5.mono s6).item hx2
      have ok := hok net (List.mem_of_getElem? hnet)
      have sub1 := (sub net (List.mem_of_getElem? hnet)).1
      have tf6 := tf5.same s6
      have hn2 := ok.two
      have hnl := ok.len
      -- _law_places = [..]
      refine ⟨_, rfl, q', rfl, ⟨_, SqT.of hq⟩, fun D nD => lc_tup (K := K) (a := q') (xs := net.map V.int) (fun j H' => Same H6 H' ∧ H' D = some (.lst ((posL o (net.take j)).map V.int))) ⟨same_upd nD, upd_same⟩ (fun j H' _ z => SqT.of (z.1 _ _ hq)) ?_ ?_⟩
      · rintro j y H7 hy ⟨s7, h7⟩
        obtain ⟨c, hc, rfl⟩ := ints_at hy
        have tf7 := tf6.same s7
        have hco := sub1 c (List.mem_of_getElem? hc)
        refine ⟨rfl, yes_of ⟨_, rfl, ⟨d, _, rfl, tf7⟩, _, rfl, d, o, c, o.idxOf c, rfl, rfl, .inl tf7.rd, idx_get hco, fun n hn z => ?_, _, h7, ?_, same_new s7 nD, ?_⟩⟩
        · have := idx_at ho.nd z
          omega
        · unfold posL
          rw [List.length_map, List.length_map, List.length_take]
          exact small60 (by omega)
        · rw [upd_same, pos_more o hc]
      · rintro H7 ⟨s7, h7⟩
        rw [List.length_map, List.take_length] at h7
        have hpl : 0 < (posL o net).length := by
          unfold posL
          rw [List.length_map]
          omega
        refine ⟨_, rfl, _, rfl, D, posL o net, rfl, SqL.of h7, hpl, fun M hM1 hM2 => ⟨_, _, rfl, rfl, _, rfl, D, posL o net, rfl, SqL.of h7, hpl, fun M' hM3 hM4 => ⟨_, _, rfl, rfl, ?_⟩⟩⟩
        have hg := len_gaps ho.nd ho.len sub1 hM1 hM2 hM3 hM4
        refine ⟨⟨x + M - M', _, _, rfl, ?_⟩, s6.trans s7⟩
        rw [tot_more m o hnet, ← hx, ← hg]
        omega
    · rintro σ H6 ⟨⟨x, y7', y8', rfl, hx⟩, s6⟩
      rw [hlen, List.take_length] at hx
      have hx : x = total m nets o := hx
      subst hx
      have N6 := N5.mono s6
      have tf6 := tf5.same s6
      have rd6 := tf6.rd
      -- if not _law_alike(wire_length(..), _law_total)
      refine ⟨_, rfl, _, rfl, _, rfl, p, ps, nets, m, d, o, congrArg (fun x => [x, V.ref p, V.ref d]) hv, N6, hm1, hm8, hn, hok, rd6, ho, fun H7 s7 => ?_⟩
      refine ⟨_, rfl, total m nets o, rfl, fun H8 s8 => ⟨true, rfl, if_no ?_⟩⟩
      have s68 := s7.trans s8
      have N8 := N6.mono s68
      have rd8 := rd_same s68 rd6
      -- _law_due = [..]
      refine ⟨_, rfl, 1, (m : Int), congrArg (fun x => [V.int 1, x]) hv, ⟨by omega, by omega, by omega, by omega⟩, fun D nD => lc_range (lo := 1) (n := ((m : Int) - 1).toNat) (fun j H' => Same H8 H' ∧ H' D = some (.lst (((dueL m nets o).take j).map V.int))) ⟨same_upd nD, upd_same⟩ ?_ ?_⟩
      · rintro j H9 hj ⟨s9, hD⟩
        have hj' : j + 1 < m := by omega
        have ej : (1 : Int) + (j : Int) = ((j + 1 : Nat) : Int) := by omega
        refine ⟨rfl, yes_of ⟨_, rfl, _, rfl, _, rfl, _, rfl, d, o.map V.int, rfl, .inl (rd_same s9 rd8), ?_, fun t nt => ?_⟩⟩
        · rw [ej]
          exact head_part hol hj'
        · have st := same_upd (o := .tup (cutV (o.map V.int) none (some (1 + (j : Int))))) nt
          refine ⟨p, ps, nets, t, o.take (j + 1), rfl, (N8.mono s9).mono st, hn, nets_small hm8 hok, ?_, fun H10 s10 => ?_⟩
          · rw [upd_same, ej, cut_head]
          · refine ⟨_, s10 _ _ (st _ _ hD), ?_, same_new ((s9.trans st).trans s10) nD, ?_⟩
            · rw [List.length_map, List.length_take, due_len]
              exact small60 (by omega)
            · rw [upd_same, due_more m nets o (by omega)]
      · rintro H9 ⟨s9, hD⟩
        have eD : (dueL m nets o).take ((m : Int) - 1).toNat = dueL m nets o := List.take_of_length_le (by rw [due_len]; omega)
        rw [eD] at hD
        have N9 := N8.mono s9
        have rd9 := rd_same s9 rd8
        -- if not _law_alike(crossings(..), tuple(_law_due)) or ..
        refine ⟨_, rfl, _, rfl, _, rfl, p, ps, nets, m, d, o, congrArg (fun x => [x, V.ref p, V.ref d]) hv, N9, hm1, hm8, hn, hok, rd9, ho, fun H10 e s10 he => ?_⟩
        have hD10 := s10 _ _ hD
        refine ⟨_, rfl, D, _, rfl, .inl ⟨SqL.of hD10, fun t nt => ?_⟩⟩
        have st := same_upd (o := .tup ((dueL m nets o).map V.int)) nt
        refine ⟨e, t, dueL m nets o, rfl, st _ _ he, upd_same, by rw [due_len]; omega, fun H11 s11 => ⟨true, rfl, if_no ?_⟩⟩
        have s911 := (s10.trans st).trans s11
        have hD11 := s911 _ _ hD
        have N11 := N9.mono s911
        have rd11 := rd_same s911 rd9
        refine ⟨_, rfl, D, dueL m nets o, rfl, SqL.of hD11, _, rfl, rfl, _, rfl, iteNS (congrArg V.int (due_total m o nets)) ?_⟩
        -- if wire_length(.., _law_order_here[::-1]) != _law_total or ..
        refine ⟨_, rfl, _, rfl, _, rfl, d, o.map V.int, rfl, .inl rd11, fun t2 nt2 => ?_⟩
        have st2 := same_upd (o := .tup (o.map V.int).reverse) nt2
        refine ⟨p, ps, nets, m, t2, o.reverse, congrArg (fun x => [x, V.ref p, V.ref t2]) hv, N11.mono st2, hm1, hm8, hn, hok, .inl (by rw [upd_same, List.map_reverse]), ho.rev, fun H12 s12 => ?_⟩
        have s1112 := st2.trans s12
        have hD12 := s1112 _ _ hD11
        have N12 := N11.mono s1112
        have rd12 := rd_same s1112 rd11
        have sAll : Same H5 H12 := ((s6.trans s68).trans s9).trans (s911.trans s1112)
        refine ⟨_, rfl, rfl, _, rfl, iteNS (congrArg V.int (total_rev ho.nd ho.len nets sub)) ?_⟩
        refine ⟨_, rfl, ((m : Nat) : Int), 1, hv, rfl, _, rfl, ?_⟩
        by_cases h1 : (1 : Int) < ((m : Nat) : Int)
        · refine if_true_of (decide_eq_true h1) ?_
          -- cut(.., tuple(sorted(_law_order_here[:1]))) != _law_due[0]
          obtain ⟨x, rest, ho1⟩ : ∃ x rest, o = x :: rest := by
            cases o with
            | nil =>
              have z : (0 : Nat) = m := hol
              omega
            | cons x rest => exact ⟨x, rest, rfl⟩
          have htk : o.take 1 = [x] := by
            rw [ho1]
            rfl
          refine ⟨_, rfl, _, rfl, _, rfl, 1, rfl, d, o.map V.int, rfl, .inl rd12, head_part (k := 1) hol (by omega), fun t3 nt3 => ?_⟩
          have st3 := same_upd (o := .tup (cutV (o.map V.int) none (some 1))) nt3
          have hcut : cutV (o.map V.int) none (some 1) = ([x] : List Int).map V.int := by
            rw [← htk]
            exact cut_head o 1
          refine ⟨t3, [x], rfl, .inl (.inl (by rw [upd_same, hcut])), (by show 1 < 64; decide), fun zs u3 hz1 hz2 nu3 => ?_⟩
          have ez : zs = [x] := List.perm_singleton.mp hz1
          subst ez
          have su3 := same_upd (o := .lst (([x] : List Int).map V.int)) nu3
          refine ⟨u3, _, rfl, .inl ⟨SqL.of upd_same, fun t4 nt4 => ?_⟩⟩
          have st4 := same_upd (o := .tup (([x] : List Int).map V.int)) nt4
          have sx := (st3.trans su3).trans st4
          have hxm := (ho.mem x).mp (by rw [ho1]; exact List.mem_cons_self)
          refine ⟨p, ps, nets, m, t4, [x], congrArg (fun y => [y, V.ref p, V.ref t4]) hv, N12.mono sx, hm1, hm8, hn, hok, upd_same, by show 1 ≤ m; omega, List.pairwise_singleton _ _, fun c hc => ?_, fun H13 s13 => ?_⟩
          · rcases List.mem_singleton.mp hc with rfl
            exact hxm
          · have hD13 := s13 _ _ (sx _ _ hD12)
            have hdz := due_zero nets o (m := m) (by omega)
            rw [htk] at hdz
            refine ⟨_, rfl, D, _, 0, _, rfl, rfl, SqL.of hD13, atI_nat (j := 0) hdz, rfl, _, rfl, iteNS rfl ?_⟩
            exact ⟨⟨_, _, _, _, _, _, _, _, _, _, rfl⟩, R5.same (sAll.trans (sx.trans s13)), k5.trans (Kp.of_same (sAll.trans (sx.trans s13)))⟩
        · refine if_false_of (decide_eq_false h1) (if_false_of rfl ?_)
          exact ⟨⟨_, _, _, _, _, _, _, _, _, _, rfl⟩, R5.same sAll, k5.trans (Kp.of_same sAll)⟩
end
end CF
namespace CF
open PySem PySem.Spec PyProof.Rows L2
theorem all_mk {l : PySem.W.OpenLaw} {w : World} {K : PySem.W.Frag} {h : Heap} {mg : Str → Option Value} {fa : Addr} (X : K.In h) (G : h.Ns mainGlobals mg) (hfa : mg "law" = some (.ref fa))
    {f0 : Addr} {od0 an0 : Option Addr} {sl0 : Array (Option Value)} {oc0 kV0 dc0 pm0 cd0 ct0 : Value}
    {f1 : Addr} {od1 an1 : Option Addr} {sl1 : Array (Option Value)} {oc1 kV1 dc1 pm1 cd1 ct1 : Value}
    {f2 : Addr} {od2 an2 : Option Addr} {sl2 : Array (Option Value)} {oc2 kV2 dc2 pm2 cd2 ct2 : Value}
    {f3 : Addr} {od3 an3 : Option Addr} {sl3 : Array (Option Value)} {oc3 kV3 dc3 pm3 cd3 ct3 : Value}
    {f4 : Addr} {od4 an4 : Option Addr} {sl4 : Array (Option Value)} {oc4 kV4 dc4 pm4 cd4 ct4 : Value}
    {f5 : Addr} {od5 an5 : Option Addr} {sl5 : Array (Option Value)} {oc5 kV5 dc5 pm5 cd5 ct5 : Value}
    {f6 : Addr} {od6 an6 : Option Addr} {sl6 : Array (Option Value)} {oc6 kV6 dc6 pm6 cd6 ct6 : Value}
    {f7 : Addr} {od7 an7 : Option Addr} {sl7 : Array (Option Value)} {oc7 kV7 dc7 pm7 cd7 ct7 : Value}
    {f8 : Addr} {od8 an8 : Option Addr} {sl8 : Array (Option Value)} {oc8 kV8 dc8 pm8 cd8 ct8 : Value}
    {f9 : Addr} {od9 an9 : Option Addr} {sl9 : Array (Option Value)} {oc9 kV9 dc9 pm9 cd9 ct9 : Value}
    {f10 : Addr} {od10 an10 : Option Addr} {sl10 : Array (Option Value)} {oc10 kV10 dc10 pm10 cd10 ct10 : Value}
    {f11 : Addr} {od11 an11 : Option Addr} {sl11 : Array (Option Value)} {oc11 kV11 dc11 pm11 cd11 ct11 : Value}
    {f12 : Addr} {od12 an12 : Option Addr} {sl12 : Array (Option Value)} {oc12 kV12 dc12 pm12 cd12 ct12 : Value}
    {f13 : Addr} {od13 an13 : Option Addr} {sl13 : Array (Option Value)} {oc13 kV13 dc13 pm13 cd13 ct13 : Value}
    {f14 : Addr} {od14 an14 : Option Addr} {sl14 : Array (Option Value)} {oc14 kV14 dc14 pm14 cd14 ct14 : Value}
    {f15 : Addr} {od15 an15 : Option Addr} {sl15 : Array (Option Value)} {oc15 kV15 dc15 pm15 cd15 ct15 : Value}
    {f16 : Addr} {od16 an16 : Option Addr} {sl16 : Array (Option Value)} {oc16 kV16 dc16 pm16 cd16 ct16 : Value}
    {f17 : Addr} {od17 an17 : Option Addr} {sl17 : Array (Option Value)} {oc17 kV17 dc17 pm17 cd17 ct17 : Value}
    {f18 : Addr} {od18 an18 : Option Addr} {sl18 : Array (Option Value)} {oc18 kV18 dc18 pm18 cd18 ct18 : Value}
    {f19 : Addr} {od19 an19 : Option Addr} {sl19 : Array (Option Value)} {oc19 kV19 dc19 pm19 cd19 ct19 : Value}
    {f20 : Addr} {od20 an20 : Option Addr} {sl20 : Array (Option Value)} {oc20 kV20 dc20 pm20 cd20 ct20 : Value}
    {t_MOST_CELLS : Tok} {t_MOST_NETS : Tok}
    (a0 : PySem.W.nsIn K mainGlobals "is_integer" = some (some (.ref f0))) (l0 : K.lookup f0 = some ⟨oc0, od0, .func (PySem.W.fnOf "is_integer" "is_integer" (defArgs sIsInteger) (defBody sIsInteger) (defScope sIsInteger) .none kV0 dc0 pm0 an0 cd0 ct0), sl0⟩) (c0 : PySem.W.codeIn K cd0 "is_integer" = true) (k0 : PySem.W.keepIn K (.ref f0) = true)
    (a1 : PySem.W.nsIn K mainGlobals "is_in" = some (some (.ref f1))) (l1 : K.lookup f1 = some ⟨oc1, od1, .func (PySem.W.fnOf "is_in" "is_in" (defArgs sIsIn) (defBody sIsIn) (defScope sIsIn) .none kV1 dc1 pm1 an1 cd1 ct1), sl1⟩) (c1 : PySem.W.codeIn K cd1 "is_in" = true) (k1 : PySem.W.keepIn K (.ref f1) = true)
    (a2 : PySem.W.nsIn K mainGlobals "is_list" = some (some (.ref f2))) (l2 : K.lookup f2 = some ⟨oc2, od2, .func (PySem.W.fnOf "is_list" "is_list" (defArgs sIsList) (defBody sIsList) (defScope sIsList) .none kV2 dc2 pm2 an2 cd2 ct2), sl2⟩) (c2 : PySem.W.codeIn K cd2 "is_list" = true) (k2 : PySem.W.keepIn K (.ref f2) = true)
    (a3 : PySem.W.nsIn K mainGlobals "is_part" = some (some (.ref f3))) (l3 : K.lookup f3 = some ⟨oc3, od3, .func (PySem.W.fnOf "is_part" "is_part" (defArgs sIsPart) (defBody sIsPart) (defScope sIsPart) .none kV3 dc3 pm3 an3 cd3 ct3), sl3⟩) (c3 : PySem.W.codeIn K cd3 "is_part" = true) (k3 : PySem.W.keepIn K (.ref f3) = true)
    (a4 : PySem.W.nsIn K mainGlobals "need_nets" = some (some (.ref f4))) (l4 : K.lookup f4 = some ⟨oc4, od4, .func (PySem.W.fnOf "need_nets" "need_nets" (defArgs sNeedNets) (defBody sNeedNets) (defScope sNeedNets) .none kV4 dc4 pm4 an4 cd4 ct4), sl4⟩) (c4 : PySem.W.codeIn K cd4 "need_nets" = true) (k4 : PySem.W.keepIn K (.ref f4) = true)
    (a5 : PySem.W.nsIn K mainGlobals "need_sides" = some (some (.ref f5))) (l5 : K.lookup f5 = some ⟨oc5, od5, .func (PySem.W.fnOf "need_sides" "need_sides" (defArgs sNeedSides) (defBody sNeedSides) (defScope sNeedSides) .none kV5 dc5 pm5 an5 cd5 ct5), sl5⟩) (c5 : PySem.W.codeIn K cd5 "need_sides" = true) (k5 : PySem.W.keepIn K (.ref f5) = true)
    (a6 : PySem.W.nsIn K mainGlobals "cut_in" = some (some (.ref f6))) (l6 : K.lookup f6 = some ⟨oc6, od6, .func (PySem.W.fnOf "cut_in" "cut_in" (defArgs sCutIn) (defBody sCutIn) (defScope sCutIn) .none kV6 dc6 pm6 an6 cd6 ct6), sl6⟩) (c6 : PySem.W.codeIn K cd6 "cut_in" = true) (k6 : PySem.W.keepIn K (.ref f6) = true)
    (a7 : PySem.W.nsIn K mainGlobals "cut" = some (some (.ref f7))) (l7 : K.lookup f7 = some ⟨oc7, od7, .func (PySem.W.fnOf "cut" "cut" (defArgs sCut) (defBody sCut) (defScope sCut) .none kV7 dc7 pm7 an7 cd7 ct7), sl7⟩) (c7 : PySem.W.codeIn K cd7 "cut" = true) (k7 : PySem.W.keepIn K (.ref f7) = true)
    (a8 : PySem.W.nsIn K mainGlobals "is_order" = some (some (.ref f8))) (l8 : K.lookup f8 = some ⟨oc8, od8, .func (PySem.W.fnOf "is_order" "is_order" (defArgs sIsOrder) (defBody sIsOrder) (defScope sIsOrder) .none kV8 dc8 pm8 an8 cd8 ct8), sl8⟩) (c8 : PySem.W.codeIn K cd8 "is_order" = true) (k8 : PySem.W.keepIn K (.ref f8) = true)
    (a9 : PySem.W.nsIn K mainGlobals "need_order" = some (some (.ref f9))) (l9 : K.lookup f9 = some ⟨oc9, od9, .func (PySem.W.fnOf "need_order" "need_order" (defArgs sNeedOrder) (defBody sNeedOrder) (defScope sNeedOrder) .none kV9 dc9 pm9 an9 cd9 ct9), sl9⟩) (c9 : PySem.W.codeIn K cd9 "need_order" = true) (k9 : PySem.W.keepIn K (.ref f9) = true)
    (a10 : PySem.W.nsIn K mainGlobals "lengths_in" = some (some (.ref f10))) (l10 : K.lookup f10 = some ⟨oc10, od10, .func (PySem.W.fnOf "lengths_in" "lengths_in" (defArgs sLengthsIn) (defBody sLengthsIn) (defScope sLengthsIn) .none kV10 dc10 pm10 an10 cd10 ct10), sl10⟩) (c10 : PySem.W.codeIn K cd10 "lengths_in" = true) (k10 : PySem.W.keepIn K (.ref f10) = true)
    (a11 : PySem.W.nsIn K mainGlobals "wire_length" = some (some (.ref f11))) (l11 : K.lookup f11 = some ⟨oc11, od11, .func (PySem.W.fnOf "wire_length" "wire_length" (defArgs sWireLength) (defBody sWireLength) (defScope sWireLength) .none kV11 dc11 pm11 an11 cd11 ct11), sl11⟩) (c11 : PySem.W.codeIn K cd11 "wire_length" = true) (k11 : PySem.W.keepIn K (.ref f11) = true)
    (a12 : PySem.W.nsIn K mainGlobals "crossings" = some (some (.ref f12))) (l12 : K.lookup f12 = some ⟨oc12, od12, .func (PySem.W.fnOf "crossings" "crossings" (defArgs sCrossings) (defBody sCrossings) (defScope sCrossings) .none kV12 dc12 pm12 an12 cd12 ct12), sl12⟩) (c12 : PySem.W.codeIn K cd12 "crossings" = true) (k12 : PySem.W.keepIn K (.ref f12) = true)
    (a13 : PySem.W.nsIn K mainGlobals "crossing" = some (some (.ref f13))) (l13 : K.lookup f13 = some ⟨oc13, od13, .func (PySem.W.fnOf "crossing" "crossing" (defArgs sCrossing) (defBody sCrossing) (defScope sCrossing) .none kV13 dc13 pm13 an13 cd13 ct13), sl13⟩) (c13 : PySem.W.codeIn K cd13 "crossing" = true) (k13 : PySem.W.keepIn K (.ref f13) = true)
    (a14 : PySem.W.nsIn K mainGlobals "_law_taken" = some (some (.ref f14))) (l14 : K.lookup f14 = some ⟨oc14, od14, .func (PySem.W.fnOf "_law_taken" "_law_taken" (defArgs sLawTaken) (defBody sLawTaken) (defScope sLawTaken) .none kV14 dc14 pm14 an14 cd14 ct14), sl14⟩) (c14 : PySem.W.codeIn K cd14 "_law_taken" = true) (k14 : PySem.W.keepIn K (.ref f14) = true)
    (a15 : PySem.W.nsIn K mainGlobals "_law_pick" = some (some (.ref f15))) (l15 : K.lookup f15 = some ⟨oc15, od15, .func (PySem.W.fnOf "_law_pick" "_law_pick" (defArgs sLawPick) (defBody sLawPick) (defScope sLawPick) .none kV15 dc15 pm15 an15 cd15 ct15), sl15⟩) (c15 : PySem.W.codeIn K cd15 "_law_pick" = true) (k15 : PySem.W.keepIn K (.ref f15) = true)
    (a16 : PySem.W.nsIn K mainGlobals "_law_alike" = some (some (.ref f16))) (l16 : K.lookup f16 = some ⟨oc16, od16, .func (PySem.W.fnOf "_law_alike" "_law_alike" (defArgs sLawAlike) (defBody sLawAlike) (defScope sLawAlike) .none kV16 dc16 pm16 an16 cd16 ct16), sl16⟩) (c16 : PySem.W.codeIn K cd16 "_law_alike" = true) (k16 : PySem.W.keepIn K (.ref f16) = true)
    (a17 : PySem.W.nsIn K mainGlobals "_law_order" = some (some (.ref f17))) (l17 : K.lookup f17 = some ⟨oc17, od17, .func (PySem.W.fnOf "_law_order" "_law_order" (defArgs sLawOrder) (defBody sLawOrder) (defScope sLawOrder) .none kV17 dc17 pm17 an17 cd17 ct17), sl17⟩) (c17 : PySem.W.codeIn K cd17 "_law_order" = true) (k17 : PySem.W.keepIn K (.ref f17) = true)
    (a18 : PySem.W.nsIn K mainGlobals "_law_nets" = some (some (.ref f18))) (l18 : K.lookup f18 = some ⟨oc18, od18, .func (PySem.W.fnOf "_law_nets" "_law_nets" (defArgs sLawNets) (defBody sLawNets) (defScope sLawNets) .none kV18 dc18 pm18 an18 cd18 ct18), sl18⟩) (c18 : PySem.W.codeIn K cd18 "_law_nets" = true) (k18 : PySem.W.keepIn K (.ref f18) = true)
    (a19 : PySem.W.nsIn K mainGlobals "_law_cut" = some (some (.ref f19))) (l19 : K.lookup f19 = some ⟨oc19, od19, .func (PySem.W.fnOf "_law_cut" "_law_cut" (defArgs sLawCut) (defBody sLawCut) (defScope sLawCut) .none kV19 dc19 pm19 an19 cd19 ct19), sl19⟩) (c19 : PySem.W.codeIn K cd19 "_law_cut" = true) (k19 : PySem.W.keepIn K (.ref f19) = true)
    (a20 : PySem.W.nsIn K mainGlobals "law" = some (some (.ref f20))) (l20 : K.lookup f20 = some ⟨oc20, od20, .func (PySem.W.fnOf "law" "law" (defArgs sLaw) (defBody sLaw) (defScope sLaw) .none kV20 dc20 pm20 an20 cd20 ct20), sl20⟩) (c20 : PySem.W.codeIn K cd20 "law" = true) (k20 : PySem.W.keepIn K (.ref f20) = true)
    (z_isinstance : PySem.W.nsIn K mainGlobals "isinstance" = some none)
    (z_int : PySem.W.nsIn K mainGlobals "int" = some none)
    (z_bool : PySem.W.nsIn K mainGlobals "bool" = some none)
    (z_tuple : PySem.W.nsIn K mainGlobals "tuple" = some none)
    (z_list : PySem.W.nsIn K mainGlobals "list" = some none)
    (z_len : PySem.W.nsIn K mainGlobals "len" = some none)
    (z_all : PySem.W.nsIn K mainGlobals "all" = some none)
    (z_range : PySem.W.nsIn K mainGlobals "range" = some none)
    (z_sorted : PySem.W.nsIn K mainGlobals "sorted" = some none)
    (z_set : PySem.W.nsIn K mainGlobals "set" = some none)
    (z_enumerate : PySem.W.nsIn K mainGlobals "enumerate" = some none)
    (z_max : PySem.W.nsIn K mainGlobals "max" = some none)
    (z_min : PySem.W.nsIn K mainGlobals "min" = some none)
    (z_sum : PySem.W.nsIn K mainGlobals "sum" = some none)
    (z_str : PySem.W.nsIn K mainGlobals "str" = some none)
    (y_MOST_CELLS : PySem.W.nsIn K mainGlobals "MOST_CELLS" = some (some (.int 8 t_MOST_CELLS)))
    (y_MOST_NETS : PySem.W.nsIn K mainGlobals "MOST_NETS" = some (some (.int 20 t_MOST_NETS))) :
    ∃ fd : FuncData, (∀ (s : Shared) (v : Value), BindsTo s fd ⟨[v], []⟩ [("_law_script", v)]) ∧ ∀ base : Heap, K.In base → base.Ns mainGlobals mg → FnOk l.prog w K mg base CX0 7 fa fd ["_law_script"] (spLaw K) := by
  have e := hfa.symm.trans (PySem.W.mg_of X G a20)
  cases e
  have F0 := fun_mk (st := sIsInteger) l0 c0 k0
  have g0 := PySem.W.mg_of X G a0
  have F1 := fun_mk (st := sIsIn) l1 c1 k1
  have g1 := PySem.W.mg_of X G a1
  have F2 := fun_mk (st := sIsList) l2 c2 k2
  have g2 := PySem.W.mg_of X G a2
  have F3 := fun_mk (st := sIsPart) l3 c3 k3
  have g3 := PySem.W.mg_of X G a3
  have F4 := fun_mk (st := sNeedNets) l4 c4 k4
  have g4 := PySem.W.mg_of X G a4
  have F5 := fun_mk (st := sNeedSides) l5 c5 k5
  have g5 := PySem.W.mg_of X G a5
  have F6 := fun_mk (st := sCutIn) l6 c6 k6
  have g6 := PySem.W.mg_of X G a6
  have F7 := fun_mk (st := sCut) l7 c7 k7
  have g7 := PySem.W.mg_of X G a7
  have F8 := fun_mk (st := sIsOrder) l8 c8 k8
  have g8 := PySem.W.mg_of X G a8
  have F9 := fun_mk (st := sNeedOrder) l9 c9 k9
  have g9 := PySem.W.mg_of X G a9
  have F10 := fun_mk (st := sLengthsIn) l10 c10 k10
  have g10 := PySem.W.mg_of X G a10
  have F11 := fun_mk (st := sWireLength) l11 c11 k11
  have g11 := PySem.W.mg_of X G a11
  have F12 := fun_mk (st := sCrossings) l12 c12 k12
  have g12 := PySem.W.mg_of X G a12
  have F13 := fun_mk (st := sCrossing) l13 c13 k13
  have g13 := PySem.W.mg_of X G a13
  have F14 := fun_mk (st := sLawTaken) l14 c14 k14
  have g14 := PySem.W.mg_of X G a14
  have F15 := fun_mk (st := sLawPick) l15 c15 k15
  have g15 := PySem.W.mg_of X G a15
  have F16 := fun_mk (st := sLawAlike) l16 c16 k16
  have g16 := PySem.W.mg_of X G a16
  have F17 := fun_mk (st := sLawOrder) l17 c17 k17
  have g17 := PySem.W.mg_of X G a17
  have F18 := fun_mk (st := sLawNets) l18 c18 k18
  have g18 := PySem.W.mg_of X G a18
  have F19 := fun_mk (st := sLawCut) l19 c19 k19
  have g19 := PySem.W.mg_of X G a19
  have F20 := fun_mk (st := sLaw) l20 c20 k20
  have B : Bl mg := ⟨PySem.W.mg_none_of X G z_isinstance, PySem.W.mg_none_of X G z_int, PySem.W.mg_none_of X G z_bool, PySem.W.mg_none_of X G z_tuple, PySem.W.mg_none_of X G z_list, PySem.W.mg_none_of X G z_len, PySem.W.mg_none_of X G z_all, PySem.W.mg_none_of X G z_range, PySem.W.mg_none_of X G z_sorted, PySem.W.mg_none_of X G z_set, PySem.W.mg_none_of X G z_enumerate, PySem.W.mg_none_of X G z_max, PySem.W.mg_none_of X G z_min, PySem.W.mg_none_of X G z_sum, PySem.W.mg_none_of X G z_str, ⟨_, PySem.W.mg_of X G y_MOST_CELLS, _, rfl⟩, ⟨_, PySem.W.mg_of X G y_MOST_NETS, _, rfl⟩⟩
  refine ⟨PySem.W.fnOf "law" "law" (defArgs sLaw) (defBody sLaw) (defScope sLaw) .none kV20 dc20 pm20 an20 cd20 ct20, fun s v => .of_eq rfl, fun base _ _ => ?_⟩
  have b0 := F0.binds (ps := ["value"]) fun _ _ _ _ _ _ us hl => match us, hl with | [_], _ => rfl
  have b1 := F1.binds (ps := ["value", "least", "most"]) fun _ _ _ _ _ _ us hl => match us, hl with | [_, _, _], _ => rfl
  have b2 := F2.binds (ps := ["value", "least", "most"]) fun _ _ _ _ _ _ us hl => match us, hl with | [_, _, _], _ => rfl
  have b3 := F3.binds (ps := ["value", "many"]) fun _ _ _ _ _ _ us hl => match us, hl with | [_, _], _ => rfl
  have b4 := F4.binds (ps := ["many", "nets"]) fun _ _ _ _ _ _ us hl => match us, hl with | [_, _], _ => rfl
  have b5 := F5.binds (ps := ["many", "nets", "side"]) fun _ _ _ _ _ _ us hl => match us, hl with | [_, _, _], _ => rfl
  have b6 := F6.binds (ps := ["nets", "side"]) fun _ _ _ _ _ _ us hl => match us, hl with | [_, _], _ => rfl
  have b7 := F7.binds (ps := ["many", "nets", "side"]) fun _ _ _ _ _ _ us hl => match us, hl with | [_, _, _], _ => rfl
  have b8 := F8.binds (ps := ["value", "many"]) fun _ _ _ _ _ _ us hl => match us, hl with | [_, _], _ => rfl
  have b9 := F9.binds (ps := ["many", "nets", "order"]) fun _ _ _ _ _ _ us hl => match us, hl with | [_, _, _], _ => rfl
  have b10 := F10.binds (ps := ["nets", "order"]) fun _ _ _ _ _ _ us hl => match us, hl with | [_, _], _ => rfl
  have b11 := F11.binds (ps := ["many", "nets", "order"]) fun _ _ _ _ _ _ us hl => match us, hl with | [_, _, _], _ => rfl
  have b12 := F12.binds (ps := ["many", "nets", "order"]) fun _ _ _ _ _ _ us hl => match us, hl with | [_, _, _], _ => rfl
  have b13 := F13.binds (ps := ["nets", "head"]) fun _ _ _ _ _ _ us hl => match us, hl with | [_, _], _ => rfl
  have b14 := F14.binds (ps := ["_law_row", "_law_many"]) fun _ _ _ _ _ _ us hl => match us, hl with | [_, _], _ => rfl
  have b15 := F15.binds (ps := ["_law_row", "_law_things"]) fun _ _ _ _ _ _ us hl => match us, hl with | [_, _], _ => rfl
  have b16 := F16.binds (ps := ["_law_found", "_law_due"]) fun _ _ _ _ _ _ us hl => match us, hl with | [_, _], _ => rfl
  have b17 := F17.binds (ps := ["_law_row", "_law_many"]) fun _ _ _ _ _ _ us hl => match us, hl with | [_, _], _ => rfl
  have b18 := F18.binds (ps := ["_law_row", "_law_many", "_law_most"]) fun _ _ _ _ _ _ us hl => match us, hl with | [_, _, _], _ => rfl
  have b19 := F19.binds (ps := ["_law_nets_here", "_law_side"]) fun _ _ _ _ _ _ us hl => match us, hl with | [_, _], _ => rfl
  have d0 := cal_of (P := l.prog) (w := w) (base := base) F0 g0 b0 (ok_integer B F0)
  have d1 := cal_of (P := l.prog) (w := w) (base := base) F1 g1 b1 (ok_in B d0 F1)
  have d2 := cal_of (P := l.prog) (w := w) (base := base) F2 g2 b2 (ok_list B F2)
  have d3 := cal_of (P := l.prog) (w := w) (base := base) F3 g3 b3 (ok_part B d1 F3)
  have d4 := cal_of (P := l.prog) (w := w) (base := base) F4 g4 b4 (ok_needNets B d1 d2 d3 F4)
  have d5 := cal_of (P := l.prog) (w := w) (base := base) F5 g5 b5 (ok_needSides B d4 d2 d3 F5)
  have d6 := cal_of (P := l.prog) (w := w) (base := base) F6 g6 b6 (ok_cutIn B F6)
  have d7 := cal_of (P := l.prog) (w := w) (base := base) F7 g7 b7 (ok_cut B d5 d6 F7)
  have d8 := cal_of (P := l.prog) (w := w) (base := base) F8 g8 b8 (ok_order B d1 d2 F8)
  have d9 := cal_of (P := l.prog) (w := w) (base := base) F9 g9 b9 (ok_needOrder B d4 d8 F9)
  have d10 := cal_of (P := l.prog) (w := w) (base := base) F10 g10 b10 (ok_lengths B F10)
  have d11 := cal_of (P := l.prog) (w := w) (base := base) F11 g11 b11 (ok_wire B d9 d10 F11)
  have d13 := cal_of (P := l.prog) (w := w) (base := base) F13 g13 b13 (ok_crossing B F13)
  have d12 := cal_of (P := l.prog) (w := w) (base := base) F12 g12 b12 (ok_crossings B d9 d13 F12)
  have d14 := cal_of (P := l.prog) (w := w) (base := base) F14 g14 b14 (ok_taken B F14)
  have d15 := cal_of (P := l.prog) (w := w) (base := base) F15 g15 b15 (ok_pick B d14 F15)
  have d16 := cal_of (P := l.prog) (w := w) (base := base) F16 g16 b16 (ok_alikeI B F16)
  have e16 := cal_of (P := l.prog) (w := w) (base := base) F16 g16 b16 (ok_alikeT B d16 F16)
  have d17 := cal_of (P := l.prog) (w := w) (base := base) F17 g17 b17 (ok_lawOrder B d14 F17)
  have d18 := cal_of (P := l.prog) (w := w) (base := base) F18 g18 b18 (ok_lawNets B d14 d15 F18)
  have d19 := cal_of (P := l.prog) (w := w) (base := base) F19 g19 b19 (ok_lawCut B F19)
  exact ok_law B d14 d18 d17 d16 e16 d11 d19 d12 d7 F20
end CF
open PySem PySem.W PyProof.Rows
set_option maxRecDepth 100000 in
set_option maxHeartbeats 0 in
theorem PySem.Challenge.cw_chipfloor_k35_whole_lengths_in_a_row_holds : PySem.Challenge.rw_chipfloor_k35_whole_lengths_in_a_row.Holds := by
  w_on; o_law; k_head; (case hw => w_witness2)
  k_fill
  refine L2.walk_of (l := PySem.Challenge.rw_chipfloor_k35_whole_lengths_in_a_row) (n := 63) (k := 7) (x := "_law_script") (CX := fun _ => L2.CX0) (sp := fun w => CF.spLaw _) rfl (by decide) rfl ⟨rfl, by decide, by decide⟩ (fun w h Y => PySem.W.kIn_of Y) ?F (fun _ _ a ns hl _ hS => ⟨a, ns, rfl, hS, hl, fun _ => rfl⟩) (fun _ _ _ _ _ h => h)
  case F =>
    intro w mg fa h KX G hmg
    refine' CF.all_mk KX G hmg ?a0 ?l0 ?c0 ?k0 ?a1 ?l1 ?c1 ?k1 ?a2 ?l2 ?c2 ?k2 ?a3 ?l3 ?c3 ?k3 ?a4 ?l4 ?c4 ?k4 ?a5 ?l5 ?c5 ?k5 ?a6 ?l6 ?c6 ?k6 ?a7 ?l7 ?c7 ?k7 ?a8 ?l8 ?c8 ?k8 ?a9 ?l9 ?c9 ?k9 ?a10 ?l10 ?c10 ?k10 ?a11 ?l11 ?c11 ?k11 ?a12 ?l12 ?c12 ?k12 ?a13 ?l13 ?c13 ?k13 ?a14 ?l14 ?c14 ?k14 ?a15 ?l15 ?c15 ?k15 ?a16 ?l16 ?c16 ?k16 ?a17 ?l17 ?c17 ?k17 ?a18 ?l18 ?c18 ?k18 ?a19 ?l19 ?c19 ?k19 ?a20 ?l20 ?c20 ?k20 ?z_isinstance ?z_int ?z_bool ?z_tuple ?z_list ?z_len ?z_all ?z_range ?z_sorted ?z_set ?z_enumerate ?z_max ?z_min ?z_sum ?z_str ?y_MOST_CELLS ?y_MOST_NETS
    (case a0 => k_is); (case l0 => k_is); (case c0 => k_is); (case k0 => k_is); (case a1 => k_is); (case l1 => k_is); (case c1 => k_is); (case k1 => k_is)
    (case a2 => k_is); (case l2 => k_is); (case c2 => k_is); (case k2 => k_is); (case a3 => k_is); (case l3 => k_is); (case c3 => k_is); (case k3 => k_is)
    (case a4 => k_is); (case l4 => k_is); (case c4 => k_is); (case k4 => k_is); (case a5 => k_is); (case l5 => k_is); (case c5 => k_is); (case k5 => k_is)
    (case a6 => k_is); (case l6 => k_is); (case c6 => k_is); (case k6 => k_is); (case a7 => k_is); (case l7 => k_is); (case c7 => k_is); (case k7 => k_is)
    (case a8 => k_is); (case l8 => k_is); (case c8 => k_is); (case k8 => k_is); (case a9 => k_is); (case l9 => k_is); (case c9 => k_is); (case k9 => k_is)
    (case a10 => k_is); (case l10 => k_is); (case c10 => k_is); (case k10 => k_is); (case a11 => k_is); (case l11 => k_is); (case c11 => k_is); (case k11 => k_is)
    (case a12 => k_is); (case l12 => k_is); (case c12 => k_is); (case k12 => k_is); (case a13 => k_is); (case l13 => k_is); (case c13 => k_is); (case k13 => k_is)
    (case a14 => k_is); (case l14 => k_is); (case c14 => k_is); (case k14 => k_is); (case a15 => k_is); (case l15 => k_is); (case c15 => k_is); (case k15 => k_is)
    (case a16 => k_is); (case l16 => k_is); (case c16 => k_is); (case k16 => k_is); (case a17 => k_is); (case l17 => k_is); (case c17 => k_is); (case k17 => k_is)
    (case a18 => k_is); (case l18 => k_is); (case c18 => k_is); (case k18 => k_is); (case a19 => k_is); (case l19 => k_is); (case c19 => k_is); (case k19 => k_is)
    (case a20 => k_is); (case l20 => k_is); (case c20 => k_is); (case k20 => k_is); (case z_isinstance => k_is); (case z_int => k_is); (case z_bool => k_is); (case z_tuple => k_is)
    (case z_list => k_is); (case z_len => k_is); (case z_all => k_is); (case z_range => k_is); (case z_sorted => k_is); (case z_set => k_is); (case z_enumerate => k_is); (case z_max => k_is)
    (case z_min => k_is); (case z_sum => k_is); (case z_str => k_is); (case y_MOST_CELLS => k_is); (case y_MOST_NETS => k_is)
