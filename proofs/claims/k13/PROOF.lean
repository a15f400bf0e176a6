import PyProof.Rows.All
import Wide.All
import OpenK.AllK
import Wide.FinOn
import HandS.ForMost
import HandS.SortRule
import KE.DataCmp
import KE.SortCalls
import HandS.Wide
import HandS.WideBits
import HandS.IsInst
import HandS.Conv
import HandS.NoneIn
import KE.KDictKeyed
import HandS.TupLen
import KE.GoesEnum
import KE.GoesMore
import HandS.TupAny
import HandS.TupMul
import HandS.DictComp
import HandS.Style
import HandS.Zip
import HandS.More
import PySem.Challenge.RW_chipmill_k13_classes_of_many_states
set_option Elab.async false
set_option linter.all false
set_option maxRecDepth 100000
set_option maxHeartbeats 4000000
/-! own rules: the order of nested data, sorted of nested data -/
namespace L2
open PySem PySem.Spec PyProof.Rows
section
variable {X : Cx}
def rLtD (K : PySem.W.Frag) : R2 := fun x y H Q => ∃ d e, Dp K H x d ∧ Dp K H y e ∧ PySem.W.alike d e = true ∧ d ≠ .none ∧ d.depth ≤ 64 ∧ Q (.bl (PySem.W.dataLt d e)) H
def rGtD (K : PySem.W.Frag) : R2 := fun x y H Q => ∃ d e, Dp K H x d ∧ Dp K H y e ∧ PySem.W.alike d e = true ∧ d ≠ .none ∧ d.depth ≤ 64 ∧ Q (.bl (PySem.W.dataLt e d)) H
theorem op_ltD (hu : X.A.units + 64 < cLine) : OpR X (compareOp .Lt) (rLtD X.K) := by
  intro pins s σ H x y v u Q I rx ry h
  obtain ⟨d, e, hd, he, al, nn, dp, q⟩ := h
  obtain ⟨as, r1⟩ := Dp.reads I d x v hd rx
  obtain ⟨bs, r2⟩ := Dp.reads I e y u he ry
  exact PySem.W.lt_data r1 r2 al nn (by have := Nat.min_le_left d.depth e.depth; omega) ⟨.bl _, H, I, rfl, q⟩
theorem op_gtD (hu : X.A.units + 64 < cLine) : OpR X (compareOp .Gt) (rGtD X.K) := by
  intro pins s σ H x y v u Q I rx ry h
  obtain ⟨d, e, hd, he, al, nn, dp, q⟩ := h
  obtain ⟨as, r1⟩ := Dp.reads I d x v hd rx
  obtain ⟨bs, r2⟩ := Dp.reads I e y u he ry
  exact PySem.W.gt_data r1 r2 al nn (by have := Nat.min_le_left d.depth e.depth; omega) ⟨.bl _, H, I, rfl, q⟩

/-- the order by which data are sorted -/
def dLe (d e : PyData) : Bool := !PySem.W.dataLt e d
def rSortedD (K : PySem.W.Frag) : List V → Hp → VK → Prop := fun vs H Q => ∃ (a : Addr) (xs : List V) (ds : List PyData), vs = [V.ref a] ∧ SqL K H a xs ∧ DpAll K H xs ds ∧
  PySem.W.AllAlike ds ∧ PySem.W.Sortable ds ∧ (∀ d ∈ ds, d.depth ≤ 60) ∧
  ∀ (zs : List (V × PyData)) (p : Addr), zs.Perm (xs.zip ds) → zs.map Prod.snd = ds.mergeSort dLe → H p = none → Q (.ref p) (upd H p (.lst (zs.map Prod.fst)))
theorem dpAll_length {K : PySem.W.Frag} {H : Hp} : ∀ {xs : List V} {ds : List PyData}, DpAll K H xs ds → xs.length = ds.length
  | _, _, .nil => rfl
  | _, _, .cons _ t => by rw [List.length_cons, List.length_cons, dpAll_length t]
theorem dpAll_zip {K : PySem.W.Frag} {H : Hp} : ∀ {xs : List V} {ds : List PyData} {us : List Value} {F : Value → PyData → Prop}, DpAll K H xs ds → Vals xs us → (∀ x d u, Dp K H x d → RelV x u → F u d) →
    PySem.W.EachIs (fun u (p : V × PyData) => RelV p.1 u ∧ Dp K H p.1 p.2 ∧ F u p.2) us (xs.zip ds)
  | _, _, _, _, .nil, .nil, _ => .nil
  | _, _, _, _, .cons h t, .cons r q, f => .cons ⟨r, h, f _ _ _ h r⟩ (dpAll_zip t q f)
theorem dpAll_of_zip {K : PySem.W.Frag} {H : Hp} : ∀ {ps : List (V × PyData)}, (∀ p ∈ ps, Dp K H p.1 p.2) → DpAll K H (ps.map Prod.fst) (ps.map Prod.snd)
  | [], _ => .nil
  | p :: ps, h => .cons (h p List.mem_cons_self) (dpAll_of_zip fun q m => h q (List.mem_cons_of_mem _ m))
theorem vals_of_each {K : PySem.W.Frag} {H : Hp} {F : Value → PyData → Prop} : ∀ {us : List Value} {ps : List (V × PyData)}, PySem.W.EachIs (fun u (p : V × PyData) => RelV p.1 u ∧ Dp K H p.1 p.2 ∧ F u p.2) us ps → Vals (ps.map Prod.fst) us
  | _, _, .nil => .nil
  | _, _, .cons h t => .cons h.1 (vals_of_each t)
theorem each_key {κ : PyProof.Rows.KeyKind} {k : PyData → κ.α} {K : PySem.W.Frag} {H : Hp} {F : Value → PyData → Prop} : ∀ {us : List Value} {ps : List (V × PyData)}, PySem.W.EachIs (fun u (p : V × PyData) => RelV p.1 u ∧ Dp K H p.1 p.2 ∧ F u p.2) us ps →
    (∀ u p, p ∈ ps → F u p.2 → κ.keyOf u = some (k p.2)) → PySem.W.EachIs (fun u (p : V × PyData) => κ.keyOf u = some (k p.2)) us ps
  | _, _, .nil, _ => .nil
  | _, _, .cons h t, f => .cons (f _ _ List.mem_cons_self h.2.2) (each_key t fun u p m => f u p (List.mem_cons_of_mem _ m))
theorem reads_keep {h h' : Heap} (k : ∀ b o, h.get? b = some o → h'.get? b = some o) {v : Value} {d : PyData} {as : List Addr} (r : Reads h v d as) : Reads h' v d as := by
  refine Reads.rec (h := h) (motive_1 := fun v d as _ => Reads h' v d as) (motive_2 := fun vs ds as _ => ReadsAll h' vs ds as) ?_ ?_ ?_ ?_ ?_ ?_ ?_ ?_ ?_ r
  · exact .none
  · exact fun b => .bool b
  · exact fun i t => .int i t
  · exact fun x t => .str x t
  · exact fun h1 h2 h3 _ ih => .list (k _ _ h1) h2 h3 ih
  · exact fun h1 h2 h3 _ ih => .tuple (k _ _ h1) h2 h3 ih
  · exact fun h1 h2 h3 _ _ ih1 ih2 => .dict (k _ _ h1) h2 h3 ih1 ih2
  · exact .nil
  · exact fun _ _ ih1 ih2 => .cons ih1 ih2
theorem each_snd {F : Value → PyData → Prop} {K : PySem.W.Frag} {H : Hp} : ∀ {us : List Value} {xs : List V} {ds : List PyData}, xs.length = ds.length → PySem.W.EachIs (fun u (p : V × PyData) => RelV p.1 u ∧ Dp K H p.1 p.2 ∧ F u p.2) us (xs.zip ds) → PySem.W.EachIs F us ds
  | _, [], [], _, h => by cases h; exact .nil
  | _, x :: xs, d :: ds, e, h => by
    cases h with
    | cons h t => exact .cons h.2.2 (each_snd (Nat.succ.inj e) t)
def pLe (p q : V × PyData) : Bool := dLe p.2 q.2
theorem each_right {F : Value → PyData → Prop} {K : PySem.W.Frag} {H : Hp} : ∀ {us : List Value} {ps : List (V × PyData)}, PySem.W.EachIs (fun u (p : V × PyData) => RelV p.1 u ∧ Dp K H p.1 p.2 ∧ F u p.2) us ps → ∀ p ∈ ps, Dp K H p.1 p.2
  | _, _, .nil, p, m => by cases m
  | _, _, .cons h t, p, m => by
    rcases List.mem_cons.mp m with e | m
    · rw [e]; exact h.2.1
    · exact each_right t p m
theorem cr_sortedD (hu : X.A.units + 64 < cLine) : CallR X (.builtin "sorted") (rSortedD X.K) := by
  intro pins s σ H vs us Q I r h
  obtain ⟨a, xs, ds, rfl, hs, hd, hal, hso, hdp, q⟩ := h
  obtain ⟨its, rv, hl, hz⟩ := I.list hs
  obtain ⟨u, rfl, ru⟩ := vals1 r
  obtain rfl : u = Value.ref a := ru
  have hlen : its.length ≤ sizeLine := by rw [← rv.length]; exact hz
  have z1 := dpAll_zip (F := fun u d => ∃ as, Reads s.heap u d as) hd rv fun x d u h r => Dp.reads I d x u h r
  have el := dpAll_length hd
  have e0 := each_snd (F := fun u d => ∃ as, Reads s.heap u d as) el z1
  refine PySem.W.sorted_vals hl.isList (PySem.W.SortsAt.data (ds := ds) (e0.mono fun u d ⟨as, h⟩ => ⟨as, reads_keep (fun b o e => PySem.W.sorting_copy_old e) h⟩) hal hso fun d m => ?_) hlen ?_
  · have := hdp d m
    show X.A.in1.in1.units + d.depth < cLine
    have e : X.A.in1.in1.units = X.A.units + 2 := rfl
    omega
  · have z2 := PySem.W.sortVals_each (κ := PySem.W.dataKind (PySem.W.sortingHeap (PySem.W.copyHeap s.heap its) (s.heap.objs.size + 1) its) ds) (rev := false) (ks := its) (k := fun p => PySem.W.keyToks p.2) z1 (each_key (κ := PySem.W.dataKind (PySem.W.sortingHeap (PySem.W.copyHeap s.heap its) (s.heap.objs.size + 1) its) ds) (F := fun u d => ∃ as, Reads s.heap u d as) (k := fun d => PySem.W.keyToks d) z1 fun u p m ⟨as, h⟩ =>
      PySem.W.dataKind_some hal (List.of_mem_zip m).2 (reads_keep (fun b o e => PySem.W.sorting_copy_old e) h))
    generalize hout : PySem.W.sortVals (PySem.W.dataKind (PySem.W.sortingHeap (PySem.W.copyHeap s.heap its) (s.heap.objs.size + 1) its) ds) false its its = out at z2 ⊢
    have z2 : PySem.W.EachIs (fun u (p : V × PyData) => RelV p.1 u ∧ Dp X.K H p.1 p.2 ∧ ∃ as, Reads s.heap u p.2 as) out ((xs.zip ds).mergeSort pLe) := z2
    have e2 := List.mergeSort_perm (xs.zip ds) pLe
    have e1 : ((xs.zip ds).mergeSort pLe).map Prod.snd = ds.mergeSort dLe := by
      have h := List.map_mergeSort (r := pLe) (s := dLe) (f := Prod.snd) (l := xs.zip ds) (fun a _ b _ => rfl)
      rw [h, List.map_snd_zip (by omega)]
    generalize (xs.zip ds).mergeSort pLe = zs at z2 e1 e2
    have v1 := vals_of_each (F := fun u d => ∃ as, Reads s.heap u d as) z2
    have p1 : (zs.map Prod.fst).Perm xs := by
      have := e2.map Prod.fst
      rwa [List.map_fst_zip (by omega)] at this
    have np : s.heap.objs.size ≤ s.heap.objs.size + 1 := Nat.le_succ _
    obtain ⟨n, hn⟩ := sortedAll_at s.heap its out.toArray
    refine ⟨.ref (s.heap.objs.size + 1), _, I.laid (t' := s.toks) (o := .lst (zs.map Prod.fst)) (fun b ob e => sortedAll_old e) np ⟨?_, out, n, v1, hn⟩, rfl, q _ _ e2 e1 (I.hok.fresh np)⟩
    rw [p1.length_eq]
    exact hz
end
end L2
/-! plain mathematics of k13, part 1: numbers in the order in which keys are first met -/
namespace Ck
section
variable {α : Type} [DecidableEq α]
def addK (acc : List α) (k : α) : List α := if k ∈ acc then acc else acc ++ [k]
/-- the keys met in l behind acc -/
def met (acc : List α) (l : List α) : List α := l.foldl addK acc
/-- each key's number -/
def numL (acc : List α) : List α → List Nat
  | [] => []
  | k :: l => (addK acc k).idxOf k :: numL (addK acc k) l
def numbered (l : List α) : List Nat := numL [] l
theorem addK_nodup {acc : List α} (h : acc.Nodup) (k : α) : (addK acc k).Nodup := by
  unfold addK
  split
  · exact h
  · rename_i hk
    refine List.nodup_append.mpr ⟨h, by simp, fun a ha b hb => ?_⟩
    rw [List.mem_singleton.mp hb]
    exact fun e => hk (e ▸ ha)
theorem mem_addK {acc : List α} {k x : α} : x ∈ addK acc k ↔ x ∈ acc ∨ x = k := by
  unfold addK
  split
  · rename_i h
    exact ⟨.inl, fun z => z.elim id fun e => e ▸ h⟩
  · simp
theorem addK_pre {acc : List α} (k : α) : ∃ r, addK acc k = acc ++ r := by
  unfold addK
  split
  · exact ⟨[], by simp⟩
  · exact ⟨[k], rfl⟩
theorem met_pre (l : List α) : ∀ acc : List α, ∃ r, met acc l = acc ++ r := by
  induction l with
  | nil => intro acc; exact ⟨[], by simp [met]⟩
  | cons k l ih =>
    intro acc
    obtain ⟨r1, h1⟩ := addK_pre (acc := acc) k
    obtain ⟨r2, h2⟩ := ih (addK acc k)
    exact ⟨r1 ++ r2, by show met (addK acc k) l = _; rw [h2, h1, List.append_assoc]⟩
theorem met_nodup (l : List α) : ∀ {acc : List α}, acc.Nodup → (met acc l).Nodup := by
  induction l with
  | nil => intro acc h; exact h
  | cons k l ih => intro acc h; exact ih (addK_nodup h k)
theorem mem_met (l : List α) : ∀ {acc : List α} {x : α}, x ∈ met acc l ↔ x ∈ acc ∨ x ∈ l := by
  induction l with
  | nil => intro acc x; simp [met]
  | cons k l ih =>
    intro acc x
    show x ∈ met (addK acc k) l ↔ _
    rw [ih, mem_addK, List.mem_cons]
    constructor
    · rintro ((h | h) | h)
      · exact .inl h
      · exact .inr (.inl h)
      · exact .inr (.inr h)
    · rintro (h | h | h)
      · exact .inl (.inl h)
      · exact .inl (.inr h)
      · exact .inr h
theorem idxOf_pre {acc r : List α} {k : α} (h : k ∈ acc) : (acc ++ r).idxOf k = acc.idxOf k := by
  rw [List.idxOf_append, if_pos h]
/-- a key's number is its place among the keys met in all -/
theorem numL_get (l : List α) : ∀ (acc : List α) (i : Nat) (k : α), l[i]? = some k → (numL acc l)[i]? = some ((met acc l).idxOf k) := by
  induction l with
  | nil => intro acc i k h; simp at h
  | cons a l ih =>
    intro acc i k h
    cases i with
    | zero =>
      simp at h
      subst h
      obtain ⟨r, hr⟩ := met_pre l (addK acc a)
      show some ((addK acc a).idxOf a) = some ((met (addK acc a) l).idxOf a)
      rw [hr, idxOf_pre (mem_addK.mpr (.inr rfl))]
    | succ i => exact ih (addK acc a) i k (by simpa using h)
theorem numL_length (l : List α) : ∀ acc : List α, (numL acc l).length = l.length := by
  induction l with
  | nil => intro acc; rfl
  | cons a l ih => intro acc; show (numL _ l).length + 1 = _; rw [ih]; rfl
theorem numbered_length (l : List α) : (numbered l).length = l.length := numL_length l []
theorem numbered_get {l : List α} {i : Nat} {k : α} (h : l[i]? = some k) : (numbered l)[i]? = some ((met [] l).idxOf k) := numL_get l [] i k h
/-- equal numbers for equal keys alone -/
theorem numbered_eq {l : List α} {i j : Nat} {a b : α} (ha : l[i]? = some a) (hb : l[j]? = some b) : (numbered l)[i]? = (numbered l)[j]? ↔ a = b := by
  rw [numbered_get ha, numbered_get hb]
  constructor
  · intro h
    have h := Option.some.inj h
    have ma : a ∈ met [] l := (mem_met l).mpr (.inr (List.mem_of_getElem? ha))
    have mb : b ∈ met [] l := (mem_met l).mpr (.inr (List.mem_of_getElem? hb))
    have la := List.idxOf_lt_length_iff.mpr ma
    have e1 : (met [] l)[(met [] l).idxOf a]'la = a := List.getElem_idxOf la
    have lb := List.idxOf_lt_length_iff.mpr mb
    have e2 : (met [] l)[(met [] l).idxOf b]'lb = b := List.getElem_idxOf lb
    rw [← e1, ← e2]
    congr 1
  · intro h
    rw [h]
theorem met_len (l : List α) : ∀ (acc : List α), (met acc l).length ≤ acc.length + l.length := by
  induction l with
  | nil => intro acc; simp [met]
  | cons k l ih =>
    intro acc
    have h1 := ih (addK acc k)
    have h2 : (addK acc k).length ≤ acc.length + 1 := by
      unfold addK
      split <;> simp
    show (met (addK acc k) l).length ≤ _
    rw [List.length_cons]
    omega
/-- how many numbers there are -/
def kinds (l : List α) : Nat := (met [] l).length
theorem numbered_lt {l : List α} {i n : Nat} (h : (numbered l)[i]? = some n) : n < kinds l := by
  have hi := (List.getElem?_eq_some_iff.mp h).1
  rw [numbered_length] at hi
  have hk : l[i]? = some l[i] := List.getElem?_eq_getElem hi
  rw [numbered_get hk] at h
  rw [← Option.some.inj h]
  exact List.idxOf_lt_length_iff.mpr ((mem_met l).mpr (.inr (List.mem_of_getElem? hk)))
theorem numbered_onto {l : List α} {n : Nat} (h : n < kinds l) : ∃ i : Nat, (numbered l)[i]? = some n := by
  have hm : (met [] l)[n]'h ∈ met [] l := List.getElem_mem h
  rcases (mem_met l).mp hm with z | z
  · cases z
  · obtain ⟨i, hi⟩ := List.getElem?_of_mem z
    refine ⟨i, ?_⟩
    rw [numbered_get hi]
    congr 1
    exact (met_nodup l List.nodup_nil).idxOf_getElem n h
end
section
variable {α β : Type} [DecidableEq α] [DecidableEq β]
/-- what is met from lists with the same pattern -/
theorem met_same : ∀ (l : List α) (m : List β) (acc : List α) (acc' : List β) (f : α → β), l.map f = m → acc.map f = acc' → (∀ a ∈ acc ++ l, ∀ b ∈ acc ++ l, f a = f b → a = b) → numL acc l = numL acc' m
  | [], m, acc, acc', f, h, _, _ => by
    rw [List.map_nil] at h
    subst h
    rfl
  | a :: l, m, acc, acc', f, h, ha, inj => by
    rw [List.map_cons] at h
    subst h ha
    have e : addK (acc.map f) (f a) = (addK acc a).map f := by
      unfold addK
      by_cases c : a ∈ acc
      · rw [if_pos c, if_pos (List.mem_map_of_mem c)]
      · have c' : f a ∉ acc.map f := fun z => by
          obtain ⟨b, hb, e⟩ := List.mem_map.mp z
          have := inj b (List.mem_append_left _ hb) a (List.mem_append_right _ List.mem_cons_self) e
          exact c (this ▸ hb)
        rw [if_neg c, if_neg c', List.map_append]
        rfl
    have sub : ∀ x ∈ addK acc a ++ l, x ∈ acc ++ a :: l := fun x hx => by
      rcases List.mem_append.mp hx with z | z
      · rcases mem_addK.mp z with z | z
        · exact List.mem_append_left _ z
        · rw [z]; exact List.mem_append_right _ List.mem_cons_self
      · exact List.mem_append_right _ (List.mem_cons_of_mem _ z)
    show (addK acc a).idxOf a :: numL (addK acc a) l = (addK (acc.map f) (f a)).idxOf (f a) :: numL (addK (acc.map f) (f a)) (l.map f)
    rw [e, met_same l (l.map f) (addK acc a) _ f rfl rfl fun x hx y hy => inj x (sub x hx) y (sub y hy)]
    congr 1
    have gen : ∀ (L : List α), (∀ x ∈ L, x ∈ acc ++ a :: l) → L.idxOf a = (L.map f).idxOf (f a) := by
      intro L
      induction L with
      | nil => intro _; rfl
      | cons x L ih =>
        intro hL
        rw [List.map_cons, List.idxOf_cons, List.idxOf_cons, ih fun y hy => hL y (List.mem_cons_of_mem _ hy)]
        by_cases c : x = a
        · rw [c, beq_self_eq_true, beq_self_eq_true]
        · have c' : ¬ f x = f a := fun z => c (inj x (hL x List.mem_cons_self) a (List.mem_append_right _ List.mem_cons_self) z)
          rw [beq_eq_false_iff_ne.mpr c, beq_eq_false_iff_ne.mpr c']
    exact gen _ fun x hx => sub x (List.mem_append_left _ hx)
end
section
variable {α β : Type} [DecidableEq α] [DecidableEq β]
theorem numbered_map (l : List α) (f : α → β) (inj : ∀ a ∈ l, ∀ b ∈ l, f a = f b → a = b) : numbered l = numbered (l.map f) := met_same l _ [] [] f rfl rfl (by simpa using inj)
/-- the numbers lean on the pattern alone -/
theorem numbered_pat {l : List α} {m : List β} (hl : l.length = m.length) (h : ∀ (i j : Nat) (a b : α) (c d : β), l[i]? = some a → l[j]? = some b → m[i]? = some c → m[j]? = some d → (a = b ↔ c = d)) : numbered l = numbered m := by
  have zf : (l.zip m).map Prod.fst = l := List.map_fst_zip (by omega)
  have zs : (l.zip m).map Prod.snd = m := List.map_snd_zip (by omega)
  have get : ∀ p ∈ l.zip m, ∃ i : Nat, l[i]? = some p.1 ∧ m[i]? = some p.2 := fun p hp => by
    obtain ⟨i, hi⟩ := List.getElem?_of_mem hp
    refine ⟨i, ?_, ?_⟩
    · have := congrArg (fun L => L[i]?) zf
      simp only [List.getElem?_map, hi] at this
      rw [← this]; rfl
    · have := congrArg (fun L => L[i]?) zs
      simp only [List.getElem?_map, hi] at this
      rw [← this]; rfl
  have e1 := numbered_map (l.zip m) Prod.fst fun p hp q hq e => by
    obtain ⟨i, a1, a2⟩ := get p hp
    obtain ⟨j, b1, b2⟩ := get q hq
    exact Prod.ext e ((h i j _ _ _ _ a1 b1 a2 b2).mp e)
  have e2 := numbered_map (l.zip m) Prod.snd fun p hp q hq e => by
    obtain ⟨i, a1, a2⟩ := get p hp
    obtain ⟨j, b1, b2⟩ := get q hq
    exact Prod.ext ((h i j _ _ _ _ a1 b1 a2 b2).mpr e) e
  rw [zf] at e1
  rw [zs] at e2
  rw [← e1, ← e2]
end
end Ck
/-! plain mathematics of k13, part 2: classes by refining -/
namespace Ck
theorem nodup_lt : ∀ (N : Nat) (l : List Nat), l.Nodup → (∀ x ∈ l, x < N) → l.length ≤ N
  | 0, [], _, _ => Nat.le_refl _
  | 0, a :: l, _, h => absurd (h a List.mem_cons_self) (Nat.not_lt_zero _)
  | N + 1, l, nd, h => by
    have h1 := nodup_lt N (l.erase N) (nd.erase N) fun x hx => by
      have := h x (List.mem_of_mem_erase hx)
      have ne : x ≠ N := fun e => by
        subst e
        exact nd.not_mem_erase hx
      omega
    by_cases c : N ∈ l
    · rw [List.length_erase_of_mem c] at h1
      omega
    · rw [List.erase_of_not_mem c] at h1
      omega
structure Sys (γ : Type) where
  L : Nat
  cnt : Nat
  out : Nat → γ
  nx : Nat → Nat → Nat
  ok : ∀ i n, i < L → n < cnt → nx i n < L
section
variable {γ : Type} [DecidableEq γ] (S : Sys γ)
def run (i : Nat) : List Nat → Nat
  | [] => i
  | n :: w => run (S.nx i n) w
def Word (w : List Nat) : Prop := ∀ n ∈ w, n < S.cnt
/-- no word parts the two -/
def Bisim (i j : Nat) : Prop := ∀ w, Word S w → S.out (run S i w) = S.out (run S j w)
def outsOf : List γ := (List.range S.L).map S.out
def keysOf (C : List Nat) : List (Nat × List Nat) := (List.range S.L).map fun i => (C.getD i 0, (List.range S.cnt).map fun n => C.getD (S.nx i n) 0)
def start : List Nat := numbered (outsOf S)
def refineC (C : List Nat) : List Nat := numbered (keysOf S C)
def cl (C : List Nat) (i : Nat) : Nat := C.getD i 0
theorem getD_some {C : List Nat} {i : Nat} (h : i < C.length) : C[i]? = some (cl C i) := by
  unfold cl
  rw [List.getD_eq_getElem?_getD, List.getElem?_eq_getElem h]
  rfl
theorem start_len : (start S).length = S.L := by unfold start outsOf; rw [numbered_length]; simp
theorem refine_len (C : List Nat) : (refineC S C).length = S.L := by unfold refineC keysOf; rw [numbered_length]; simp
theorem start_eq {i j : Nat} (hi : i < S.L) (hj : j < S.L) : cl (start S) i = cl (start S) j ↔ S.out i = S.out j := by
  have a : (outsOf S)[i]? = some (S.out i) := by unfold outsOf; simp [hi]
  have b : (outsOf S)[j]? = some (S.out j) := by unfold outsOf; simp [hj]
  have := numbered_eq a b
  rw [← this]
  have e1 := getD_some (C := start S) (i := i) (by rw [start_len]; exact hi)
  have e2 := getD_some (C := start S) (i := j) (by rw [start_len]; exact hj)
  unfold start at e1 e2 ⊢
  rw [e1, e2]
  simp
theorem refine_eq {C : List Nat} {i j : Nat} (hi : i < S.L) (hj : j < S.L) : cl (refineC S C) i = cl (refineC S C) j ↔ cl C i = cl C j ∧ ∀ n, n < S.cnt → cl C (S.nx i n) = cl C (S.nx j n) := by
  have a : (keysOf S C)[i]? = some (cl C i, (List.range S.cnt).map fun n => cl C (S.nx i n)) := by unfold keysOf cl; simp [hi]
  have b : (keysOf S C)[j]? = some (cl C j, (List.range S.cnt).map fun n => cl C (S.nx j n)) := by unfold keysOf cl; simp [hj]
  have q := numbered_eq a b
  have e1 := getD_some (C := refineC S C) (i := i) (by rw [refine_len]; exact hi)
  have e2 := getD_some (C := refineC S C) (i := j) (by rw [refine_len]; exact hj)
  unfold refineC at e1 e2 ⊢
  rw [e1, e2] at q
  have q2 : cl (numbered (keysOf S C)) i = cl (numbered (keysOf S C)) j ↔ (cl C i, (List.range S.cnt).map fun n => cl C (S.nx i n)) = (cl C j, (List.range S.cnt).map fun n => cl C (S.nx j n)) := by
    rw [← q]
    simp
  rw [q2, Prod.mk.injEq]
  refine and_congr_right fun _ => ?_
  rw [List.map_inj_left]
  simp
/-- what holds of the classes all along -/
structure Good (C : List Nat) : Prop where
  len : C.length = S.L
  onto : ∃ k, (∀ i, i < S.L → cl C i < k) ∧ ∀ c, c < k → ∃ i, i < S.L ∧ cl C i = c
  fine : ∀ i j, i < S.L → j < S.L → Bisim S i j → cl C i = cl C j
  out : ∀ i j, i < S.L → j < S.L → cl C i = cl C j → S.out i = S.out j
theorem num_onto {α : Type} [DecidableEq α] (l : List α) : (∀ i, i < l.length → cl (numbered l) i < kinds l) ∧ ∀ c, c < kinds l → ∃ i, i < l.length ∧ cl (numbered l) i = c := by
  refine ⟨fun i hi => numbered_lt (getD_some (by rw [numbered_length]; exact hi)), fun c hc => ?_⟩
  obtain ⟨i, hi⟩ := numbered_onto hc
  have il := (List.getElem?_eq_some_iff.mp hi).1
  have := getD_some il
  rw [hi] at this
  rw [numbered_length] at il
  exact ⟨i, il, (Option.some.inj this).symm⟩
theorem Bisim.step {i j n : Nat} (h : Bisim S i j) (hn : n < S.cnt) : Bisim S (S.nx i n) (S.nx j n) := fun w hw => h (n :: w) fun m hm => by
  rcases List.mem_cons.mp hm with e | hm
  · rw [e]; exact hn
  · exact hw m hm
theorem good_start : Good S (start S) := by
  refine ⟨start_len S, ?_, fun i j hi hj h => (start_eq S hi hj).mpr (h [] fun n hn => by cases hn), fun i j hi hj h => (start_eq S hi hj).mp h⟩
  have := num_onto (outsOf S)
  have e : (outsOf S).length = S.L := by unfold outsOf; simp
  rw [e] at this
  exact ⟨_, this⟩
theorem good_refine {C : List Nat} (g : Good S C) : Good S (refineC S C) := by
  refine ⟨refine_len S C, ?_, fun i j hi hj h => (refine_eq S hi hj).mpr ⟨g.fine i j hi hj h, fun n hn => g.fine _ _ (S.ok i n hi hn) (S.ok j n hj hn) (h.step S hn)⟩, fun i j hi hj h => g.out i j hi hj ((refine_eq S hi hj).mp h).1⟩
  have := num_onto (keysOf S C)
  have e : (keysOf S C).length = S.L := by unfold keysOf; simp
  rw [e] at this
  exact ⟨_, this⟩
/-- where refining gives no more classes, the classes are those of Bisim -/
theorem good_done {C : List Nat} (g : Good S C) {k k' : Nat} (h1 : ∀ i, i < S.L → cl (refineC S C) i < k') (h2 : ∀ c, c < k → ∃ i, i < S.L ∧ cl C i = c) (hle : k' ≤ k) {i j : Nat} (hi : i < S.L) (hj : j < S.L) : cl (refineC S C) i = cl (refineC S C) j ↔ Bisim S i j := by
  refine ⟨fun h => ?_, fun h => (good_refine S g).fine i j hi hj h⟩
  -- stable
  have st : ∀ a b, a < S.L → b < S.L → cl C a = cl C b → cl (refineC S C) a = cl (refineC S C) b := fun a b ha hb hab => by
    by_cases ne : cl (refineC S C) a = cl (refineC S C) b
    · exact ne
    exfalso
    -- a representative of each class, one of a, b is none
    have rep : ∀ c, ∃ i, c < k → i < S.L ∧ cl C i = c := fun c => by
      by_cases hc : c < k
      · obtain ⟨i, hi⟩ := h2 c hc
        exact ⟨i, fun _ => hi⟩
      · exact ⟨0, fun z => absurd z hc⟩
    obtain ⟨r, hr⟩ := Classical.axiomOfChoice rep
    obtain ⟨x, hx, hxn⟩ : ∃ x, x < S.L ∧ ∀ c, c < k → cl (refineC S C) (r c) ≠ cl (refineC S C) x := by
      by_cases q : ∀ c, c < k → cl (refineC S C) (r c) ≠ cl (refineC S C) a
      · exact ⟨a, ha, q⟩
      · refine ⟨b, hb, fun c hc e => q fun d hd e' => ?_⟩
        have c1 := ((refine_eq S (hr c hc).1 hb).mp e).1
        have d1 := ((refine_eq S (hr d hd).1 ha).mp e').1
        rw [(hr c hc).2] at c1
        rw [(hr d hd).2] at d1
        have : c = d := by rw [c1, d1, hab]
        rw [this] at e
        exact ne (e'.symm.trans e)
    have nd : ((List.range k).map fun c => cl (refineC S C) (r c)).Nodup := by
      refine List.pairwise_map.mpr (List.Pairwise.imp_of_mem ?_ List.nodup_range)
      intro c d hc hd hcd e
      have := ((refine_eq S (hr c (List.mem_range.mp hc)).1 (hr d (List.mem_range.mp hd)).1).mp e).1
      rw [(hr c (List.mem_range.mp hc)).2, (hr d (List.mem_range.mp hd)).2] at this
      exact hcd this
    have nd2 : (cl (refineC S C) x :: (List.range k).map fun c => cl (refineC S C) (r c)).Nodup := List.nodup_cons.mpr ⟨fun z => by
      obtain ⟨c, hc, e⟩ := List.mem_map.mp z
      exact hxn c (List.mem_range.mp hc) e, nd⟩
    have := nodup_lt k' _ nd2 fun y hy => by
      rcases List.mem_cons.mp hy with e | hy
      · rw [e]; exact h1 x hx
      · obtain ⟨c, hc, e⟩ := List.mem_map.mp hy
        rw [← e]
        exact h1 _ (hr c (List.mem_range.mp hc)).1
    simp at this
    omega
  replace h := ((refine_eq S hi hj).mp h).1
  intro w
  induction w generalizing i j with
  | nil => exact fun _ => g.out i j hi hj h
  | cons n w ih =>
    intro hw
    have hn := hw n List.mem_cons_self
    exact ih (S.ok i n hi hn) (S.ok j n hj hn) (((refine_eq S hi hj).mp (st i j hi hj h)).2 n hn) fun m hm => hw m (List.mem_cons_of_mem _ hm)
end
end Ck
/-! plain mathematics of k13, part 3: the walk in breadth -/
namespace Ck
structure Ent where
  node : Nat
  word : List Nat
  par : Option (Nat × Nat)
def nodes (E : List Ent) : List Nat := E.map (·.node)
def addE (E : List Ent) (e : Ent) : List Ent := if e.node ∈ nodes E then E else E ++ [e]
def bpart (sc : Nat → Nat → Nat) (E : List Ent) (u : Ent) : Nat → List Ent
  | 0 => E
  | m + 1 => addE (bpart sc E u m) ⟨sc u.node m, u.word ++ [m], some (u.node, m)⟩
def bstep (sc : Nat → Nat → Nat) (cnt : Nat) (E : List Ent) (i : Nat) : List Ent := match E[i]? with
  | none => E
  | some u => bpart sc E u cnt
def bfs (sc : Nat → Nat → Nat) (cnt s : Nat) : Nat → List Ent
  | 0 => [⟨s, [], none⟩]
  | i + 1 => bstep sc cnt (bfs sc cnt s i) i
section
variable {sc : Nat → Nat → Nat} {cnt s : Nat}
theorem addE_pre (E : List Ent) (e : Ent) : ∃ r, addE E e = E ++ r := by
  unfold addE
  split
  · exact ⟨[], by simp⟩
  · exact ⟨[e], rfl⟩
theorem bpart_pre (E : List Ent) (u : Ent) : ∀ m, ∃ r, bpart sc E u m = E ++ r
  | 0 => ⟨[], by simp [bpart]⟩
  | m + 1 => by
    obtain ⟨r, h⟩ := bpart_pre E u m
    obtain ⟨r2, h2⟩ := addE_pre (bpart sc E u m) ⟨sc u.node m, u.word ++ [m], some (u.node, m)⟩
    exact ⟨r ++ r2, by show addE _ _ = _; rw [h2, h, List.append_assoc]⟩
theorem bstep_pre (E : List Ent) (i : Nat) : ∃ r, bstep sc cnt E i = E ++ r := by
  unfold bstep
  split
  · exact ⟨[], by simp⟩
  · exact bpart_pre _ _ _
theorem bfs_pre (i : Nat) : ∀ j, ∃ r, bfs sc cnt s (i + j) = bfs sc cnt s i ++ r
  | 0 => ⟨[], by simp⟩
  | j + 1 => by
    obtain ⟨r, h⟩ := bfs_pre i j
    obtain ⟨r2, h2⟩ := bstep_pre (sc := sc) (cnt := cnt) (bfs sc cnt s (i + j)) (i + j)
    exact ⟨r ++ r2, by show bstep sc cnt (bfs sc cnt s (i + j)) (i + j) = _; rw [h2, h, List.append_assoc]⟩
/-- where all are walked nothing more comes -/
theorem bfs_stay {i : Nat} (h : (bfs sc cnt s i).length ≤ i) : ∀ j, bfs sc cnt s (i + j) = bfs sc cnt s i
  | 0 => rfl
  | j + 1 => by
    have ih := bfs_stay h j
    show bstep sc cnt (bfs sc cnt s (i + j)) (i + j) = _
    rw [ih]
    unfold bstep
    rw [List.getElem?_eq_none (by omega)]
/-- what holds of the entries all along -/
structure Bok (sc : Nat → Nat → Nat) (cnt s : Nat) (E : List Ent) : Prop where
  nd : (nodes E).Nodup
  hd : ∃ r, E = ⟨s, [], none⟩ :: r
  par : ∀ (i : Nat) (e : Ent), E[i]? = some e → (e.par = none ∧ e.word = [] ∧ e.node = s) ∨ ∃ (j n : Nat) (u : Ent), j < i ∧ E[j]? = some u ∧ e.par = some (u.node, n) ∧ n < cnt ∧ e.word = u.word ++ [n] ∧ e.node = sc u.node n
theorem bok_start : Bok sc cnt s [⟨s, [], none⟩] := by
  refine ⟨by simp [nodes], ⟨[], rfl⟩, fun i e h => ?_⟩
  have : i = 0 := by
    have := (List.getElem?_eq_some_iff.mp h).1
    simpa using this
  subst this
  simp at h
  subst h
  exact .inl ⟨rfl, rfl, rfl⟩
theorem bok_add {E : List Ent} (b : Bok sc cnt s E) {u : Ent} {j n : Nat} (hu : E[j]? = some u) (hn : n < cnt) : Bok sc cnt s (addE E ⟨sc u.node n, u.word ++ [n], some (u.node, n)⟩) := by
  unfold addE
  split
  · exact b
  · rename_i hm
    refine ⟨?_, ?_, fun i e h => ?_⟩
    · unfold nodes
      rw [List.map_append]
      refine List.nodup_append.mpr ⟨b.nd, by simp, fun x hx y hy => ?_⟩
      simp at hy
      subst hy
      exact fun e => hm (e ▸ hx)
    · obtain ⟨r, hr⟩ := b.hd
      exact ⟨r ++ [_], by rw [hr]; rfl⟩
    · by_cases c : i < E.length
      · rw [List.getElem?_append_left c] at h
        rcases b.par i e h with z | ⟨j', n', u', h1, h2, h3⟩
        · exact .inl z
        · exact .inr ⟨j', n', u', h1, by rw [List.getElem?_append_left (by omega)]; exact h2, h3⟩
      · have hi := (List.getElem?_eq_some_iff.mp h).1
        rw [List.length_append, List.length_singleton] at hi
        have e0 : i = E.length := by omega
        subst e0
        rw [List.getElem?_append_right (Nat.le_refl _), Nat.sub_self] at h
        simp at h
        subst h
        have jl := (List.getElem?_eq_some_iff.mp hu).1
        exact .inr ⟨j, n, u, jl, by rw [List.getElem?_append_left jl]; exact hu, rfl, hn, rfl, rfl⟩
theorem bok_part {E : List Ent} (b : Bok sc cnt s E) {u : Ent} {j : Nat} (hu : E[j]? = some u) : ∀ m, m ≤ cnt → Bok sc cnt s (bpart sc E u m)
  | 0, _ => b
  | m + 1, h => by
    have ih := bok_part b hu m (by omega)
    obtain ⟨r, hr⟩ := bpart_pre (sc := sc) E u m
    refine bok_add (j := j) ih ?_ (by omega)
    rw [hr, List.getElem?_append_left (List.getElem?_eq_some_iff.mp hu).1]
    exact hu
theorem bok_bfs : ∀ i, Bok sc cnt s (bfs sc cnt s i)
  | 0 => bok_start
  | i + 1 => by
    have ih := bok_bfs i
    show Bok sc cnt s (bstep sc cnt (bfs sc cnt s i) i)
    unfold bstep
    split
    · exact ih
    · rename_i u hu
      exact bok_part ih hu cnt (Nat.le_refl _)
/-- the nodes stay below a bound -/
theorem bok_lt {E : List Ent} (b : Bok sc cnt s E) {N : Nat} (hs : s < N) (hc : ∀ u n, u < N → n < cnt → sc u n < N) : ∀ (i : Nat) (e : Ent), E[i]? = some e → e.node < N := by
  intro i
  induction i using Nat.strongRecOn with
  | _ i ih =>
    intro e h
    rcases b.par i e h with ⟨_, _, z⟩ | ⟨j, n, u, h1, h2, _, h4, _, h6⟩
    · rw [z]; exact hs
    · rw [h6]; exact hc _ _ (ih j h1 u h2) h4
theorem bok_len {E : List Ent} (b : Bok sc cnt s E) {N : Nat} (hs : s < N) (hc : ∀ u n, u < N → n < cnt → sc u n < N) : E.length ≤ N := by
  have := nodup_lt N (nodes E) b.nd fun x hx => by
    obtain ⟨e, he, rfl⟩ := List.mem_map.mp hx
    obtain ⟨i, hi⟩ := List.getElem?_of_mem he
    exact bok_lt b hs hc i e hi
  unfold nodes at this
  rwa [List.length_map] at this
/-- the walk's end -/
def walkE (sc : Nat → Nat → Nat) (cnt s N : Nat) : List Ent := bfs sc cnt s N
theorem bfs_end {N i : Nat} (hs : s < N) (hc : ∀ u n, u < N → n < cnt → sc u n < N) (h : (bfs sc cnt s i).length ≤ i) : bfs sc cnt s i = walkE sc cnt s N := by
  unfold walkE
  rcases Nat.le_total i N with c | c
  · obtain ⟨j, rfl⟩ : ∃ j, N = i + j := ⟨N - i, by omega⟩
    exact (bfs_stay h j).symm
  · obtain ⟨j, rfl⟩ : ∃ j, i = N + j := ⟨i - N, by omega⟩
    exact bfs_stay (bok_len (bok_bfs N) hs hc) j
theorem addE_mem (E : List Ent) (e : Ent) : e.node ∈ nodes (addE E e) := by
  unfold addE
  split
  · assumption
  · unfold nodes
    simp
theorem bpart_mem (E : List Ent) (u : Ent) : ∀ m n, n < m → sc u.node n ∈ nodes (bpart sc E u m)
  | m + 1, n, h => by
    by_cases c : n = m
    · subst c
      exact addE_mem (bpart sc E u n) ⟨sc u.node n, u.word ++ [n], some (u.node, n)⟩
    · have ih := bpart_mem E u m n (by omega)
      obtain ⟨r, hr⟩ := addE_pre (bpart sc E u m) ⟨sc u.node m, u.word ++ [m], some (u.node, m)⟩
      show _ ∈ nodes (addE _ _)
      rw [hr]
      unfold nodes at ih ⊢
      rw [List.map_append]
      exact List.mem_append_left _ ih
/-- the walk meets what follows each of its nodes -/
theorem walk_closed {N : Nat} (hs : s < N) (hc : ∀ u n, u < N → n < cnt → sc u n < N) {x n : Nat} (hx : x ∈ nodes (walkE sc cnt s N)) (hn : n < cnt) : sc x n ∈ nodes (walkE sc cnt s N) := by
  obtain ⟨e, he, rfl⟩ := List.mem_map.mp hx
  obtain ⟨i, hi⟩ := List.getElem?_of_mem he
  have il := (List.getElem?_eq_some_iff.mp hi).1
  have len := bok_len (bok_bfs (sc := sc) (cnt := cnt) (s := s) N) hs hc
  unfold walkE at hi il he ⊢
  have iN : i < N := by omega
  -- at step i the node stands already
  have q : (bfs sc cnt s i)[i]? = some e := by
    by_cases c : i < (bfs sc cnt s i).length
    · obtain ⟨r, hr⟩ := bfs_pre (sc := sc) (cnt := cnt) (s := s) i (N - i)
      rw [show i + (N - i) = N by omega] at hr
      rw [hr, List.getElem?_append_left c] at hi
      exact hi
    · have := bfs_stay (sc := sc) (cnt := cnt) (s := s) (i := i) (by omega) (N - i)
      rw [show i + (N - i) = N by omega] at this
      rw [this] at il
      omega
  obtain ⟨r, hr⟩ := bfs_pre (sc := sc) (cnt := cnt) (s := s) (i + 1) (N - (i + 1))
  rw [show i + 1 + (N - (i + 1)) = N by omega] at hr
  rw [hr]
  unfold nodes
  rw [List.map_append]
  refine List.mem_append_left _ ?_
  show sc e.node n ∈ nodes (bstep sc cnt (bfs sc cnt s i) i)
  unfold bstep
  rw [q]
  exact bpart_mem _ e cnt n hn
theorem walk_start {N : Nat} : s ∈ nodes (walkE sc cnt s N) := by
  obtain ⟨r, hr⟩ := (bok_bfs (sc := sc) (cnt := cnt) (s := s) N).hd
  unfold walkE
  rw [hr]
  exact List.mem_cons_self
def runW (sc : Nat → Nat → Nat) (i : Nat) : List Nat → Nat
  | [] => i
  | n :: w => runW sc (sc i n) w
theorem runW_snoc (w : List Nat) : ∀ i n, runW sc i (w ++ [n]) = sc (runW sc i w) n := by
  induction w with
  | nil => intro i n; rfl
  | cons m w ih => intro i n; exact ih (sc i m) n
theorem runW_app (v : List Nat) : ∀ (u : List Nat) (i : Nat), runW sc i (u ++ v) = runW sc (runW sc i u) v
  | [], i => rfl
  | m :: u, i => runW_app v u (sc i m)
/-- a node is where its word leads -/
theorem bok_word {E : List Ent} (b : Bok sc cnt s E) : ∀ (i : Nat) (e : Ent), E[i]? = some e → runW sc s e.word = e.node ∧ ∀ n ∈ e.word, n < cnt := by
  intro i
  induction i using Nat.strongRecOn with
  | _ i ih =>
    intro e h
    rcases b.par i e h with ⟨_, z1, z2⟩ | ⟨j, n, u, h1, h2, _, h4, h5, h6⟩
    · rw [z1, z2]
      exact ⟨rfl, fun n hn => by cases hn⟩
    · obtain ⟨q1, q2⟩ := ih j h1 u h2
      rw [h5, h6, runW_snoc, q1]
      refine ⟨rfl, fun m hm => ?_⟩
      rcases List.mem_append.mp hm with z | z
      · exact q2 m z
      · rw [List.mem_singleton.mp z]; exact h4
theorem walk_words {N : Nat} (hs : s < N) (hc : ∀ u n, u < N → n < cnt → sc u n < N) : ∀ (w : List Nat) (x : Nat), x ∈ nodes (walkE sc cnt s N) → (∀ n ∈ w, n < cnt) → runW sc x w ∈ nodes (walkE sc cnt s N)
  | [], x, hx, _ => hx
  | n :: w, x, hx, h => walk_words hs hc w _ (walk_closed hs hc hx (h n List.mem_cons_self)) fun m hm => h m (List.mem_cons_of_mem _ hm)
end
/-! ### other names for the nodes -/
def reEnt (f : Nat → Nat) (e : Ent) : Ent := ⟨f e.node, e.word, e.par.map fun p => (f p.1, p.2)⟩
section
variable {sc sc' : Nat → Nat → Nat} {cnt s N : Nat} {f : Nat → Nat} (hs : s < N) (hc : ∀ u n, u < N → n < cnt → sc u n < N) (inj : ∀ a b, a < N → b < N → f a = f b → a = b) (co : ∀ u n, u < N → n < cnt → sc' (f u) n = f (sc u n))
include hc inj co
theorem addE_map {E : List Ent} (hE : ∀ e ∈ E, e.node < N) {e : Ent} (he : e.node < N) : addE (E.map (reEnt f)) (reEnt f e) = (addE E e).map (reEnt f) := by
  unfold addE
  have : (reEnt f e).node ∈ nodes (E.map (reEnt f)) ↔ e.node ∈ nodes E := by
    unfold nodes
    rw [List.map_map]
    constructor
    · intro h
      obtain ⟨x, hx, q⟩ := List.mem_map.mp h
      exact List.mem_map.mpr ⟨x, hx, inj _ _ (hE x hx) he q⟩
    · intro h
      obtain ⟨x, hx, q⟩ := List.mem_map.mp h
      exact List.mem_map.mpr ⟨x, hx, congrArg f q⟩
  by_cases c : e.node ∈ nodes E
  · rw [if_pos c, if_pos (this.mpr c)]
  · rw [if_neg c, if_neg fun z => c (this.mp z), List.map_append]
    rfl
theorem bpart_map {E : List Ent} (hE : ∀ e ∈ E, e.node < N) {u : Ent} (hu : u.node < N) : ∀ m, m ≤ cnt → bpart sc' (E.map (reEnt f)) (reEnt f u) m = (bpart sc E u m).map (reEnt f) ∧ ∀ e ∈ bpart sc E u m, e.node < N
  | 0, _ => ⟨rfl, hE⟩
  | m + 1, h => by
    obtain ⟨h1, h2⟩ := bpart_map hE hu m (by omega)
    have lt := hc u.node m hu (by omega)
    have e : (⟨sc' (reEnt f u).node m, (reEnt f u).word ++ [m], some ((reEnt f u).node, m)⟩ : Ent) = reEnt f ⟨sc u.node m, u.word ++ [m], some (u.node, m)⟩ := by
      unfold reEnt
      rw [co u.node m hu (by omega)]
      rfl
    refine ⟨?_, fun x hx => ?_⟩
    · show addE (bpart sc' (E.map (reEnt f)) (reEnt f u) m) _ = (addE _ _).map _
      rw [h1, e, addE_map hc inj co h2 lt]
    · have hx : x ∈ addE (bpart sc E u m) ⟨sc u.node m, u.word ++ [m], some (u.node, m)⟩ := hx
      unfold addE at hx
      split at hx
      · exact h2 x hx
      · rcases List.mem_append.mp hx with z | z
        · exact h2 x z
        · rw [List.mem_singleton.mp z]; exact lt
include hs
theorem bfs_map : ∀ i, bfs sc' cnt (f s) i = (bfs sc cnt s i).map (reEnt f)
  | 0 => rfl
  | i + 1 => by
    show bstep sc' cnt (bfs sc' cnt (f s) i) i = (bstep sc cnt (bfs sc cnt s i) i).map _
    rw [bfs_map i]
    unfold bstep
    rw [List.getElem?_map]
    cases e : (bfs sc cnt s i)[i]? with
    | none => rfl
    | some u =>
      have b := bok_bfs (sc := sc) (cnt := cnt) (s := s) i
      have lt : ∀ x ∈ bfs sc cnt s i, x.node < N := fun x hx => by
        obtain ⟨j, hj⟩ := List.getElem?_of_mem hx
        exact bok_lt b hs hc j x hj
      exact (bpart_map hc inj co lt (lt u (List.mem_of_getElem? e)) cnt (Nat.le_refl _)).1
end
end Ck
/-! plain mathematics of k13, part 4: rings side by side, shifts -/
namespace Ck
/-- the place moved by p and q -/
def sh (one two k : Nat) (p q : Int) : Nat := ((((k / two : Nat) : Int) + p) % (one : Int)).toNat * two + ((((k % two : Nat) : Int) + q) % (two : Int)).toNat
section
variable {one two : Nat} (h1 : 0 < one) (h2 : 0 < two)
include h1 h2
theorem sh_parts (k : Nat) (p q : Int) : (((sh one two k p q / two : Nat) : Int) = (((k / two : Nat) : Int) + p) % (one : Int)) ∧ (((sh one two k p q % two : Nat) : Int) = (((k % two : Nat) : Int) + q) % (two : Int)) ∧ sh one two k p q < one * two := by
  have a0 := Int.emod_nonneg (((k / two : Nat) : Int) + p) (show (one : Int) ≠ 0 by omega)
  have a1 := Int.emod_lt_of_pos (((k / two : Nat) : Int) + p) (show (0 : Int) < one by omega)
  have b0 := Int.emod_nonneg (((k % two : Nat) : Int) + q) (show (two : Int) ≠ 0 by omega)
  have b1 := Int.emod_lt_of_pos (((k % two : Nat) : Int) + q) (show (0 : Int) < two by omega)
  unfold sh
  generalize (((k / two : Nat) : Int) + p) % (one : Int) = a at a0 a1 ⊢
  generalize (((k % two : Nat) : Int) + q) % (two : Int) = b at b0 b1 ⊢
  obtain ⟨a, rfl⟩ := Int.eq_ofNat_of_zero_le a0
  obtain ⟨b, rfl⟩ := Int.eq_ofNat_of_zero_le b0
  rw [Int.toNat_natCast, Int.toNat_natCast]
  have b1 : b < two := by omega
  have a1 : a < one := by omega
  refine ⟨?_, ?_, ?_⟩
  · rw [Nat.mul_comm, Nat.mul_add_div h2, Nat.div_eq_of_lt b1, Nat.add_zero]
  · rw [Nat.mul_comm, Nat.mul_add_mod, Nat.mod_eq_of_lt b1]
  · have : (a + 1) * two ≤ one * two := Nat.mul_le_mul_right _ a1
    rw [Nat.succ_mul] at this
    omega
theorem sh_lt (k : Nat) (p q : Int) : sh one two k p q < one * two := (sh_parts h1 h2 k p q).2.2
omit h1 in
theorem place_ext {a b : Nat} (hr : a / two = b / two) (hc : a % two = b % two) : a = b := by
  rw [← Nat.div_add_mod a two, ← Nat.div_add_mod b two, hr, hc]
theorem sh_sh (k : Nat) (p q p' q' : Int) : sh one two (sh one two k p q) p' q' = sh one two k (p + p') (q + q') := by
  obtain ⟨a1, a2, _⟩ := sh_parts h1 h2 (sh one two k p q) p' q'
  obtain ⟨b1, b2, _⟩ := sh_parts h1 h2 k p q
  obtain ⟨c1, c2, _⟩ := sh_parts h1 h2 k (p + p') (q + q')
  refine place_ext h2 ?_ ?_
  · have : (((sh one two (sh one two k p q) p' q') / two : Nat) : Int) = ((sh one two k (p + p') (q + q') / two : Nat) : Int) := by
      rw [a1, b1, c1, Int.emod_add_emod, Int.add_assoc]
    exact Int.ofNat.inj this
  · have : (((sh one two (sh one two k p q) p' q') % two : Nat) : Int) = ((sh one two k (p + p') (q + q') % two : Nat) : Int) := by
      rw [a2, b2, c2, Int.emod_add_emod, Int.add_assoc]
    exact Int.ofNat.inj this
theorem row_lt {k : Nat} (hk : k < one * two) : k / two < one := Nat.div_lt_of_lt_mul (by rw [Nat.mul_comm]; exact hk)
omit h1 h2 in
theorem mod_cong {n : Nat} (x : Int) {p p' : Int} (h : (n : Int) ∣ p - p') : (x + p) % (n : Int) = (x + p') % (n : Int) := by
  rw [Int.emod_eq_emod_iff_emod_sub_eq_zero]
  refine Int.emod_eq_zero_of_dvd ?_
  rw [show x + p - (x + p') = p - p' by omega]
  exact h
/-- equal moves, up to whole rounds -/
theorem sh_cong (k : Nat) {p q p' q' : Int} (hp : (one : Int) ∣ p - p') (hq : (two : Int) ∣ q - q') : sh one two k p q = sh one two k p' q' := by
  unfold sh
  rw [mod_cong _ hp, mod_cong _ hq]
theorem sh_zero {k : Nat} (hk : k < one * two) : sh one two k 0 0 = k := by
  obtain ⟨b1, b2, _⟩ := sh_parts h1 h2 k 0 0
  have r := row_lt h1 h2 hk
  have c := Nat.mod_lt k h2
  refine place_ext h2 ?_ ?_
  · have : ((sh one two k 0 0 / two : Nat) : Int) = ((k / two : Nat) : Int) := by
      rw [b1, Int.add_zero, Int.emod_eq_of_lt (Int.natCast_nonneg _) (by exact_mod_cast r)]
    exact Int.ofNat.inj this
  · have : ((sh one two k 0 0 % two : Nat) : Int) = ((k % two : Nat) : Int) := by
      rw [b2, Int.add_zero, Int.emod_eq_of_lt (Int.natCast_nonneg _) (by exact_mod_cast c)]
    exact Int.ofNat.inj this
/-- from k to k' -/
theorem sh_diff {k k' : Nat} (hk : k' < one * two) : sh one two k (((k' / two : Nat) : Int) - ((k / two : Nat) : Int)) (((k' % two : Nat) : Int) - ((k % two : Nat) : Int)) = k' := by
  obtain ⟨b1, b2, _⟩ := sh_parts h1 h2 k (((k' / two : Nat) : Int) - ((k / two : Nat) : Int)) (((k' % two : Nat) : Int) - ((k % two : Nat) : Int))
  have r := row_lt h1 h2 hk
  have c := Nat.mod_lt k' h2
  refine place_ext h2 ?_ ?_
  · refine Int.ofNat.inj ?_
    show ((_ : Nat) : Int) = ((k' / two : Nat) : Int)
    rw [b1, show ((k / two : Nat) : Int) + (((k' / two : Nat) : Int) - ((k / two : Nat) : Int)) = ((k' / two : Nat) : Int) by omega, Int.emod_eq_of_lt (Int.natCast_nonneg _) (by exact_mod_cast r)]
  · refine Int.ofNat.inj ?_
    show ((_ : Nat) : Int) = ((k' % two : Nat) : Int)
    rw [b2, show ((k % two : Nat) : Int) + (((k' % two : Nat) : Int) - ((k % two : Nat) : Int)) = ((k' % two : Nat) : Int) by omega, Int.emod_eq_of_lt (Int.natCast_nonneg _) (by exact_mod_cast c)]
end
/-! ### machines that walk rings -/
structure Rings where
  one : Nat
  two : Nat
  cnt : Nat
  mv : Nat → Nat × Nat
  first : Nat
  h1 : 0 < one
  h2 : 0 < two
  hf : first < one * two
namespace Rings
variable (R : Rings)
def sc (k n : Nat) : Nat := sh R.one R.two k ((R.mv n).1 : Nat) ((R.mv n).2 : Nat)
def P (w : List Nat) : Nat := (w.map fun n => (R.mv n).1).sum
def Qs (w : List Nat) : Nat := (w.map fun n => (R.mv n).2).sum
def order : List Nat := nodes (walkE R.sc R.cnt R.first (R.one * R.two))
theorem run_sh (w : List Nat) : ∀ k, k < R.one * R.two → runW R.sc k w = sh R.one R.two k (R.P w : Nat) (R.Qs w : Nat) := by
  induction w with
  | nil => intro k hk; exact (sh_zero R.h1 R.h2 hk).symm
  | cons n w ih =>
    intro k hk
    show runW R.sc (R.sc k n) w = _
    rw [ih (R.sc k n) (sh_lt R.h1 R.h2 _ _ _)]
    unfold sc
    rw [sh_sh R.h1 R.h2]
    unfold P Qs
    rw [List.map_cons, List.map_cons, List.sum_cons, List.sum_cons]
    congr 1 <;> omega
theorem sc_lt (u n : Nat) (_ : u < R.one * R.two) (_ : n < R.cnt) : R.sc u n < R.one * R.two := sh_lt R.h1 R.h2 _ _ _
theorem order_lt {x : Nat} (h : x ∈ R.order) : x < R.one * R.two := by
  obtain ⟨e, he, rfl⟩ := List.mem_map.mp h
  obtain ⟨i, hi⟩ := List.getElem?_of_mem he
  exact bok_lt (bok_bfs _) R.hf R.sc_lt i e hi
theorem order_nd : R.order.Nodup := (bok_bfs _).nd
theorem order_run {x : Nat} (h : x ∈ R.order) {w : List Nat} (hw : ∀ n ∈ w, n < R.cnt) : runW R.sc x w ∈ R.order := walk_words R.hf R.sc_lt w x h hw
theorem order_word {x : Nat} (h : x ∈ R.order) : ∃ w, (∀ n ∈ w, n < R.cnt) ∧ runW R.sc R.first w = x := by
  obtain ⟨e, he, rfl⟩ := List.mem_map.mp h
  obtain ⟨i, hi⟩ := List.getElem?_of_mem he
  obtain ⟨a, b⟩ := bok_word (bok_bfs _) i e hi
  exact ⟨e.word, b, a⟩
def pow (w : List Nat) : Nat → List Nat
  | 0 => []
  | m + 1 => w ++ pow w m
theorem pow_mem {w : List Nat} {m n : Nat} (h : n ∈ pow w m) : n ∈ w := by
  induction m with
  | zero => cases h
  | succ m ih =>
    rcases List.mem_append.mp h with z | z
    · exact z
    · exact ih z
theorem pow_P (w : List Nat) : ∀ m, R.P (pow w m) = m * R.P w ∧ R.Qs (pow w m) = m * R.Qs w
  | 0 => by simp [pow, P, Qs]
  | m + 1 => by
    obtain ⟨a, b⟩ := pow_P w m
    constructor
    · show R.P (w ++ pow w m) = _
      unfold P at a ⊢
      rw [List.map_append, List.sum_append, a, Nat.succ_mul, Nat.add_comm]
    · show R.Qs (w ++ pow w m) = _
      unfold Qs at b ⊢
      rw [List.map_append, List.sum_append, b, Nat.succ_mul, Nat.add_comm]
/-- from each place that is met to each other one -/
theorem reach {x z : Nat} (hx : x ∈ R.order) (hz : z ∈ R.order) : ∃ w, (∀ n ∈ w, n < R.cnt) ∧ runW R.sc x w = z := by
  obtain ⟨u, hu, rfl⟩ := R.order_word hx
  obtain ⟨v, hv, rfl⟩ := R.order_word hz
  refine ⟨pow u (R.one * R.two - 1) ++ v, fun n hn => ?_, ?_⟩
  · rcases List.mem_append.mp hn with z | z
    · exact hu n (pow_mem z)
    · exact hv n z
  · have N0 : 0 < R.one * R.two := Nat.lt_of_le_of_lt (Nat.zero_le _) R.hf
    have back : runW R.sc (runW R.sc R.first u) (pow u (R.one * R.two - 1)) = R.first := by
      rw [R.run_sh _ _ (R.order_lt hx), R.run_sh _ _ R.hf, sh_sh R.h1 R.h2, (R.pow_P u _).1, (R.pow_P u _).2]
      rw [sh_cong R.h1 R.h2 (p' := 0) (q' := 0)]
      · exact sh_zero R.h1 R.h2 R.hf
      · rw [Int.sub_zero]
        have : ((R.P u : Nat) : Int) + ((((R.one * R.two - 1) * R.P u : Nat)) : Int) = (R.one : Int) * ((R.two : Int) * (R.P u : Int)) := by
          have e : R.P u + (R.one * R.two - 1) * R.P u = R.one * (R.two * R.P u) := by
            rw [Nat.sub_one_mul, ← Nat.mul_assoc]
            have := Nat.le_mul_of_pos_left (R.P u) N0
            omega
          exact_mod_cast e
        rw [this]
        exact Int.dvd_mul_right _ _
      · rw [Int.sub_zero]
        have : ((R.Qs u : Nat) : Int) + ((((R.one * R.two - 1) * R.Qs u : Nat)) : Int) = (R.two : Int) * ((R.one : Int) * (R.Qs u : Int)) := by
          have e : R.Qs u + (R.one * R.two - 1) * R.Qs u = R.two * (R.one * R.Qs u) := by
            rw [Nat.sub_one_mul, ← Nat.mul_assoc, Nat.mul_comm R.two R.one]
            have := Nat.le_mul_of_pos_left (R.Qs u) N0
            omega
          exact_mod_cast e
        rw [this]
        exact Int.dvd_mul_right _ _
    rw [runW_app, back]
/-- the shift by p and q changes nothing that is seen -/
def Keep {γ : Type} (look : Nat → γ) (p q : Int) : Prop := ∀ z ∈ R.order, look (sh R.one R.two z p q) = look z
def Par {γ : Type} (look : Nat → γ) (x y : Nat) : Prop := ∀ w, (∀ n ∈ w, n < R.cnt) → look (runW R.sc x w) = look (runW R.sc y w)
def dP (x y : Nat) : Int := ((y / R.two : Nat) : Int) - ((x / R.two : Nat) : Int)
def dQ (x y : Nat) : Int := ((y % R.two : Nat) : Int) - ((x % R.two : Nat) : Int)
theorem par_keep {γ : Type} {look : Nat → γ} {x y : Nat} (hx : x ∈ R.order) (hy : y ∈ R.order) : R.Par look x y ↔ R.Keep look (R.dP x y) (R.dQ x y) := by
  have xl := R.order_lt hx
  have yl := R.order_lt hy
  have e : ∀ w, runW R.sc y w = sh R.one R.two (runW R.sc x w) (R.dP x y) (R.dQ x y) := fun w => by
    rw [R.run_sh w y yl, R.run_sh w x xl, sh_sh R.h1 R.h2]
    conv => lhs; rw [← sh_diff R.h1 R.h2 (k := x) yl]
    rw [sh_sh R.h1 R.h2]
    unfold dP dQ
    congr 1 <;> omega
  constructor
  · intro h z hz
    obtain ⟨w, hw, rfl⟩ := R.reach hx hz
    rw [← e w]
    exact (h w hw).symm
  · intro h w hw
    rw [e w]
    exact (h _ (R.order_run hx hw)).symm
theorem par_refl {γ : Type} {look : Nat → γ} (x : Nat) : R.Par look x x := fun _ _ => rfl
theorem par_symm {γ : Type} {look : Nat → γ} {x y : Nat} (h : R.Par look x y) : R.Par look y x := fun w hw => (h w hw).symm
theorem par_trans {γ : Type} {look : Nat → γ} {x y z : Nat} (h : R.Par look x y) (k : R.Par look y z) : R.Par look x z := fun w hw => (h w hw).trans (k w hw)
/-- the law's shifts, from the first place -/
theorem shift_of {γ : Type} {look : Nat → γ} {x y : Nat} (hx : x ∈ R.order) (hy : y ∈ R.order) (h : R.Par look x y) : ∃ t ∈ R.order, R.Keep look (R.dP R.first t) (R.dQ R.first t) ∧ sh R.one R.two x (R.dP R.first t) (R.dQ R.first t) = y := by
  obtain ⟨w, hw, e⟩ := R.reach hx hy
  have hs : R.first ∈ R.order := walk_start
  have ht : runW R.sc R.first w ∈ R.order := R.order_run hs hw
  have q1 : ∀ z, z < R.one * R.two → sh R.one R.two z (R.dP R.first (runW R.sc R.first w)) (R.dQ R.first (runW R.sc R.first w)) = sh R.one R.two z (R.P w : Nat) (R.Qs w : Nat) := fun z hz => by
    obtain ⟨a1, a2, _⟩ := sh_parts R.h1 R.h2 R.first (R.P w : Nat) (R.Qs w : Nat)
    rw [← R.run_sh w R.first R.hf] at a1 a2
    refine sh_cong R.h1 R.h2 z ?_ ?_
    · unfold dP
      rw [a1]
      have := Int.emod_add_mul_ediv (((R.first / R.two : Nat) : Int) + (R.P w : Nat)) (R.one : Int)
      refine ⟨-((((R.first / R.two : Nat) : Int) + (R.P w : Nat)) / (R.one : Int)), ?_⟩
      rw [Int.mul_neg]
      omega
    · unfold dQ
      rw [a2]
      have := Int.emod_add_mul_ediv (((R.first % R.two : Nat) : Int) + (R.Qs w : Nat)) (R.two : Int)
      refine ⟨-((((R.first % R.two : Nat) : Int) + (R.Qs w : Nat)) / (R.two : Int)), ?_⟩
      rw [Int.mul_neg]
      omega
  have q2 : sh R.one R.two x (R.P w : Nat) (R.Qs w : Nat) = y := by rw [← R.run_sh w x (R.order_lt hx)]; exact e
  refine ⟨_, ht, fun z hz => ?_, by rw [q1 x (R.order_lt hx), q2]⟩
  rw [q1 z (R.order_lt hz)]
  obtain ⟨v, hv, rfl⟩ := R.reach hx hz
  rw [R.run_sh v x (R.order_lt hx), sh_sh R.h1 R.h2]
  have e2 := h v hv
  rw [R.run_sh v x (R.order_lt hx), R.run_sh v y (R.order_lt hy), ← q2, sh_sh R.h1 R.h2] at e2
  rw [e2]
  congr 2 <;> omega
/-- such a shift leads to a place that is met, like the first -/
theorem shift_ok {γ : Type} {look : Nat → γ} {x t : Nat} (hx : x ∈ R.order) (ht : t ∈ R.order) (h : R.Keep look (R.dP R.first t) (R.dQ R.first t)) : sh R.one R.two x (R.dP R.first t) (R.dQ R.first t) ∈ R.order ∧ R.Par look x (sh R.one R.two x (R.dP R.first t) (R.dQ R.first t)) := by
  have hs : R.first ∈ R.order := walk_start
  have yl : sh R.one R.two x (R.dP R.first t) (R.dQ R.first t) < R.one * R.two := sh_lt R.h1 R.h2 _ _ _
  obtain ⟨w, hw, e⟩ := R.reach hs ht
  have m : sh R.one R.two x (R.dP R.first t) (R.dQ R.first t) = runW R.sc x w := by
    rw [R.run_sh w x (R.order_lt hx)]
    obtain ⟨a1, a2, _⟩ := sh_parts R.h1 R.h2 R.first (R.P w : Nat) (R.Qs w : Nat)
    rw [← R.run_sh w R.first R.hf, e] at a1 a2
    refine sh_cong R.h1 R.h2 x ?_ ?_
    · unfold dP
      rw [a1]
      have := Int.emod_add_mul_ediv (((R.first / R.two : Nat) : Int) + (R.P w : Nat)) (R.one : Int)
      refine ⟨-((((R.first / R.two : Nat) : Int) + (R.P w : Nat)) / (R.one : Int)), ?_⟩
      rw [Int.mul_neg]
      omega
    · unfold dQ
      rw [a2]
      have := Int.emod_add_mul_ediv (((R.first % R.two : Nat) : Int) + (R.Qs w : Nat)) (R.two : Int)
      refine ⟨-((((R.first % R.two : Nat) : Int) + (R.Qs w : Nat)) / (R.two : Int)), ?_⟩
      rw [Int.mul_neg]
      omega
  have hm : sh R.one R.two x (R.dP R.first t) (R.dQ R.first t) ∈ R.order := by rw [m]; exact R.order_run hx hw
  refine ⟨hm, fun v hv => ?_⟩
  rw [R.run_sh v _ (R.order_lt hm), sh_sh R.h1 R.h2]
  have := h _ (R.order_run hx hv)
  rw [R.run_sh v x (R.order_lt hx), sh_sh R.h1 R.h2] at this
  rw [R.run_sh v x (R.order_lt hx), ← this]
  congr 2 <;> omega
end Rings
end Ck
/-! plain mathematics of k13, part 5: the classes of a machine on rings; codes -/
namespace Ck
namespace Rings
variable (R : Rings) {γ : Type} [DecidableEq γ] (look : Nat → γ)
open Classical in
/-- the first place that a place is like -/
noncomputable def key (x : Nat) : Nat := R.order.findIdx fun y => decide (R.Par look x y)
open Classical in
theorem key_eq {x y : Nat} (hx : x ∈ R.order) (hy : y ∈ R.order) : R.key look x = R.key look y ↔ R.Par look x y := by
  constructor
  · intro h
    unfold key at h
    have lx : (R.order.findIdx fun z => decide (R.Par look x z)) < R.order.length := List.findIdx_lt_length_of_exists ⟨x, hx, decide_eq_true (R.par_refl x)⟩
    have ly : (R.order.findIdx fun z => decide (R.Par look y z)) < R.order.length := List.findIdx_lt_length_of_exists ⟨y, hy, decide_eq_true (R.par_refl y)⟩
    have ex := List.findIdx_getElem (w := lx)
    have ey := List.findIdx_getElem (w := ly)
    have ex := of_decide_eq_true ex
    have ey := of_decide_eq_true ey
    have : R.order[(R.order.findIdx fun z => decide (R.Par look x z))] = R.order[(R.order.findIdx fun z => decide (R.Par look y z))] := by congr 1
    rw [this] at ex
    exact R.par_trans ex (R.par_symm ey)
  · intro h
    unfold key
    congr 1
    funext z
    exact decide_eq_decide.mpr ⟨fun k => R.par_trans (R.par_symm h) k, fun k => R.par_trans h k⟩
/-- the numbers of the places that are met -/
noncomputable def nums : List Nat := numbered (R.order.map (R.key look))
def ord (i : Nat) : Nat := R.order.getD i 0
theorem ord_get {i : Nat} (h : i < R.order.length) : R.order[i]? = some (R.ord i) := by
  unfold ord
  rw [List.getD_eq_getElem?_getD, List.getElem?_eq_getElem h]
  rfl
theorem ord_mem {i : Nat} (h : i < R.order.length) : R.ord i ∈ R.order := List.mem_of_getElem? (R.ord_get h)
theorem ord_idx {x : Nat} (h : x ∈ R.order) : R.ord (R.order.idxOf x) = x := by
  have l := List.idxOf_lt_length_iff.mpr h
  have := R.ord_get l
  rw [List.getElem?_eq_getElem l, List.getElem_idxOf l] at this
  exact (Option.some.inj this).symm
def sys : Sys γ where
  L := R.order.length
  cnt := R.cnt
  out := fun i => look (R.ord i)
  nx := fun i n => R.order.idxOf (R.sc (R.ord i) n)
  ok := fun i n hi hn => List.idxOf_lt_length_iff.mpr (walk_closed R.hf R.sc_lt (R.ord_mem hi) hn)
theorem run_sys (w : List Nat) : ∀ i, i < R.order.length → (∀ n ∈ w, n < R.cnt) → run (R.sys look) i w < R.order.length ∧ R.ord (run (R.sys look) i w) = runW R.sc (R.ord i) w := by
  induction w with
  | nil => intro i hi _; exact ⟨hi, rfl⟩
  | cons n w ih =>
    intro i hi h
    have hn := h n List.mem_cons_self
    have m : R.sc (R.ord i) n ∈ R.order := walk_closed R.hf R.sc_lt (R.ord_mem hi) hn
    obtain ⟨a, b⟩ := ih (R.order.idxOf (R.sc (R.ord i) n)) (List.idxOf_lt_length_iff.mpr m) fun k hk => h k (List.mem_cons_of_mem _ hk)
    refine ⟨a, ?_⟩
    show R.ord (run (R.sys look) (R.order.idxOf (R.sc (R.ord i) n)) w) = _
    rw [b, R.ord_idx m]
    rfl
theorem bisim_par {i j : Nat} (hi : i < R.order.length) (hj : j < R.order.length) : Bisim (R.sys look) i j ↔ R.Par look (R.ord i) (R.ord j) := by
  refine forall_congr' fun w => forall_congr' fun hw => ?_
  show look (R.ord (run (R.sys look) i w)) = look (R.ord (run (R.sys look) j w)) ↔ _
  rw [(R.run_sys look w i hi hw).2, (R.run_sys look w j hj hw).2]
/-- what the program's last round gives -/
theorem done_nums {C : List Nat} (g : Good (R.sys look) C) {k k' : Nat} (h1 : ∀ i, i < R.order.length → cl (refineC (R.sys look) C) i < k') (h2 : ∀ c, c < k → ∃ i, i < R.order.length ∧ cl C i = c) (hle : k' ≤ k) : refineC (R.sys look) C = R.nums look := by
  have pat := fun i j hi hj => good_done (R.sys look) g h1 h2 hle (i := i) (j := j) hi hj
  unfold nums
  show numbered (keysOf (R.sys look) C) = _
  have kl : (keysOf (R.sys look) C).length = R.order.length := by unfold keysOf; simp; rfl
  refine numbered_pat (by rw [kl, List.length_map]) fun i j a b c d ha hb hc hd => ?_
  have il := (List.getElem?_eq_some_iff.mp ha).1
  have jl := (List.getElem?_eq_some_iff.mp hb).1
  rw [kl] at il jl
  have q := numbered_eq ha hb
  have e1 := getD_some (C := numbered (keysOf (R.sys look) C)) (i := i) (by rw [numbered_length, kl]; exact il)
  have e2 := getD_some (C := numbered (keysOf (R.sys look) C)) (i := j) (by rw [numbered_length, kl]; exact jl)
  rw [e1, e2] at q
  rw [← q]
  rw [List.getElem?_map, R.ord_get il] at hc
  rw [List.getElem?_map, R.ord_get jl] at hd
  obtain rfl := Option.some.inj hc
  obtain rfl := Option.some.inj hd
  rw [R.key_eq look (R.ord_mem il) (R.ord_mem jl), ← R.bisim_par look il jl, ← pat i j il jl]
  exact ⟨Option.some.inj, fun z => congrArg some z⟩
end Rings
/-! ### codes -/
def code (bits base step mask k : Nat) : Nat := ((base + step * k) &&& (2 ^ bits - 1)) ^^^ mask
theorem code_lt {bits base step mask k : Nat} (h : mask < 2 ^ bits) : code bits base step mask k < 2 ^ bits := by
  unfold code
  refine Nat.xor_lt_two_pow ?_ h
  rw [Nat.and_two_pow_sub_one_eq_mod]
  exact Nat.mod_lt _ (Nat.two_pow_pos _)
theorem odd_cancel : ∀ (b s d : Nat), 2 ^ b ∣ (2 * s + 1) * d → 2 ^ b ∣ d
  | 0, s, d, _ => by simp
  | b + 1, s, d, h => by
    have e : 2 ∣ d := by
      have h2 : 2 ∣ (2 * s + 1) * d := Nat.dvd_trans ⟨2 ^ b, by rw [Nat.pow_succ, Nat.mul_comm]⟩ h
      rw [Nat.add_mul, Nat.one_mul, Nat.mul_assoc] at h2
      exact (Nat.dvd_add_right ⟨s * d, rfl⟩).mp h2
    obtain ⟨c, rfl⟩ := e
    have h3 : 2 ^ b ∣ (2 * s + 1) * c := by
      obtain ⟨k, hk⟩ := h
      refine ⟨k, ?_⟩
      rw [Nat.pow_succ] at hk
      have : 2 * ((2 * s + 1) * c) = 2 * (2 ^ b * k) := by
        rw [Nat.mul_left_comm] at hk
        rw [hk, Nat.mul_comm (2 ^ b) 2, Nat.mul_assoc]
      exact Nat.eq_of_mul_eq_mul_left (by decide) this
    obtain ⟨k, hk⟩ := odd_cancel b s c h3
    exact ⟨k, by rw [hk, Nat.pow_succ, Nat.mul_comm (2 ^ b) 2, Nat.mul_assoc]⟩
theorem code_inj {bits base s mask a b : Nat} (ha : a < 2 ^ bits) (hb : b < 2 ^ bits) (h : code bits base (2 * s + 1) mask a = code bits base (2 * s + 1) mask b) : a = b := by
  have key : ∀ a b, a ≤ b → b < 2 ^ bits → (base + (2 * s + 1) * a) % 2 ^ bits = (base + (2 * s + 1) * b) % 2 ^ bits → a = b := by
    intro a b hab hb e
    obtain ⟨d, rfl⟩ := Nat.le.dest hab
    have e1 : (base + (2 * s + 1) * (a + d)) = (base + (2 * s + 1) * a) + (2 * s + 1) * d := by rw [Nat.mul_add]; omega
    rw [e1] at e
    have dv : 2 ^ bits ∣ (2 * s + 1) * d := by
      have := Nat.dvd_of_mod_eq_zero (Nat.sub_mod_eq_zero_of_mod_eq e.symm)
      rwa [Nat.add_sub_cancel_left] at this
    have := odd_cancel bits s d dv
    have d0 : d = 0 := Nat.eq_zero_of_dvd_of_lt this (by omega)
    rw [d0]
    rfl
  unfold code at h
  have h : (base + (2 * s + 1) * a) &&& (2 ^ bits - 1) = (base + (2 * s + 1) * b) &&& (2 ^ bits - 1) := by
    have := congrArg (· ^^^ mask) h
    simpa [Nat.xor_assoc] using this
  rw [Nat.and_two_pow_sub_one_eq_mod, Nat.and_two_pow_sub_one_eq_mod] at h
  rcases Nat.le_total a b with c | c
  · exact key a b c hb h
  · exact (key b a c ha h.symm).symm
end Ck
/-! plain mathematics of k13, part 6: the law's own numbers -/
namespace Ck
theorem numbered_eq_map {α : Type} [DecidableEq α] (l : List α) : numbered l = l.map fun k => (met [] l).idxOf k := by
  refine List.ext_getElem? fun i => ?_
  rw [List.getElem?_map]
  by_cases h : i < l.length
  · rw [List.getElem?_eq_getElem h, numbered_get (List.getElem?_eq_getElem h)]
    rfl
  · rw [List.getElem?_eq_none (by rw [numbered_length]; omega), List.getElem?_eq_none (by omega)]
    rfl
theorem met_snoc {α : Type} [DecidableEq α] (acc l : List α) (k : α) : met acc (l ++ [k]) = addK (met acc l) k := by
  unfold met
  rw [List.foldl_append]
  rfl
namespace Rings
variable (R : Rings) {γ : Type} [DecidableEq γ] (look : Nat → γ)
theorem order_head : R.order[0]? = some R.first := by
  obtain ⟨r, hr⟩ := (bok_bfs (sc := R.sc) (cnt := R.cnt) (s := R.first) (R.one * R.two)).hd
  unfold order walkE nodes
  rw [hr]
  rfl
theorem order_len : R.order.length ≤ R.one * R.two := by
  have := bok_len (bok_bfs (sc := R.sc) (cnt := R.cnt) (s := R.first) (R.one * R.two)) R.hf R.sc_lt
  unfold order walkE nodes
  rw [List.length_map]
  exact this
/-- the shifts that the law keeps -/
def KeepT (t : Nat) : Prop := R.Keep look (R.dP R.first t) (R.dQ R.first t)
open Classical in
noncomputable def keepsOf (l : List Nat) : List (Int × Int) := (l.filter fun t => decide (R.KeepT look t)).map fun t => (R.dP R.first t, R.dQ R.first t)
open Classical in
theorem keeps_yes {l : List Nat} {t : Nat} (h : R.KeepT look t) : R.keepsOf look (l ++ [t]) = R.keepsOf look l ++ [(R.dP R.first t, R.dQ R.first t)] := by
  unfold keepsOf
  rw [List.filter_append, List.map_append, List.filter_cons, if_pos (decide_eq_true h)]
  rfl
open Classical in
theorem keeps_no {l : List Nat} {t : Nat} (h : ¬ R.KeepT look t) : R.keepsOf look (l ++ [t]) = R.keepsOf look l := by
  unfold keepsOf
  rw [List.filter_append, List.map_append, List.filter_cons, if_neg (by rw [decide_eq_false h]; decide)]
  simp
open Classical in
theorem keeps_len (l : List Nat) : (R.keepsOf look l).length ≤ l.length := by
  unfold keepsOf
  rw [List.length_map]
  exact List.length_filter_le _ _
/-- the places that the kept shifts lead to -/
def shL (x : Nat) (ks : List (Int × Int)) : List Nat := ks.map fun k => sh R.one R.two x k.1 k.2
open Classical in
theorem shL_mem {x y : Nat} (hx : x ∈ R.order) : y ∈ R.shL x (R.keepsOf look R.order) ↔ y ∈ R.order ∧ R.key look y = R.key look x := by
  unfold shL keepsOf
  rw [List.map_map]
  constructor
  · intro h
    obtain ⟨t, ht, e⟩ := List.mem_map.mp h
    obtain ⟨ht1, ht2⟩ := List.mem_filter.mp ht
    have ok := R.shift_ok (look := look) hx ht1 (of_decide_eq_true ht2)
    have e : sh R.one R.two x (R.dP R.first t) (R.dQ R.first t) = y := e
    rw [e] at ok
    exact ⟨ok.1, ((R.key_eq look hx ok.1).mpr ok.2).symm⟩
  · rintro ⟨hy, e⟩
    obtain ⟨t, ht, k, e2⟩ := R.shift_of (look := look) hx hy ((R.key_eq look hx hy).mp e.symm)
    exact List.mem_map.mpr ⟨t, List.mem_filter.mpr ⟨ht, decide_eq_true k⟩, e2⟩
noncomputable def accOf (i : Nat) : List Nat := met [] ((R.order.take i).map (R.key look))
theorem acc_zero : R.accOf look 0 = [] := rfl
theorem acc_succ {i x : Nat} (h : R.order[i]? = some x) : R.accOf look (i + 1) = addK (R.accOf look i) (R.key look x) := by
  unfold accOf
  rw [List.take_add_one, h, List.map_append]
  exact met_snoc _ _ _
theorem acc_len (i : Nat) : (R.accOf look i).length ≤ i := by
  unfold accOf
  have := met_len ((R.order.take i).map (R.key look)) []
  rw [List.length_map, List.length_take, List.length_nil] at this
  omega
/-- the number of a place behind the first i places -/
noncomputable def numAt (acc : List Nat) (y : Nat) : Option Nat := if R.key look y ∈ acc then some (acc.idxOf (R.key look y)) else none
theorem numAt_new {acc : List Nat} {x y : Nat} (hx : R.key look x ∉ acc) : R.numAt look (addK acc (R.key look x)) y = if R.key look y = R.key look x then some acc.length else R.numAt look acc y := by
  unfold numAt addK
  rw [if_neg hx]
  by_cases e : R.key look y = R.key look x
  · rw [if_pos e, if_pos (by rw [e]; simp), e, List.idxOf_append, if_neg hx]
    simp
  · rw [if_neg e]
    by_cases c : R.key look y ∈ acc
    · rw [if_pos c, if_pos (List.mem_append_left _ c), List.idxOf_append, if_pos c]
    · rw [if_neg c, if_neg (by simp [c, e])]
theorem numAt_old {acc : List Nat} {x y : Nat} (hx : R.key look x ∈ acc) : R.numAt look (addK acc (R.key look x)) y = R.numAt look acc y := by
  unfold addK
  rw [if_pos hx]
theorem nums_get {i x : Nat} (h : R.order[i]? = some x) : ∃ n, R.numAt look (R.accOf look R.order.length) x = some n ∧ (R.nums look)[i]? = some n := by
  have e : R.accOf look R.order.length = met [] (R.order.map (R.key look)) := by unfold accOf; rw [List.take_length]
  have m : R.key look x ∈ met [] (R.order.map (R.key look)) := (mem_met _).mpr (.inr (List.mem_map_of_mem (List.mem_of_getElem? h)))
  refine ⟨(met [] (R.order.map (R.key look))).idxOf (R.key look x), by unfold numAt; rw [e, if_pos m], ?_⟩
  unfold nums
  exact numbered_get (by rw [List.getElem?_map, h]; rfl)
theorem nums_len : (R.nums look).length = R.order.length := by unfold nums; rw [numbered_length, List.length_map]
end Rings
end Ck
/-! plain mathematics of k13, part 7: the machine whose places are hidden behind codes -/
namespace Ck
/-- one of the rows: in range, and as the places say -/
def RowOk (outs bits cnt : Nat) (codes : List Nat) (look : Nat → List Nat) (sc : Nat → Nat → Nat) (j : Nat) (p : Nat × Nat) : Prop :=
  p.1 < 2 ^ outs ∧ p.2 < 2 ^ bits ∧ ∀ k n c, codes[k]? = some c → n < cnt → j = c * cnt + n → (look k)[n]? = some p.1 ∧ codes[sc k n]? = some p.2
structure Wd where
  ins : Nat
  outs : Nat
  bits : Nat
  i4 : ins ≤ 4
  o24 : outs ≤ 24
  b8 : bits ≤ 8
  joint : bits + 2 * ins ≤ 12
  R : Rings
  cnt : R.cnt = 2 ^ ins
  codes : List Nat
  clen : codes.length = R.one * R.two
  nd : codes.Nodup
  lt : ∀ c ∈ codes, c < 2 ^ bits
  look : Nat → List Nat
  ll : ∀ k, k < codes.length → (look k).length = 2 ^ ins ∧ ∀ o ∈ look k, o < 2 ^ outs
  rows : List (Nat × Nat)
  rl : rows.length = 2 ^ bits * 2 ^ ins
  rok : ∀ j p, rows[j]? = some p → RowOk outs bits (2 ^ ins) codes look R.sc j p
namespace Wd
variable (W : Wd)
def code (k : Nat) : Nat := W.codes.getD k 0
def row (s n : Nat) : Nat × Nat := W.rows.getD (s * 2 ^ W.ins + n) (0, 0)
def sc (s n : Nat) : Nat := (W.row s n).2
def N : Nat := W.R.one * W.R.two
def start : Nat := W.code W.R.first
def ents : List Ent := walkE W.sc (2 ^ W.ins) W.start (2 ^ W.bits)
def ordC : List Nat := nodes W.ents
theorem c0 : 0 < 2 ^ W.ins := Nat.two_pow_pos _
theorem b256 : 2 ^ W.bits ≤ 256 := Nat.pow_le_pow_right (by decide) W.b8
theorem c16 : 2 ^ W.ins ≤ 16 := Nat.pow_le_pow_right (by decide) W.i4
theorem NN : W.N ≤ 2 ^ W.bits := by
  unfold N
  rw [← W.clen]
  exact nodup_lt _ _ W.nd W.lt
theorem code_get {k : Nat} (h : k < W.N) : W.codes[k]? = some (W.code k) := by
  unfold code
  have h : k < W.codes.length := by rw [W.clen]; exact h
  rw [List.getD_eq_getElem?_getD, List.getElem?_eq_getElem h]
  rfl
theorem code_lt {k : Nat} (h : k < W.N) : W.code k < 2 ^ W.bits := W.lt _ (List.mem_of_getElem? (W.code_get h))
theorem code_inj {a b : Nat} (ha : a < W.N) (hb : b < W.N) (h : W.code a = W.code b) : a = b := by
  have e1 := W.code_get ha
  have e2 := W.code_get hb
  rw [← h] at e2
  exact (List.getElem?_inj (by rw [W.clen]; exact ha) W.nd).mp (e1.trans e2.symm)
theorem row_lt {s n : Nat} (hs : s < 2 ^ W.bits) (hn : n < 2 ^ W.ins) : s * 2 ^ W.ins + n < W.rows.length := by
  rw [W.rl]
  have : (s + 1) * 2 ^ W.ins ≤ 2 ^ W.bits * 2 ^ W.ins := Nat.mul_le_mul_right _ hs
  rw [Nat.succ_mul] at this
  omega
theorem row_get {s n : Nat} (hs : s < 2 ^ W.bits) (hn : n < 2 ^ W.ins) : W.rows[s * 2 ^ W.ins + n]? = some (W.row s n) := by
  unfold row
  rw [List.getD_eq_getElem?_getD, List.getElem?_eq_getElem (W.row_lt hs hn)]
  rfl
theorem row_ok {s n : Nat} (hs : s < 2 ^ W.bits) (hn : n < 2 ^ W.ins) : (W.row s n).1 < 2 ^ W.outs ∧ W.sc s n < 2 ^ W.bits := by
  obtain ⟨h1, h2, _⟩ := W.rok _ _ (W.row_get hs hn)
  exact ⟨h1, h2⟩
theorem sc_lt (u n : Nat) (hu : u < 2 ^ W.bits) (hn : n < 2 ^ W.ins) : W.sc u n < 2 ^ W.bits := (W.row_ok hu hn).2
theorem link {k n : Nat} (hk : k < W.N) (hn : n < 2 ^ W.ins) : (W.look k)[n]? = some (W.row (W.code k) n).1 ∧ W.sc (W.code k) n = W.code (W.R.sc k n) := by
  obtain ⟨_, _, h⟩ := W.rok _ _ (W.row_get (W.code_lt hk) hn)
  obtain ⟨h1, h2⟩ := h k n _ (W.code_get hk) hn rfl
  refine ⟨h1, ?_⟩
  have := W.code_get (k := W.R.sc k n) (sh_lt W.R.h1 W.R.h2 _ _ _)
  rw [this] at h2
  exact (Option.some.inj h2).symm
theorem start_lt : W.start < 2 ^ W.bits := W.code_lt W.R.hf
/-- the machine's own walk is that of the places, under their codes -/
theorem ents_eq : W.ents = (walkE W.R.sc W.R.cnt W.R.first W.N).map (reEnt W.code) := by
  have m := bfs_map (sc := W.R.sc) (sc' := W.sc) (cnt := 2 ^ W.ins) (s := W.R.first) (N := W.N) (f := W.code) W.R.hf (fun u n hu hn => sh_lt W.R.h1 W.R.h2 _ _ _) (fun a b ha hb h => W.code_inj ha hb h) (fun u n hu hn => (W.link hu hn).2) (2 ^ W.bits)
  unfold ents walkE
  show bfs W.sc (2 ^ W.ins) (W.code W.R.first) (2 ^ W.bits) = _
  rw [m, W.cnt]
  congr 1
  have hl : (bfs W.R.sc (2 ^ W.ins) W.R.first W.N).length ≤ W.N := bok_len (bok_bfs W.N) W.R.hf (fun u n hu hn => sh_lt W.R.h1 W.R.h2 _ _ _)
  have := bfs_stay hl (2 ^ W.bits - W.N)
  rw [show W.N + (2 ^ W.bits - W.N) = 2 ^ W.bits by have := W.NN; omega] at this
  exact this
theorem ordC_eq : W.ordC = W.R.order.map W.code := by
  unfold ordC Rings.order
  rw [W.ents_eq]
  unfold nodes
  rw [List.map_map, List.map_map]
  rfl
theorem bok : Bok W.sc (2 ^ W.ins) W.start W.ents := bok_bfs _
theorem ents_len : W.ents.length ≤ 2 ^ W.bits := bok_len W.bok W.start_lt W.sc_lt
theorem ord_len : W.ordC.length = W.R.order.length := by rw [W.ordC_eq, List.length_map]
theorem ent_lt {i : Nat} {e : Ent} (h : W.ents[i]? = some e) : e.node < 2 ^ W.bits := bok_lt W.bok W.start_lt W.sc_lt i e h
theorem ord_lt {c : Nat} (h : c ∈ W.ordC) : c < 2 ^ W.bits := by
  obtain ⟨e, he, rfl⟩ := List.mem_map.mp h
  obtain ⟨i, hi⟩ := List.getElem?_of_mem he
  exact W.ent_lt hi
theorem order_pos : 0 < W.R.order.length := (List.getElem?_eq_some_iff.mp W.R.order_head).1
theorem order_N {x : Nat} (h : x ∈ W.R.order) : x < W.N := W.R.order_lt h
/-- the i-th state of the walk -/
theorem ord_at {i : Nat} (h : i < W.R.order.length) : W.ordC[i]? = some (W.code (W.R.ord i)) := by
  rw [W.ordC_eq, List.getElem?_map, W.R.ord_get h]
  rfl
/-- what it shows, all numbers in a row -/
theorem look_eq {k : Nat} (h : k < W.N) : W.look k = (List.range (2 ^ W.ins)).map fun n => (W.row (W.code k) n).1 := by
  refine List.ext_getElem? fun n => ?_
  rw [List.getElem?_map]
  by_cases c : n < 2 ^ W.ins
  · rw [(W.link h c).1, List.getElem?_range c]
    rfl
  · rw [List.getElem?_eq_none (by rw [(W.ll k (by rw [W.clen]; exact h)).1]; omega), List.getElem?_eq_none (by simp; omega)]
    rfl
end Wd
end Ck
namespace Ck
open PySem L2
def top (i : Nat) : Stmt := PySem.Challenge.pw_chipmill_k13_classes_of_many_states.main.body.getD i (.Pass ⟨0, 0, 0, 0⟩)
/-- the built-in names are still the built-ins' -/
structure Bl (mg : Str → Option Value) : Prop where
  len : mg "len" = none
  range : mg "range" = none
  sum : mg "sum" = none
  int : mg "int" = none
  abs : mg "abs" = none
  sorted : mg "sorted" = none
  isinstance : mg "isinstance" = none
  list : mg "list" = none
  bool : mg "bool" = none
  str : mg "str" = none
  tuple : mg "tuple" = none
  max : mg "max" = none
  min : mg "min" = none
  zip : mg "zip" = none
  enumerate : mg "enumerate" = none
/-- a def at its place, with its promise -/
structure Fn (P : Program) (w : World) (K : PySem.W.Frag) (mg : Str → Option Value) (base : Heap) (k : Nat) (name : Str) (ps : List Str) (sp : Sp) where
  f : Addr
  fd : FuncData
  G : FnOk P w K mg base CX0 k f fd ps sp
  m : mg name = some (.ref f)
  kp : PySem.W.keepIn K (.ref f) = true
  b : Binds K fd ps []
/-! ### heaps -/
theorem same_new {H : Hp} {p : Addr} (h : H p = none) (o : HO) : Same H (upd H p o) := fun b u q => by rw [upd_ne (ne_of_none q h)]; exact q
theorem same_upd {H H' : Hp} {p : Addr} {o : HO} (e : Same H H') (h : H p = none) : Same H (upd H' p o) := fun a u ha => by
  rw [upd_ne (ne_of_none ha h)]
  exact e a u ha
theorem Same.tup {K : PySem.W.Frag} {H H' : Hp} {a : Addr} {xs : List V} (e : Same H H') (h : SqT K H a xs) : SqT K H' a xs := by
  rcases h with (h | ⟨o, h⟩) | h
  · exact .inl (.inl (e _ _ h))
  · exact .inl (.inr ⟨o, e _ _ h⟩)
  · exact .inr h
theorem sz {n : Nat} (h : n ≤ 16000000) : n ≤ sizeLine := Nat.le_trans h (by decide)
theorem szr {n : Nat} (h : Nat.ble n 16000000 = true) : n ≤ sizeLine := sz (Nat.le_of_ble_eq_true h)
theorem szl {n : Nat} (h : n ≤ 16000000) : n < sizeLine := Nat.lt_of_le_of_lt h (by decide)
theorem ite_split {c : Bool} {A B : Prop} (h1 : c = true → A) (h2 : c = false → B) : if c = true then A else B := by
  cases c with
  | true => rw [if_pos rfl]; exact h1 rfl
  | false => rw [if_neg Bool.false_ne_true]; exact h2 rfl
mutual
theorem dp_same {K : PySem.W.Frag} {H H' : Hp} (e : Same H H') : ∀ (d : PyData) (v : V), Dp K H v d → Dp K H' v d
  | .none, _, h => by cases h; exact .non
  | .bool b, _, h => by cases h; exact .bl b
  | .int i, _, h => by cases h; exact .int i
  | .str x, _, h => by cases h; exact .str x
  | .list ds, _, h => by
    cases h with
    | lst a b => exact .lst (e.seq a) (dps_same e ds _ b)
  | .tuple ds, _, h => by
    cases h with
    | tup a b => exact .tup (Same.tup e a) (dps_same e ds _ b)
  | .dict _, _, h => by cases h
theorem dps_same {K : PySem.W.Frag} {H H' : Hp} (e : Same H H') : ∀ (ds : List PyData) (vs : List V), DpAll K H vs ds → DpAll K H' vs ds
  | [], _, h => by cases h; exact .nil
  | d :: ds, _, h => by
    cases h with
    | cons a b => exact .cons (dp_same e d _ a) (dps_same e ds _ b)
end
theorem dps_get {K : PySem.W.Frag} {H : Hp} : ∀ {vs : List V} {ds : List PyData} {i : Nat} {v : V}, DpAll K H vs ds → vs[i]? = some v → ∃ d, ds[i]? = some d ∧ Dp K H v d
  | _, _, _, _, .nil, h => by simp at h
  | _, _, 0, v, .cons a _, h => by
    simp at h
    subst h
    exact ⟨_, rfl, a⟩
  | _, _, i + 1, v, .cons _ t, h => by
    obtain ⟨d, h1, h2⟩ := dps_get (i := i) (v := v) t (by simpa using h)
    exact ⟨d, by simpa using h1, h2⟩
theorem dps_get' {K : PySem.W.Frag} {H : Hp} : ∀ {vs : List V} {ds : List PyData} {i : Nat} {d : PyData}, DpAll K H vs ds → ds[i]? = some d → ∃ v, vs[i]? = some v ∧ Dp K H v d
  | _, _, _, _, .nil, h => by simp at h
  | _, _, 0, d, .cons a _, h => by
    simp at h
    subst h
    exact ⟨_, rfl, a⟩
  | _, _, i + 1, d, .cons _ t, h => by
    obtain ⟨v, h1, h2⟩ := dps_get' (i := i) (d := d) t (by simpa using h)
    exact ⟨v, by simpa using h1, h2⟩
theorem dps_snoc {K : PySem.W.Frag} {H : Hp} : ∀ {vs : List V} {ds : List PyData} {v : V} {d : PyData}, DpAll K H vs ds → Dp K H v d → DpAll K H (vs ++ [v]) (ds ++ [d])
  | _, _, _, _, .nil, h => .cons h .nil
  | _, _, _, _, .cons a t, h => .cons a (dps_snoc t h)
theorem dps_app {K : PySem.W.Frag} {H : Hp} : ∀ {vs ws : List V} {ds es : List PyData}, DpAll K H vs ds → DpAll K H ws es → DpAll K H (vs ++ ws) (ds ++ es)
  | _, _, _, _, .nil, h => h
  | _, _, _, _, .cons a t, h => .cons a (dps_app t h)
theorem dps_ints {K : PySem.W.Frag} {H : Hp} : ∀ ns : List Int, DpAll K H (ns.map V.int) (ns.map PyData.int)
  | [] => .nil
  | n :: ns => .cons (.int n) (dps_ints ns)
end Ck
/-! what the readings are, as equations -/
namespace Ck
open PySem L2
section
variable {σ : L2.St} {H : Hp} {Q : VK} {R : Bool → Hp → Prop} {S : List V → Hp → Prop} {ta tb tc : TE} {t u : TT} {D : Ends} {v x y : V} {i j : Int} {b : Bool} {ar : TA} {tu tv : TS} {g : Int → Int → V} {g1 : Int → V} {C : Int → Int → Prop} {r : R2}
theorem w_var0 : tVar 0 (some v :: σ) H Q = Q v H := by
  unfold tVar
  simp
theorem w_varS {n : Nat} {a : Option V} : tVar (n + 1) (a :: σ) H Q = tVar n σ H Q := by
  unfold tVar
  simp
theorem w_c : tC v σ H Q = Q v H := rfl
theorem w_op : tOp r ta tb σ H Q = ta σ H fun x H1 => tb σ H1 fun y H2 => r x y H2 Q := rfl
theorem w_un {r1 : V → Hp → VK → Prop} : tUn r1 ta σ H Q = ta σ H fun x H1 => r1 x H1 Q := rfl
theorem w_i0 : rI0 g (.int i) (.int j) H Q = Q (g i j) H := by
  unfold rI0
  simp
theorem w_i : rI C g (.int i) (.int j) H Q = (C i j ∧ Q (g i j) H) := by
  unfold rI
  simp
theorem w_u : rU g1 (.int i) H Q = Q (g1 i) H := by
  unfold rU
  simp
theorem w_test : tTest ta σ H R = ta σ H fun x H1 => ∃ k, x = .bl k ∧ R k H1 := rfl
theorem w_B : tB ta σ H R = ta σ H fun x H1 => ∃ k, x = .bl k ∧ R k H1 := rfl
theorem w_bl : (∃ k, V.bl b = .bl k ∧ R k H) = R b H := by simp
theorem w_and : tAnd t u σ H R = t σ H fun c H1 => if c = true then u σ H1 R else R false H1 := rfl
theorem w_or : tOr t u σ H R = t σ H fun c H1 => if c = true then R true H1 else u σ H1 R := rfl
theorem w_not : tNot t σ H R = t σ H fun c H1 => R (!c) H1 := rfl
theorem w_andV : tAndV ta tb σ H Q = ta σ H fun x H1 => ∃ c, x = .bl c ∧ if c = true then tb σ H1 Q else Q (.bl false) H1 := rfl
theorem w_orV : tOrV ta tb σ H Q = ta σ H fun x H1 => ∃ c, x = .bl c ∧ if c = true then Q (.bl true) H1 else tb σ H1 Q := rfl
theorem w_max2 {i j : Int} {F : Int → Int → Prop} : (∃ i' j', (i = i' ∧ j = j') ∧ F i' j') = F i j := propext ⟨fun ⟨_, _, ⟨e1, e2⟩, h⟩ => by subst e1 e2; exact h, fun h => ⟨i, j, ⟨rfl, rfl⟩, h⟩⟩
theorem w_notV : tNotV ta σ H Q = ta σ H fun x H1 => ∃ c, x = .bl c ∧ Q (.bl (!c)) H1 := rfl
theorem w_blV {F : Bool → Prop} : (∃ k, V.bl b = .bl k ∧ F k) = F b := by simp
theorem w_eqI : rEq (.int i) (.int j) H Q = Q (.bl (decide (i = j))) H := by
  have e : decide (V.int i = V.int j) = decide (i = j) := by
    by_cases h : i = j
    · subst h; simp
    · simp [h]
  unfold rEq
  rw [e]
  simp [scal]
theorem w_neI : rNe (.int i) (.int j) H Q = Q (.bl (!decide (i = j))) H := by
  have e : decide (V.int i = V.int j) = decide (i = j) := by
    by_cases h : i = j
    · subst h; simp
    · simp [h]
  unfold rNe
  rw [e]
  simp [scal]
theorem w_neB {b c : Bool} : rNe (.bl b) (.bl c) H Q = Q (.bl (b != c)) H := by
  have e : (!decide (V.bl b = V.bl c)) = (b != c) := by cases b <;> cases c <;> decide
  unfold rNe
  rw [e]
  simp [scal]
theorem w_eqB {b c : Bool} : rEq (.bl b) (.bl c) H Q = Q (.bl (b == c)) H := by
  have e : decide (V.bl b = V.bl c) = (b == c) := by cases b <;> cases c <;> decide
  unfold rEq
  rw [e]
  simp [scal]
theorem w_nil : tNil σ H S = S [] H := rfl
theorem w_cons : tCons ta ar σ H S = ta σ H fun x H1 => ar σ H1 fun xs H2 => S (x :: xs) H2 := rfl
theorem w_tup : tTup ar σ H Q = ar σ H fun xs H1 => xs.length ≤ sizeLine ∧ ∀ p, H1 p = none → Q (.ref p) (upd H1 p (.tup xs)) := rfl
theorem w_lst : tLst ar σ H Q = ar σ H fun xs H1 => xs.length ≤ sizeLine ∧ ∀ p, H1 p = none → Q (.ref p) (upd H1 p (.lst xs)) := rfl
theorem w_cb {rr : List V → Hp → VK → Prop} : tCB rr ar σ H Q = ar σ H fun vs H1 => rr vs H1 Q := rfl
theorem w_call {sp : Sp} {dvs : List V} {E : XK} : tCall sp dvs E ar σ H Q = ar σ H fun vs H1 => sp (vs ++ dvs) H1 Q E := rfl
theorem w_asg {G : TG} : tAsg ta G D σ H = ta σ H fun x H1 => G x σ H1 D.nx := rfl
theorem w_name {n : Nat} {F : L2.St → Hp → Prop} : gName n v σ H F = F (σ.set n (some v)) H := rfl
theorem w_ret : tRet ta D σ H = ta σ H D.rt := rfl
theorem w_drop : tDrop ta D σ H = ta σ H fun _ H1 => D.nx σ H1 := rfl
theorem w_next : tNext D σ H = D.nx σ H := rfl
theorem w_ifs : tIfS t tu tv D σ H = t σ H fun b H1 => if b = true then tu D σ H1 else tv D σ H1 := rfl
theorem w_ifx : tIf t ta tb σ H Q = t σ H fun c H1 => if c = true then ta σ H1 Q else tb σ H1 Q := rfl
theorem w_seq : tSeq tu tv D σ H = tu { D with nx := tv D } σ H := rfl
theorem w_set0 {a c : Option V} : (a :: σ).set 0 c = c :: σ := rfl
theorem w_setS {n : Nat} {a c : Option V} : (a :: σ).set (n + 1) c = a :: σ.set n c := rfl
/-- abs, int of an int; the length of a list known -/
theorem w_abs : (∃ k, [V.int i] = [V.int k] ∧ Q (.int (if k < 0 then -k else k)) H) = Q (.int (if i < 0 then -i else i)) H := by simp
theorem w_int1 : ((∃ k, [V.int i] = [V.int k] ∧ Q (.int k) H) ∨ ∃ k, [V.int i] = [V.bl k] ∧ Q (.int (if k = true then 1 else 0)) H) = Q (.int i) H := by simp
theorem w_intb : ((∃ k, [V.bl b] = [V.int k] ∧ Q (.int k) H) ∨ ∃ k, [V.bl b] = [V.bl k] ∧ Q (.int (if k = true then 1 else 0)) H) = Q (.int (if b = true then 1 else 0)) H := by simp
theorem w_bm {K : PySem.W.Frag} {T : String} {rr : V → List V → Hp → VK → Prop} : tBM K T rr ta ar σ H Q = ta σ H fun x H1 => tyV K T x H1 ∧ ar σ H1 fun xs H2 => rr x xs H2 Q := rfl
theorem w_sub {to ti : TE} {tt : TSet} {F : L2.St → Hp → Prop} : gSub to ti tt v σ H F = to σ H fun o H1 => ti σ H1 fun i H2 => tt o i v H2 fun H3 => F σ H3 := rfl
theorem w_sl {rr : V → Option Int → Option Int → Hp → VK → Prop} {tl th : TO} : tSl rr ta tl th σ H Q = ta σ H fun x H1 => tl σ H1 fun l H2 => th σ H2 fun u H3 => rr x l u H3 Q := rfl
end
/-! what the rules about lists ask, once the list is known -/
section
variable {K : PySem.W.Frag} {H : Hp} {Q : VK} {p : Addr} {xs : List V}
theorem k_len (h : SqL K H p xs) (q : Q (.int (xs.length : Nat)) H) : ∃ p' ys, [V.ref p] = [V.ref p'] ∧ (SqL K H p' ys ∨ SqT K H p' ys) ∧ Q (.int (ys.length : Nat)) H := ⟨p, xs, rfl, .inl h, q⟩
theorem k_lenT (h : SqT K H p xs) (q : Q (.int (xs.length : Nat)) H) : ∃ p' ys, [V.ref p] = [V.ref p'] ∧ (SqL K H p' ys ∨ SqT K H p' ys) ∧ Q (.int (ys.length : Nat)) H := ⟨p, xs, rfl, .inr h, q⟩
theorem k_ix {i : Int} {v : V} (h : SqL K H p xs) (a : atI xs i = some v) (q : Q v H) : rIxL K (.ref p) (.int i) H Q := ⟨p, xs, i, v, rfl, rfl, h, a, q⟩
theorem k_ixT {i : Int} {v : V} (h : SqT K H p xs) (a : atI xs i = some v) (q : Q v H) : rIxT K (.ref p) (.int i) H Q := ⟨p, xs, i, v, rfl, rfl, h, a, q⟩
theorem k_tyL (h : H p = some (.lst xs)) : tyV K "list" (.ref p) H := .inl ⟨rfl, _, SqL.of h⟩
theorem k_app {y : V} (h : H p = some (.lst xs)) (hl : xs.length ≤ 16000000) (q : Q .non (upd H p (.lst (xs ++ [y])))) : rAppend (.ref p) [y] H Q := ⟨p, xs, y, rfl, rfl, h, szl hl, q⟩
theorem k_set {i : Int} {n : Nat} {v : V} {F : Hp → Prop} (h : H p = some (.lst xs)) (hi : ixN xs.length i = some n) (q : F (upd H p (.lst (xs.set n v)))) : rSetL (.ref p) (.int i) v H F := ⟨p, xs, i, n, rfl, rfl, h, hi, q⟩
end
end Ck
namespace Ck
open PySem L2
theorem go_seq {tu tv : TS} {D : Ends} {σ : L2.St} {H : Hp} (h : tu { D with nx := tv D } σ H) : tSeq tu tv D σ H := h
end Ck

namespace L2
open PySem PySem.Spec PyProof.Rows
section
variable {X : Cx}
/-- int of an int, of a truth value; len of a list, of a tuple: one way each -/
def rIntI : List V → Hp → VK → Prop := fun xs H Q => ∃ i, xs = [.int i] ∧ Q (.int i) H
def rIntB : List V → Hp → VK → Prop := fun xs H Q => ∃ b, xs = [.bl b] ∧ Q (.int (if b = true then 1 else 0)) H
def rAbsI : List V → Hp → VK → Prop := fun xs H Q => ∃ i, xs = [.int i] ∧ Q (.int (if i < 0 then -i else i)) H
def rLenL (K : PySem.W.Frag) : List V → Hp → VK → Prop := fun xs H Q => ∃ p ys, xs = [.ref p] ∧ SqL K H p ys ∧ Q (.int (ys.length : Nat)) H
def rLenTu (K : PySem.W.Frag) : List V → Hp → VK → Prop := fun xs H Q => ∃ p ys, xs = [.ref p] ∧ SqT K H p ys ∧ Q (.int (ys.length : Nat)) H
def rListL (K : PySem.W.Frag) : List V → Hp → VK → Prop := fun xs H Q => ∃ p ys, xs = [.ref p] ∧ SqL K H p ys ∧ ∀ l, H l = none → Q (.ref l) (upd H l (.lst ys))
theorem callR_imp {f : Value} {r r' : List V → Hp → VK → Prop} (h : CallR X f r) (k : ∀ xs H Q, r' xs H Q → r xs H Q) : CallR X f r' := fun pins s σ H xs us Q I rx q => h pins s σ H xs us Q I rx (k _ _ _ q)
theorem call_intI : CallR X (.type "int") rIntI := callR_imp call_int1 fun _ _ _ h => .inl h
theorem call_intB : CallR X (.type "int") rIntB := callR_imp call_int1 fun _ _ _ h => .inr h
theorem call_absI : CallR X (.builtin "abs") rAbsI := callR_imp call_abs fun _ _ _ h => h
theorem call_lenL : CallR X (.builtin "len") (rLenL X.K) := callR_imp call_len_seq fun _ _ _ ⟨p, ys, a, b, c⟩ => ⟨p, ys, a, .inl b, c⟩
theorem call_lenT : CallR X (.builtin "len") (rLenTu X.K) := callR_imp call_len_seq fun _ _ _ ⟨p, ys, a, b, c⟩ => ⟨p, ys, a, .inr b, c⟩
theorem call_listL : CallR X (.type "list") (rListL X.K) := callR_imp call_list_of fun _ _ _ ⟨p, ys, a, b, c⟩ => ⟨p, ys, a, .inl b, c⟩
end
end L2
namespace Ck
open PySem L2
section
variable {K : PySem.W.Frag} {H : Hp} {Q : VK} {p : Addr} {xs : List V} {i : Int} {b : Bool}
theorem w_intI : rIntI [V.int i] H Q = Q (.int i) H := by simp [rIntI]
theorem w_intB : rIntB [V.bl b] H Q = Q (.int (if b = true then 1 else 0)) H := by simp [rIntB]
theorem w_absI : rAbsI [V.int i] H Q = Q (.int (if i < 0 then -i else i)) H := by simp [rAbsI]
theorem g_len (h : SqL K H p xs) (q : Q (.int (xs.length : Nat)) H) : rLenL K [V.ref p] H Q := ⟨p, xs, rfl, h, q⟩
theorem g_lenT (h : SqT K H p xs) (q : Q (.int (xs.length : Nat)) H) : rLenTu K [V.ref p] H Q := ⟨p, xs, rfl, h, q⟩
theorem g_list (h : SqL K H p xs) (q : ∀ l, H l = none → Q (.ref l) (upd H l (.lst xs))) : rListL K [V.ref p] H Q := ⟨p, xs, rfl, h, q⟩
theorem cx_K {CX : CXT} {P : Program} {w : World} {mg : Str → Option Value} {base : Heap} {N : List Str} {q : Str} {sc : Scope} {f : Addr} {cdv : Value} {A : Around} {outer : List Env} {s : Shared} {E : XK} : (cxOf CX P w K mg base N q sc f cdv A outer s H E).K = K := rfl
end
end Ck

namespace L2
open PySem PySem.Spec PyProof.Rows
section
variable {X : Cx} {K : PySem.W.Frag}
/-! ### the rules that name the written part, with it as a letter (so they serve within a comprehension's block) -/
def rLenS (K : PySem.W.Frag) : List V → Hp → VK → Prop := fun xs H Q => ∃ p ys, xs = [.ref p] ∧ (SqL K H p ys ∨ SqT K H p ys) ∧ Q (.int (ys.length : Nat)) H
theorem callk_lenS (h : X.K = K) : CallR X (.builtin "len") (rLenS K) := by rw [← h]; exact callR_imp call_len_seq fun _ _ _ h => h
theorem ixk_seq (h : X.K = K) : IxR X (rIx K) := by rw [← h]; exact ix_seq
theorem callk_isi (h : X.K = K) : CallR X (.builtin "isinstance") (rIsi K) := by rw [← h]; exact call_isi
theorem pgk_tup (h : X.K = K) {pos : Pos} {es : List Expr} {k : Nat} {t : TGs} {n : Nat} (hc : X.calm = true) (hg : PGs X es t) (hn : (assignEach es X.env).length = n := by rfl) (hst : (assignEach es X.env).findIdx? (·.1) = none := by rfl) : PG X (.Tuple es k pos) (gTup K n t) := by
  rw [← h]
  exact pg_tup hc hg hn hst
theorem pgk_unl (h : X.K = K) {pos : Pos} {es : List Expr} {k : Nat} {t : TGs} {n : Nat} (hc : X.calm = true) (hg : PGs X es t) (hn : (assignEach es X.env).length = n := by rfl) (hst : (assignEach es X.env).findIdx? (·.1) = none := by rfl) : PG X (.Tuple es k pos) (gUnl K n t) := by
  rw [← h]
  exact pg_unl hc hg hn hst
theorem ixk_list (h : X.K = K) : IxR X (rIxL K) := by rw [← h]; exact ix_list
theorem ixk_tup (h : X.K = K) : IxR X (rIxT K) := by rw [← h]; exact ix_tup
theorem callk_lenL (h : X.K = K) : CallR X (.builtin "len") (rLenL K) := by rw [← h]; exact call_lenL
theorem callk_lenT (h : X.K = K) : CallR X (.builtin "len") (rLenTu K) := by rw [← h]; exact call_lenT
theorem callk_listL (h : X.K = K) : CallR X (.type "list") (rListL K) := by rw [← h]; exact call_listL
theorem crk_sum (h : X.K = K) (hc : X.calm = true) : CallR X (.builtin "sum") (rSum K) := by rw [← h]; exact cr_sum hc
theorem crk_sortedD (h : X.K = K) (hu : X.A.units + 64 < cLine) : CallR X (.builtin "sorted") (rSortedD K) := by rw [← h]; exact cr_sortedD hu
theorem opk_ltD (h : X.K = K) (hu : X.A.units + 64 < cLine) : OpR X (compareOp .Lt) (rLtD K) := by rw [← h]; exact op_ltD hu
theorem opk_gtD (h : X.K = K) (hu : X.A.units + 64 < cLine) : OpR X (compareOp .Gt) (rGtD K) := by rw [← h]; exact op_gtD hu
theorem pik_list (h : X.K = K) {tg l : Expr} {tl : TE} (hl : PE X l tl) : PI X tg l (iList K tl) := by rw [← h]; exact pi_list hl
theorem pik_tup (h : X.K = K) {tg l : Expr} {tl : TE} (hl : PE X l tl) : PI X tg l (iTup K tl) := by rw [← h]; exact pi_tup hl
def tTru (K : PySem.W.Frag) (ta : TE) : TT := fun σ H Q => ta σ H fun x H' => ∃ k, TruV K x H' k ∧ Q k H'
theorem ptk_truth (h : X.K = K) {a : Expr} {ta : TE} (ha : PE X a ta) (he : ∀ whole, isTrue a X.env whole = (do let v ← whole; standAt a.pos; holding [v] (truthy v))) : PT X a (tTru K ta) := by rw [← h]; exact pt_truth ha he
end
end L2
/-! loops and comprehensions: what follows once the walked thing is known -/
namespace Ck
open PySem L2
/-- all but the object at a is as it was -/
def SameX (a : Addr) (H H' : Hp) : Prop := ∀ b o, b ≠ a → H b = some o → H' b = some o
theorem SameX.refl (a : Addr) (H : Hp) : SameX a H H := fun _ _ _ h => h
theorem SameX.trans {a : Addr} {H H1 H2 : Hp} (h : SameX a H H1) (k : SameX a H1 H2) : SameX a H H2 := fun b o n e => k b o n (h b o n e)
theorem SameX.of {a : Addr} {H H1 : Hp} (h : Same H H1) : SameX a H H1 := fun b o _ e => h b o e
theorem SameX.upd (a : Addr) (H : Hp) (o : HO) : SameX a H (upd H a o) := fun b u n e => by rw [upd_ne n]; exact e
/-- an object that H does not know may change -/
theorem SameX.put {a p : Addr} {H H1 : Hp} {o : HO} (h : SameX a H H1) (hp : H p = none) : SameX a H (L2.upd H1 p o) := fun b u n e => by
  rw [upd_ne (ne_of_none e hp)]
  exact h b u n e
theorem SameX.new {a p : Addr} {H H1 : Hp} {o : HO} (h : SameX a H H1) (hp : H1 p = none) : SameX a H (L2.upd H1 p o) := fun b u n e => by
  have e1 := h b u n e
  rw [upd_ne (ne_of_none e1 hp)]
  exact e1
theorem SameX.here {a : Addr} {H H1 : Hp} {o : HO} (h : SameX a H H1) : SameX a H (L2.upd H1 a o) := fun b u n e => by
  rw [upd_ne n]
  exact h b u n e
theorem SameX.free {a p : Addr} {H H1 : Hp} (h : SameX a H H1) (n : p ≠ a) (hp : H1 p = none) : H p = none := by
  cases e : H p with
  | none => rfl
  | some o =>
    rw [h p o n e] at hp
    cases hp
theorem upd_none {H : Hp} {p q : Addr} {o : HO} (h : upd H p o q = none) : q ≠ p ∧ H q = none := by
  by_cases e : q = p
  · rw [e, upd_same] at h
    cases h
  · rw [upd_ne e] at h
    exact ⟨e, h⟩
theorem perm_erase {α : Type} : ∀ {l : List α} {j : Nat} {y : α}, l[j]? = some y → ([y] ++ l.eraseIdx j).Perm l
  | [], _, _, h => by simp at h
  | a :: l, 0, y, h => by
    simp at h
    subst h
    exact .refl _
  | a :: l, j + 1, y, h => by
    have ih := perm_erase (l := l) (j := j) (y := y) (by simpa using h)
    show (y :: a :: l.eraseIdx j).Perm (a :: l)
    exact (List.Perm.swap a y _).trans (ih.cons a)

theorem at_int {ns : List Int} {k : Int} (h0 : 0 ≤ k) (h : k < (ns.length : Int)) : ∃ v : Int, atI (ns.map V.int) k = some (.int v) := by
  have hk : k.toNat < ns.length := by omega
  have ek : k = ((k.toNat : Nat) : Int) := by omega
  have q : atI (ns.map V.int) ((k.toNat : Nat) : Int) = some (.int ns[k.toNat]) := atI_nat (by rw [List.getElem?_map, List.getElem?_eq_getElem hk] <;> rfl)
  rw [← ek] at q
  exact ⟨_, q⟩
theorem at_v {xs : List V} {k : Int} (h0 : 0 ≤ k) (h : k < (xs.length : Int)) : ∃ v : V, atI xs k = some v ∧ xs[k.toNat]? = some v := by
  have hk : k.toNat < xs.length := by omega
  have ek : k = ((k.toNat : Nat) : Int) := by omega
  have q : atI xs ((k.toNat : Nat) : Int) = some xs[k.toNat] := atI_nat (List.getElem?_eq_getElem hk)
  rw [← ek] at q
  exact ⟨_, q, List.getElem?_eq_getElem hk⟩
theorem opq {α : Type} (f : α) : ∃ g, g = f := ⟨f, rfl⟩
/-! ### for -/
section
variable {K : PySem.W.Frag} {σ : L2.St} {H : Hp} {g : TG} {tu : TS} {D : Ends} {ar : TA} {tl : TE} {a : Addr} {xs : List V}
def fR1 (g : TG) (tu : TS) (D : Ends) (σ : L2.St) (vs : List V) (H1 : Hp) : Prop := ∃ j : Int, vs = [.int j] ∧ -(2 ^ 62) ≤ j ∧ j < 2 ^ 62 ∧ ∃ W : Nat → Nat → L2.St → Hp → Prop, (∃ m, W 0 m σ H1) ∧ ∀ i m σ H, W i m σ H →
  ((Itr 0 j.toNat).stop i H ∧ D.nx σ H) ∨ ((Itr 0 j.toNat).go i H ∧ ∃ N : L2.St → Hp → Prop, (∀ σ' H', N σ' H' → ∃ m', m' < m ∧ W (i + 1) m' σ' H') ∧ ∀ x H', (Itr 0 j.toNat).yld i H x H' → g x σ H' fun σ2 H2 => tu { D with nx := N, ct := N, bk := D.nx } σ2 H2)
theorem w_forR1 : tFor (iRng1 ar) g tu D σ H = ar σ H fun vs H1 => fR1 g tu D σ vs H1 := rfl
theorem f_R1 {n : Nat} (hn : n < 1000000000) (Pv : Nat → L2.St → Hp → Prop) (h0 : Pv 0 σ H)
    (hs : ∀ i σ' H', i < n → Pv i σ' H' → g (.int ((i : Nat) : Int)) σ' H' fun σ2 H2 => tu { D with nx := Pv (i + 1), ct := Pv (i + 1), bk := D.nx } σ2 H2) (hd : ∀ σ' H', Pv n σ' H' → D.nx σ' H') : fR1 g tu D σ [.int ((n : Nat) : Int)] H := by
  refine ⟨n, rfl, by omega, by omega, ?_⟩
  rw [Int.toNat_natCast]
  exact for_range (lo := 0) (n := n) Pv h0 (fun i σ' H' hi p => by rw [Int.zero_add]; exact hs i σ' H' hi p) hd
def fR2 (g : TG) (tu : TS) (D : Ends) (σ : L2.St) (vs : List V) (H1 : Hp) : Prop := ∃ i j : Int, vs = [.int i, .int j] ∧ (-(2 ^ 62) ≤ i ∧ i < 2 ^ 62 ∧ -(2 ^ 62) ≤ j ∧ j < 2 ^ 62) ∧ ∃ W : Nat → Nat → L2.St → Hp → Prop, (∃ m, W 0 m σ H1) ∧ ∀ k m σ H, W k m σ H →
  ((Itr i (j - i).toNat).stop k H ∧ D.nx σ H) ∨ ((Itr i (j - i).toNat).go k H ∧ ∃ N : L2.St → Hp → Prop, (∀ σ' H', N σ' H' → ∃ m', m' < m ∧ W (k + 1) m' σ' H') ∧ ∀ x H', (Itr i (j - i).toNat).yld k H x H' → g x σ H' fun σ2 H2 => tu { D with nx := N, ct := N, bk := D.nx } σ2 H2)
theorem w_forR2 : tFor (iRng2 ar) g tu D σ H = ar σ H fun vs H1 => fR2 g tu D σ vs H1 := rfl
/-- range(1, n) -/
theorem f_R2 {n : Nat} (hn : n < 1000000000) (Pv : Nat → L2.St → Hp → Prop) (h0 : Pv 0 σ H)
    (hs : ∀ i σ' H', i + 1 < n → Pv i σ' H' → g (.int (((i + 1 : Nat) : Nat) : Int)) σ' H' fun σ2 H2 => tu { D with nx := Pv (i + 1), ct := Pv (i + 1), bk := D.nx } σ2 H2) (hd : ∀ σ' H', Pv (n - 1) σ' H' → D.nx σ' H') : fR2 g tu D σ [.int 1, .int ((n : Nat) : Int)] H := by
  refine ⟨1, n, rfl, ⟨by decide, by decide, by omega, by omega⟩, ?_⟩
  have e : ((n : Int) - 1).toNat = n - 1 := by omega
  rw [e]
  refine for_range (lo := 1) (n := n - 1) Pv h0 (fun i σ' H' hi p => ?_) hd
  have e2 : (1 : Int) + (i : Int) = ((i + 1 : Nat) : Int) := by omega
  rw [e2]
  exact hs i σ' H' (by omega) p
def fL (K : PySem.W.Frag) (g : TG) (tu : TS) (D : Ends) (σ : L2.St) (x : V) (H1 : Hp) : Prop := ∃ a, x = .ref a ∧ (∃ xs, SqL K H1 a xs) ∧ ∃ W : Nat → Nat → L2.St → Hp → Prop, (∃ m, W 0 m σ H1) ∧ ∀ i m σ H, W i m σ H →
  ((Itl K a).stop i H ∧ D.nx σ H) ∨ ((Itl K a).go i H ∧ ∃ N : L2.St → Hp → Prop, (∀ σ' H', N σ' H' → ∃ m', m' < m ∧ W (i + 1) m' σ' H') ∧ ∀ x H', (Itl K a).yld i H x H' → g x σ H' fun σ2 H2 => tu { D with nx := N, ct := N, bk := D.nx } σ2 H2)
theorem w_forL : tFor (iList K tl) g tu D σ H = tl σ H fun x H1 => fL K g tu D σ x H1 := rfl
theorem f_L (hx : SqL K H a xs) (Pv : Nat → L2.St → Hp → Prop) (h0 : Pv 0 σ H) (hl : ∀ i σ' H', i ≤ xs.length → Pv i σ' H' → SqL K H' a xs)
    (hs : ∀ i x σ' H', xs[i]? = some x → Pv i σ' H' → g x σ' H' fun σ2 H2 => tu { D with nx := Pv (i + 1), ct := Pv (i + 1), bk := D.nx } σ2 H2) (hd : ∀ σ' H', Pv xs.length σ' H' → D.nx σ' H') : fL K g tu D σ (.ref a) H :=
  ⟨a, rfl, ⟨xs, hx⟩, for_list Pv h0 hl hs hd⟩
end
section
variable {K : PySem.W.Frag} {σ : L2.St} {H : Hp} {g : TG} {tu : TS} {D : Ends} {td : TE} {d : Addr} {o : Obj} {kvs : List (Key × V)}
def fI (g : TG) (tu : TS) (D : Ends) (σ : L2.St) (x : V) (H1 : Hp) : Prop := ∃ d o kvs, x = .ref d ∧ H1 d = some (.frz o (.dK kvs)) ∧ ∃ W : Nat → Nat → L2.St → Hp → Prop, (∃ m, W 0 m σ H1) ∧ ∀ i m σ H, W i m σ H →
  ((Iti d o kvs).stop i H ∧ D.nx σ H) ∨ ((Iti d o kvs).go i H ∧ ∃ N : L2.St → Hp → Prop, (∀ σ' H', N σ' H' → ∃ m', m' < m ∧ W (i + 1) m' σ' H') ∧ ∀ x H', (Iti d o kvs).yld i H x H' → g x σ H' fun σ2 H2 => tu { D with nx := N, ct := N, bk := D.nx } σ2 H2)
theorem w_forI : tFor (iItems td) g tu D σ H = td σ H fun x H1 => fI g tu D σ x H1 := rfl
theorem f_I (h : H d = some (.frz o (.dK kvs))) (Pv : Nat → L2.St → Hp → Prop) (h0 : Pv 0 σ H) (hl : ∀ i σ' H', i ≤ kvs.length → Pv i σ' H' → H' d = some (.frz o (.dK kvs)))
    (hs : ∀ i k v T σ' H', kvs[i]? = some (k, v) → Pv i σ' H' → H' T = none → g (.ref T) σ' (upd H' T (.tup [kV k, v])) fun σ2 H2 => tu { D with nx := Pv (i + 1), ct := Pv (i + 1), bk := D.nx } σ2 H2) (hd : ∀ σ' H', Pv kvs.length σ' H' → D.nx σ' H') : fI g tu D σ (.ref d) H := by
  refine ⟨d, o, kvs, rfl, h, fun i m σ H => m = kvs.length - i ∧ i ≤ kvs.length ∧ Pv i σ H, ⟨kvs.length, by simp, Nat.zero_le _, h0⟩, ?_⟩
  rintro i m σ H ⟨rfl, hi, p⟩
  by_cases hlt : i < kvs.length
  · refine .inr ⟨⟨hl i σ H hi p, hlt⟩, Pv (i + 1), fun σ' H' p' => ⟨kvs.length - (i + 1), by omega, rfl, hlt, p'⟩, fun x H' y => ?_⟩
    obtain ⟨T, k, v, e1, e2, e3, e4⟩ := y
    subst e2 e4
    exact hs i k v T σ H e1 p e3
  · have e : i = kvs.length := by omega
    subst e
    exact .inl ⟨⟨hl _ σ H hi p, Nat.le_refl _⟩, hd σ H p⟩
end
/-! ### comprehensions -/
section
variable {K : PySem.W.Frag} {σ : L2.St} {H : Hp} {Q : VK} {g : TG} {tt : TT} {te : TE} {ar : TA} {tl : TE} {vs : List Nat} {a : Addr} {xs : List V}
/-- the items that are given -/
def giv {α : Type} (n : Nat) (f : Nat → Bool) (v : Nat → α) : List α := ((List.range n).filter f).map v
theorem giv_yes {α : Type} {n : Nat} {f : Nat → Bool} {v : Nat → α} (h : f n = true) : giv (n + 1) f v = giv n f v ++ [v n] := by
  unfold giv
  rw [List.range_succ, List.filter_append, List.map_append, List.filter_cons, if_pos h] <;> rfl
theorem giv_no {α : Type} {n : Nat} {f : Nat → Bool} {v : Nat → α} (h : f n = false) : giv (n + 1) f v = giv n f v := by
  unfold giv
  rw [List.range_succ, List.filter_append, List.map_append, List.filter_cons, if_neg (by rw [h]; decide)]
  show _ ++ [] = _
  rw [List.append_nil]
theorem giv_len {α : Type} (n : Nat) (f : Nat → Bool) (v : Nat → α) : (giv n f v).length ≤ n := by
  unfold giv
  rw [List.length_map]
  have h := List.length_filter_le f (List.range n)
  rw [List.length_range] at h
  exact h
theorem giv_map {α β : Type} (n : Nat) (f : Nat → Bool) (v : Nat → α) (h : α → β) : (giv n f v).map h = giv n f fun i => h (v i) := by
  unfold giv
  rw [List.map_map]
  rfl
def cR1 (g : TG) (tt : TT) (te : TE) (vl : List Nat) (σ : L2.St) (Q : VK) (ws : List V) (H1 : Hp) : Prop := ∃ j : Int, ws = [.int j] ∧ -(2 ^ 62) ≤ j ∧ j < 2 ^ 62 ∧ ∀ D, H1 D = none → ∃ W : Nat → Nat → Hp → Prop, (∃ m, W 0 m (upd H1 D (.lst []))) ∧ ∀ i m H, W i m H →
  ((Itr 0 j.toNat).stop i H ∧ Q (.ref D) H) ∨ ((Itr 0 j.toNat).go i H ∧ ∃ Nx : Hp → Prop, (∀ H', Nx H' → ∃ m', m' < m ∧ W (i + 1) m' H') ∧ ∀ x H', (Itr 0 j.toNat).yld i H x H' → g x (wipe σ vl) H' fun σ2 H2 => wipe σ2 vl = wipe σ vl ∧ tt σ2 H2 fun b H3 =>
    if b = true then te σ2 H3 fun y H4 => ∃ acc, H4 D = some (.lst acc) ∧ acc.length < sizeLine ∧ Nx (upd H4 D (.lst (acc ++ [y]))) else Nx H3)
theorem w_lcR1 : tLc (iRng1 ar) g tt te vs σ H Q = ar σ H fun ws H1 => cR1 g tt te vs σ Q ws H1 := rfl
/-- an item given, no item given: the list at D grows by what v says, all else stays -/
def cY (H : Hp) (D : Addr) (f : Nat → Bool) (v : Nat → V) (i : Nat) (y : V) (H4 : Hp) : Prop := ∃ acc, H4 D = some (.lst acc) ∧ acc.length < sizeLine ∧ upd H4 D (.lst (acc ++ [y])) = upd H D (.lst (giv (i + 1) f v))
def cN (H : Hp) (D : Addr) (f : Nat → Bool) (v : Nat → V) (i : Nat) (H3 : Hp) : Prop := H3 = upd H D (.lst (giv (i + 1) f v))
theorem cY_at {D : Addr} {f : Nat → Bool} {v : Nat → V} {i : Nat} {y : V} (hi : i ≤ 16000000) (hf : f i = true) (hy : y = v i) : cY H D f v i y (upd H D (.lst (giv i f v))) :=
  ⟨_, upd_same, szl (Nat.le_trans (giv_len i f v) hi), by rw [upd_upd, giv_yes hf, hy]⟩
theorem cN_at {D : Addr} {f : Nat → Bool} {v : Nat → V} {i : Nat} (hf : f i = false) : cN H D f v i (upd H D (.lst (giv i f v))) := by
  unfold cN
  rw [giv_no hf]
theorem c_fin {D : Addr} {f : Nat → Bool} {v : Nat → V} {i : Nat} {b : Bool} {y : V} (hi : i ≤ 16000000) (hb : b = f i) (hy : f i = true → y = v i) : if b = true then cY H D f v i y (upd H D (.lst (giv i f v))) else cN H D f v i (upd H D (.lst (giv i f v))) := by
  cases hf : f i with
  | true => rw [hb, hf, if_pos rfl]; exact cY_at hi hf (hy hf)
  | false => rw [hb, hf, if_neg Bool.false_ne_true]; exact cN_at hf
/-- over range(n), nothing but the list changed -/
theorem c_R1 {n : Nat} (hn : n ≤ 16000000) (f : Nat → Bool) (v : Nat → V)
    (hs : ∀ D i, H D = none → i < n → g (.int ((i : Nat) : Int)) (wipe σ vs) (upd H D (.lst (giv i f v))) fun σ2 H2 => wipe σ2 vs = wipe σ vs ∧ tt σ2 H2 fun b H3 => if b = true then te σ2 H3 (cY H D f v i) else cN H D f v i H3)
    (q : ∀ p, H p = none → Q (.ref p) (upd H p (.lst (giv n f v)))) : cR1 g tt te vs σ Q [.int ((n : Nat) : Int)] H := by
  refine ⟨n, rfl, by omega, by omega, fun D hD => ?_⟩
  rw [Int.toNat_natCast]
  refine lc_range (lo := 0) (n := n) (fun i H' => H' = upd H D (.lst (giv i f v))) rfl (fun i H' hi p => ?_) (fun H' p => by rw [p]; exact q D hD)
  subst p
  rw [Int.zero_add]
  exact hs D i hD hi
/-- over range(n), by a word of the turn and the heap -/
theorem c_R1w {n : Nat} (hn : n ≤ 16000000) (Pv : Addr → Nat → Hp → Prop) (h0 : ∀ D, H D = none → Pv D 0 (upd H D (.lst [])))
    (hs : ∀ D i H', H D = none → i < n → Pv D i H' → g (.int ((i : Nat) : Int)) (wipe σ vs) H' fun σ2 H2 => wipe σ2 vs = wipe σ vs ∧ tt σ2 H2 fun b H3 => if b = true then te σ2 H3 fun y H4 => ∃ acc, H4 D = some (.lst acc) ∧ acc.length < sizeLine ∧ Pv D (i + 1) (upd H4 D (.lst (acc ++ [y]))) else Pv D (i + 1) H3)
    (q : ∀ D H', H D = none → Pv D n H' → Q (.ref D) H') : cR1 g tt te vs σ Q [.int ((n : Nat) : Int)] H := by
  refine ⟨n, rfl, by omega, by omega, fun D hD => ?_⟩
  rw [Int.toNat_natCast]
  refine lc_range (lo := 0) (n := n) (Pv D) (h0 D hD) (fun i H' hi p => ?_) (fun H' p => q D H' hD p)
  rw [Int.zero_add]
  exact hs D i H' hD hi p
def cL (K : PySem.W.Frag) (g : TG) (tt : TT) (te : TE) (vl : List Nat) (σ : L2.St) (Q : VK) (x : V) (H1 : Hp) : Prop := ∃ a, x = .ref a ∧ (∃ xs, SqL K H1 a xs) ∧ ∀ D, H1 D = none → ∃ W : Nat → Nat → Hp → Prop, (∃ m, W 0 m (upd H1 D (.lst []))) ∧ ∀ i m H, W i m H →
  ((Itl K a).stop i H ∧ Q (.ref D) H) ∨ ((Itl K a).go i H ∧ ∃ Nx : Hp → Prop, (∀ H', Nx H' → ∃ m', m' < m ∧ W (i + 1) m' H') ∧ ∀ x H', (Itl K a).yld i H x H' → g x (wipe σ vl) H' fun σ2 H2 => wipe σ2 vl = wipe σ vl ∧ tt σ2 H2 fun b H3 =>
    if b = true then te σ2 H3 fun y H4 => ∃ acc, H4 D = some (.lst acc) ∧ acc.length < sizeLine ∧ Nx (upd H4 D (.lst (acc ++ [y]))) else Nx H3)
theorem w_lcL : tLc (iList K tl) g tt te vs σ H Q = tl σ H fun x H1 => cL K g tt te vs σ Q x H1 := rfl
theorem c_L (hx : SqL K H a xs) (f : Nat → Bool) (v : Nat → V)
    (hs : ∀ D i x, H D = none → xs[i]? = some x → g x (wipe σ vs) (upd H D (.lst (giv i f v))) fun σ2 H2 => wipe σ2 vs = wipe σ vs ∧ tt σ2 H2 fun b H3 => if b = true then te σ2 H3 (cY H D f v i) else cN H D f v i H3)
    (q : ∀ p, H p = none → Q (.ref p) (upd H p (.lst (giv xs.length f v)))) : cL K g tt te vs σ Q (.ref a) H := by
  refine ⟨a, rfl, ⟨xs, hx⟩, fun D hD => ?_⟩
  refine lc_list (xs := xs) (fun i H' => H' = upd H D (.lst (giv i f v))) rfl (fun i H' _ p => by rw [p]; exact (same_new hD _).seq hx) (fun i x H' hi p => ?_) (fun H' p => by rw [p]; exact q D hD)
  subst p
  exact hs D i x hD hi
theorem c_Lw (hx : SqL K H a xs) (Pv : Addr → Nat → Hp → Prop) (h0 : ∀ D, H D = none → Pv D 0 (upd H D (.lst []))) (hl : ∀ D i H', H D = none → i ≤ xs.length → Pv D i H' → SqL K H' a xs)
    (hs : ∀ D i x H', H D = none → xs[i]? = some x → Pv D i H' → g x (wipe σ vs) H' fun σ2 H2 => wipe σ2 vs = wipe σ vs ∧ tt σ2 H2 fun b H3 => if b = true then te σ2 H3 fun y H4 => ∃ acc, H4 D = some (.lst acc) ∧ acc.length < sizeLine ∧ Pv D (i + 1) (upd H4 D (.lst (acc ++ [y]))) else Pv D (i + 1) H3)
    (q : ∀ D H', H D = none → Pv D xs.length H' → Q (.ref D) H') : cL K g tt te vs σ Q (.ref a) H := by
  refine ⟨a, rfl, ⟨xs, hx⟩, fun D hD => ?_⟩
  exact lc_list (xs := xs) (Pv D) (h0 D hD) (fun i H' hi p => hl D i H' hD hi p) (fun i x H' hi p => hs D i x H' hD hi p) (fun H' p => q D H' hD p)
end
section
variable {σ : L2.St} {H : Hp} {Q : VK} {g : TG} {tt : TT} {te : TE} {td : TE} {vs : List Nat} {d : Addr} {o : Obj} {kvs : List (List Key × V)}
def cK (g : TG) (tt : TT) (te : TE) (vl : List Nat) (σ : L2.St) (Q : VK) (x : V) (H1 : Hp) : Prop := iKeys (fun _ H R => R x H) σ H1 fun J H1 => ∀ D, H1 D = none → ∃ W : Nat → Nat → Hp → Prop, (∃ m, W 0 m (upd H1 D (.lst []))) ∧ ∀ i m H, W i m H →
  (J.stop i H ∧ Q (.ref D) H) ∨ (J.go i H ∧ ∃ Nx : Hp → Prop, (∀ H', Nx H' → ∃ m', m' < m ∧ W (i + 1) m' H') ∧ ∀ x H', J.yld i H x H' → g x (wipe σ vl) H' fun σ2 H2 => wipe σ2 vl = wipe σ vl ∧ tt σ2 H2 fun b H3 =>
    if b = true then te σ2 H3 fun y H4 => ∃ acc, H4 D = some (.lst acc) ∧ acc.length < sizeLine ∧ Nx (upd H4 D (.lst (acc ++ [y]))) else Nx H3)
theorem w_lcK : tLc (iKeys td) g tt te vs σ H Q = td σ H fun x H1 => cK g tt te vs σ Q x H1 := rfl
theorem c_K (h : H d = some (.frz o (.dT kvs))) (Pv : Addr → Nat → Hp → Prop) (h0 : ∀ D, H D = none → Pv D 0 (upd H D (.lst []))) (hl : ∀ D i H', H D = none → i ≤ kvs.length → Pv D i H' → H' d = some (.frz o (.dT kvs)))
    (hs : ∀ D i k v q H', H D = none → kvs[i]? = some (k, v) → H' q = some (.tup (k.map kV)) → Pv D i H' → g (.ref q) (wipe σ vs) H' fun σ2 H2 => wipe σ2 vs = wipe σ vs ∧ tt σ2 H2 fun b H3 => if b = true then te σ2 H3 fun y H4 => ∃ acc, H4 D = some (.lst acc) ∧ acc.length < sizeLine ∧ Pv D (i + 1) (upd H4 D (.lst (acc ++ [y]))) else Pv D (i + 1) H3)
    (q : ∀ D H', H D = none → Pv D kvs.length H' → Q (.ref D) H') : cK g tt te vs σ Q (.ref d) H := by
  refine ⟨d, o, rfl, .inr ⟨kvs, h, fun D hD => ⟨fun i m H => m = kvs.length - i ∧ i ≤ kvs.length ∧ Pv D i H, ⟨kvs.length, by simp, Nat.zero_le _, h0 D hD⟩, ?_⟩⟩⟩
  rintro i m H' ⟨rfl, hi, p⟩
  by_cases hlt : i < kvs.length
  · refine .inr ⟨⟨hl D i H' hD hi p, hlt⟩, Pv D (i + 1), fun H' p' => ⟨kvs.length - (i + 1), by omega, rfl, hlt, p'⟩, fun x H2 y => ?_⟩
    obtain ⟨e, k, v, q', e1, e2, e3⟩ := y
    subst e e2
    exact hs D i k v q' _ hD e1 e3 p
  · have e : i = kvs.length := by omega
    subst e
    exact .inl ⟨⟨hl D _ H' hD hi p, Nat.le_refl _⟩, q D H' hD p⟩
end
/-! ### while -/
section
variable {σ : L2.St} {H : Hp} {c : TT} {tb : TS} {D : Ends}
theorem f_while (W : Nat → L2.St → Hp → Prop) (m : Nat) (h0 : W m σ H) (hs : ∀ m σ' H', W m σ' H' → c σ' H' fun b H1 => if b = true then tb { D with nx := fun σ2 H2 => ∃ m', m' < m ∧ W m' σ2 H2, ct := fun σ2 H2 => ∃ m', m' < m ∧ W m' σ2 H2, bk := D.nx } σ' H1 else D.nx σ' H1)
    (mono : ∀ σ H (R R' : Bool → Hp → Prop), (∀ b H1, R b H1 → R' b H1) → c σ H R → c σ H R') : tWhile c tb D σ H := by
  refine ⟨W, ⟨m, h0⟩, fun m σ' H' hw => mono σ' H' _ _ (fun b H1 q => ?_) (hs m σ' H' hw)⟩
  cases b with
  | true =>
    rw [if_pos rfl] at q
    exact ⟨_, fun σ2 H2 n => n, q⟩
  | false => exact q
theorem dnotin_mono {x y : V} {H : Hp} {Q Q' : VK} (h : ∀ v H1, Q v H1 → Q' v H1) (d : ∃ a o, x = .ref a ∧ DGet H a y o ∧ Q (.bl (!o.isSome)) H) : ∃ a o, x = .ref a ∧ DGet H a y o ∧ Q' (.bl (!o.isSome)) H := by
  obtain ⟨a, o, e, g, q⟩ := d
  exact ⟨a, o, e, g, h _ _ q⟩
end
section
variable {σ : L2.St} {H : Hp} {R : Bool → Hp → Prop} {F : L2.St → Hp → Prop} {K : PySem.W.Frag} {a : Addr} {xs : List V}
theorem w_yes : tYes σ H R = R true H := rfl
theorem w_wipe0 : wipe σ [] = σ := rfl
theorem w_wipeS {n : Nat} {l : List Nat} : wipe σ (n :: l) = (wipe σ l).set n none := rfl
/-- unpacking a tuple that is known -/
theorem g_tup {n : Nat} {t : TGs} (h : SqT K H a xs) (hn : xs.length = n) (q : t xs σ H F) : gTup K n t (.ref a) σ H F := ⟨a, xs, rfl, h, hn, q⟩
theorem g_unl {n : Nat} {t : TGs} (h : SqL K H a xs) (hn : xs.length = n) (q : t xs σ H F) : gUnl K n t (.ref a) σ H F := ⟨a, xs, rfl, h, hn, q⟩
theorem w_gnil : gNil [] σ H F = F σ H := by simp [gNil]
theorem w_gcons {t : TG} {u : TGs} {v : V} {r : List V} : gCons t u (v :: r) σ H F = t v σ H fun σ' H' => u r σ' H' F := by
  unfold gCons
  refine propext ⟨?_, fun h => ⟨v, r, rfl, h⟩⟩
  rintro ⟨v', r', e, h⟩
  obtain ⟨rfl, rfl⟩ := List.cons.inj e
  exact h
end
/-! ### dicts, sums, truth, bits -/
section
variable {σ : L2.St} {H : Hp} {Q : VK} {R : Bool → Hp → Prop} {D : Ends} {td ty tv to : TE} {K : PySem.W.Frag} {a : Addr} {x y v : V} {i : Int} {ns : List Int}
def gTru (K : PySem.W.Frag) (x : V) (H : Hp) (R : Bool → Hp → Prop) : Prop := ∃ k, TruV K x H k ∧ R k H
theorem w_dnewT : tDNewT σ H Q = ∀ p, H p = none → Q (.ref p) (upd H p (.dT [])) := rfl
theorem w_dnewK : tDNewK σ H Q = ∀ p, H p = none → Q (.ref p) (upd H p (.dK [])) := rfl
def dPut (x y v : V) (D : Ends) (σ : L2.St) (H3 : Hp) : Prop := ∃ a H4, x = .ref a ∧ DPut H3 a y v H4 ∧ D.nx σ H4
def dGet (x y : V) (H2 : Hp) (Q : VK) : Prop := ∃ a v, x = .ref a ∧ DGet H2 a y (some v) ∧ Q v H2
def dIn (x y : V) (H2 : Hp) (Q : VK) : Prop := ∃ a o, x = .ref a ∧ DGet H2 a y o ∧ Q (.bl o.isSome) H2
def dNotIn (x y : V) (H2 : Hp) (Q : VK) : Prop := ∃ a o, x = .ref a ∧ DGet H2 a y o ∧ Q (.bl (!o.isSome)) H2
theorem w_disp1 {tk : TE} : tDisp [(tk, tv)] σ H Q = ∀ p, H p = none → tk σ (upd H p (.dK [])) fun x H1 => tv σ H1 fun y H2 => H2 p = some (.dK []) ∧ ∃ kvs : List (Key × V), [(x, y)] = kvs.map (fun kv => (kV kv.1, kv.2)) ∧ kvs.length ≤ 15 ∧ Q (.ref p) (upd H2 p (.dK (mergeK [] kvs))) := rfl
theorem w_dput : sDPut td ty tv D σ H = tv σ H fun v H1 => td σ H1 fun x H2 => ty σ H2 fun y H3 => dPut x y v D σ H3 := rfl
theorem w_dget : tDGet td ty σ H Q = td σ H fun x H1 => ty σ H1 fun y H2 => dGet x y H2 Q := rfl
theorem w_din : tDIn ty td σ H Q = ty σ H fun y H1 => td σ H1 fun x H2 => dIn x y H2 Q := rfl
theorem w_dnotin : tDNotIn ty td σ H Q = ty σ H fun y H1 => td σ H1 fun x H2 => dNotIn x y H2 Q := rfl
theorem d_putT {b : Addr} {kvs : List (List Key × V)} {k : List Key} (e : H a = some (.dT kvs)) (eb : H b = some (.tup (k.map kV))) (hl : kvs.length ≤ 16000000) (q : D.nx σ (upd H a (.dT (putK kvs k v)))) : dPut (.ref a) (.ref b) v D σ H := ⟨a, _, rfl, .t e eb (szl hl), q⟩
theorem d_putK {kvs : List (Key × V)} {k : Key} (e : H a = some (.dK kvs)) (hl : kvs.length ≤ 16000000) (q : D.nx σ (upd H a (.dK (putK kvs k v)))) : dPut (.ref a) (kV k) v D σ H := ⟨a, _, rfl, .k e (szl hl), q⟩
theorem d_getT {b : Addr} {kvs : List (List Key × V)} {k : List Key} (e : Rd H a (.dT kvs)) (eb : H b = some (.tup (k.map kV))) (hv : valV kvs k = some v) (q : Q v H) : dGet (.ref a) (.ref b) H Q := ⟨a, v, rfl, .inr ⟨kvs, k, b, e, rfl, eb, hv.symm⟩, q⟩
theorem d_getK {kvs : List (Key × V)} {k : Key} (e : Rd H a (.dK kvs)) (hv : valV kvs k = some v) (q : Q v H) : dGet (.ref a) (kV k) H Q := ⟨a, v, rfl, .inl ⟨kvs, k, e, rfl, hv.symm⟩, q⟩
theorem d_inK {kvs : List (Key × V)} {k : Key} (e : Rd H a (.dK kvs)) (q : Q (.bl (valV kvs k).isSome) H) : dIn (.ref a) (kV k) H Q := ⟨a, _, rfl, .inl ⟨kvs, k, e, rfl, rfl⟩, q⟩
theorem d_notinK {kvs : List (Key × V)} {k : Key} (e : Rd H a (.dK kvs)) (q : Q (.bl (!(valV kvs k).isSome)) H) : dNotIn (.ref a) (kV k) H Q := ⟨a, _, rfl, .inl ⟨kvs, k, e, rfl, rfl⟩, q⟩
theorem g_isi {x : V} {a n : String} {b : Bool} (ty : TyX K H x (.type a)) (h : kitB a n = some b) (q : Q (.bl b) H) : rIsi K [x, .ty n] H Q := ⟨x, .ty n, .type a, .type n, b, rfl, .ty n, ty, kit_ty h, q⟩
theorem g_lenSL {xs : List V} (h : SqL K H a xs) (q : Q (.int (xs.length : Nat)) H) : rLenS K [V.ref a] H Q := ⟨a, xs, rfl, .inl h, q⟩
theorem g_lenST {xs : List V} (h : SqT K H a xs) (q : Q (.int (xs.length : Nat)) H) : rLenS K [V.ref a] H Q := ⟨a, xs, rfl, .inr h, q⟩
theorem g_sum (h : SqL K H a (ns.map V.int)) (q : Q (.int ns.sum) H) : rSum K [V.ref a] H Q := ⟨a, ns, rfl, h, q⟩
theorem w_tru {tt : TE} : L2.tTru K tt σ H R = tt σ H fun x H' => gTru K x H' R := rfl
theorem g_truN {n : Nat} (q : R (n != 0) H) : gTru K (.int (n : Nat)) H R := by
  refine ⟨n != 0, ?_, q⟩
  show _ = _
  cases n with
  | zero => rfl
  | succ n => rfl
theorem w_bits : tBits to σ H Q = to σ H fun x H1 => ∃ i, x = .int i ∧ Q (.int (Builtin.Int.intBits i : Nat)) H1 := rfl
end
end Ck
/-! whole numbers not below nought -/
namespace Ck
open PySem L2
theorem n_and (n m : Nat) : Builtin.bitAnd (n : Int) (m : Int) = ((n &&& m : Nat) : Int) := by
  unfold Builtin.bitAnd
  rw [decide_eq_true (Int.natCast_nonneg n), decide_eq_true (Int.natCast_nonneg m)]
  simp
theorem n_and1 (n : Nat) : Builtin.bitAnd (n : Int) 1 = ((n &&& 1 : Nat) : Int) := n_and n 1
theorem n_or (n m : Nat) : Builtin.bitOr (n : Int) (m : Int) = ((n ||| m : Nat) : Int) := by
  rw [bitOr_nn (Int.natCast_nonneg n) (Int.natCast_nonneg m)]
  simp
theorem or_eq : ∀ (k n m : Nat), n < 2 ^ k → (n ||| m) = (n ^^^ m) + (n &&& m)
  | 0, n, m, h => by
    have : n = 0 := by simpa using h
    subst this
    simp
  | k + 1, n, m, h => by
    have ih := or_eq k (n / 2) (m / 2) (by omega)
    have a1 : (n ||| m) / 2 = n / 2 ||| m / 2 := Nat.or_div_two
    have a2 : (n ^^^ m) / 2 = n / 2 ^^^ m / 2 := Nat.xor_div_two
    have a3 : (n &&& m) / 2 = n / 2 &&& m / 2 := Nat.and_div_two
    have b1 : (n ||| m) % 2 = (n % 2 ||| m % 2) % 2 := by
      have := Nat.or_mod_two_pow (n := 1) (a := n) (b := m)
      simp only [Nat.pow_one] at this
      rw [← this]
      omega
    have b2 : (n ^^^ m) % 2 = (n % 2 ^^^ m % 2) % 2 := by
      have := Nat.xor_mod_two_pow (n := 1) (a := n) (b := m)
      simp only [Nat.pow_one] at this
      rw [← this]
      omega
    have b3 : (n &&& m) % 2 = (n % 2 &&& m % 2) % 2 := by
      have := Nat.and_mod_two_pow (n := 1) (a := n) (b := m)
      simp only [Nat.pow_one] at this
      rw [← this]
      omega
    have c : (n % 2 ||| m % 2) % 2 = (n % 2 ^^^ m % 2) % 2 + (n % 2 &&& m % 2) % 2 := by
      rcases Nat.mod_two_eq_zero_or_one n with e | e <;> rcases Nat.mod_two_eq_zero_or_one m with f | f <;> rw [e, f] <;> decide
    omega
theorem n_xor (n m : Nat) : Builtin.bitXor (n : Int) (m : Int) = ((n ^^^ m : Nat) : Int) := by
  unfold Builtin.bitXor
  rw [n_or, n_and, or_eq n n m Nat.lt_two_pow_self]
  omega
theorem n_shl (n : Nat) : (1 : Int) * 2 ^ ((n : Int)).toNat = ((2 ^ n : Nat) : Int) := by
  rw [Int.toNat_natCast, Int.one_mul]
  simp
theorem n_shr (n k : Nat) : (n : Int) / 2 ^ ((k : Int)).toNat = ((n >>> k : Nat) : Int) := by
  rw [Int.toNat_natCast, Nat.shiftRight_eq_div_pow]
  simp
theorem n_add (n m : Nat) : (n : Int) + (m : Int) = ((n + m : Nat) : Int) := by simp
theorem n_add1 (n : Nat) : (n : Int) + 1 = ((n + 1 : Nat) : Int) := by simp
theorem n_eq (n m : Nat) : ((n : Int) = (m : Int)) = (n = m) := propext ⟨fun h => by omega, fun h => by rw [h]⟩
theorem n_lt (n m : Nat) : ((n : Int) < (m : Int)) = (n < m) := propext ⟨fun h => by omega, fun h => by omega⟩
theorem n_pow_shl {n : Nat} (h : n ≤ 64) : CPow 1 (n : Int) := ⟨by omega, by omega, by decide⟩
theorem n_sum (l : List Nat) : (l.map fun x : Nat => (x : Int)).sum = ((l.sum : Nat) : Int) := by
  induction l with
  | nil => rfl
  | cons a l ih => rw [List.map_cons, List.sum_cons, List.sum_cons, ih]; simp
end Ck
/-! data that stand in the tracked heap; a dict of candidates -/
namespace Ck
open PySem L2
mutual
inductive Dv (H : Hp) : V → PyData → Prop
  | bl (b : Bool) : Dv H (.bl b) (.bool b)
  | int (i : Int) : Dv H (.int i) (.int i)
  | lst {a : Addr} {xs : List V} {ds : List PyData} : H a = some (.lst xs) → DvAll H xs ds → Dv H (.ref a) (.list ds)
  | tup {a : Addr} {xs : List V} {ds : List PyData} : H a = some (.tup xs) → DvAll H xs ds → Dv H (.ref a) (.tuple ds)
inductive DvAll (H : Hp) : List V → List PyData → Prop
  | nil : DvAll H [] []
  | cons {v : V} {vs : List V} {d : PyData} {ds : List PyData} : Dv H v d → DvAll H vs ds → DvAll H (v :: vs) (d :: ds)
end
/-- what stands at these addresses may change without harm: no list, no tuple -/
def NoSeq (H : Hp) (a : Addr) : Prop := (∀ xs, H a ≠ some (.lst xs)) ∧ ∀ xs, H a ≠ some (.tup xs)
mutual
theorem dv_keep {H H' : Hp} (e : ∀ b, (∀ xs, H b = some (.lst xs) → H' b = some (.lst xs)) ∧ ∀ xs, H b = some (.tup xs) → H' b = some (.tup xs)) : ∀ (d : PyData) (v : V), Dv H v d → Dv H' v d
  | .none, _, h => by cases h
  | .bool b, _, h => by cases h; exact .bl b
  | .int i, _, h => by cases h; exact .int i
  | .str x, _, h => by cases h
  | .list ds, _, h => by
    cases h with
    | lst a b => exact .lst ((e _).1 _ a) (dvs_keep e ds _ b)
  | .tuple ds, _, h => by
    cases h with
    | tup a b => exact .tup ((e _).2 _ a) (dvs_keep e ds _ b)
  | .dict _, _, h => by cases h
theorem dvs_keep {H H' : Hp} (e : ∀ b, (∀ xs, H b = some (.lst xs) → H' b = some (.lst xs)) ∧ ∀ xs, H b = some (.tup xs) → H' b = some (.tup xs)) : ∀ (ds : List PyData) (vs : List V), DvAll H vs ds → DvAll H' vs ds
  | [], _, h => by cases h; exact .nil
  | d :: ds, _, h => by
    cases h with
    | cons a b => exact .cons (dv_keep e d _ a) (dvs_keep e ds _ b)
end
theorem dv_same {H H' : Hp} (e : Same H H') {d : PyData} {v : V} (h : Dv H v d) : Dv H' v d := dv_keep (fun b => ⟨fun xs => e _ _, fun xs => e _ _⟩) d v h
theorem dvs_same {H H' : Hp} (e : Same H H') {ds : List PyData} {vs : List V} (h : DvAll H vs ds) : DvAll H' vs ds := dvs_keep (fun b => ⟨fun xs => e _ _, fun xs => e _ _⟩) ds vs h
theorem keep_x {a : Addr} {H H' : Hp} (n : NoSeq H a) (e : SameX a H H') : ∀ b, (∀ xs, H b = some (.lst xs) → H' b = some (.lst xs)) ∧ ∀ xs, H b = some (.tup xs) → H' b = some (.tup xs) := fun b =>
  ⟨fun xs h => e b _ (fun z => n.1 xs (by rw [← z]; exact h)) h, fun xs h => e b _ (fun z => n.2 xs (by rw [← z]; exact h)) h⟩
theorem dv_x {a : Addr} {H H' : Hp} (n : NoSeq H a) (e : SameX a H H') {d : PyData} {v : V} (h : Dv H v d) : Dv H' v d := dv_keep (keep_x n e) d v h
theorem dvs_x {a : Addr} {H H' : Hp} (n : NoSeq H a) (e : SameX a H H') {ds : List PyData} {vs : List V} (h : DvAll H vs ds) : DvAll H' vs ds := dvs_keep (keep_x n e) ds vs h
mutual
theorem dv_dp {K : PySem.W.Frag} {H : Hp} : ∀ (d : PyData) (v : V), Dv H v d → Dp K H v d
  | .none, _, h => by cases h
  | .bool b, _, h => by cases h; exact .bl b
  | .int i, _, h => by cases h; exact .int i
  | .str x, _, h => by cases h
  | .list ds, _, h => by
    cases h with
    | lst a b => exact .lst (SqL.of a) (dvs_dp ds _ b)
  | .tuple ds, _, h => by
    cases h with
    | tup a b => exact .tup (SqT.of a) (dvs_dp ds _ b)
  | .dict _, _, h => by cases h
theorem dvs_dp {K : PySem.W.Frag} {H : Hp} : ∀ (ds : List PyData) (vs : List V), DvAll H vs ds → DpAll K H vs ds
  | [], _, h => by cases h; exact .nil
  | d :: ds, _, h => by
    cases h with
    | cons a b => exact .cons (dv_dp d _ a) (dvs_dp ds _ b)
end
section
variable {H : Hp}
theorem dvs_length : ∀ {vs : List V} {ds : List PyData}, DvAll H vs ds → vs.length = ds.length
  | _, _, .nil => rfl
  | _, _, .cons _ t => by rw [List.length_cons, List.length_cons, dvs_length t]
theorem dvs_get : ∀ {vs : List V} {ds : List PyData} {i : Nat} {v : V}, DvAll H vs ds → vs[i]? = some v → ∃ d, ds[i]? = some d ∧ Dv H v d
  | _, _, _, _, .nil, h => by simp at h
  | _, _, 0, v, .cons a _, h => by
    simp at h
    subst h
    exact ⟨_, rfl, a⟩
  | _, _, i + 1, v, .cons _ t, h => by
    obtain ⟨d, h1, h2⟩ := dvs_get (i := i) (v := v) t (by simpa using h)
    exact ⟨d, by simpa using h1, h2⟩
theorem dvs_get' : ∀ {vs : List V} {ds : List PyData} {i : Nat} {d : PyData}, DvAll H vs ds → ds[i]? = some d → ∃ v, vs[i]? = some v ∧ Dv H v d
  | _, _, _, _, .nil, h => by simp at h
  | _, _, 0, d, .cons a _, h => by
    simp at h
    subst h
    exact ⟨_, rfl, a⟩
  | _, _, i + 1, d, .cons _ t, h => by
    obtain ⟨v, h1, h2⟩ := dvs_get' (i := i) (d := d) t (by simpa using h)
    exact ⟨v, by simpa using h1, h2⟩
theorem dvs_app : ∀ {vs ws : List V} {ds es : List PyData}, DvAll H vs ds → DvAll H ws es → DvAll H (vs ++ ws) (ds ++ es)
  | _, _, _, _, .nil, h => h
  | _, _, _, _, .cons a t, h => .cons a (dvs_app t h)
theorem dvs_one {v : V} {d : PyData} (h : Dv H v d) : DvAll H [v] [d] := .cons h .nil
theorem dvs_ints : ∀ ns : List Int, DvAll H (ns.map V.int) (ns.map PyData.int)
  | [] => .nil
  | n :: ns => .cons (.int n) (dvs_ints ns)
theorem dvs_zip : ∀ {xs : List V} {ds : List PyData}, DvAll H xs ds → ∀ p ∈ xs.zip ds, Dv H p.1 p.2
  | _, _, .nil, p, m => by cases m
  | _, _, .cons h t, p, m => by
    rw [List.zip_cons_cons] at m
    rcases List.mem_cons.mp m with e | m
    · rw [e]; exact h
    · exact dvs_zip t p m
theorem dvs_of_zip : ∀ {ps : List (V × PyData)}, (∀ p ∈ ps, Dv H p.1 p.2) → DvAll H (ps.map Prod.fst) (ps.map Prod.snd)
  | [], _ => .nil
  | p :: ps, h => .cons (h p List.mem_cons_self) (dvs_of_zip fun q m => h q (List.mem_cons_of_mem _ m))
/-- sorted, in terms of tracked data -/
theorem g_sorted {K : PySem.W.Frag} {Q : VK} {a : Addr} {xs : List V} {ds : List PyData} (h : H a = some (.lst xs)) (hd : DvAll H xs ds) (al : PySem.W.AllAlike ds) (so : PySem.W.Sortable ds) (dp : ∀ d ∈ ds, d.depth ≤ 60)
    (q : ∀ (ys : List V) (p : Addr), DvAll H ys (ds.mergeSort dLe) → H p = none → Q (.ref p) (upd H p (.lst ys))) : rSortedD K [V.ref a] H Q :=
  ⟨a, xs, ds, rfl, SqL.of h, dvs_dp ds xs hd, al, so, dp, fun zs p pm e hp => q _ p (by rw [← e]; exact dvs_of_zip fun z m => dvs_zip hd z (pm.mem_iff.mp m)) hp⟩
end
/-- what H' has that H had not -/
def new (H H' : Hp) : Hp := fun b => match H b with
  | none => H' b
  | some _ => none
section
variable {H H0 H1 H' H2 : Hp} {p : Addr} {o : HO}
theorem new_of (h : H p = none) : new H H' p = H' p := by unfold new; rw [h]
theorem new_no (h : H p = some o) : new H H' p = none := by unfold new; rw [h]
theorem new_get {u : HO} (h : new H H' p = some u) : H p = none ∧ H' p = some u := by
  unfold new at h
  cases e : H p with
  | none => rw [e] at h; exact ⟨rfl, h⟩
  | some o => rw [e] at h; cases h
theorem new_same : Same (new H H') H' := fun b u h => (new_get h).2
theorem new_mono (e : Same H' H2) : Same (new H H') (new H H2) := fun b u h => by
  obtain ⟨h1, h2⟩ := new_get h
  rw [new_of h1]
  exact e _ _ h2
theorem new_sub (e : Same H0 H) : Same (new H H') (new H0 H') := fun b u h => by
  obtain ⟨h1, h2⟩ := new_get h
  rw [new_of (e.free h1)]
  exact h2
/-- an object that H had may change -/
theorem new_upd (h : H p = some o) {u : HO} : new H (upd H' p u) = new H H' := by
  funext b
  by_cases e : b = p
  · subst e
    rw [new_no h, new_no h]
  · unfold new
    rw [upd_ne e]
theorem new_into (e : Same (new H H') H2) (h : new H H' p = none) {u : HO} : Same (new H H') (upd H2 p u) := same_upd e h
end
/-- data in a part of the heap stay when the whole changes elsewhere -/
theorem keepT {H : Hp} {p : Addr} {xs : List V} {o : HO} (h : H p = some (.lst xs)) : ∀ b ys, H b = some (.tup ys) → (upd H p o) b = some (.tup ys) := fun b ys e => by
  rw [upd_ne (ne_of e h (by intro z; cases z))]
  exact e
/-- tuples of ints lean on nothing but themselves -/
theorem dvs_flat {H H' : Hp} (k : ∀ b ys, H b = some (.tup ys) → H' b = some (.tup ys)) : ∀ {vs : List V} {ds : List PyData}, DvAll H vs ds → (∀ d ∈ ds, ∃ ns : List Int, d = .tuple (ns.map PyData.int)) → DvAll H' vs ds
  | _, _, .nil, _ => .nil
  | _, _, .cons h t, f => by
    obtain ⟨ns, e⟩ := f _ List.mem_cons_self
    subst e
    refine .cons ?_ (dvs_flat k t fun d m => f d (List.mem_cons_of_mem _ m))
    cases h with
    | tup a b =>
      refine .tup (k _ _ a) ?_
      clear a f
      induction ns generalizing ‹List V› with
      | nil =>
        rw [List.map_nil] at b ⊢
        cases b
        exact .nil
      | cons n ns ih =>
        rw [List.map_cons] at b ⊢
        cases b with
        | cons b1 b2 =>
          cases b1
          exact .cons (.int n) (ih b2)
section
variable {H : Hp}
theorem list_dv {v : V} {ds : List PyData} (h : Dv H v (.list ds)) : ∃ l xs, v = .ref l ∧ H l = some (.lst xs) ∧ DvAll H xs ds := by
  cases h with
  | lst a b => exact ⟨_, _, rfl, a, b⟩
/-- an item of a list of encoded things -/
theorem dvs_item {α : Type} {E : α → PyData} {xs : List V} {l : List α} {i : Nat} {v : V} (h : DvAll H xs (l.map E)) (hi : xs[i]? = some v) : ∃ p, l[i]? = some p ∧ Dv H v (E p) := by
  obtain ⟨d, h1, h2⟩ := dvs_get h hi
  rw [List.getElem?_map] at h1
  obtain ⟨p, hp, rfl⟩ := Option.map_eq_some_iff.mp h1
  exact ⟨p, hp, h2⟩
theorem dvs_len {α : Type} {E : α → PyData} {xs : List V} {l : List α} (h : DvAll H xs (l.map E)) : xs.length = l.length := by rw [dvs_length h, List.length_map]
end
/-- sorted, the data standing in a part of the heap -/
theorem g_sortedN {K : PySem.W.Frag} {Q : VK} {H Hn : Hp} {a : Addr} {xs : List V} {ds : List PyData} (h : H a = some (.lst xs)) (hd : DvAll Hn xs ds) (sm : Same Hn H) (al : PySem.W.AllAlike ds) (so : PySem.W.Sortable ds) (dp : ∀ d ∈ ds, d.depth ≤ 60)
    (q : ∀ (ys : List V) (p : Addr), DvAll Hn ys (ds.mergeSort dLe) → H p = none → Q (.ref p) (upd H p (.lst ys))) : rSortedD K [V.ref a] H Q :=
  ⟨a, xs, ds, rfl, SqL.of h, dvs_dp ds xs (dvs_same sm hd), al, so, dp, fun zs p pm e hp => q _ p (by rw [← e]; exact dvs_of_zip fun z m => dvs_zip hd z (pm.mem_iff.mp m)) hp⟩
theorem take_snoc {α : Type} {l : List α} {i : Nat} {x : α} (h : l[i]? = some x) : l.take (i + 1) = l.take i ++ [x] := by
  rw [List.take_add_one, h]
  rfl
theorem giv_filter {α : Type} (l : List α) (d : α) (P : α → Bool) : giv l.length (fun i => P (l.getD i d)) (fun i => l.getD i d) = l.filter P := by
  unfold giv
  have e : (List.range l.length).map (fun i => l.getD i d) = l := by
    refine List.ext_getElem (by simp) fun i h1 h2 => ?_
    simp at h1
    simp [List.getD_eq_getElem?_getD, h1]
  have := List.filter_map (f := fun i => l.getD i d) (p := P) (l := List.range l.length)
  rw [e] at this
  rw [this]
  rfl
theorem giv_count {α β : Type} (l : List α) (d : α) (P : α → Bool) (v : Nat → β) : (giv l.length (fun i => P (l.getD i d)) v).length = (l.filter P).length := by
  rw [← giv_filter l d P]
  unfold giv
  rw [List.length_map, List.length_map]
end Ck
/-! own rules: a dict whose keys are tuples of whole numbers and of such tuples -/
namespace L2
open PySem PySem.Spec PyProof.Rows
mutual
/-- a value that is a nested key -/
inductive NK (H : Hp) : V → NestedKey → Prop
  | int (i : Int) : NK H (.int i) (.num i)
  | tup {a : Addr} {xs : List V} {ks : List NestedKey} : H a = some (.tup xs) → NKs H xs ks → NK H (.ref a) (.tup ks)
inductive NKs (H : Hp) : List V → List NestedKey → Prop
  | nil : NKs H [] []
  | cons {v : V} {vs : List V} {k : NestedKey} {ks : List NestedKey} : NK H v k → NKs H vs ks → NKs H (v :: vs) (k :: ks)
end
mutual
theorem nk_keep {H H' : Hp} (e : ∀ b ys, H b = some (.tup ys) → H' b = some (.tup ys)) : ∀ (k : NestedKey) (v : V), NK H v k → NK H' v k
  | .none, _, h => by cases h
  | .num i, _, h => by cases h; exact .int i
  | .text x, _, h => by cases h
  | .tup ks, _, h => by
    cases h with
    | tup a b => exact .tup (e _ _ a) (nks_keep e ks _ b)
theorem nks_keep {H H' : Hp} (e : ∀ b ys, H b = some (.tup ys) → H' b = some (.tup ys)) : ∀ (ks : List NestedKey) (vs : List V), NKs H vs ks → NKs H' vs ks
  | [], _, h => by cases h; exact .nil
  | k :: ks, _, h => by
    cases h with
    | cons a b => exact .cons (nk_keep e k _ a) (nks_keep e ks _ b)
end
mutual
theorem nk_is {P : Program} {w : World} {H : Hp} {h : Heap} (ok : HOk P w H h) : ∀ (k : NestedKey) (v : V) (u : Value), NK H v k → RelV v u → NestedIs h k u
  | .none, _, _, x, _ => by cases x
  | .num i, _, u, x, r => by
    cases x
    obtain ⟨t, rfl⟩ := (show ∃ t, u = Value.int i t from r)
    exact .int i t
  | .text z, _, _, x, _ => by cases x
  | .tup ks, _, u, x, r => by
    cases x with
    | @tup a xs _ hx hk =>
      obtain rfl : u = Value.ref a := r
      obtain ⟨_, its, rv, o, h1, h2, n, h3⟩ := (show ObjOk P w H h a (.tup xs) from ok a _ hx)
      exact .tup h1 h2 h3 (by simpa using nks_is ok ks xs its hk rv)
theorem nks_is {P : Program} {w : World} {H : Hp} {h : Heap} (ok : HOk P w H h) : ∀ (ks : List NestedKey) (vs : List V) (us : List Value), NKs H vs ks → Vals vs us → NestedAll h ks us
  | [], _, _, x, r => by cases x; cases r; exact .nil
  | k :: ks, _, _, x, r => by
    cases x with
    | cons x1 x2 =>
      cases r with
      | cons r1 r2 => exact .cons (nk_is ok k _ _ x1 r1) (nks_is ok ks _ _ x2 r2)
end
theorem nk_key {P : Program} {w : World} {H : Hp} {h : Heap} (ok : HOk P w H h) {k : NestedKey} {b : Addr} (x : NK H (.ref b) k) (hd : k.depth ≤ 8) : (nestedKind P w).is h k b := ⟨nk_is ok k _ _ x rfl, hd⟩
abbrev NL := List (NestedKey × Addr × V)
def valN (L : NL) (k : NestedKey) : Option V := (L.find? fun p => decide (p.1 = k)).map (·.2.2)
def putN (L : NL) (k : NestedKey) (b : Addr) (v : V) : NL := if (valN L k).isSome = true then L.map fun p => if p.1 = k then (p.1, p.2.1, v) else p else L ++ [(k, b, v)]
/-- the raw dict -/
def DicRaw (P : Program) (w : World) (a : Addr) (L : NL) (h : Heap) : Prop := L.length ≤ sizeLine ∧ (a == sysModules) = false ∧ ∃ xs : List (NestedKey × Addr × Value),
  Paired (fun (p : NestedKey × Addr × V) (q : NestedKey × Addr × Value) => p.1 = q.1 ∧ p.2.1 = q.2.1 ∧ RelV p.2.2 q.2.2) L xs ∧
  ∃ o es ep, h.get? a = some o ∧ o.ExactDict ∧ o.data = .dict es ep ∧ es.toList = xs.map (entryOfKey (nestedKind P w)) ∧ (xs.map (·.1)).Nodup
def DicN (P : Program) (w : World) (a : Addr) (L : NL) : HO := .ext (DicRaw P w a L)
/-- its keys stand in the tracked heap -/
def KeysN (H : Hp) (L : NL) : Prop := ∀ p ∈ L, NK H (.ref p.2.1) p.1 ∧ p.1.depth ≤ 8
theorem dicN_ok {P : Program} {w : World} {H : Hp} {h : Heap} {a : Addr} {L : NL} (R : DicRaw P w a L h) : ObjOk P w H h a (DicN P w a L) := by
  refine ⟨R, ?_, fun h1 h2 p k => ?_⟩
  · obtain ⟨_, _, _, _, o, _, _, ho, _⟩ := R
    exact ⟨o, ho⟩
  · obtain ⟨z, y, xs, r, o, es, ep, ho, c⟩ := p
    exact ⟨z, y, xs, r, o, es, ep, k _ ho, c⟩
theorem relN_val {L : NL} {xs : List (NestedKey × Addr × Value)} (r : Paired (fun (p : NestedKey × Addr × V) (q : NestedKey × Addr × Value) => p.1 = q.1 ∧ p.2.1 = q.2.1 ∧ RelV p.2.2 q.2.2) L xs) (k : NestedKey) : RelO (valN L k) ((atKey xs k).map (·.2)) := by
  induction r with
  | nil => exact True.intro
  | @cons p q ps qs h t ih =>
    obtain ⟨h1, _, h2⟩ := h
    unfold valN atKey
    rw [List.find?_cons, List.find?_cons, ← h1]
    by_cases e : p.1 = k
    · rw [decide_eq_true e]; exact h2
    · rw [decide_eq_false e]; exact ih
theorem relN_put {L : NL} {xs : List (NestedKey × Addr × Value)} (r : Paired (fun (p : NestedKey × Addr × V) (q : NestedKey × Addr × Value) => p.1 = q.1 ∧ p.2.1 = q.2.1 ∧ RelV p.2.2 q.2.2) L xs) (k : NestedKey) (b : Addr) {v : V} {u : Value} (rv : RelV v u) :
    Paired (fun (p : NestedKey × Addr × V) (q : NestedKey × Addr × Value) => p.1 = q.1 ∧ p.2.1 = q.2.1 ∧ RelV p.2.2 q.2.2) (putN L k b v) (storedH xs k b u) := by
  have e : (valN L k).isSome = (atKey xs k).isSome := by rw [(relN_val r k).isSome_eq, Option.isSome_map]
  unfold putN storedH
  rw [e]
  by_cases q : (atKey xs k).isSome = true
  · rw [if_pos q, if_pos q]
    clear e q
    induction r with
    | nil => exact .nil
    | @cons p q ps qs h t ih =>
      rw [List.map_cons, List.map_cons]
      refine .cons ?_ ih
      obtain ⟨h1, h2, h3⟩ := h
      unfold putAt
      by_cases e : p.1 = k
      · rw [if_pos e, if_pos (h1.symm.trans e)]; exact ⟨h1, h2, rv⟩
      · rw [if_neg e, if_neg (fun z => e (h1.trans z))]; exact ⟨h1, h2, h3⟩
  · rw [if_neg q, if_neg q]; exact Paired.snoc r ⟨rfl, rfl, rv⟩
theorem putN_length (L : NL) (k : NestedKey) (b : Addr) (v : V) : (putN L k b v).length ≤ L.length + 1 := by
  unfold putN
  split <;> simp
section
variable {X : Cx} {pins : List (Addr × Obj)} {σ : St} {H : Hp} {s : Shared} {a b : Addr} {v : V} {k : NestedKey} {L : NL}
theorem dicN_get (I : Inv X pins σ H s) (e : H a = some (DicN X.prog X.w a L)) (ks : KeysN H L) : L.length ≤ sizeLine ∧ (a == sysModules) = false ∧ ∃ xs : List (NestedKey × Addr × Value),
    Paired (fun (p : NestedKey × Addr × V) (q : NestedKey × Addr × Value) => p.1 = q.1 ∧ p.2.1 = q.2.1 ∧ RelV p.2.2 q.2.2) L xs ∧ s.heap.DictOfH (nestedKind X.prog X.w) a xs := by
  obtain ⟨z, y, xs, r, o, es, ep, h1, h2, h3, h4, h5⟩ := (I.hok a _ e).1
  refine ⟨z, y, xs, r, o, es, ep, h1, h2, h3, h4, fun x hx => ?_, h5⟩
  have all : ∀ {l : NL} {m : List (NestedKey × Addr × Value)}, Paired (fun (p : NestedKey × Addr × V) (q : NestedKey × Addr × Value) => p.1 = q.1 ∧ p.2.1 = q.2.1 ∧ RelV p.2.2 q.2.2) l m → KeysN H l → ∀ x ∈ m, (nestedKind X.prog X.w).is s.heap x.1 x.2.1 := by
    intro l m q
    induction q with
    | nil => intro _ x hx; exact nomatch hx
    | @cons p q ps qs hq t ih =>
      intro hk x hx
      rcases List.mem_cons.mp hx with e | hx
      · subst e
        obtain ⟨g1, g2⟩ := hk p List.mem_cons_self
        rw [← hq.1, ← hq.2.1]
        exact nk_key I.hok g1 g2
      · exact ih (fun y hy => hk y (List.mem_cons_of_mem _ hy)) x hx
  exact all r ks x hx
theorem nested_room {P : Program} {w : World} {A : Around} (hu : A.units + 64 < cLine) : (nestedKind P w).room A.in1 := by
  show A.in1.units + 8 < cLine
  have : A.in1.units ≤ A.units + 1 := Nat.le_refl _
  omega
/-- {} -/
def tDNewN (P : Program) (w : World) : TE := fun _ H Q => ∀ p, H p = none → Q (.ref p) (upd H p (DicN P w p []))
theorem pe_dnewN {P : Program} {w : World} {pos : Pos} (hP : X.prog = P) (hw : X.w = w) : PE X (.Dict [] [] pos) (tDNewN P w) := by
  subst hP hw
  exact ⟨fun pins s σ H Q I h => wpAny_Dict_empty ⟨.ref s.heap.objs.size, _, I.laid (a := s.heap.objs.size) (o := DicN X.prog X.w s.heap.objs.size []) (t' := s.toks) (fun _ _ q => Heap.get?_push_of_some _ q) (Nat.le_refl _)
    (dicN_ok ⟨Nat.zero_le _, beq_eq_false_iff_ne.mpr (Ne.symm (Nat.ne_of_lt I.big)), [], .nil, _, #[], 0, Heap.get?_push_size _ rfl, ⟨rfl, rfl, rfl⟩, rfl, rfl, List.nodup_nil⟩), rfl, h _ (I.hok.fresh (Nat.le_refl _))⟩⟩
/-- key not in d -/
def gNotInN (P : Program) (w : World) (y x : V) (H : Hp) (Q : VK) : Prop := ∃ (a b : Addr) (L : NL) (k : NestedKey), x = .ref a ∧ y = .ref b ∧ H a = some (DicN P w a L) ∧ KeysN H L ∧ NK H (.ref b) k ∧ k.depth ≤ 8 ∧ Q (.bl (!(valN L k).isSome)) H
def tDNiN (P : Program) (w : World) (ty td : TE) : TE := fun σ H Q => ty σ H fun y H1 => td σ H1 fun x H2 => gNotInN P w y x H2 Q
theorem pc_dniN {P : Program} {w : World} {i o : Expr} {td ty : TE} (hP : X.prog = P) (hw : X.w = w) (hu : X.A.units + 64 < cLine) (hi : PE X i ty) (ho : PE X o td) : PC X .NotIn i o (tDNiN P w ty td) := by
  subst hP hw
  refine ⟨fun pins s σ H Q I h => ?_⟩
  refine thn (hi.run pins s σ H _ I h) fun iv s1 ⟨y, H1, I1, ry, q1⟩ => thn (ho.run pins s1 σ H1 _ I1 q1) fun u s2 ⟨x, H2, I2, rx, a, b, L, k, ex, ey, e, ks, nk, dp, q2⟩ => ?_
  subst ex ey
  obtain rfl : u = Value.ref a := rx
  obtain rfl : iv = Value.ref b := ry
  obtain ⟨z, hd, xs, rel, dd⟩ := dicN_get I2 e ks
  refine wpAny_notIn_heap (nested_room hu) (nk_key I2.hok nk dp) hd dd ?_
  refine ⟨.bl (!(valN L k).isSome), H2, I2.tok _, ?_, q2⟩
  have q := (relN_val rel k).isSome_eq
  rw [Option.isSome_map] at q
  rw [← q]
  rfl
/-- d[key] -/
def gGetN (P : Program) (w : World) (x y : V) (H : Hp) (Q : VK) : Prop := ∃ (a b : Addr) (L : NL) (k : NestedKey) (v : V), x = .ref a ∧ y = .ref b ∧ H a = some (DicN P w a L) ∧ KeysN H L ∧ NK H (.ref b) k ∧ k.depth ≤ 8 ∧ valN L k = some v ∧ Q v H
def tDGetN (P : Program) (w : World) (td ty : TE) : TE := fun σ H Q => td σ H fun x H1 => ty σ H1 fun y H2 => gGetN P w x y H2 Q
theorem pe_dgetN {P : Program} {w : World} {i o : Expr} {td ty : TE} {pos : Pos} (hP : X.prog = P) (hw : X.w = w) (hu : X.A.units + 64 < cLine) (ho : PE X o td) (hi : PE X i ty) (hs : NoSl i) : PE X (.Subscript o i pos) (tDGetN P w td ty) := by
  subst hP hw
  refine ⟨fun pins s σ H Q I h => ?_⟩
  refine subD_of PySem.F.slot_dict_getitem.lookup hs (thn (ho.run pins s σ H _ I h) fun u s1 ⟨x, H1, I1, rx, q1⟩ => thn (hi.run pins s1 σ H1 _ I1 q1) fun iv s2 ⟨y, H2, I2, ry, a, b, L, k, v, ex, ey, e, ks, nk, dp, hv, q2⟩ => ?_)
  subst ex ey
  obtain rfl : u = Value.ref a := rx
  obtain rfl : iv = Value.ref b := ry
  obtain ⟨z, hd, xs, rel, dd⟩ := dicN_get I2 e ks
  refine ⟨dd.typeIs, ?_⟩
  obtain ⟨w', hw, rw'⟩ := RelO.some_of (v := v) (o := (atKey xs k).map (·.2)) (by rw [← hv]; exact relN_val rel k)
  obtain ⟨p, hp, hp2⟩ := Option.map_eq_some_iff.mp hw
  refine wpAny_getItem_heap (nested_room hu) (nk_key I2.hok nk dp) dd hp ?_
  rw [hp2]
  exact ⟨v, H2, I2.tok _, rw', q2⟩
/-- d[key] = v -/
def gPutN (P : Program) (w : World) (x y v : V) (D : Ends) (σ : St) (H : Hp) : Prop := ∃ (a b : Addr) (L : NL) (k : NestedKey), x = .ref a ∧ y = .ref b ∧ H a = some (DicN P w a L) ∧ KeysN H L ∧ NK H (.ref b) k ∧ k.depth ≤ 8 ∧ L.length < sizeLine ∧ D.nx σ (upd H a (DicN P w a (putN L k b v)))
def sDPutN (P : Program) (w : World) (td ty tv : TE) : TS := fun D σ H => tv σ H fun v H1 => td σ H1 fun x H2 => ty σ H2 fun y H3 => gPutN P w x y v D σ H3
theorem ps_dputN {P : Program} {w : World} {i o value : Expr} {td ty tv : TE} {pos pos' : Pos} (hP : X.prog = P) (hw : X.w = w) (hu : X.A.units + 64 < cLine) (ho : PE X o td) (hi : PE X i ty) (hv : PE X value tv) (hs : swapsWith value (some (.Subscript o i pos')) pos.line X.env = pure false) :
    PS X (.Assign [.Subscript o i pos'] value pos) (sDPutN P w td ty tv) := by
  subst hP hw
  refine ⟨fun pins s σ H D I h => ?_⟩
  refine wpAny_Assign_Subscript (thn (hv.run pins s σ H _ I h) fun r s1 ⟨v, H1, I1, rv, q1⟩ => thn (ho.run pins s1 σ H1 _ I1 q1) fun u s2 ⟨x, H2, I2, rx, q2⟩ => thn (hi.run pins s2 σ H2 _ I2 q2) fun iv s3 ⟨y, H3, I3, ry, a, b, L, k, ex, ey, e, ks, nk, dp, hl, q3⟩ => ?_) hs
  subst ex ey
  obtain rfl : u = Value.ref a := rx
  obtain rfl : iv = Value.ref b := ry
  obtain ⟨z, hd, xs, rel, dd⟩ := dicN_get I3 e ks
  have hz : xs.length ≤ sizeLine := by rw [← Paired.length rel]; exact z
  refine wpAny_setItem_heap (hsz := hz) (nested_room hu) (nk_key I3.hok nk dp) dd fun h' dd' hs => ?_
  obtain ⟨q, es, ep, hq, h2, h3, h4, _, h5⟩ := dd'
  have hl2 := putN_length L k b v
  exact ⟨σ, _, d_write I3 (by rw [e]; exact True.intro) hs ⟨q, hq⟩ (dicN_ok ⟨by omega, hd, _, relN_put rel k b rv, q, es, ep, hq, h2, h3, h4, h5⟩), q3⟩
/-- len(d) -/
def rLenN (P : Program) (w : World) : List V → Hp → VK → Prop := fun xs H Q => ∃ (a : Addr) (L : NL), xs = [.ref a] ∧ H a = some (DicN P w a L) ∧ KeysN H L ∧ Q (.int (L.length : Nat)) H
theorem call_lenN {P : Program} {w : World} (hP : X.prog = P) (hw : X.w = w) : CallR X (.builtin "len") (rLenN P w) := by
  subst hP hw
  intro pins s σ H xs us Q I r h
  obtain ⟨p, L, rfl, hp, ks, q⟩ := h
  obtain ⟨u, rfl, rx⟩ := vals1 r
  obtain rfl : u = .ref p := rx
  obtain ⟨z, hd, ys, rel, dd⟩ := dicN_get I hp ks
  have hl : L.length = ys.length := Paired.length rel
  refine call_len_dictH hd dd (by rw [← hl]; rw [sizeLine_eq] at z; omega) ?_
  rw [← hl]
  exact ⟨.int (L.length : Nat), H, I.tok _, ⟨_, rfl⟩, q⟩
end
end L2
/-! own rule: for i, x in enumerate(t), t a tuple -/
namespace PySem
open Sem (wp)
theorem meets_enum_one {v : Value} {o : Obj} {H : Heap → Prop} (B : Begins v o H) :
    Meets (Builtin.«enumerate.__new__» ⟨[.type "enumerate", v], []⟩) (fun _ R s => H s.heap ∧
      R (.ok (.ret (.ref (s.heap.push o).objs.size))) { s with heap := (s.heap.push o).push { cls := .type "enumerate", data := .fields #[.none, .bool false, .ref s.heap.objs.size, rawInt 0, .none, .none] } }) :=
  .of_wp fun prog w A R s h => by
    obtain ⟨hp, g, d, tk, os⟩ := s; obtain ⟨h1, h⟩ := h
    have hsub := sub_enumerate
    have q1 : ∀ {A' : Around} {E : Value → Shared → Prop} {Q : Value → Shared → Prop}, Q (.ref hp.objs.size) ⟨hp.push o, g, d, tk, os⟩ → wpAny (model prog w) A' (pyIter v) Q E ⟨hp, g, d, tk, os⟩ :=
      fun q => B.iter prog w _ _ ⟨hp, g, d, tk, os⟩ _ h1 q
    wp_walk using q1
    refine wpAny_stack_any fun st => wpAny_pure ?_
    split
    · rename_i c _ _ _ _ _
      cases (c == Value.type "enumerate")
      · wp_walk using q1
        exact ⟨_, rfl, h⟩
      · wp_walk using q1
        exact ⟨_, rfl, h⟩
    · wp_walk using q1
      exact ⟨_, rfl, h⟩
section
variable {prog : Program} {w : World} {A : Around} {E : Value → Shared → Prop} {s : Shared}
theorem enum_begin_one {v : Value} {o : Obj} {H : Heap → Prop} {Q : Value → Shared → Prop} (B : Begins v o H) (h1 : H s.heap)
    (h : ∀ h', IsEnum h' (s.heap.objs.size + 1) s.heap.objs.size 0 .none → h'.get? s.heap.objs.size = some o → h'.objs.size = s.heap.objs.size + 2 →
      (∀ b o, s.heap.get? b = some o → h'.get? b = some o) → Q (.ref (s.heap.objs.size + 1)) { s with heap := h' }) :
    wpAny (model prog w) A (call (.type "enumerate") [v]) Q E s := by
  refine callType_new F.called_enumerate (by decide) (F.typeCall_enumerate_1 _) (F.newCall_enumerate_1 _) (fun obj => F.args_object_init_2 obj _) F.entry_enumerate_new
    (meets_enum_one B) ⟨h1, ?_⟩
  have hz : (s.heap.push o).objs.size = s.heap.objs.size + 1 := Heap.size_push ..
  show _ ∧ _
  rw [hz]
  have he : IsEnum ((s.heap.push o).push { cls := .type "enumerate", data := .fields #[.none, .bool false, .ref s.heap.objs.size, rawInt 0, .none, .none] }) (s.heap.objs.size + 1) s.heap.objs.size 0 .none := by
    have := Heap.get?_push_size (s.heap.push o) (o := { cls := .type "enumerate", data := .fields #[.none, .bool false, .ref s.heap.objs.size, rawInt 0, .none, .none] }) rfl
    rw [hz] at this; exact this
  refine ⟨⟨_, he, rfl⟩, h _ he (Heap.get?_push_of_some _ (Heap.get?_push_size _ B.free)) (by rw [Heap.size_push, hz]) fun b o x => Heap.get?_push_of_some _ (Heap.get?_push_of_some _ x)⟩
end
end PySem
namespace L2
open PySem PySem.Spec PyProof.Rows
def IteT (K : PySem.W.Frag) (a : Addr) : It :=
  ⟨fun i H => ∃ (xs : List V) (x : V), SqT K H a xs ∧ xs[i]? = some x, fun i H v H' => ∃ T x, v = .ref T ∧ H T = none ∧ H' = upd H T (.tup [.int (i : Nat), x]) ∧ ∀ xs, SqT K H a xs → xs[i]? = some x, fun i H => ∃ xs : List V, SqT K H a xs ∧ xs.length = i⟩
theorem isTuple_of {h : Heap} {a : Addr} {vs : Array Value} (p : IsTup h a vs) : h.IsTuple a vs := p
theorem turn_enumT {P : Program} {w : World} {K : PySem.W.Frag} {elts : List Expr} {kk : Nat} {tpos : Pos} (a e it : Addr) :
    Turn P w K (.Tuple elts kk tpos) (IteT K a) [e, it] e (fun i h => (∃ old, IsEnum h e it ((i : Nat) : Int) old) ∧ h.IsTupleIter it a i ∧ e ≠ it ∧ a ≠ it ∧ e ≠ a) where
  mem := by simp
  obj := fun i h st b hb => by
    obtain ⟨⟨old, he⟩, ⟨o, ho, hc, hd⟩, _⟩ := st
    have e' : b = e ∨ b = it := by simpa using hb
    rcases e' with z | z
    · rw [z]; exact ⟨_, he, fun v q => nomatch q⟩
    · rw [z]; exact ⟨o, ho, fun v q => by rw [hd] at q; cases q⟩
  keep := fun i h h' st k => let ⟨⟨old, he⟩, hi, hne⟩ := st; ⟨⟨old, k e (by simp) _ he⟩, hi.at fun o q => k it (by simp) o q, hne⟩
  item := by
    intro X hP hw hK hc i pins s σ H E I hf st hg
    subst hP hw hK
    obtain ⟨⟨old, he⟩, hit, hne, hai, hea⟩ := st
    obtain ⟨xs, x, hq, hx⟩ := hg
    obtain ⟨its, rv, p, hz⟩ := I.tuple hq
    obtain ⟨u, hu, ru⟩ := rv.get hx
    have hel : e < s.heap.objs.size := Heap.lt_size he
    have hil : it < s.heap.objs.size := by obtain ⟨_, q, _⟩ := hit; exact Heap.lt_size q
    have D := Draws.tuple (prog := X.prog) (w := X.w) (A := X.A.in1) (show X.A.in1.handled = none from I.ok.hd hc) it a hai its.toArray
    have hlt : i < its.toArray.size := by
      have := (List.getElem?_eq_some_iff.mp hu).1
      simpa using this
    refine wpAny_pyNext_enum_itemD D he ⟨hit, isTuple_of p⟩ hlt hne (by simp [hne, hea]) fun x' h' tk hx' ho hst' hT hsz hk => ?_
    obtain ⟨hit', _⟩ := hst'
    have ex : x' = u := by
      have q : its.toArray[i]? = some u := by simpa using hu
      rw [q] at hx'
      exact (Option.some.inj hx').symm
    subst ex
    refine ⟨_, rfl, wpAny_letOwnedTupleGo_enum (s := { s with heap := h', toks := tk + 1 }) ho fun h'' he' sb => ?_⟩
    have hT2 : h''.get? s.heap.objs.size = some { cls := .type "tuple", data := .seq #[.int i tk, x'] } := (sb.2 _ (Nat.ne_of_gt hel)).trans hT
    have new : ObjOk X.prog X.w (upd H s.heap.objs.size (.tup [.int (i : Nat), x])) h'' s.heap.objs.size (.tup [.int (i : Nat), x]) :=
      ⟨by show 2 ≤ sizeLine; decide, [.int i tk, x'], .cons ⟨_, rfl⟩ (.cons ru .nil), ⟨_, hT2, rfl, _, rfl⟩⟩
    have I1 : Inv X pins σ (upd H s.heap.objs.size (.tup [.int (i : Nat), x])) { s with heap := h'', toks := tk + 1 } :=
      I.turnedNew (ch := [e, it]) (fun b ob hb q => (sb.2 b (fun z => hb (by simp [z]))).trans (hk b ob (fun z => hb (by simp [z])) (fun z => hb (by simp [z])) q)) hf (Nat.le_refl _) new
    refine ⟨.ref s.heap.objs.size, _, I1, rfl, ⟨_, x, rfl, I.hok.fresh (Nat.le_refl _), rfl, fun ys hy => by rw [I.tuple_inj hy hq]; exact hx⟩, ⟨⟨x', ?_⟩, hit'.at fun o q => (sb.2 it (Ne.symm hne)).trans q, hne, hai, hea⟩, fun b hb => ?_⟩
    · have e1 : ((i + 1 : Nat) : Int) = (i : Int) + 1 := by omega
      rw [e1]; exact he'
    · have hb' : b < s.heap.objs.size := by
        have e' : b = e ∨ b = it := by simpa using hb
        rcases e' with z | z
        · rw [z]; exact hel
        · rw [z]; exact hil
      rw [upd_ne (Nat.ne_of_lt hb')]
      exact (hf b hb).1
  done := by
    intro X hP hw hK hc i pins s σ H E I hf st hg
    subst hP hw hK
    obtain ⟨⟨old, he⟩, hit, hne, hai, hea⟩ := st
    obtain ⟨xs, hq, hx⟩ := hg
    obtain ⟨its, rv, p, hz⟩ := I.tuple hq
    obtain ⟨f0, f1, f2, f3, f4, f5⟩ := hf it (by simp)
    have hl := rv.length
    have D := Draws.tuple (prog := X.prog) (w := X.w) (A := X.A.in1) (show X.A.in1.handled = none from I.ok.hd hc) it a hai its.toArray
    have ei : its.toArray.size = i := by simp; omega
    exact wpAny_pyNext_enum_endD D he (show s.heap.IsTupleIter it a its.toArray.size ∧ s.heap.IsTuple a its.toArray from ⟨by rw [ei]; exact hit, isTuple_of p⟩) fun h' eb => ⟨rfl, I.turned (t' := s.toks) (fun b o hb q => eb b o hb q) f0 f1 f3 f4 f5⟩
  self := fun A i s Q E st h => let ⟨⟨_, he⟩, _⟩ := st; wpAny_pyIter_enum he h
def iEnumT (K : PySem.W.Frag) (ta : TA) : TI := fun σ H R => ta σ H fun vs H1 => ∃ a xs, vs = [.ref a] ∧ SqT K H1 a xs ∧ R (IteT K a) H1
theorem pi_enumT {X : Cx} {K : PySem.W.Frag} {e : Expr} {ta : TA} {p pos tpos : Pos} {elts : List Expr} {kk : Nat} (hK : X.K = K) (hg : Gl X "enumerate") (hm : X.mg "enumerate" = none) (ha : PA X [e] ta) (hs : starEach [e] X.env = [(false, eval e X.env)] := by rfl) :
    PI X (.Tuple elts kk tpos) (.Call (.Name "enumerate" p) [e] [] pos) (iEnumT K ta) := by
  subst hK
  refine ⟨fun pins s σ H R I h => ?_⟩
  refine Call_ (ld_blt I hg hm PyProof.Rows.boot_enumerate (PyProof.Rows.callWith_type1 (thn (ha.run pos pins s σ H _ I h) fun us s1 ⟨vs, H1, I1, r1, q1⟩ => ?_) hs rfl))
  obtain ⟨a, xs, ex, hq, q⟩ := q1
  subst ex
  cases r1 with
  | cons r rr =>
    cases rr
    cases r
    obtain ⟨its, rv, p', hz⟩ := I1.tuple hq
    have hal : a < s1.heap.objs.size := by obtain ⟨o, ho, _⟩ := p'; exact Heap.lt_size ho
    refine enum_begin_one (begins_tuple a its.toArray) (isTuple_of p') fun h' he hit hsz hk => wpAny_pyIter_enum he ?_
    have I2 : Inv X pins σ H1 { s1 with heap := h' } := I1.kept (t' := s1.toks) hk
    refine ⟨s1.heap.objs.size + 1, [s1.heap.objs.size + 1, s1.heap.objs.size], _, _, H1, rfl, I2, turn_enumT a (s1.heap.objs.size + 1) s1.heap.objs.size, ⟨⟨.none, he⟩, ⟨_, hit, rfl, rfl⟩, Nat.succ_ne_self _, Nat.ne_of_lt hal, fun z => ?_⟩, fun b hb => ?_, q⟩
    · rw [← z] at hal
      exact Nat.lt_irrefl _ (Nat.lt_trans (Nat.lt_succ_self _) hal)
    have e' : b = s1.heap.objs.size + 1 ∨ b = s1.heap.objs.size := by simpa using hb
    have hle : s1.heap.objs.size ≤ b := by
      rcases e' with z | z
      · rw [z]; exact Nat.le_add_right _ _
      · rw [z]; exact Nat.le_refl _
    exact I1.fpOk hle (I1.hok.fresh hle)
end L2
/-! rules with K as a letter; statements that are never reached -/
namespace L2
open PySem PySem.Spec PyProof.Rows
section
variable {X : Cx} {K : PySem.W.Frag}
theorem opk_neD (h : X.K = K) (hu : X.A.units + 64 < cLine) : OpR X (compareOp .NotEq) (rNeD K) := by rw [← h]; exact op_neD hu
theorem opk_eqD (h : X.K = K) (hu : X.A.units + 64 < cLine) : OpR X (compareOp .Eq) (rEqD K) := by rw [← h]; exact op_eqD hu
theorem slk_tup (h : X.K = K) : SlR X (rSlA K) := by rw [← h]; exact sl_tupA
theorem fldk {e : Expr} {f : Str} {pos : Pos} {ta : TE} (h : X.K = K) (he : PE X e ta) (hb : attributeBase e f X.env (eval e X.env) = eval e X.env) : PE X (.Attribute e f pos) (tFld K ta f) := by rw [← h]; exact pe_fld he hb
end
end L2
/-! more of the general layer: attributes, methods, new objects, loops over tuples, zip, enumerate, dict comprehensions, chains, dicts with nested keys -/
namespace L2
open PySem PySem.Spec PyProof.Rows
section
variable {X : Cx} {K : PySem.W.Frag}
def rTupL (K : PySem.W.Frag) : List V → Hp → VK → Prop := fun xs H Q => ∃ p ys, xs = [.ref p] ∧ SqL K H p ys ∧ ∀ l, H l = none → Q (.ref l) (upd H l (.tup ys))
def rTupT (K : PySem.W.Frag) : List V → Hp → VK → Prop := fun xs H Q => ∃ p ys, xs = [.ref p] ∧ SqT K H p ys ∧ Q (.ref p) H
def rListDk : List V → Hp → VK → Prop := fun xs H Q => ∃ (a : Addr) (kvs : List (Key × V)), xs = [.ref a] ∧ Rd H a (.dK kvs) ∧ ∀ p, H p = none → Q (.ref p) (upd H p (.lst (kvs.map fun kv => kV kv.1)))
theorem callk_tupL (h : X.K = K) : CallR X (.type "tuple") (rTupL K) := by rw [← h]; exact callR_imp call_tuple_of fun _ _ _ ⟨p, ys, a, b, c⟩ => ⟨p, ys, a, .inl ⟨b, c⟩⟩
theorem callk_tupT (h : X.K = K) : CallR X (.type "tuple") (rTupT K) := by rw [← h]; exact callR_imp call_tuple_of fun _ _ _ ⟨p, ys, a, b, c⟩ => ⟨p, ys, a, .inr ⟨b, c⟩⟩
def rListT (K : PySem.W.Frag) : List V → Hp → VK → Prop := fun xs H Q => ∃ p ys, xs = [.ref p] ∧ SqT K H p ys ∧ ∀ l, H l = none → Q (.ref l) (upd H l (.lst ys))
theorem callk_listT (h : X.K = K) : CallR X (.type "list") (rListT K) := by rw [← h]; exact callR_imp call_list_of fun _ _ _ ⟨p, ys, a, b, c⟩ => ⟨p, ys, a, .inr b, c⟩
theorem slk_list (h : X.K = K) : SlR X (rSlL K) := by rw [← h]; exact sl_list
theorem pik_enum (h : X.K = K) {e : Expr} {ta : TA} {p pos tpos : Pos} {elts : List Expr} {kk : Nat} (hg : Gl X "enumerate") (hm : X.mg "enumerate" = none) (ha : PA X [e] ta) (hs : starEach [e] X.env = [(false, eval e X.env)] := by rfl) :
    PI X (.Tuple elts kk tpos) (.Call (.Name "enumerate" p) [e] [] pos) (iEnum K ta) := by rw [← h]; exact pi_enum hg hm ha hs
theorem call_listDk (hc : X.calm = true) : CallR X (.type "list") rListDk := callR_imp (call_listD hc) fun _ _ _ h => h
theorem crk_max (h : X.K = K) (hc : X.calm = true) : CallR X (.builtin "max") (rMax K) := by rw [← h]; exact cr_max hc
theorem pe_globI {x : Str} {i : Int} {pos : Pos} (hg : Gl X x) (h : ∃ t, X.mg x = some (.int i t)) (hd : (x == ("__debug__" : Str)) = false := by decide) : PE X (.Name x pos) (tC (.int i)) := by
  obtain ⟨t, h⟩ := h
  exact pe_glob hg h ⟨t, rfl⟩ hd
theorem pek_revL (h : X.K = K) {e : Expr} {te : TE} {k : Nat} {p1 p2 p3 pos : Pos} (he : PE X e te) : PE X (.Subscript e (.Slice none none (some (.UnaryOp .USub (.Constant (.int 1) k p1) p2)) p3) pos) (tRevL K te) := by rw [← h]; exact pe_revL he
theorem pik_zip (h : X.K = K) {e e2 : Expr} {ta : TA} {p pos tpos : Pos} {elts : List Expr} {kk : Nat} (hg : Gl X "zip") (hm : X.mg "zip" = none) (ha : PA X [e, e2] ta)
    (hs : starEach [e, e2] X.env = (false, eval e X.env) :: starEach [e2] X.env := by rfl) (hpl : (backTo pos (starEach [e2] X.env)).any (·.1) = false := by rfl) :
    PI X (.Tuple elts kk tpos) (.Call (.Name "zip" p) [e, e2] [] pos) (iZip K ta) := by rw [← h]; exact pi_zip hg hm ha hs hpl
theorem psk_fld (h : X.K = K) {o value : Expr} {f : Str} {pos pos' : Pos} {ta tv : TE} (ha : PE X o ta) (hv : PE X value tv) (hs : swapsWith value (some (.Attribute o f pos')) pos.line X.env = pure false) : PS X (.Assign [.Attribute o f pos'] value pos) (sFld K ta tv f) := by rw [← h]; exact ps_fld ha hv hs
end
end L2
namespace Ck
open PySem L2
section
variable {K : PySem.W.Frag} {σ : L2.St} {H : Hp} {Q : VK} {R : Bool → Hp → Prop} {F : L2.St → Hp → Prop} {D : Ends} {ta tb tc tv : TE} {ar : TA} {a C dx : Addr} {fs : List (Str × V)} {f m : Str} {x y v : V} {xs ys : List V} {g : TG} {tu : TS} {tt : TT} {te : TE}
/-! ### attributes, methods, new objects -/
def gFld (K : PySem.W.Frag) (x : V) (f : Str) (H1 : Hp) (Q : VK) : Prop := ∃ a C dx fs v, x = .ref a ∧ H1 a = some (.ins C dx fs) ∧ Cls K C ∧ NoAttr K C f ∧ fs.lookup f = some v ∧ Q v H1
theorem w_fld : tFld K ta f σ H Q = ta σ H fun x H1 => gFld K x f H1 Q := rfl
theorem g_fld (h : H a = some (.ins C dx fs)) (c : Cls K C) (n : NoAttr K C f) (l : fs.lookup f = some v) (q : Q v H) : gFld K (.ref a) f H Q := ⟨a, C, dx, fs, v, rfl, h, c, n, l, q⟩
def gSf (K : PySem.W.Frag) (x y : V) (f : Str) (D : Ends) (σ : L2.St) (H2 : Hp) : Prop := ∃ a C dx fs, x = .ref a ∧ H2 a = some (.ins C dx fs) ∧ Cls K C ∧ NoAttr K C f ∧ fs.length < 1000 ∧ D.nx σ (upd H2 a (.ins C dx (putF f y fs)))
theorem w_sfld : sFld K ta tv f D σ H = tv σ H fun y H1 => ta σ H1 fun x H2 => gSf K x y f D σ H2 := rfl
theorem g_sfld (h : H a = some (.ins C dx fs)) (c : Cls K C) (n : NoAttr K C f) (l : fs.length < 1000) (q : D.nx σ (upd H a (.ins C dx (putF f y fs)))) : gSf K (.ref a) y f D σ H := ⟨a, C, dx, fs, rfl, h, c, n, l, q⟩
def gMeth (C : Addr) (m : Str) (x : V) (H1 : Hp) (G : Prop) : Prop := ∃ a dx fs, x = .ref a ∧ H1 a = some (.ins C dx fs) ∧ fs.lookup m = none ∧ G
theorem w_meth {sp : Sp} {dvs : List V} {E : XK} : tMeth C m sp dvs E ta ar σ H Q = ta σ H fun x H1 => gMeth C m x H1 (ar σ H1 fun vs H2 => sp (x :: (vs ++ dvs)) H2 Q E) := by
  unfold tMeth gMeth
  congr 1
theorem g_meth {G : Prop} (h : H a = some (.ins C dx fs)) (l : fs.lookup m = none) (q : G) : gMeth C m (.ref a) H G := ⟨a, dx, fs, rfl, h, l, q⟩
theorem w_make {sp : Sp} {dvs : List V} {E : XK} : tMake C sp dvs E ar σ H Q = ar σ H fun vs H1 => ∀ x dx, H1 x = none → H1 dx = none → dx ≠ x → sp (.ref x :: (vs ++ dvs)) (upd (upd H1 dx (.own x)) x (.ins C dx [])) (fun v H2 => v = .non ∧ Q (.ref x) H2) E := rfl
theorem w_chain {r r' : R2} : tChain r r' ta tb tc σ H Q = ta σ H fun x H1 => tb σ H1 fun y H2 => r x y H2 fun z H3 => ∃ k, z = .bl k ∧ (if k = true then tc σ H3 fun w' H4 => r' y w' H4 Q else Q (.bl false) H3) := rfl
theorem w_break {D : Ends} {σ : L2.St} {H : Hp} : tBreak D σ H = D.bk σ H := rfl
theorem w_retN : tRetN D σ H = D.rt .non H := rfl
/-! ### tuple(..), list(d), max, [::-1] -/
theorem g_tupL (h : SqL K H a xs) (q : ∀ l, H l = none → Q (.ref l) (upd H l (.tup xs))) : rTupL K [V.ref a] H Q := ⟨a, xs, rfl, h, q⟩
theorem g_tupT (h : SqT K H a xs) (q : Q (.ref a) H) : rTupT K [V.ref a] H Q := ⟨a, xs, rfl, h, q⟩
theorem g_listD {kvs : List (Key × V)} (h : Rd H a (.dK kvs)) (q : ∀ p, H p = none → Q (.ref p) (upd H p (.lst (kvs.map fun kv => kV kv.1)))) : rListDk [V.ref a] H Q := ⟨a, kvs, rfl, h, q⟩
theorem g_max {ns : List Int} (h : SqL K H a (ns.map V.int)) (h0 : 0 < ns.length) (q : ∀ m, m ∈ ns → (∀ y, y ∈ ns → y ≤ m) → Q (.int m) H) : rMax K [V.ref a] H Q := ⟨a, ns, rfl, h, h0, q⟩
def gRev (K : PySem.W.Frag) (x : V) (H1 : Hp) (Q : VK) : Prop := ∃ a xs, x = .ref a ∧ SqL K H1 a xs ∧ ∀ p, H1 p = none → Q (.ref p) (upd H1 p (.lst xs.reverse))
theorem w_rev : tRevL K te σ H Q = te σ H fun x H1 => gRev K x H1 Q := rfl
theorem g_rev (h : SqL K H a xs) (q : ∀ p, H p = none → Q (.ref p) (upd H p (.lst xs.reverse))) : gRev K (.ref a) H Q := ⟨a, xs, rfl, h, q⟩
/-- t[i:j] of a tuple, the bounds not below nought -/
theorem cut_nat {i j : Nat} : cutV xs (some ((i : Nat) : Int)) (some ((j : Nat) : Int)) = (xs.drop i).take (j - i) := by
  unfold cutV
  rw [HT.sIx_nat, HT.sIx_nat]
  refine List.ext_getElem? fun k => ?_
  rw [List.getElem?_take, List.getElem?_take, List.getElem?_drop, List.getElem?_drop]
  by_cases c2 : i ≤ xs.length
  · rw [show min i xs.length = i by omega]
    by_cases c : k < j - i
    · rw [if_pos c]
      by_cases c3 : k < min j xs.length - i
      · rw [if_pos c3]
      · rw [if_neg c3, List.getElem?_eq_none (by omega)]
    · rw [if_neg c, if_neg (by omega)]
  · rw [List.getElem?_eq_none (l := xs) (i := i + k) (by omega), List.getElem?_eq_none (l := xs) (i := min i xs.length + k) (by omega)]
    split <;> split <;> rfl
theorem g_sl {i j : Nat} (h : H a = some (.tup xs)) (q : ∀ p H', Same H H' → H' p = some (.tup ((xs.drop i).take (j - i))) → Q (.ref p) H') : rSlA K (.ref a) (some ((i : Nat) : Int)) (some ((j : Nat) : Int)) H Q := by
  refine ⟨a, xs, rfl, SqT.of h, fun ⟨w1, w2⟩ => q a H (Same.refl H) ?_, fun _ p hp => q p _ (same_new hp _) ?_⟩
  · rw [h, ← cut_nat]
    unfold cutV
    rw [w1, w2]
    simp
  · rw [upd_same, cut_nat]
/-! ### for over a tuple, over zip of two lists, over enumerate of a tuple -/
def fT (K : PySem.W.Frag) (g : TG) (tu : TS) (D : Ends) (σ : L2.St) (x : V) (H1 : Hp) : Prop := ∃ a, x = .ref a ∧ (∃ xs, SqT K H1 a xs) ∧ ∃ W : Nat → Nat → L2.St → Hp → Prop, (∃ m, W 0 m σ H1) ∧ ∀ i m σ H, W i m σ H →
  ((Itt K a).stop i H ∧ D.nx σ H) ∨ ((Itt K a).go i H ∧ ∃ N : L2.St → Hp → Prop, (∀ σ' H', N σ' H' → ∃ m', m' < m ∧ W (i + 1) m' σ' H') ∧ ∀ x H', (Itt K a).yld i H x H' → g x σ H' fun σ2 H2 => tu { D with nx := N, ct := N, bk := D.nx } σ2 H2)
theorem w_forT {tl : TE} : tFor (iTup K tl) g tu D σ H = tl σ H fun x H1 => fT K g tu D σ x H1 := rfl
theorem f_T (hx : SqT K H a xs) (Pv : Nat → L2.St → Hp → Prop) (h0 : Pv 0 σ H) (hl : ∀ i σ' H', i ≤ xs.length → Pv i σ' H' → SqT K H' a xs)
    (hs : ∀ i x σ' H', xs[i]? = some x → Pv i σ' H' → g x σ' H' fun σ2 H2 => tu { D with nx := Pv (i + 1), ct := Pv (i + 1), bk := D.nx } σ2 H2) (hd : ∀ σ' H', Pv xs.length σ' H' → D.nx σ' H') : fT K g tu D σ (.ref a) H :=
  ⟨a, rfl, ⟨xs, hx⟩, for_tup Pv h0 hl hs hd⟩
def fZ (K : PySem.W.Frag) (g : TG) (tu : TS) (D : Ends) (σ : L2.St) (vs : List V) (H1 : Hp) : Prop := ∃ a b xs ys, vs = [.ref a, .ref b] ∧ SqL K H1 a xs ∧ SqL K H1 b ys ∧ ∃ W : Nat → Nat → L2.St → Hp → Prop, (∃ m, W 0 m σ H1) ∧ ∀ i m σ H, W i m σ H →
  ((Itz K a b).stop i H ∧ D.nx σ H) ∨ ((Itz K a b).go i H ∧ ∃ N : L2.St → Hp → Prop, (∀ σ' H', N σ' H' → ∃ m', m' < m ∧ W (i + 1) m' σ' H') ∧ ∀ v H', (Itz K a b).yld i H v H' → g v σ H' fun σ2 H2 => tu { D with nx := N, ct := N, bk := D.nx } σ2 H2)
theorem w_forZ : tFor (iZip K ar) g tu D σ H = ar σ H fun vs H1 => fZ K g tu D σ vs H1 := rfl
theorem f_Z {b : Addr} (hx : SqL K H a xs) (hy : SqL K H b ys) (hl : xs.length = ys.length) (Pv : Nat → L2.St → Hp → Prop) (h0 : Pv 0 σ H) (hq : ∀ i σ' H', Pv i σ' H' → SqL K H' a xs ∧ SqL K H' b ys)
    (hs : ∀ (i : Nat) (x y : V) (T : Addr) (σ' : L2.St) (H' : Hp), xs[i]? = some x → ys[i]? = some y → Pv i σ' H' → H' T = none → g (.ref T) σ' (upd H' T (.tup [x, y])) fun σ2 H2 => tu { D with nx := Pv (i + 1), ct := Pv (i + 1), bk := D.nx } σ2 H2) (hd : ∀ σ' H', Pv xs.length σ' H' → D.nx σ' H') : fZ K g tu D σ [.ref a, .ref b] H :=
  ⟨a, b, xs, ys, rfl, hx, hy, RZ.for_zipL hl Pv h0 hq hs hd⟩
def fE (K : PySem.W.Frag) (g : TG) (tu : TS) (D : Ends) (σ : L2.St) (vs : List V) (H1 : Hp) : Prop := ∃ a xs, vs = [.ref a] ∧ SqT K H1 a xs ∧ ∃ W : Nat → Nat → L2.St → Hp → Prop, (∃ m, W 0 m σ H1) ∧ ∀ i m σ H, W i m σ H →
  ((IteT K a).stop i H ∧ D.nx σ H) ∨ ((IteT K a).go i H ∧ ∃ N : L2.St → Hp → Prop, (∀ σ' H', N σ' H' → ∃ m', m' < m ∧ W (i + 1) m' σ' H') ∧ ∀ v H', (IteT K a).yld i H v H' → g v σ H' fun σ2 H2 => tu { D with nx := N, ct := N, bk := D.nx } σ2 H2)
theorem w_forE : tFor (iEnumT K ar) g tu D σ H = ar σ H fun vs H1 => fE K g tu D σ vs H1 := rfl
theorem f_E (hx : SqT K H a xs) (Pv : Nat → L2.St → Hp → Prop) (h0 : Pv 0 σ H) (hl : ∀ i σ' H', i ≤ xs.length → Pv i σ' H' → SqT K H' a xs)
    (hs : ∀ i x T σ' H', xs[i]? = some x → Pv i σ' H' → H' T = none → g (.ref T) σ' (upd H' T (.tup [.int (i : Nat), x])) fun σ2 H2 => tu { D with nx := Pv (i + 1), ct := Pv (i + 1), bk := D.nx } σ2 H2) (hd : ∀ σ' H', Pv xs.length σ' H' → D.nx σ' H') : fE K g tu D σ [.ref a] H := by
  refine ⟨a, xs, rfl, hx, fun i m σ H => m = xs.length - i ∧ i ≤ xs.length ∧ Pv i σ H, ⟨xs.length, rfl, Nat.zero_le _, h0⟩, ?_⟩
  rintro i m σ H ⟨rfl, hi, p⟩
  have q := hl i σ H hi p
  by_cases hlt : i < xs.length
  · refine .inr ⟨⟨xs, xs[i], q, List.getElem?_eq_getElem hlt⟩, Pv (i + 1), fun σ' H' p' => ⟨xs.length - (i + 1), by omega, rfl, hlt, p'⟩, fun v H' y => ?_⟩
    obtain ⟨T, x, e1, e2, e3, e4⟩ := y
    subst e1 e3
    exact hs i x T σ H (e4 xs q) p e2
  · have e : i = xs.length := by omega
    subst e
    exact .inl ⟨⟨xs, q, rfl⟩, hd σ H p⟩
/-! ### comprehensions over a tuple; dict comprehensions over zip -/
def cT (K : PySem.W.Frag) (g : TG) (tt : TT) (te : TE) (vl : List Nat) (σ : L2.St) (Q : VK) (x : V) (H1 : Hp) : Prop := ∃ a, x = .ref a ∧ (∃ xs, SqT K H1 a xs) ∧ ∀ D, H1 D = none → ∃ W : Nat → Nat → Hp → Prop, (∃ m, W 0 m (upd H1 D (.lst []))) ∧ ∀ i m H, W i m H →
  ((Itt K a).stop i H ∧ Q (.ref D) H) ∨ ((Itt K a).go i H ∧ ∃ Nx : Hp → Prop, (∀ H', Nx H' → ∃ m', m' < m ∧ W (i + 1) m' H') ∧ ∀ x H', (Itt K a).yld i H x H' → g x (wipe σ vl) H' fun σ2 H2 => wipe σ2 vl = wipe σ vl ∧ tt σ2 H2 fun b H3 =>
    if b = true then te σ2 H3 fun y H4 => ∃ acc, H4 D = some (.lst acc) ∧ acc.length < sizeLine ∧ Nx (upd H4 D (.lst (acc ++ [y]))) else Nx H3)
theorem w_lcT {tl : TE} {vs : List Nat} : tLc (iTup K tl) g tt te vs σ H Q = tl σ H fun x H1 => cT K g tt te vs σ Q x H1 := rfl
theorem c_T {vs : List Nat} (hx : SqT K H a xs) (f : Nat → Bool) (v : Nat → V)
    (hs : ∀ D i x, H D = none → xs[i]? = some x → g x (wipe σ vs) (upd H D (.lst (giv i f v))) fun σ2 H2 => wipe σ2 vs = wipe σ vs ∧ tt σ2 H2 fun b H3 => if b = true then te σ2 H3 (cY H D f v i) else cN H D f v i H3)
    (q : ∀ p, H p = none → Q (.ref p) (upd H p (.lst (giv xs.length f v)))) : cT K g tt te vs σ Q (.ref a) H := by
  refine ⟨a, rfl, ⟨xs, hx⟩, fun D hD => ?_⟩
  refine lc_tup (xs := xs) (fun i H' => H' = upd H D (.lst (giv i f v))) rfl (fun i H' _ p => by rw [p]; exact Same.tup (same_new hD _) hx) (fun i x H' hi p => ?_) (fun H' p => by rw [p]; exact q D hD)
  subst p
  exact hs D i x hD hi
def dZ (K : PySem.W.Frag) (g : TG) (tt : TT) (tk tv : TE) (vl : List Nat) (σ : L2.St) (Q : VK) (vs : List V) (H1 : Hp) : Prop := ∃ a b xs ys, vs = [.ref a, .ref b] ∧ SqL K H1 a xs ∧ SqL K H1 b ys ∧ ∀ D, H1 D = none → ∃ W : Nat → Nat → Hp → Prop, (∃ m, W 0 m (upd H1 D (.dK []))) ∧ ∀ i m H, W i m H →
  ((Itz K a b).stop i H ∧ Q (.ref D) H) ∨ ((Itz K a b).go i H ∧ ∃ Nx : Hp → Prop, (∀ H', Nx H' → ∃ m', m' < m ∧ W (i + 1) m' H') ∧ ∀ x H', (Itz K a b).yld i H x H' → g x (wipe σ vl) H' fun σ2 H2 => wipe σ2 vl = wipe σ vl ∧ tt σ2 H2 fun b H3 =>
    if b = true then tk σ2 H3 fun y H4 => tv σ2 H4 fun z H5 => ∃ kvs k, y = kV k ∧ H5 D = some (.dK kvs) ∧ kvs.length < sizeLine ∧ Nx (upd H5 D (.dK (putK kvs k z))) else Nx H3)
theorem w_dcZ {tk : TE} {vs : List Nat} : tDc (iZip K ar) g tt tk tv vs σ H Q = ar σ H fun ws H1 => dZ K g tt tk tv vs σ Q ws H1 := rfl
theorem d_Z {b : Addr} {tk : TE} {vs : List Nat} (hx : SqL K H a xs) (hy : SqL K H b ys) (hl : xs.length = ys.length) (Pv : Addr → Nat → Hp → Prop) (h0 : ∀ D, H D = none → Pv D 0 (upd H D (.dK []))) (hq : ∀ D i H', H D = none → Pv D i H' → SqL K H' a xs ∧ SqL K H' b ys)
    (hs : ∀ D (i : Nat) (x y : V) (T : Addr) (H' : Hp), H D = none → xs[i]? = some x → ys[i]? = some y → Pv D i H' → H' T = none → g (.ref T) (wipe σ vs) (upd H' T (.tup [x, y])) fun σ2 H2 => wipe σ2 vs = wipe σ vs ∧ tt σ2 H2 fun b H3 =>
      if b = true then tk σ2 H3 fun y H4 => tv σ2 H4 fun z H5 => ∃ kvs k, y = kV k ∧ H5 D = some (.dK kvs) ∧ kvs.length < sizeLine ∧ Pv D (i + 1) (upd H5 D (.dK (putK kvs k z))) else Pv D (i + 1) H3)
    (q : ∀ D H', H D = none → Pv D xs.length H' → Q (.ref D) H') : dZ K g tt tk tv vs σ Q [.ref a, .ref b] H := by
  refine ⟨a, b, xs, ys, rfl, hx, hy, fun D hD => ⟨fun i m H => m = xs.length - i ∧ i ≤ xs.length ∧ Pv D i H, ⟨xs.length, rfl, Nat.zero_le _, h0 D hD⟩, ?_⟩⟩
  rintro i m H' ⟨rfl, hi, p⟩
  obtain ⟨qx, qy⟩ := hq D i H' hD p
  by_cases hlt : i < xs.length
  · have hx : xs[i]? = some xs[i] := List.getElem?_eq_getElem hlt
    have hlt2 : i < ys.length := by omega
    have hy : ys[i]? = some ys[i] := List.getElem?_eq_getElem hlt2
    refine .inr ⟨⟨xs, ys, _, _, qx, qy, hx, hy⟩, Pv D (i + 1), fun H' p' => ⟨xs.length - (i + 1), by omega, rfl, hlt, p'⟩, fun v H2 y => ?_⟩
    obtain ⟨T, x', y', e1, e2, e3, f1, f2⟩ := y
    subst e1 e3
    exact hs D i x' y' T H' hD (f1 xs qx) (f2 ys qy) p e2
  · have e : i = xs.length := by omega
    subst e
    exact .inl ⟨⟨xs, ys, qx, qy, .inl (Nat.le_refl _)⟩, q D H' hD p⟩
/-! ### dicts with nested keys -/
section
variable {P : Program} {w : World} {td ty : TE} {L : NL} {b : Addr} {k : NestedKey}
theorem w_dnewN : tDNewN P w σ H Q = ∀ p, H p = none → Q (.ref p) (upd H p (DicN P w p [])) := rfl
theorem w_dniN : tDNiN P w ty td σ H Q = ty σ H fun y H1 => td σ H1 fun x H2 => gNotInN P w y x H2 Q := rfl
theorem w_dgetN : tDGetN P w td ty σ H Q = td σ H fun x H1 => ty σ H1 fun y H2 => gGetN P w x y H2 Q := rfl
theorem w_dputN : sDPutN P w td ty tv D σ H = tv σ H fun v H1 => td σ H1 fun x H2 => ty σ H2 fun y H3 => gPutN P w x y v D σ H3 := rfl
theorem g_niN (h : H a = some (DicN P w a L)) (ks : KeysN H L) (nk : NK H (.ref b) k) (dp : k.depth ≤ 8) (q : Q (.bl (!(valN L k).isSome)) H) : gNotInN P w (.ref b) (.ref a) H Q := ⟨a, b, L, k, rfl, rfl, h, ks, nk, dp, q⟩
theorem g_getN (h : H a = some (DicN P w a L)) (ks : KeysN H L) (nk : NK H (.ref b) k) (dp : k.depth ≤ 8) (e : valN L k = some v) (q : Q v H) : gGetN P w (.ref a) (.ref b) H Q := ⟨a, b, L, k, v, rfl, rfl, h, ks, nk, dp, e, q⟩
theorem g_putN (h : H a = some (DicN P w a L)) (ks : KeysN H L) (nk : NK H (.ref b) k) (dp : k.depth ≤ 8) (l : L.length ≤ 16000000) (q : D.nx σ (upd H a (DicN P w a (putN L k b v)))) : gPutN P w (.ref a) (.ref b) v D σ H := ⟨a, b, L, k, rfl, rfl, h, ks, nk, dp, szl l, q⟩
theorem g_lenN (h : H a = some (DicN P w a L)) (ks : KeysN H L) (q : Q (.int (L.length : Nat)) H) : rLenN P w [V.ref a] H Q := ⟨a, L, rfl, h, ks, q⟩
end
end
end Ck
/-! own rule: tuple * n for any n from 1 on (at 1 it is the tuple itself) -/
namespace L2
open PySem PySem.Spec PyProof.Rows
theorem tuple_mul1 (l : Addr) (items : Array Value) (n : Nat) (dd : Option Addr) (sl : Array (Option Value)) (u : Tok) :
    Meets (Builtin.«tuple.__mul__» ⟨[.ref l, .int 1 u], []⟩) (fun _ R s => s.heap.get? l = some { cls := .type "tuple", dict := dd, data := .seq items n, slots := sl } ∧
      R (.ok (.ret (Value.ref l))) { s with heap := s.heap, toks := s.toks }) :=
  .of_wp fun prog w A R s h => by
    obtain ⟨hp, g, d, tk, os⟩ := s
    obtain ⟨hl, h⟩ := h
    have f1 := AutoSeq1.idx_int
    have c0 : (decide ((1 : Int) < -(2 ^ 63)) || decide ((1 : Int) ≥ 2 ^ 63)) = false := by decide
    have c1 : (items.isEmpty || (1 : Int) == 1) = true := by simp
    wp_walk using wpAny_loadPart' hl
    all_goals repeat (first
      | (refine wpAny_ite_false (decide_eq_false (by rw [c0]; exact Bool.false_ne_true)) ?_; wp_walk using wpAny_loadPart' hl)
      | (refine wpAny_ite_true (decide_eq_true c1) ?_; wp_walk using wpAny_loadPart' hl))
    exact ⟨_, rfl, h⟩
section
variable {X : Cx} {K : PySem.W.Frag}
/-- t * k, 1 ≤ k: some tuple with the items k times over -/
def rRepA (K : PySem.W.Frag) : R2 := fun x y H Q => ∃ l k xs, x = .ref l ∧ y = .int k ∧ H l = some (.tup xs) ∧ xs ≠ [] ∧ 1 ≤ k ∧ k ≤ 1000 ∧ xs.length ≤ 1000 ∧ ∀ p H', Same H H' → (p = l ∨ H p = none) → H' p = some (.tup (List.replicate k.toNat xs).flatten) → Q (.ref p) H'
theorem op_repA (h : X.K = K) : OpR X (binaryOp .Mult) (rRepA K) := by
  subst h
  intro pins s σ H x y v u Q I rx ry h
  obtain ⟨l, k, xs, rfl, rfl, hT, hne, h1, h2, hz, q⟩ := h
  by_cases k1 : k = 1
  · subst k1
    cases rx
    obtain ⟨t, rfl⟩ := ry
    obtain ⟨its, r, ⟨⟨cls, dd, data, sl⟩, ho, hc, n, hd⟩, hs⟩ := I.tuple (SqT.of hT)
    simp only at hc hd
    subst hc hd
    refine wpAny_binaryOp_repeat_ref (T := "tuple") (U := "int") (by decide) ⟨_, ho, rfl⟩ (fun s' => typeIs_int s' 1 t) noFill_tuple_mul F.fills_int_mul F.slot_int_rmul repeat_tuple F.slot_int_index.lookup
      (call_meets F.slot_int_rmul (typeIs_int s 1 t) F.entry_int_rmul (F.args_int_rmul_2 _ _) (int_rmul_tuple 1 t l its.toArray n dd sl)
        ⟨ho, rfl, ⟨_, ho, rfl⟩, call_meets F.slot_tuple_mul ⟨_, ho, rfl⟩ F.entry_tuple_mul (F.args_tuple_mul_2 _ _) (tuple_mul1 l its.toArray n dd sl t) ⟨ho, ?_⟩⟩)
    exact ⟨.ref l, H, I, rfl, q l H (fun _ _ e => e) (.inl rfl) (by rw [hT]; simp)⟩
  · exact op_repT pins s σ H _ _ v u Q I rx ry ⟨l, k, xs, rfl, rfl, SqT.of hT, hne, by omega, h2, hz, fun p hp => q p _ (fun b u e => by rw [upd_ne (ne_of_none e hp)]; exact e) (.inr hp) upd_same⟩
end
end L2
namespace Ck
open PySem L2
theorem g_repA {K : PySem.W.Frag} {H : Hp} {Q : VK} {l : Addr} {v : V} {k : Nat} (h : H l = some (.tup [v])) (h1 : 1 ≤ k) (h2 : k ≤ 1000) (q : ∀ p H', Same H H' → (p = l ∨ H p = none) → H' p = some (.tup (List.replicate k v)) → Q (.ref p) H') : rRepA K (.ref l) (.int (k : Nat)) H Q := by
  refine ⟨l, k, [v], rfl, rfl, h, by simp, by omega, by omega, by simp, fun p H' s o e => q p H' s o ?_⟩
  rw [e, Int.toNat_natCast]
  congr 2
  induction k with
  | zero => rfl
  | succ k ih => simp [List.replicate_succ]
/-- two statements, what holds between them said -/
theorem seq_mid {tu tv : TS} {D : Ends} {σ : L2.St} {H : Hp} (Post : L2.St → Hp → Prop) (h1 : ∀ N : L2.St → Hp → Prop, (∀ σ' H', Post σ' H' → N σ' H') → tu { D with nx := N } σ H) (h2 : ∀ σ' H', Post σ' H' → tv D σ' H') : tSeq tu tv D σ H := h1 (tv D) h2
end Ck
/-! terms that keep what follows from what (asked of a while's test) -/
namespace Ck
open PySem L2
def Mo (t : TE) : Prop := ∀ (σ : L2.St) (H : Hp) (Q Q' : VK), (∀ v H1, Q v H1 → Q' v H1) → t σ H Q → t σ H Q'
def MoA (t : TA) : Prop := ∀ (σ : L2.St) (H : Hp) (Q Q' : List V → Hp → Prop), (∀ v H1, Q v H1 → Q' v H1) → t σ H Q → t σ H Q'
def MoT (t : TT) : Prop := ∀ (σ : L2.St) (H : Hp) (Q Q' : Bool → Hp → Prop), (∀ v H1, Q v H1 → Q' v H1) → t σ H Q → t σ H Q'
def MoR (r : R2) : Prop := ∀ (x y : V) (H : Hp) (Q Q' : VK), (∀ v H1, Q v H1 → Q' v H1) → r x y H Q → r x y H Q'
def MoL (r : List V → Hp → VK → Prop) : Prop := ∀ (xs : List V) (H : Hp) (Q Q' : VK), (∀ v H1, Q v H1 → Q' v H1) → r xs H Q → r xs H Q'
section
variable {ta tb : TE} {ar : TA} {tt tu : TT} {r : R2} {rl : List V → Hp → VK → Prop} {n : Nat} {v : V} {K : PySem.W.Frag}
theorem mo_var : Mo (tVar n) := fun σ H Q Q' h q => by
  unfold tVar at q ⊢
  obtain ⟨v, e, q⟩ := q
  exact ⟨v, e, h _ _ q⟩
theorem mo_c : Mo (tC v) := fun σ H Q Q' h q => h _ _ q
theorem mo_op (hr : MoR r) (ha : Mo ta) (hb : Mo tb) : Mo (tOp r ta tb) := fun σ H Q Q' h q => ha _ _ _ _ (fun x H1 q1 => hb _ _ _ _ (fun y H2 q2 => hr _ _ _ _ _ h q2) q1) q
theorem mo_nil : MoA tNil := fun σ H Q Q' h q => h _ _ q
theorem mo_cons (ha : Mo ta) (hr : MoA ar) : MoA (tCons ta ar) := fun σ H Q Q' h q => ha _ _ _ _ (fun x H1 q1 => hr _ _ _ _ (fun xs H2 q2 => h _ _ q2) q1) q
theorem mo_cb (hr : MoL rl) (ha : MoA ar) : Mo (tCB rl ar) := fun σ H Q Q' h q => ha _ _ _ _ (fun xs H1 q1 => hr _ _ _ _ h q1) q
theorem mo_test (ha : Mo ta) : MoT (tTest ta) := fun σ H Q Q' h q => ha _ _ _ _ (fun x H1 ⟨k, e, q1⟩ => ⟨k, e, h _ _ q1⟩) q
theorem mo_tB (ha : Mo ta) : MoT (tB ta) := fun σ H Q Q' h q => ha _ _ _ _ (fun x H1 ⟨k, e, q1⟩ => ⟨k, e, h _ _ q1⟩) q
theorem mo_not (ht : MoT tt) : MoT (tNot tt) := fun σ H Q Q' h q => ht _ _ _ _ (fun b H1 q1 => h _ _ q1) q
theorem mo_and (ht : MoT tt) (hu : MoT tu) : MoT (tAnd tt tu) := fun σ H Q Q' h q => ht _ _ _ _ (fun b H1 q1 => by
  cases b with
  | true => exact hu _ _ _ _ h q1
  | false => exact h _ _ q1) q
theorem mo_or (ht : MoT tt) (hu : MoT tu) : MoT (tOr tt tu) := fun σ H Q Q' h q => ht _ _ _ _ (fun b H1 q1 => by
  cases b with
  | true => exact h _ _ q1
  | false => exact hu _ _ _ _ h q1) q
theorem mo_rI0 {g : Int → Int → V} : MoR (rI0 g) := fun x y H Q Q' h q => by
  unfold rI0 at q ⊢
  obtain ⟨i, j, e1, e2, q⟩ := q
  exact ⟨i, j, e1, e2, h _ _ q⟩
theorem mo_rI {C : Int → Int → Prop} {g : Int → Int → V} : MoR (rI C g) := fun x y H Q Q' h q => by
  unfold rI at q ⊢
  obtain ⟨i, j, e1, e2, c, q⟩ := q
  exact ⟨i, j, e1, e2, c, h _ _ q⟩
theorem mo_isN : MoR (fun x y H Q => y = .non ∧ Q (.bl (decide (x = .non))) H) := fun x y H Q Q' h ⟨e, q⟩ => ⟨e, h _ _ q⟩
theorem mo_notN : MoR (fun x y H Q => y = .non ∧ Q (.bl (!decide (x = .non))) H) := fun x y H Q Q' h ⟨e, q⟩ => ⟨e, h _ _ q⟩
theorem mo_lenL : MoL (rLenL K) := fun xs H Q Q' h ⟨p, ys, e, s, q⟩ => ⟨p, ys, e, s, h _ _ q⟩
theorem mo_lenT : MoL (rLenTu K) := fun xs H Q Q' h ⟨p, ys, e, s, q⟩ => ⟨p, ys, e, s, h _ _ q⟩
theorem mo_max : MoL (rMax K) := fun xs H Q Q' h ⟨p, ys, e, s, l, q⟩ => ⟨p, ys, e, s, l, fun m m1 m2 => h _ _ (q m m1 m2)⟩
theorem mo_ixL : MoR (rIxL K) := fun x y H Q Q' h ⟨p, xs, i, v, e1, e2, s, a, q⟩ => ⟨p, xs, i, v, e1, e2, s, a, h _ _ q⟩
theorem mo_ixT : MoR (rIxT K) := fun x y H Q Q' h ⟨p, xs, i, v, e1, e2, s, a, q⟩ => ⟨p, xs, i, v, e1, e2, s, a, h _ _ q⟩
end
/-- x += e, ints -/
theorem w_aug0 {te : TE} {ti : TIp} {D : Ends} {σ : L2.St} {H : Hp} {x : V} {i : Nat} (h : σ[i]? = some (some x)) (q : te σ H fun y H1 => ti x y H1 fun z H2 => D.nx (σ.set i (some z)) H2) : tAug i te ti D σ H := ⟨x, h, q⟩
theorem w_ipI {f : Int → Int → Int} {i j : Int} {H : Hp} {Q : VK} : ipI f (.int i) (.int j) H Q = Q (.int (f i j)) H := by
  unfold ipI
  simp
theorem w_part {t : TE} {σ : L2.St} {H : Hp} {R : Option Int → Hp → Prop} : tPart t σ H R = t σ H fun x H1 => ∃ i, x = .int i ∧ R (some i) H1 := rfl
theorem w_part0 {i : Int} {H : Hp} {R : Option Int → Hp → Prop} : (∃ j, V.int i = .int j ∧ R (some j) H) = R (some i) H := by simp
theorem w_pnone {σ : L2.St} {H : Hp} {R : Option Int → Hp → Prop} : tNoPart σ H R = R none H := rfl
end Ck
local macro_rules | `(tactic| walk_at "wp") => `(tactic| try simp only [Ck.w_var0, Ck.w_varS, Ck.w_c, Ck.w_op, Ck.w_un, Ck.w_i0, Ck.w_i, Ck.w_u, Ck.w_test, Ck.w_B, Ck.w_and, Ck.w_or, Ck.w_not, Ck.w_andV, Ck.w_notV, Ck.w_orV, Ck.w_max2, Ck.w_eqI, Ck.w_neI, Ck.w_neB, Ck.w_eqB, Ck.w_nil, Ck.w_cons, Ck.w_tup, Ck.w_lst, Ck.w_cb, Ck.w_call, Ck.w_asg, Ck.w_name, Ck.w_ret, Ck.w_drop, Ck.w_next, Ck.w_ifs, Ck.w_ifx, Ck.w_set0, Ck.w_setS, Ck.w_bm, Ck.w_sub, Ck.w_sl, L2.V.int.injEq, L2.V.bl.injEq, L2.V.ref.injEq, List.cons.injEq, List.append_nil, List.nil_append, List.cons_append, and_true, true_and, and_self, exists_eq_left', exists_eq_left, exists_eq', exists_eq, reduceCtorEq, false_and, exists_false, or_false, false_or, exists_const, Ck.w_intI, Ck.w_intB, Ck.w_absI, Ck.cx_K, forall_const, Ck.w_forR1, Ck.w_forR2, Ck.w_forL, Ck.w_forI, Ck.w_lcR1, Ck.w_lcL, Ck.w_lcK, Ck.w_yes, Ck.w_wipe0, Ck.w_wipeS, Ck.w_gnil, Ck.w_gcons, Ck.w_dnewT, Ck.w_dnewK, Ck.w_disp1, Ck.w_dput, Ck.w_dget, Ck.w_din, Ck.w_dnotin, Ck.w_bits, Ck.w_tru, if_true, if_false, Option.isSome_some, decide_true, decide_false, Option.isSome_none, Bool.not_true, Bool.not_false, Bool.false_eq_true, List.map_cons, List.map_nil])
local macro_rules | `(tactic| walk_at "st") => `(tactic| (first | refine Ck.go_seq ?_ | skip) <;> walk_at "wp")
local macro_rules | `(tactic| walk_at "wn") => `(tactic| try simp only [Ck.n_and, Ck.n_and1, Ck.n_or, Ck.n_xor, Ck.n_shl, Ck.n_shr, Ck.n_add1, Ck.n_add, Ck.n_eq, Ck.n_lt])

namespace Ck
open PySem L2
section
variable {P : Program} {w : World} {K : PySem.W.Frag} {mg : Str → Option Value} {base : Heap} {f : Addr} {fd : FuncData}
/-! ### _law_pool -/
abbrev s_law_pool : Stmt := top 20
theorem sc_law_pool : FnScope ["script", "place", "cell", "rest"] ["script", "place"] (defScope s_law_pool) := ⟨rfl, rfl, rfl, by decide +kernel, rfl, by decide +kernel, by decide +kernel⟩
/-- a pool of numbers: three ints, the first two not below nought -/
def spPool (K : PySem.W.Frag) : Sp := fun vs H Q _ => ∃ (a : Addr) (ns : List Int) (k : Int), vs = [.ref a, .int k] ∧ SqL K H a (ns.map V.int) ∧ 0 ≤ k ∧
  ∀ (p : Addr) (c r : Int), 0 ≤ c → 0 ≤ r → H p = none → Q (.ref p) (upd H p (.lst [.int c, .int r, .int 0]))
theorem ok_law_pool (F : Fun K "_law_pool" "_law_pool" s_law_pool f fd) (Z : Bl mg) : FnOk P w K mg base CX0 1 f fd ["script", "place"] (spPool K) := by
  refine F.ok sc_law_pool (fun vs H Q E h => ?_) (fun cdv A outer s H vs Q E hr h => ?_)
  · obtain ⟨a, ns, k, rfl, _⟩ := h
    rfl
  obtain ⟨a, ns, k, rfl, hS, hk, q⟩ := h
  refine ⟨_, (pss_cons (ps_set (i := 2) sc_law_pool.nd rfl (Or.inl rfl) pe_int)
  (pss_cons (ps_if (pt_cmpR op_lt (pv 1) (pe_callB (callk_lenL (K := K) rfl) (by rfl) Z.len (by decide +kernel) (pa_cons (pv 0) pa_nil)) (nomark _)) (pss_one (ps_set (i := 2) sc_law_pool.nd rfl (Or.inl rfl) (pe_callB call_absI (by rfl) Z.abs (by decide +kernel) (pa_cons (pe_callTy call_intI (by rfl) Z.int (by decide +kernel) (pa_cons (pe_ix (ixk_list (K := K) rfl) (pv 0) (pv 1) (fun _ _ => rfl)) pa_nil)) pa_nil)))) pss_nil)
  (pss_cons (ps_set (i := 3) sc_law_pool.nd rfl (Or.inl rfl) pe_int)
  (pss_cons (ps_if (pt_cmpR op_ge (pv 2) (pe_op op_pow pe_int pe_int) (nomark _)) (pss_one (ps_set (i := 3) sc_law_pool.nd rfl (Or.inl rfl) (pv 2))) pss_nil)
  (pss_one (ps_ret (pe_lst (pa_cons (pv 2) (pa_cons (pv 3) (pa_cons pe_int pa_nil)))))))))), ?_⟩
  have rest : ∀ c : Int, 0 ≤ c → ∀ tu D, D = { nx := fun x H' => Q V.non H', rt := Q } → tu = (tSeq (tAsg (tC (V.int 0)) (gName 3)) (tSeq (tIfS (tTest (tOp (rI0 fun i j => V.bl (decide (j ≤ i))) (tVar 2) (tOp (rI CPow fun i j => V.int (i ^ j.toNat)) (tC (V.int 10)) (tC (V.int 18))))) (tAsg (tVar 2) (gName 3)) tNext)
      (tRet (tLst (tCons (tVar 2) (tCons (tVar 3) (tCons (tC (V.int 0)) tNil))))))) → tu D [some (V.ref a), some (V.int k), some (V.int c), none] H := by
    rintro c hc _ _ rfl rfl
    walk_at "st"
    walk_at "st"
    refine ⟨⟨by decide, by decide, by decide⟩, ite_split (fun _ => ?_) (fun _ => ?_)⟩
    · walk_at "st"
      exact ⟨szr rfl, fun p hp => q p _ _ hc hc hp⟩
    · walk_at "st"
      exact ⟨szr rfl, fun p hp => q p _ _ hc (Int.le_refl 0) hp⟩
  change tSeq _ _ _ [some (.ref a), some (.int k), none, none] _
  walk_at "st"
  walk_at "st"
  refine g_len hS ?_
  walk_at "wp"
  refine ite_split (fun c => ?_) (fun c => ?_)
  · have c := of_decide_eq_true c
    rw [List.length_map] at c
    obtain ⟨v, hv⟩ := at_int hk c
    refine k_ix hS hv ?_
    walk_at "wp"
    exact rest _ (by split <;> omega) _ _ rfl rfl
  · exact rest 0 (Int.le_refl 0) _ _ rfl rfl
/-! ### _law_draw -/
abbrev s_law_draw : Stmt := top 21
theorem sc_law_draw : FnScope ["pool", "many", "got", "one"] ["pool", "many"] (defScope s_law_draw) := ⟨rfl, rfl, rfl, by decide +kernel, rfl, by decide +kernel, by decide +kernel⟩
/-- a number from 0 to below many; the pool's second place stays not below nought -/
def spDraw : Sp := fun vs H Q _ => ∃ (a : Addr) (m c r k : Int), vs = [.ref a, .int m] ∧ 0 < m ∧ m < 1000000000 ∧ 0 ≤ c ∧ 0 ≤ r ∧ H a = some (.lst [.int c, .int r, .int k]) ∧
  ∀ (x r' k' : Int), 0 ≤ x → x < m → 0 ≤ r' → Q (.int x) (upd H a (.lst [.int c, .int r', .int k']))
theorem cmul_of {i j : Int} (h1 : -(2 ^ 64) < i) (h2 : i < 2 ^ 64) : CMul i j := .inl ⟨h1, h2⟩
theorem ix3 {a b c : V} : atI [a, b, c] 0 = some a ∧ atI [a, b, c] 1 = some b ∧ atI [a, b, c] 2 = some c := ⟨rfl, rfl, rfl⟩
theorem ok_law_draw (F : Fun K "_law_draw" "_law_draw" s_law_draw f fd) (Z : Bl mg) : FnOk P w K mg base CX0 1 f fd ["pool", "many"] spDraw := by
  refine F.ok sc_law_draw (fun vs H Q E h => ?_) (fun cdv A outer s H vs Q E hr h => ?_)
  · obtain ⟨a, m, c, r, k, rfl, _⟩ := h
    rfl
  obtain ⟨a, m, c, r, k, rfl, m0, m1, c0, r0, hL, q⟩ := h
  refine ⟨_, (pss_cons (ps_if (pt_cmpR op_gt (pe_ix (ixk_list (K := K) rfl) (pv 0) pe_int (fun _ _ => rfl)) pe_int (nomark _)) (pss_cons (ps_set (i := 2) sc_law_draw.nd rfl (Or.inl rfl) (pe_op op_mod (pe_callTy call_intI (by rfl) Z.int (by decide +kernel) (pa_cons (pe_ix (ixk_list (K := K) rfl) (pv 0) pe_int (fun _ _ => rfl)) pa_nil)) (pv 1)))
  (pss_cons (ps_asg (pe_op op_fdivW (pe_ix (ixk_list (K := K) rfl) (pv 0) pe_int (fun _ _ => rfl)) (pv 1)) (pg_sub (pv 0) pe_int set_list))
  (pss_one (ps_ret (pv 2))))) pss_nil)
  (pss_cons (ps_asg (pe_op op_add (pe_ix (ixk_list (K := K) rfl) (pv 0) pe_int (fun _ _ => rfl)) pe_int) (pg_sub (pv 0) pe_int set_list))
  (pss_cons (ps_set (i := 3) sc_law_draw.nd rfl (Or.inl rfl) (pe_op op_mod (pe_callTy call_intI (by rfl) Z.int (by decide +kernel) (pa_cons (pe_op op_add (pe_op op_mod (pe_callTy call_intI (by rfl) Z.int (by decide +kernel) (pa_cons (pe_ix (ixk_list (K := K) rfl) (pv 0) pe_int (fun _ _ => rfl)) pa_nil)) pe_int) (pe_op op_mul pe_int (pe_ix (ixk_list (K := K) rfl) (pv 0) pe_int (fun _ _ => rfl)))) pa_nil)) pe_int))
  (pss_cons (ps_set (i := 3) sc_law_draw.nd rfl (Or.inl rfl) (pe_op op_mod (pe_callTy call_intI (by rfl) Z.int (by decide +kernel) (pa_cons (pe_op op_add (pe_op op_add (pe_op op_mul (pv 3) (pv 3)) (pe_op op_mul pe_int (pe_ix (ixk_list (K := K) rfl) (pv 0) pe_int (fun _ _ => rfl)))) pe_int) pa_nil)) pe_int))
  (pss_cons (ps_set (i := 3) sc_law_draw.nd rfl (Or.inl rfl) (pe_op op_mod (pe_callTy call_intI (by rfl) Z.int (by decide +kernel) (pa_cons (pe_op op_add (pe_op op_mul (pv 3) (pv 3)) (pe_op op_mod (pe_callTy call_intI (by rfl) Z.int (by decide +kernel) (pa_cons (pe_ix (ixk_list (K := K) rfl) (pv 0) pe_int (fun _ _ => rfl)) pa_nil)) pe_int)) pa_nil)) pe_int))
  (pss_one (ps_ret (pe_op op_mod (pe_callTy call_intI (by rfl) Z.int (by decide +kernel) (pa_cons (pv 3) pa_nil)) (pv 1))))))))), ?_⟩
  change tSeq _ _ _ [some (.ref a), some (.int m), none, none] _
  walk_at "st"
  refine k_ix (SqL.of hL) ix3.2.1 ?_
  walk_at "wp"
  refine ite_split (fun d => ?_) (fun d => ?_)
  · have d := of_decide_eq_true d
    walk_at "st"
    refine k_ix (SqL.of hL) ix3.2.1 ?_
    walk_at "wp"
    refine ⟨m0, ?_⟩
    walk_at "st"
    refine k_ix (SqL.of hL) ix3.2.1 ?_
    walk_at "wp"
    refine ⟨⟨m0, ?_⟩, k_set (n := 1) hL rfl ?_⟩
    · have : m.natAbs < 2 ^ 30 := by omega
      exact Nat.lt_of_lt_of_le (PySem.Flt.log2_lt_of (by decide) this) (by decide)
    walk_at "st"
    exact q _ _ _ (Int.emod_nonneg _ (by omega)) (Int.emod_lt_of_pos _ m0) (Int.ediv_nonneg r0 (by omega))
  · walk_at "st"
    refine k_ix (SqL.of hL) ix3.2.2 ?_
    walk_at "wp"
    refine k_set (n := 2) hL rfl ?_
    have e : ∀ x : V, [V.int c, V.int r, V.int k].set 2 x = [V.int c, V.int r, x] := fun _ => rfl
    rw [e]
    generalize k + 1 = k1
    have hL1 : upd H a (.lst [.int c, .int r, .int k1]) a = some (.lst [.int c, .int r, .int k1]) := upd_same
    generalize hH : upd H a (.lst [.int c, .int r, .int k1]) = H1 at hL1
    have fin : ∀ x : Int, 0 ≤ x → x < m → Q (.int x) H1 := fun x h0 h1 => by
      rw [← hH]
      exact q x r k1 h0 h1 r0
    clear hH
    walk_at "st"
    refine k_ix (SqL.of hL1) ix3.1 ?_
    walk_at "wp"
    refine ⟨by decide, ?_⟩
    refine k_ix (SqL.of hL1) ix3.2.2 ?_
    walk_at "wp"
    refine ⟨cmul_of (by decide) (by decide), by decide, ?_⟩
    have b1 := Int.emod_lt_of_pos (c % 2147483647 + 69621 * k1) (show (0 : Int) < 2147483647 by decide)
    have b0 := Int.emod_nonneg (c % 2147483647 + 69621 * k1) (show (2147483647 : Int) ≠ 0 by decide)
    generalize (c % 2147483647 + 69621 * k1) % 2147483647 = o1 at b0 b1 ⊢
    walk_at "st"
    refine ⟨cmul_of (by omega) (by omega), k_ix (SqL.of hL1) ix3.2.2 ?_⟩
    walk_at "wp"
    refine ⟨cmul_of (by decide) (by decide), by decide, ?_⟩
    have b3 := Int.emod_lt_of_pos (o1 * o1 + 48271 * k1 + 11) (show (0 : Int) < 2147483629 by decide)
    have b2 := Int.emod_nonneg (o1 * o1 + 48271 * k1 + 11) (show (2147483629 : Int) ≠ 0 by decide)
    generalize (o1 * o1 + 48271 * k1 + 11) % 2147483629 = o2 at b2 b3 ⊢
    walk_at "st"
    refine ⟨cmul_of (by omega) (by omega), k_ix (SqL.of hL1) ix3.1 ?_⟩
    walk_at "wp"
    refine ⟨by decide, by decide, m0, ?_⟩
    exact fin _ (Int.emod_nonneg _ (by omega)) (Int.emod_lt_of_pos _ m0)
/-! ### _law_pick -/
abbrev s_law_pick : Stmt := top 22
theorem sc_law_pick : FnScope ["pool", "row"] ["pool", "row"] (defScope s_law_pick) := ⟨rfl, rfl, rfl, by decide +kernel, rfl, by decide +kernel, by decide +kernel⟩
/-- an item of the row -/
def spPick : Sp := fun vs H Q _ => ∃ (a b : Addr) (xs : List V) (c r k : Int), vs = [.ref a, .ref b] ∧ 0 < xs.length ∧ xs.length < 1000000 ∧ 0 ≤ c ∧ 0 ≤ r ∧ H a = some (.lst [.int c, .int r, .int k]) ∧ H b = some (.lst xs) ∧ b ≠ a ∧
  ∀ (v : V) (i : Nat) (r' k' : Int), xs[i]? = some v → 0 ≤ r' → Q v (upd H a (.lst [.int c, .int r', .int k']))
theorem ok_law_pick (D_law_draw : Fn P w K mg base 1 "_law_draw" ["pool", "many"] spDraw) (F : Fun K "_law_pick" "_law_pick" s_law_pick f fd) (Z : Bl mg) : FnOk P w K mg base CX0 2 f fd ["pool", "row"] spPick := by
  refine F.ok sc_law_pick (fun vs H Q E h => ?_) (fun cdv A outer s H vs Q E hr h => ?_)
  · obtain ⟨a, b, xs, c, r, k, rfl, _⟩ := h
    rfl
  obtain ⟨a, b, xs, c, r, k, rfl, x0, x1, c0, r0, hA, hB, ne, q⟩ := h
  refine ⟨_, (pss_one (ps_ret (pe_ix (ixk_list (K := K) rfl) (pv 1) (pe_call D_law_draw.G (hr.mono (by omega)) (by rfl) D_law_draw.m D_law_draw.kp D_law_draw.b .nil pass0 (pa_cons (pv 0) (pa_cons (pe_callB (callk_lenL (K := K) rfl) (by rfl) Z.len (by decide +kernel) (pa_cons (pv 1) pa_nil)) pa_nil))) (fun _ _ => rfl)))), ?_⟩
  change tRet _ _ [some (.ref a), some (.ref b)] _
  walk_at "st"
  refine g_len (SqL.of hB) ?_
  walk_at "wp"
  refine ⟨a, xs.length, c, r, k, rfl, by omega, by omega, c0, r0, hA, fun x r' k' h0 h1 h2 => ?_⟩
  obtain ⟨v, hv, hi⟩ := at_v h0 h1
  exact k_ix (SqL.of (by rw [upd_ne ne]; exact hB)) hv (q v _ r' k' hi h2)
end
end Ck
namespace Ck
open PySem L2
theorem ks_bi : kitB "bool" "int" = some true := by decide +kernel
theorem ks_bb : kitB "bool" "bool" = some true := by decide +kernel
theorem ks_ib : kitB "int" "bool" = some false := by decide +kernel
theorem ks_ii : kitB "int" "int" = some true := by decide +kernel
theorem ks_lb : kitB "list" "bool" = some false := by decide +kernel
theorem ks_li : kitB "list" "int" = some false := by decide +kernel
theorem ks_ls : kitB "list" "str" = some false := by decide +kernel
theorem ks_lt : kitB "list" "tuple" = some false := by decide +kernel
theorem ks_ll : kitB "list" "list" = some true := by decide +kernel
theorem ks_tb : kitB "tuple" "bool" = some false := by decide +kernel
theorem ks_ti : kitB "tuple" "int" = some false := by decide +kernel
theorem ks_ts : kitB "tuple" "str" = some false := by decide +kernel
theorem ks_tt : kitB "tuple" "tuple" = some true := by decide +kernel
/-- no list or tuple in it has more than a million items -/
inductive Small : PyData → Prop
  | bl (b : Bool) : Small (.bool b)
  | int (i : Int) : Small (.int i)
  | lst {ds : List PyData} : ds.length ≤ 1000000 → (∀ d ∈ ds, Small d) → Small (.list ds)
  | tup {ds : List PyData} : ds.length ≤ 1000000 → (∀ d ∈ ds, Small d) → Small (.tuple ds)
theorem Small.l {ds : List PyData} (h : Small (.list ds)) : ds.length ≤ 1000000 ∧ ∀ d ∈ ds, Small d := by
  cases h with
  | lst a b => exact ⟨a, b⟩
theorem Small.t {ds : List PyData} (h : Small (.tuple ds)) : ds.length ≤ 1000000 ∧ ∀ d ∈ ds, Small d := by
  cases h with
  | tup a b => exact ⟨a, b⟩
theorem depth_mem : ∀ {ds : List PyData} {d : PyData}, d ∈ ds → d.depth ≤ PyData.depthAll ds
  | [], _, h => by cases h
  | e :: ds, d, h => by
    rw [PyData.depthAll]
    rcases List.mem_cons.mp h with z | z
    · rw [z]
      omega
    · have := depth_mem z
      omega
section
variable {P : Program} {w : World} {K : PySem.W.Frag} {mg : Str → Option Value} {base : Heap} {f : Addr} {fd : FuncData}
/-! ### _law_whole -/
abbrev s_law_whole : Stmt := top 23
theorem sc_law_whole : FnScope ["value"] ["value"] (defScope s_law_whole) := ⟨rfl, rfl, rfl, by decide +kernel, rfl, by decide +kernel, by decide +kernel⟩
def spWhole : Sp := fun vs H Q _ => ∃ i : Int, vs = [.int i] ∧ Q (.bl true) H
theorem ok_law_whole (F : Fun K "_law_whole" "_law_whole" s_law_whole f fd) (Z : Bl mg) : FnOk P w K mg base CX0 1 f fd ["value"] spWhole := by
  refine F.ok sc_law_whole (fun vs H Q E h => ?_) (fun cdv A outer s H vs Q E hr h => ?_)
  · obtain ⟨i, rfl, _⟩ := h
    rfl
  obtain ⟨i, rfl, q⟩ := h
  refine ⟨_, (pss_one (ps_ret (pe_and (pe_callB (callk_isi (K := K) rfl) (by rfl) Z.isinstance (by decide +kernel) (pa_cons (pv 0) (pa_cons (pe_bltn (v := .ty "int") (by rfl) Z.int (by decide +kernel) rfl) pa_nil))) (pe_one (pe_not (pe_callB (callk_isi (K := K) rfl) (by rfl) Z.isinstance (by decide +kernel) (pa_cons (pv 0) (pa_cons (pe_bltn (v := .ty "bool") (by rfl) Z.bool (by decide +kernel) rfl) pa_nil)))))))), ?_⟩
  change tRet _ _ [some (.int i)] _
  walk_at "st"
  refine g_isi (.base (.int i)) ks_ii ?_
  walk_at "wp"
  refine g_isi (.base (.int i)) ks_ib ?_
  walk_at "wp"
  exact q
/-! ### _law_same -/
abbrev s_law_same : Stmt := top 24
theorem sc_law_same : FnScope ["value", "due", "k"] ["value", "due"] (defScope s_law_same) := ⟨rfl, rfl, rfl, by decide +kernel, rfl, by decide +kernel, by decide +kernel⟩
/-- two values that hold the same data are the same -/
def spSame (j : Nat) : Sp := fun vs H Q _ => ∃ (x y : V) (d : PyData), vs = [x, y] ∧ Dv H x d ∧ Dv H y d ∧ d.depth < j ∧ Small d ∧ ∀ H', Same H H' → Q (.bl true) H'
theorem ok_law_same {j : Nat} (D_law_whole : Fn P w K mg base 1 "_law_whole" ["value"] spWhole) (D_law_same : Fn P w K mg base (j + 1) "_law_same" ["value", "due"] (spSame j)) (F : Fun K "_law_same" "_law_same" s_law_same f fd) (Z : Bl mg) : FnOk P w K mg base CX0 (j + 2) f fd ["value", "due"] (spSame (j + 1)) := by
  refine F.ok sc_law_same (fun vs H Q E h => ?_) (fun cdv A outer s H vs Q E hr h => ?_)
  · obtain ⟨x, y, d, rfl, _⟩ := h
    rfl
  obtain ⟨x, y, d, rfl, hx, hy, hdep, hsm, q⟩ := h
  refine ⟨_, (pss_cons (ps_if (pt_cmpR op_isN (pv 1) pe_non (nomark _)) (pss_one (ps_ret (pe_cmpR op_isN (pv 0) pe_non (nomark _)))) pss_nil)
  (pss_cons (ps_if (pt_val (pe_callB (callk_isi (K := K) rfl) (by rfl) Z.isinstance (by decide +kernel) (pa_cons (pv 1) (pa_cons (pe_bltn (v := .ty "bool") (by rfl) Z.bool (by decide +kernel) rfl) pa_nil)))) (pss_one (ps_ret (pe_and (pe_callB (callk_isi (K := K) rfl) (by rfl) Z.isinstance (by decide +kernel) (pa_cons (pv 0) (pa_cons (pe_bltn (v := .ty "bool") (by rfl) Z.bool (by decide +kernel) rfl) pa_nil))) (pe_one (pe_cmpR op_eq (pv 0) (pv 1) (nomark _)))))) pss_nil)
  (pss_cons (ps_if (pt_val (pe_callB (callk_isi (K := K) rfl) (by rfl) Z.isinstance (by decide +kernel) (pa_cons (pv 1) (pa_cons (pe_bltn (v := .ty "int") (by rfl) Z.int (by decide +kernel) rfl) pa_nil)))) (pss_one (ps_ret (pe_and (pe_call D_law_whole.G (hr.mono (by omega)) (by rfl) D_law_whole.m D_law_whole.kp D_law_whole.b .nil pass0 (pa_cons (pv 0) pa_nil)) (pe_one (pe_cmpR op_eq (pv 0) (pv 1) (nomark _)))))) pss_nil)
  (pss_cons (ps_if (pt_val (pe_callB (callk_isi (K := K) rfl) (by rfl) Z.isinstance (by decide +kernel) (pa_cons (pv 1) (pa_cons (pe_bltn (v := .ty "str") (by rfl) Z.str (by decide +kernel) rfl) pa_nil)))) (pss_one (ps_ret (pe_and (pe_callB (callk_isi (K := K) rfl) (by rfl) Z.isinstance (by decide +kernel) (pa_cons (pv 0) (pa_cons (pe_bltn (v := .ty "str") (by rfl) Z.str (by decide +kernel) rfl) pa_nil))) (pe_one (pe_cmpR op_eq (pv 0) (pv 1) (nomark _)))))) pss_nil)
  (pss_cons (ps_if (pt_val (pe_callB (callk_isi (K := K) rfl) (by rfl) Z.isinstance (by decide +kernel) (pa_cons (pv 1) (pa_cons (pe_bltn (v := .ty "tuple") (by rfl) Z.tuple (by decide +kernel) rfl) pa_nil)))) (pss_one (ps_if (PW.pt (pw_or (pt_not (pt_val (pe_callB (callk_isi (K := K) rfl) (by rfl) Z.isinstance (by decide +kernel) (pa_cons (pv 0) (pa_cons (pe_bltn (v := .ty "tuple") (by rfl) Z.tuple (by decide +kernel) rfl) pa_nil))))) (pw_or1 (pt_cmpR op_ne (pe_callB (callk_lenS (K := K) rfl) (by rfl) Z.len (by decide +kernel) (pa_cons (pv 0) pa_nil)) (pe_callB (callk_lenS (K := K) rfl) (by rfl) Z.len (by decide +kernel) (pa_cons (pv 1) pa_nil)) (nomark _))))) (pss_one (ps_ret pe_bl)) pss_nil)) (pss_one (ps_if (PW.pt (pw_or (pt_not (pt_val (pe_callB (callk_isi (K := K) rfl) (by rfl) Z.isinstance (by decide +kernel) (pa_cons (pv 0) (pa_cons (pe_bltn (v := .ty "list") (by rfl) Z.list (by decide +kernel) rfl) pa_nil))))) (pw_or1 (pt_cmpR op_ne (pe_callB (callk_lenS (K := K) rfl) (by rfl) Z.len (by decide +kernel) (pa_cons (pv 0) pa_nil)) (pe_callB (callk_lenS (K := K) rfl) (by rfl) Z.len (by decide +kernel) (pa_cons (pv 1) pa_nil)) (nomark _))))) (pss_one (ps_ret pe_bl)) pss_nil)))
  (pss_cons (ps_for PassesOwn.never rfl (pi_range1 (by rfl) Z.range (pa_cons (pe_callB (callk_lenS (K := K) rfl) (by rfl) Z.len (by decide +kernel) (pa_cons (pv 1) pa_nil)) pa_nil)) (pg_name (i := 2) sc_law_same.nd rfl (Or.inl rfl)) (pss_one (ps_if (pt_not (pt_val (pe_call D_law_same.G (hr.mono (by omega)) (by rfl) D_law_same.m D_law_same.kp D_law_same.b .nil pass0 (pa_cons (pe_ix (ixk_seq (K := K) rfl) (pv 0) (pv 2) (fun _ _ => rfl)) (pa_cons (pe_ix (ixk_seq (K := K) rfl) (pv 1) (pv 2) (fun _ _ => rfl)) pa_nil))))) (pss_one (ps_ret pe_bl)) pss_nil)))
  (pss_one (ps_ret pe_bl)))))))), ?_⟩
  change tSeq _ _ _ [some x, some y, none] _
  cases hx with
  | bl b =>
    cases hy
    walk_at "st"
    walk_at "st"
    refine g_isi (.base (.bl b)) ks_bb ?_
    walk_at "wp"
    refine g_isi (.base (.bl b)) ks_bb ?_
    walk_at "wp"
    rw [show (b == b) = true by cases b <;> rfl]
    exact q H (Same.refl H)
  | int i =>
    cases hy
    walk_at "st"
    walk_at "st"
    refine g_isi (.base (.int i)) ks_ib ?_
    walk_at "wp"
    walk_at "st"
    refine g_isi (.base (.int i)) ks_ii ?_
    walk_at "wp"
    refine ⟨i, rfl, ?_⟩
    walk_at "wp"
    exact q H (Same.refl H)
  | @lst a xs ds hx1 hx2 =>
    cases hy with
    | @lst b ys _ hy1 hy2 =>
      have l1 := dvs_length hx2
      have l2 := dvs_length hy2
      have hsz := hsm.l
      walk_at "st"
      walk_at "st"
      refine g_isi (.base (.lst hy1)) ks_lb ?_
      walk_at "wp"
      walk_at "st"
      refine g_isi (.base (.lst hy1)) ks_li ?_
      walk_at "wp"
      walk_at "st"
      refine g_isi (.base (.lst hy1)) ks_ls ?_
      walk_at "wp"
      walk_at "st"
      refine g_isi (.base (.lst hy1)) ks_lt ?_
      walk_at "wp"
      refine g_isi (.base (.lst hx1)) ks_ll ?_
      walk_at "wp"
      refine g_lenSL (SqL.of hx1) ?_
      walk_at "wp"
      refine g_lenSL (SqL.of hy1) ?_
      walk_at "wp"
      rw [show (!decide ((xs.length : Int) = (ys.length : Int))) = false by rw [decide_eq_true (by omega)]; rfl]
      walk_at "wp"
      refine go_seq ?_
      walk_at "wp"
      refine g_lenSL (SqL.of hy1) ?_
      obtain ⟨Pv, hP⟩ := opq (fun (i : Nat) (σ' : L2.St) (H' : Hp) => ∃ a2, σ' = [some (.ref a), some (.ref b), a2] ∧ Same H H')
      refine f_R1 (by have := hsz.1; omega) Pv ?_ ?_ ?_
      · rw [hP]
        exact ⟨_, rfl, Same.refl H⟩
      · intro i σ' H' hi p
        rw [hP] at p
        obtain ⟨a2, rfl, sm⟩ := p
        obtain ⟨di, hdi⟩ : ∃ di, ds[i]? = some di := ⟨ds[i]'(by omega), List.getElem?_eq_getElem (by omega)⟩
        obtain ⟨u, hu, du⟩ := dvs_get' hx2 hdi
        obtain ⟨v, hv, dv⟩ := dvs_get' hy2 hdi
        walk_at "wp"
        refine .inl (k_ix (SqL.of (sm _ _ hx1)) (atI_nat hu) ?_)
        walk_at "wp"
        refine .inl (k_ix (SqL.of (sm _ _ hy1)) (atI_nat hv) ?_)
        walk_at "wp"
        refine ⟨u, v, di, rfl, dv_same sm du, dv_same sm dv, ?_, ?_, fun H2 sm2 => ?_⟩
        · have := depth_mem (List.mem_of_getElem? hdi)
          simp only [PyData.depth] at hdep
          omega
        · exact hsz.2 _ (List.mem_of_getElem? hdi)
        · walk_at "wp"
          rw [hP]
          exact ⟨_, rfl, sm.trans sm2⟩
      · intro σ' H' p
        rw [hP] at p
        obtain ⟨a2, rfl, sm⟩ := p
        walk_at "wp"
        exact q _ sm
  | @tup a xs ds hx1 hx2 =>
    cases hy with
    | @tup b ys _ hy1 hy2 =>
      have l1 := dvs_length hx2
      have l2 := dvs_length hy2
      have hsz := hsm.t
      walk_at "st"
      walk_at "st"
      refine g_isi (.base (.tup hy1)) ks_tb ?_
      walk_at "wp"
      walk_at "st"
      refine g_isi (.base (.tup hy1)) ks_ti ?_
      walk_at "wp"
      walk_at "st"
      refine g_isi (.base (.tup hy1)) ks_ts ?_
      walk_at "wp"
      walk_at "st"
      refine g_isi (.base (.tup hy1)) ks_tt ?_
      walk_at "wp"
      refine g_isi (.base (.tup hx1)) ks_tt ?_
      walk_at "wp"
      refine g_lenST (SqT.of hx1) ?_
      walk_at "wp"
      refine g_lenST (SqT.of hy1) ?_
      walk_at "wp"
      rw [show (!decide ((xs.length : Int) = (ys.length : Int))) = false by rw [decide_eq_true (by omega)]; rfl]
      walk_at "wp"
      refine go_seq ?_
      walk_at "wp"
      refine g_lenST (SqT.of hy1) ?_
      obtain ⟨Pv, hP⟩ := opq (fun (i : Nat) (σ' : L2.St) (H' : Hp) => ∃ a2, σ' = [some (.ref a), some (.ref b), a2] ∧ Same H H')
      refine f_R1 (by have := hsz.1; omega) Pv ?_ ?_ ?_
      · rw [hP]
        exact ⟨_, rfl, Same.refl H⟩
      · intro i σ' H' hi p
        rw [hP] at p
        obtain ⟨a2, rfl, sm⟩ := p
        obtain ⟨di, hdi⟩ : ∃ di, ds[i]? = some di := ⟨ds[i]'(by omega), List.getElem?_eq_getElem (by omega)⟩
        obtain ⟨u, hu, du⟩ := dvs_get' hx2 hdi
        obtain ⟨v, hv, dv⟩ := dvs_get' hy2 hdi
        walk_at "wp"
        refine .inr (.inl (k_ixT (SqT.of (sm _ _ hx1)) (atI_nat hu) ?_))
        walk_at "wp"
        refine .inr (.inl (k_ixT (SqT.of (sm _ _ hy1)) (atI_nat hv) ?_))
        walk_at "wp"
        refine ⟨u, v, di, rfl, dv_same sm du, dv_same sm dv, ?_, ?_, fun H2 sm2 => ?_⟩
        · have := depth_mem (List.mem_of_getElem? hdi)
          simp only [PyData.depth] at hdep
          omega
        · exact hsz.2 _ (List.mem_of_getElem? hdi)
        · walk_at "wp"
          rw [hP]
          exact ⟨_, rfl, sm.trans sm2⟩
      · intro σ' H' p
        rw [hP] at p
        obtain ⟨a2, rfl, sm⟩ := p
        walk_at "wp"
        exact q _ sm
theorem ok_law_same0 : FnOk P w K mg base CX0 1 f fd ["value", "due"] (spSame 0) := by
  have no : ∀ vs H Q E, ¬ spSame 0 vs H Q E := fun vs H Q E h => by
    obtain ⟨_, _, _, _, _, _, h, _⟩ := h
    exact Nat.not_lt_zero _ h
  exact ⟨fun vs H Q E h => absurd h (no vs H Q E), fun A outer s H args us vs Q E _ _ _ _ h => absurd h (no vs H Q E)⟩
theorem ok_law_same_all (D_law_whole : Fn P w K mg base 1 "_law_whole" ["value"] spWhole) (F : Fun K "_law_same" "_law_same" s_law_same f fd) (m : mg "_law_same" = some (.ref f)) (b : Binds K fd ["value", "due"] []) (Z : Bl mg) : ∀ j, FnOk P w K mg base CX0 (j + 1) f fd ["value", "due"] (spSame j)
  | 0 => ok_law_same0
  | j + 1 => ok_law_same D_law_whole ⟨f, fd, ok_law_same_all D_law_whole F m b Z j, m, F.kp, b⟩ F Z
end
end Ck
namespace Ck
open PySem L2
/-- a pool stands at a -/
def PoolAt (H : Hp) (a : Addr) : Prop := ∃ c r k : Int, 0 ≤ c ∧ 0 ≤ r ∧ H a = some (.lst [.int c, .int r, .int k])
/-- all but the pool is as it was -/
structure PoolX (a : Addr) (H H' : Hp) : Prop where
  sx : SameX a H H'
  at' : PoolAt H' a
theorem PoolX.refl {a : Addr} {H : Hp} (h : PoolAt H a) : PoolX a H H := ⟨SameX.refl a H, h⟩
theorem PoolX.trans {a : Addr} {H H1 H2 : Hp} (h : PoolX a H H1) (k : PoolX a H1 H2) : PoolX a H H2 := ⟨h.sx.trans k.sx, k.at'⟩
theorem PoolAt.same {a : Addr} {H H' : Hp} (h : PoolAt H a) (s : Same H H') : PoolAt H' a := by
  obtain ⟨c, r, k, h1, h2, h3⟩ := h
  exact ⟨c, r, k, h1, h2, s _ _ h3⟩
theorem PoolX.same {a : Addr} {H H1 H2 : Hp} (h : PoolX a H H1) (s : Same H1 H2) : PoolX a H H2 := ⟨h.sx.trans (SameX.of s), h.at'.same s⟩
theorem PoolAt.ne {a b : Addr} {H : Hp} (h : PoolAt H a) (hb : H b = none) : a ≠ b := by
  obtain ⟨c, r, k, _, _, h3⟩ := h
  exact ne_of_none h3 hb
theorem PoolX.free {a b : Addr} {H H' : Hp} (h : PoolX a H H') (hb : H' b = none) : H b = none := h.sx.free (h.at'.ne hb).symm hb
theorem PoolX.put {a p : Addr} {H H' : Hp} {o : HO} (h : PoolX a H H') (hp : H p = none) (ap : a ≠ p) : PoolX a H (L2.upd H' p o) := ⟨h.sx.put hp, by
  obtain ⟨c, r, k, h1, h2, h3⟩ := h.at'
  exact ⟨c, r, k, h1, h2, by rw [upd_ne ap]; exact h3⟩⟩
theorem p_draw {H : Hp} {a : Addr} {m : Nat} {Q : VK} {E : XK} (h : PoolAt H a) (m0 : 0 < m) (m1 : m < 1000000000) (q : ∀ (x : Nat) H', x < m → PoolX a H H' → Q (.int (x : Nat)) H') : spDraw [.ref a, .int (m : Nat)] H Q E := by
  obtain ⟨c, r, k, c0, r0, hp⟩ := h
  refine ⟨a, m, c, r, k, rfl, by omega, by omega, c0, r0, hp, fun x r' k' x0 xm r0' => ?_⟩
  obtain ⟨y, rfl⟩ := Int.eq_ofNat_of_zero_le x0
  exact q y _ (by omega) ⟨SameX.upd a H _, c, r', k', c0, r0', upd_same⟩
theorem p_pick {H : Hp} {a b : Addr} {xs : List V} {Q : VK} {E : XK} (h : PoolAt H a) (hb : H b = some (.lst xs)) (ne : b ≠ a) (x0 : 0 < xs.length) (x1 : xs.length < 1000000) (q : ∀ (v : V) H', v ∈ xs → PoolX a H H' → Q v H') : spPick [.ref a, .ref b] H Q E := by
  obtain ⟨c, r, k, c0, r0, hp⟩ := h
  refine ⟨a, b, xs, c, r, k, rfl, x0, x1, c0, r0, hp, hb, ne, fun v i r' k' hv r0' => ?_⟩
  exact q v _ (List.mem_of_getElem? hv) ⟨SameX.upd a H _, c, r', k', c0, r0', upd_same⟩
/-- a pick among written ints -/
theorem p_pickN {H : Hp} {a b : Addr} {ns : List Nat} {Q : VK} {E : XK} (h : PoolAt H a) (hb : H b = none) (x0 : 0 < ns.length) (x1 : ns.length < 1000000) (q : ∀ (n : Nat) H', n ∈ ns → PoolX a H H' → Q (.int (n : Nat)) H') : spPick [.ref a, .ref b] (L2.upd H b (.lst (ns.map fun n => V.int (n : Nat)))) Q E := by
  have ab := h.ne hb
  have s := same_new hb (.lst (ns.map fun n => V.int (n : Nat)))
  refine p_pick (h.same s) upd_same ab.symm (by rw [List.length_map]; exact x0) (by rw [List.length_map]; exact x1) fun v H' hv px => ?_
  obtain ⟨n, hn, rfl⟩ := List.mem_map.mp hv
  exact q n H' hn ⟨(SameX.of s).trans px.sx, px.at'⟩
theorem cdivw {n : Int} {m : Nat} (m0 : 0 < m) (m1 : m < 1000000000) : CDivW n (m : Nat) := ⟨by omega, by
  have : ((m : Nat) : Int).natAbs < 2 ^ 30 := by omega
  exact Nat.lt_of_lt_of_le (PySem.Flt.log2_lt_of (by decide) this) (by decide)⟩
theorem cmulr {i : Int} {m : Nat} (m1 : m < 1000000000) : CMul i (m : Nat) := .inr ⟨by omega, by omega⟩
theorem sh_int {one two k : Nat} {p q : Int} (h1 : 0 < one) (h2 : 0 < two) : (((k : Nat) : Int) / ((two : Nat) : Int) + p) % ((one : Nat) : Int) * ((two : Nat) : Int) + (((k : Nat) : Int) - ((k : Nat) : Int) / ((two : Nat) : Int) * ((two : Nat) : Int) + q) % ((two : Nat) : Int) = ((sh one two k p q : Nat) : Int) := by
  have e1 : ((k : Nat) : Int) / ((two : Nat) : Int) = ((k / two : Nat) : Int) := rfl
  have e2 : ((k : Nat) : Int) - ((k / two : Nat) : Int) * ((two : Nat) : Int) = ((k % two : Nat) : Int) := by
    have := Nat.div_add_mod k two
    have h : ((k / two : Nat) : Int) * ((two : Nat) : Int) = ((two * (k / two) : Nat) : Int) := by rw [Int.natCast_mul, Int.mul_comm]
    rw [h]
    generalize two * (k / two) = x at this ⊢
    omega
  rw [e1, e2]
  have a0 := Int.emod_nonneg (((k / two : Nat) : Int) + p) (show (one : Int) ≠ 0 by omega)
  have b0 := Int.emod_nonneg (((k % two : Nat) : Int) + q) (show (two : Int) ≠ 0 by omega)
  unfold sh
  generalize (((k / two : Nat) : Int) + p) % (one : Int) = a at a0 ⊢
  generalize (((k % two : Nat) : Int) + q) % (two : Int) = b at b0 ⊢
  obtain ⟨a, rfl⟩ := Int.eq_ofNat_of_zero_le a0
  obtain ⟨b, rfl⟩ := Int.eq_ofNat_of_zero_le b0
  simp
theorem n_emod (a b : Nat) : ((a : Nat) : Int) % ((b : Nat) : Int) = ((a % b : Nat) : Int) := rfl
section
variable {P : Program} {w : World} {K : PySem.W.Frag} {mg : Str → Option Value} {base : Heap} {f : Addr} {fd : FuncData}
/-! ### _law_divisor -/
abbrev s_law_divisor : Stmt := top 25
theorem sc_law_divisor : FnScope ["pool", "length", "one"] ["pool", "length"] (defScope s_law_divisor) := ⟨rfl, rfl, rfl, by decide +kernel, rfl, by decide +kernel, by decide +kernel⟩
def spDivisor : Sp := fun vs H Q _ => ∃ (a : Addr) (n : Nat), vs = [.ref a, .int (n : Nat)] ∧ 0 < n ∧ n < 1000000 ∧ PoolAt H a ∧ ∀ (d : Nat) H', 0 < d → d ≤ n → PoolX a H H' → Q (.int (d : Nat)) H'
theorem ok_law_divisor (D_law_draw : Fn P w K mg base 1 "_law_draw" ["pool", "many"] spDraw) (F : Fun K "_law_divisor" "_law_divisor" s_law_divisor f fd) (Z : Bl mg) : FnOk P w K mg base CX0 2 f fd ["pool", "length"] spDivisor := by
  refine F.ok sc_law_divisor (fun vs H Q E h => ?_) (fun cdv A outer s H vs Q E hr h => ?_)
  · obtain ⟨a, n, rfl, _⟩ := h
    rfl
  obtain ⟨a, n, rfl, n0, n1, hp, q⟩ := h
  refine ⟨_, (pss_cons (ps_set (i := 2) sc_law_divisor.nd rfl (Or.inl rfl) (pe_op op_add pe_int (pe_call D_law_draw.G (hr.mono (by omega)) (by rfl) D_law_draw.m D_law_draw.kp D_law_draw.b .nil pass0 (pa_cons (pv 0) (pa_cons (pv 1) pa_nil)))))
  (pss_cons (ps_if (pt_cmpR op_eq (pe_op op_mod (pe_callTy call_intI (by rfl) Z.int (by decide +kernel) (pa_cons (pv 1) pa_nil)) (pv 2)) pe_int (nomark _)) (pss_one (ps_ret (pv 2))) pss_nil)
  (pss_one (ps_ret (pv 1))))), ?_⟩
  change tSeq _ _ _ [some (.ref a), some (.int (n : Nat)), none] _
  walk_at "st"
  refine p_draw hp n0 (by omega) fun x H1 hx px => ?_
  walk_at "wp"
  rw [show (1 : Int) + (x : Int) = ((x + 1 : Nat) : Int) by omega]
  walk_at "st"
  refine ⟨by omega, ?_⟩
  walk_at "wp"
  refine ite_split (fun c => ?_) (fun c => ?_)
  · exact q _ _ (by omega) (by omega) px
  · walk_at "wp"
    exact q _ _ n0 (Nat.le_refl _) px
/-! ### _law_meets_all -/
abbrev s_law_meets_all : Stmt := top 26
theorem sc_law_meets_all : FnScope ["step", "length", "at", "k"] ["step", "length"] (defScope s_law_meets_all) := ⟨rfl, rfl, rfl, by decide +kernel, rfl, by decide +kernel, by decide +kernel⟩
def spMeets : Sp := fun vs H Q _ => ∃ (st n : Nat), vs = [.int (st : Nat), .int (n : Nat)] ∧ 0 < n ∧ n < 1000000 ∧ ∀ b, Q (.bl b) H
theorem ok_law_meets_all (F : Fun K "_law_meets_all" "_law_meets_all" s_law_meets_all f fd) (Z : Bl mg) : FnOk P w K mg base CX0 1 f fd ["step", "length"] spMeets := by
  refine F.ok sc_law_meets_all (fun vs H Q E h => ?_) (fun cdv A outer s H vs Q E hr h => ?_)
  · obtain ⟨a, n, rfl, _⟩ := h
    rfl
  obtain ⟨st, n, rfl, n0, n1, q⟩ := h
  refine ⟨_, (pss_cons (ps_set (i := 2) sc_law_meets_all.nd rfl (Or.inl rfl) pe_int)
  (pss_cons (ps_for PassesOwn.never rfl (pi_range1 (by rfl) Z.range (pa_cons (pv 1) pa_nil)) (pg_name (i := 3) sc_law_meets_all.nd rfl (Or.inl rfl)) (pss_cons (ps_set (i := 2) sc_law_meets_all.nd rfl (Or.inl rfl) (pe_op op_mod (pe_callTy call_intI (by rfl) Z.int (by decide +kernel) (pa_cons (pe_op op_add (pv 2) (pv 0)) pa_nil)) (pv 1)))
  (pss_one (ps_if (pt_cmpR op_eq (pv 2) pe_int (nomark _)) (pss_one (ps_ret (pe_cmpR op_eq (pe_op op_add (pv 3) pe_int) (pv 1) (nomark _)))) pss_nil))))
  (pss_one (ps_ret pe_bl)))), ?_⟩
  change tSeq _ _ _ [some (.int (st : Nat)), some (.int (n : Nat)), none, none] _
  walk_at "st"
  walk_at "st"
  obtain ⟨Pv, hP⟩ := opq (fun (i : Nat) (σ' : L2.St) (H' : Hp) => ∃ (at' : Nat) (a3 : Option V), σ' = [some (.int (st : Nat)), some (.int (n : Nat)), some (.int (at' : Nat)), a3] ∧ H' = H)
  refine f_R1 (by omega) Pv ?_ ?_ ?_
  · rw [hP]
    exact ⟨0, _, rfl, rfl⟩
  · intro i σ' H' hi h
    rw [hP] at h
    obtain ⟨at', a3, rfl, rfl⟩ := h
    walk_at "wp"
    walk_at "st"
    walk_at "wn"
    refine ⟨by omega, ?_⟩
    walk_at "wp"
    refine ite_split (fun c => ?_) (fun c => ?_)
    · walk_at "wp"
      exact q _
    · walk_at "wp"
      rw [hP, n_emod]
      exact ⟨_, _, rfl, rfl⟩
  · intro σ' H' h
    rw [hP] at h
    obtain ⟨at', a3, rfl, rfl⟩ := h
    walk_at "wp"
    exact q _
/-! ### _law_shifted -/
abbrev s_law_shifted : Stmt := top 33
theorem sc_law_shifted : FnScope ["one", "two", "place", "p", "q", "row"] ["one", "two", "place", "p", "q"] (defScope s_law_shifted) := ⟨rfl, rfl, rfl, by decide +kernel, rfl, by decide +kernel, by decide +kernel⟩
def spShifted : Sp := fun vs H Q _ => ∃ (one two k : Nat) (p q : Int), vs = [.int (one : Nat), .int (two : Nat), .int (k : Nat), .int p, .int q] ∧ 0 < one ∧ 0 < two ∧ one < 1000000 ∧ two < 1000000 ∧ Q (.int (sh one two k p q : Nat)) H
theorem ok_law_shifted (F : Fun K "_law_shifted" "_law_shifted" s_law_shifted f fd) (Z : Bl mg) : FnOk P w K mg base CX0 1 f fd ["one", "two", "place", "p", "q"] spShifted := by
  refine F.ok sc_law_shifted (fun vs H Q E h => ?_) (fun cdv A outer s H vs Q E hr h => ?_)
  · obtain ⟨one, two, k, p, q, rfl, _⟩ := h
    rfl
  obtain ⟨one, two, k, p, q, rfl, h1, h2, l1, l2, qq⟩ := h
  refine ⟨_, (pss_cons (ps_set (i := 5) sc_law_shifted.nd rfl (Or.inl rfl) (pe_op op_fdivW (pv 2) (pv 1)))
  (pss_one (ps_ret (pe_op op_add (pe_op op_mul (pe_op op_mod (pe_callTy call_intI (by rfl) Z.int (by decide +kernel) (pa_cons (pe_op op_add (pv 5) (pv 3)) pa_nil)) (pv 0)) (pv 1)) (pe_op op_mod (pe_callTy call_intI (by rfl) Z.int (by decide +kernel) (pa_cons (pe_op op_add (pe_op op_sub (pv 2) (pe_op op_mul (pv 5) (pv 1))) (pv 4)) pa_nil)) (pv 1)))))), ?_⟩
  change tSeq _ _ _ [some (.int (one : Nat)), some (.int (two : Nat)), some (.int (k : Nat)), some (.int p), some (.int q), none] _
  walk_at "st"
  refine ⟨cdivw h2 (by omega), by omega, cmulr (by omega), cmulr (by omega), by omega, ?_⟩
  rw [sh_int h1 h2]
  exact qq
end
end Ck
namespace Ck
open PySem L2
/-- noughts and ones, at least one of them -/
def Bits01 (bs : List Nat) : Prop := 0 < bs.length ∧ bs.length ≤ 1000 ∧ ∀ b ∈ bs, b < 2
def encN (bs : List Nat) : PyData := .list (bs.map fun b => PyData.int (b : Nat))
def valsN (bs : List Nat) : List V := bs.map fun b => V.int (b : Nat)
theorem dv_nats {H : Hp} {l : Addr} {bs : List Nat} (h : H l = some (.lst (valsN bs))) : Dv H (.ref l) (encN bs) := .lst h (by
  have := dvs_ints (H := H) (bs.map fun b => ((b : Nat) : Int))
  unfold valsN
  simp only [List.map_map] at this ⊢
  exact this)
theorem nats_dv {H : Hp} {v : V} {bs : List Nat} (h : Dv H v (encN bs)) : ∃ l, v = .ref l ∧ H l = some (.lst (valsN bs)) := by
  unfold encN at h
  cases h with
  | @lst a xs _ h1 h2 =>
    refine ⟨a, rfl, ?_⟩
    rw [h1]
    congr 2
    clear h1
    induction bs generalizing xs with
    | nil =>
      rw [List.map_nil] at h2
      cases h2
      rfl
    | cons b bs ih =>
      rw [List.map_cons] at h2
      cases h2 with
      | cons a1 a2 =>
        cases a1
        show _ :: _ = _ :: _
        rw [ih a2]
        rfl
theorem ixN_at {n j : Nat} (hj : j < n) : ixN n (j : Int) = some j := by
  unfold ixN
  rw [if_pos (by omega), if_pos (by omega)]
  simp
theorem valsN_len (bs : List Nat) : (valsN bs).length = bs.length := by unfold valsN; rw [List.length_map]
theorem valsN_at {bs : List Nat} {i b : Nat} (h : bs[i]? = some b) : atI (valsN bs) ((i : Nat) : Int) = some (.int (b : Nat)) := atI_nat (by unfold valsN; rw [List.getElem?_map, h]; rfl)
section
variable {P : Program} {w : World} {K : PySem.W.Frag} {mg : Str → Option Value} {base : Heap} {f : Addr} {fd : FuncData}
/-! ### _law_pattern -/
abbrev s_law_pattern : Stmt := top 28
theorem sc_law_pattern : FnScope ["pool", "length", "full", "bit", "period", "row", "k"] ["pool", "length", "full"] (defScope s_law_pattern) := ⟨rfl, rfl, rfl, by decide +kernel, rfl, by decide +kernel, by decide +kernel⟩
def spPattern : Sp := fun vs H Q _ => ∃ (a : Addr) (n : Nat) (b : Bool), vs = [.ref a, .int (n : Nat), .bl b] ∧ 0 < n ∧ n ≤ 1000 ∧ PoolAt H a ∧ ∀ (p : Addr) (bs : List Nat) H', PoolX a H H' → H p = none → H' p = some (.lst (valsN bs)) → Bits01 bs → Q (.ref p) H'
theorem ok_law_pattern (D_law_draw : Fn P w K mg base 1 "_law_draw" ["pool", "many"] spDraw) (D_law_divisor : Fn P w K mg base 2 "_law_divisor" ["pool", "length"] spDivisor) (F : Fun K "_law_pattern" "_law_pattern" s_law_pattern f fd) (Z : Bl mg) : FnOk P w K mg base CX0 3 f fd ["pool", "length", "full"] spPattern := by
  refine F.ok sc_law_pattern (fun vs H Q E h => ?_) (fun cdv A outer s H vs Q E hr h => ?_)
  · obtain ⟨a, n, b, rfl, _⟩ := h
    rfl
  obtain ⟨a, n, full, rfl, n0, n1, hp, q⟩ := h
  refine ⟨_, (pss_cons (ps_set (i := 3) sc_law_pattern.nd rfl (Or.inl rfl) (pe_call D_law_draw.G (hr.mono (by omega)) (by rfl) D_law_draw.m D_law_draw.kp D_law_draw.b .nil pass0 (pa_cons (pv 0) (pa_cons pe_int pa_nil))))
  (pss_cons (ps_set (i := 4) sc_law_pattern.nd rfl (Or.inl rfl) (pe_call D_law_divisor.G (hr.mono (by omega)) (by rfl) D_law_divisor.m D_law_divisor.kp D_law_divisor.b .nil pass0 (pa_cons (pv 0) (pa_cons (pv 1) pa_nil))))
  (pss_cons (ps_if (PW.pt (pw_and (pt_not (pt_val (pv 2))) (pw_and1 (pt_cmpR op_gt (pv 4) pe_int (nomark _))))) (pss_one (ps_ret (pe_lst (pa_cons (pv 3) pa_nil)))) pss_nil)
  (pss_cons (ps_if (PW.pt (pw_and (pt_val (pv 2)) (pw_and (pt_cmpR op_le (pv 1) pe_int (nomark _)) (pw_and1 (pt_cmpR op_eq (pe_call D_law_draw.G (hr.mono (by omega)) (by rfl) D_law_draw.m D_law_draw.kp D_law_draw.b .nil pass0 (pa_cons (pv 0) (pa_cons pe_int pa_nil))) pe_int (nomark _)))))) (pss_cons (ps_set (i := 5) sc_law_pattern.nd rfl (Or.inl rfl) (pe_op op_rep (pe_lst (pa_cons (pv 3) pa_nil)) (pv 1)))
  (pss_cons (ps_asg (pe_op op_sub pe_int (pv 3)) (pg_sub (pv 5) (pe_call D_law_draw.G (hr.mono (by omega)) (by rfl) D_law_draw.m D_law_draw.kp D_law_draw.b .nil pass0 (pa_cons (pv 0) (pa_cons (pv 1) pa_nil))) set_list))
  (pss_one (ps_ret (pv 5))))) pss_nil)
  (pss_cons (ps_if (pt_val (pv 2)) (pss_one (ps_set (i := 4) sc_law_pattern.nd rfl (Or.inl rfl) (pv 1))) pss_nil)
  (pss_one (ps_ret (pe_lc (own := [("k", 6)]) (tt := tYes) rfl sc_law_pattern.nd (pi_range1 (by rfl) Z.range (pa_cons (pv 4) pa_nil)) (blkOk_by (N := ["pool", "length", "full", "bit", "period", "row", "k"]) (sc := defScope s_law_pattern) (by decide +kernel)) (fun _ _ _ _ _ => (pg_name (i := 6) sc_law_pattern.nd rfl (Or.inl rfl))) (fun _ _ _ _ _ => pts_nil) (fun _ _ _ _ _ => (pe_call D_law_draw.G (hr.mono (by omega)) (by rfl) D_law_draw.m D_law_draw.kp D_law_draw.b .nil pass0 (pa_cons (pv 0) (pa_cons pe_int pa_nil)))))))))))), ?_⟩
  change tSeq _ _ _ [some (.ref a), some (.int (n : Nat)), some (.bl full), none, none, none, none] _
  walk_at "st"
  refine p_draw (m := 2) hp (by decide) (by decide) fun bit H1 hb p1 => ?_
  walk_at "st"
  refine ⟨a, n, rfl, n0, by omega, p1.at', fun per H2 d0 d1 p2 => ?_⟩
  have p02 := p1.trans p2
  -- the last comprehension
  have comp : ∀ (m : Nat) (H2 : Hp) (Q2 : VK), 0 < m → m ≤ 1000 → PoolX a H H2 → (∀ p bs H', PoolX a H H' → H p = none → H' p = some (.lst (valsN bs)) → Bits01 bs → Q2 (.ref p) H') →
      ∀ σ : L2.St, σ = [some (.ref a), some (.int (n : Nat)), some (.bl full), some (.int (bit : Nat)), some (.int (m : Nat)), none, none] → cR1 (gName 6) tYes (tCall spDraw [] E0 (tCons (tVar 0) (tCons (tC (V.int 2)) tNil))) [6] σ Q2 [.int (m : Nat)] H2 := by
    rintro m H2 Q2 m0 m1 px q2 _ rfl
    obtain ⟨Pv, hP⟩ := opq (fun (D : Addr) (i : Nat) (H' : Hp) => PoolX a H H' ∧ ∃ bs, H' D = some (.lst (valsN bs)) ∧ bs.length = i ∧ ∀ b ∈ bs, b < 2)
    refine c_R1w (by omega) Pv (fun D hD => ?_) (fun D i H' hD hi p => ?_) (fun D H' hD p => ?_)
    · rw [hP]
      exact ⟨px.same (same_new hD _), [], upd_same, rfl, fun b hb => by cases hb⟩
    · rw [hP] at p
      obtain ⟨p3, bs, hbs, bl, b2⟩ := p
      walk_at "wp"
      refine p_draw (m := 2) p3.at' (by decide) (by decide) fun x H4 hx p4 => ?_
      have aD : D ≠ a := (px.at'.ne hD).symm
      refine ⟨valsN bs, p4.sx _ _ aD hbs, szl (by rw [valsN_len]; omega), ?_⟩
      rw [hP]
      refine ⟨(p3.trans p4).put (px.free hD) aD.symm, bs ++ [x], ?_, by rw [List.length_append, bl]; rfl, fun b hb => ?_⟩
      · rw [upd_same]
        unfold valsN
        rw [List.map_append]
        rfl
      · rcases List.mem_append.mp hb with z | z
        · exact b2 b z
        · rw [List.mem_singleton.mp z]; exact hx
    · rw [hP] at p
      obtain ⟨p3, bs, hbs, bl, b2⟩ := p
      exact q2 D bs H' p3 (px.free hD) hbs ⟨by omega, by omega, b2⟩
  cases full with
  | false =>
    walk_at "st"
    refine ite_split (fun c => ?_) (fun c => ?_)
    · refine ⟨szr rfl, fun p hp2 => ?_⟩
      refine q p [bit] _ (p02.same (same_new hp2 _)) (p02.free hp2) upd_same ⟨Nat.one_pos, by show 1 ≤ 1000; decide, fun b hb => ?_⟩
      rw [List.mem_singleton.mp hb]
      omega
    · walk_at "st"
      walk_at "st"
      exact comp per H2 Q d0 (by omega) p02 q _ rfl
  | true =>
    have last : ∀ H3, PoolX a H H3 → ∀ σ : L2.St, σ = [some (.ref a), some (.int (n : Nat)), some (.bl true), some (.int (bit : Nat)), some (.int (n : Nat)), none, none] → cR1 (gName 6) tYes (tCall spDraw [] E0 (tCons (tVar 0) (tCons (tC (V.int 2)) tNil))) [6] σ Q [.int (n : Nat)] H3 := fun H3 p3 σ e => comp n H3 Q n0 n1 p3 q σ e
    walk_at "st"
    walk_at "st"
    refine ite_split (fun c => ?_) (fun c => ?_)
    · refine p_draw (m := 2) p02.at' (by decide) (by decide) fun x H3 hx p3 => ?_
      have p03 := p02.trans p3
      walk_at "wp"
      refine ite_split (fun c2 => ?_) (fun c2 => ?_)
      · walk_at "st"
        refine ⟨szr rfl, fun l0 hl0 => ?_⟩
        have n1i : ((n : Nat) : Int) ≤ 1000 := Int.ofNat_le.mpr n1
        refine ⟨l0, _, _, rfl, rfl, upd_same, Int.le_trans (by decide) (Int.natCast_nonneg _), Int.lt_of_le_of_lt n1i (by decide), sz (by rw [List.length_singleton, Int.toNat_natCast]; omega), fun p hp2 => ?_⟩
        rw [Int.toNat_natCast, List.flatten_replicate_singleton]
        have s4 := same_new hl0 (.lst [.int (bit : Nat)])
        have p0 : H p = none := p03.free (s4.free hp2)
        have ap : a ≠ p := (p03.at'.same s4).ne hp2
        have p5 := p03.same (s4.trans (same_new hp2 (.lst (List.replicate n (.int (bit : Nat))))))
        have h5 : upd (upd H3 l0 (.lst [.int (bit : Nat)])) p (.lst (List.replicate n (.int (bit : Nat)))) p = some (.lst (valsN (List.replicate n bit))) := by
          rw [upd_same]
          unfold valsN
          rw [List.map_replicate]
        generalize upd (upd H3 l0 (.lst [.int (bit : Nat)])) p (.lst (List.replicate n (.int (bit : Nat)))) = H5 at p5 h5 ⊢
        walk_at "st"
        rw [show (1 : Int) - (bit : Int) = ((1 - bit : Nat) : Int) by omega]
        refine p_draw p5.at' n0 (by omega) fun j H6 hj p6 => ?_
        refine k_set (n := j) (p6.sx _ _ ap.symm h5) (ixN_at (by rw [valsN_len, List.length_replicate]; exact hj)) ?_
        walk_at "wp"
        refine q p ((List.replicate n bit).set j (1 - bit)) _ ((p5.trans p6).put p0 ap) p0 ?_ ⟨by rw [List.length_set, List.length_replicate]; exact n0, by rw [List.length_set, List.length_replicate]; exact n1, fun b hb => ?_⟩
        · rw [upd_same]
          unfold valsN
          rw [List.map_set]
        · rcases List.mem_or_eq_of_mem_set hb with z | z
          · have := List.eq_of_mem_replicate z
            omega
          · omega
      · walk_at "st"
        walk_at "st"
        exact last H3 p03 _ rfl
    · walk_at "st"
      walk_at "st"
      exact last H2 p02 _ rfl
end
end Ck
namespace Ck
open PySem L2
abbrev Show := Nat × List Nat × List Nat
def encS (s : Show) : PyData := .list [.int (s.1 : Nat), encN s.2.1, encN s.2.2]
def ShowOk (s : Show) : Prop := s.1 < 3 ∧ Bits01 s.2.1 ∧ Bits01 s.2.2
theorem s_dv {H : Hp} {v : V} {s : Show} (h : Dv H v (encS s)) : ∃ l f g, v = .ref l ∧ H l = some (.lst [.int (s.1 : Nat), .ref f, .ref g]) ∧ H f = some (.lst (valsN s.2.1)) ∧ H g = some (.lst (valsN s.2.2)) := by
  unfold encS at h
  cases h with
  | lst a b =>
    cases b with
    | cons b1 b2 =>
      cases b1
      cases b2 with
      | cons b3 b4 =>
        cases b4 with
        | cons b5 b6 =>
          cases b6
          obtain ⟨f, rfl, hf⟩ := nats_dv b3
          obtain ⟨g, rfl, hg⟩ := nats_dv b5
          exact ⟨_, f, g, rfl, a, hf, hg⟩
theorem n_shlN (b k : Nat) : ((b : Nat) : Int) * 2 ^ ((k : Int)).toNat = ((b * 2 ^ k : Nat) : Int) := by
  rw [Int.toNat_natCast]
  simp
theorem cpow_of {b n : Nat} (h1 : b < 1000000) (h : n ≤ 64) : CPow (b : Nat) (n : Int) := ⟨by omega, by omega, by
  rw [Int.natAbs_natCast]
  exact Nat.lt_trans h1 (by decide)⟩
theorem at01 {bs : List Nat} (h : Bits01 bs) (p : Nat) : ∃ b : Nat, b < 2 ∧ atI (valsN bs) (((p : Nat) : Int) % ((bs.length : Nat) : Int)) = some (.int (b : Nat)) := by
  have hl := Nat.mod_lt p h.1
  have e : bs[p % bs.length]? = some bs[p % bs.length] := List.getElem?_eq_getElem hl
  exact ⟨_, h.2.2 _ (List.getElem_mem hl), valsN_at e⟩
theorem xor2 {a b : Nat} (ha : a < 2) (hb : b < 2) : a ^^^ b < 2 := Nat.xor_lt_two_pow (n := 1) ha hb
theorem add_bit {t i b : Nat} (ht : t < 2 ^ i) (hb : b < 2) : t + b * 2 ^ i < 2 ^ (i + 1) := by
  have : b * 2 ^ i ≤ 1 * 2 ^ i := Nat.mul_le_mul_right _ (by omega)
  rw [Nat.pow_succ]
  omega
section
variable {P : Program} {w : World} {K : PySem.W.Frag} {mg : Str → Option Value} {base : Heap} {f : Addr} {fd : FuncData}
/-! ### _law_show -/
abbrev s_law_show : Stmt := top 30
theorem sc_law_show : FnScope ["made", "p", "q", "total", "b", "which", "first", "second", "bit"] ["made", "p", "q"] (defScope s_law_show) := ⟨rfl, rfl, rfl, by decide +kernel, rfl, by decide +kernel, by decide +kernel⟩
def spShow : Sp := fun vs H Q _ => ∃ (m : Addr) (p q : Nat) (xs : List V) (ss : List Show), vs = [.ref m, .int (p : Nat), .int (q : Nat)] ∧ H m = some (.lst xs) ∧ DvAll H xs (ss.map encS) ∧ (∀ s ∈ ss, ShowOk s) ∧ ss.length ≤ 24 ∧ ∀ t : Nat, t < 2 ^ ss.length → Q (.int (t : Nat)) H
theorem ok_law_show (F : Fun K "_law_show" "_law_show" s_law_show f fd) (Z : Bl mg) : FnOk P w K mg base CX0 1 f fd ["made", "p", "q"] spShow := by
  refine F.ok sc_law_show (fun vs H Q E h => ?_) (fun cdv A outer s H vs Q E hr h => ?_)
  · obtain ⟨m, p, q, xs, ss, rfl, _⟩ := h
    rfl
  obtain ⟨m, p, q, xs, ss, rfl, hm, hdv, hss, hl, qq⟩ := h
  have xl := dvs_len hdv
  refine ⟨_, (pss_cons (ps_set (i := 3) sc_law_show.nd rfl (Or.inl rfl) pe_int)
  (pss_cons (ps_for PassesOwn.never rfl (pi_range1 (by rfl) Z.range (pa_cons (pe_callB (callk_lenL (K := K) rfl) (by rfl) Z.len (by decide +kernel) (pa_cons (pv 0) pa_nil)) pa_nil)) (pg_name (i := 4) sc_law_show.nd rfl (Or.inl rfl)) (pss_cons (ps_asg (pe_ix (ixk_list (K := K) rfl) (pv 0) (pv 4) (fun _ _ => rfl)) (pgk_unl (K := K) (n := 3) rfl (by rfl) (pgs_cons (pg_name (i := 5) sc_law_show.nd rfl (Or.inl rfl)) (pgs_cons (pg_name (i := 6) sc_law_show.nd rfl (Or.inl rfl)) (pgs_cons (pg_name (i := 7) sc_law_show.nd rfl (Or.inl rfl)) pgs_nil)))))
  (pss_cons (ps_set (i := 8) sc_law_show.nd rfl (Or.inl rfl) (pe_ix (ixk_list (K := K) rfl) (pv 6) (pe_op op_mod (pe_callTy call_intI (by rfl) Z.int (by decide +kernel) (pa_cons (pv 1) pa_nil)) (pe_callB (callk_lenL (K := K) rfl) (by rfl) Z.len (by decide +kernel) (pa_cons (pv 6) pa_nil))) (fun _ _ => rfl)))
  (pss_cons (ps_if (pt_cmpR op_eq (pv 5) pe_int (nomark _)) (pss_one (ps_set (i := 8) sc_law_show.nd rfl (Or.inl rfl) (pe_ix (ixk_list (K := K) rfl) (pv 7) (pe_op op_mod (pe_callTy call_intI (by rfl) Z.int (by decide +kernel) (pa_cons (pv 2) pa_nil)) (pe_callB (callk_lenL (K := K) rfl) (by rfl) Z.len (by decide +kernel) (pa_cons (pv 7) pa_nil))) (fun _ _ => rfl)))) pss_nil)
  (pss_cons (ps_if (pt_cmpR op_eq (pv 5) pe_int (nomark _)) (pss_one (ps_set (i := 8) sc_law_show.nd rfl (Or.inl rfl) (pe_op op_xor (pv 8) (pe_ix (ixk_list (K := K) rfl) (pv 7) (pe_op op_mod (pe_callTy call_intI (by rfl) Z.int (by decide +kernel) (pa_cons (pv 2) pa_nil)) (pe_callB (callk_lenL (K := K) rfl) (by rfl) Z.len (by decide +kernel) (pa_cons (pv 7) pa_nil))) (fun _ _ => rfl))))) pss_nil)
  (pss_one (ps_set (i := 3) sc_law_show.nd rfl (Or.inl rfl) (pe_op op_add (pv 3) (pe_op op_shl (pv 8) (pv 4))))))))))
  (pss_one (ps_ret (pv 3))))), ?_⟩
  change tSeq _ _ _ [some (.ref m), some (.int (p : Nat)), some (.int (q : Nat)), none, none, none, none, none, none] _
  walk_at "st"
  walk_at "st"
  refine g_len (SqL.of hm) ?_
  rw [xl]
  obtain ⟨Pv, hP⟩ := opq (fun (i : Nat) (σ' : L2.St) (H' : Hp) => ∃ (t : Nat) (a4 a5 a6 a7 a8 : Option V), σ' = [some (.ref m), some (.int (p : Nat)), some (.int (q : Nat)), some (.int (t : Nat)), a4, a5, a6, a7, a8] ∧ H' = H ∧ t < 2 ^ i)
  refine f_R1 (by omega) Pv ?_ ?_ ?_
  · rw [hP]
    exact ⟨0, _, _, _, _, _, rfl, rfl, Nat.one_pos⟩
  · intro i σ' H' hi h
    rw [hP] at h
    obtain ⟨t, a4, a5, a6, a7, a8, rfl, rfl, ht⟩ := h
    obtain ⟨v, hv⟩ : ∃ v, xs[i]? = some v := ⟨xs[i]'(by omega), List.getElem?_eq_getElem (by omega)⟩
    obtain ⟨sh, hsh, hd⟩ := dvs_item hdv hv
    obtain ⟨w3, hF, hG⟩ := hss sh (List.mem_of_getElem? hsh)
    obtain ⟨l, fa, ga, rfl, hl3, hf, hg⟩ := s_dv hd
    walk_at "wp"
    walk_at "st"
    refine k_ix (SqL.of hm) (atI_nat hv) ?_
    refine g_unl (SqL.of hl3) rfl ?_
    walk_at "wp"
    walk_at "st"
    refine g_len (SqL.of hf) ?_
    walk_at "wp"
    rw [valsN_len]
    obtain ⟨b, hb, eb⟩ := at01 hF p
    refine ⟨by have := hF.1; omega, k_ix (SqL.of hf) eb ?_⟩
    have fin : ∀ (b : Nat), b < 2 → CPow (b : Nat) (i : Int) ∧ Pv (i + 1) [some (.ref m), some (.int (p : Nat)), some (.int (q : Nat)), some (.int ((t : Nat) + ((b : Nat) : Int) * 2 ^ ((i : Int)).toNat)), some (.int (i : Nat)), some (.int (sh.1 : Nat)), some (.ref fa), some (.ref ga), some (.int (b : Nat))] H' := fun b hb => by
      refine ⟨cpow_of (by omega) (by omega), ?_⟩
      rw [hP, n_shlN, n_add]
      exact ⟨_, _, _, _, _, _, rfl, rfl, add_bit ht hb⟩
    walk_at "st"
    obtain ⟨c, hc, ec⟩ := at01 hG q
    have w3' : sh.1 = 0 ∨ sh.1 = 1 ∨ sh.1 = 2 := by omega
    rcases w3' with e | e | e
    · rw [e] at fin ⊢
      rw [if_neg (by decide)]
      walk_at "st"
      rw [if_neg (by decide)]
      walk_at "wp"
      exact fin b hb
    · rw [e] at fin ⊢
      rw [if_pos (by decide)]
      walk_at "wp"
      refine g_len (SqL.of hg) ?_
      walk_at "wp"
      rw [valsN_len]
      refine ⟨by have := hG.1; omega, k_ix (SqL.of hg) ec ?_⟩
      walk_at "st"
      rw [if_neg (by decide)]
      walk_at "wp"
      exact fin c hc
    · rw [e] at fin ⊢
      rw [if_neg (by decide)]
      walk_at "st"
      rw [if_pos (by decide)]
      walk_at "wp"
      refine g_len (SqL.of hg) ?_
      walk_at "wp"
      rw [valsN_len]
      refine ⟨by have := hG.1; omega, k_ix (SqL.of hg) ec ?_⟩
      walk_at "wp"
      walk_at "wn"
      exact fin (b ^^^ c) (xor2 hb hc)
  · intro σ' H' h
    rw [hP] at h
    obtain ⟨t, a4, a5, a6, a7, a8, rfl, rfl, ht⟩ := h
    walk_at "wp"
    exact qq t ht
end
end Ck
namespace Ck
open PySem L2
theorem new_monoX {a : Addr} {Hm H' H2 : Hp} {o : HO} (ha : Hm a = some o) (e : SameX a H' H2) : Same (new Hm H') (new Hm H2) := fun b u h => by
  obtain ⟨h1, h2⟩ := new_get h
  have ba : b ≠ a := fun z => by rw [z, ha] at h1; cases h1
  rw [new_of h1]
  exact e _ _ ba h2
theorem dv_s {H : Hp} {l f g : Addr} {s : Show} (h : H l = some (.lst [.int (s.1 : Nat), .ref f, .ref g])) (hf : H f = some (.lst (valsN s.2.1))) (hg : H g = some (.lst (valsN s.2.2))) : Dv H (.ref l) (encS s) := .lst h (.cons (.int _) (.cons (dv_nats hf) (.cons (dv_nats hg) .nil)))
/-- however it comes to a truth value, by a draw or without *-/
theorem full_cases {c1 c2 : Bool} {a : Addr} {H : Hp} {C : VK} {G1 G3 : Prop} (hp : PoolAt H a) (e1 : G1 = C (.bl true) H) (e3 : G3 = C (.bl false) H) (h : ∀ (fb : Bool) H2, PoolX a H H2 → C (.bl fb) H2) :
    if c1 = true then G1 else if c2 = true then spDraw [.ref a, .int 4] H (fun x H1 => rEq x (.int 0) H1 C) E0 else G3 := by
  subst e1 e3
  cases c1 with
  | true =>
    rw [if_pos rfl]
    exact h true H (PoolX.refl hp)
  | false =>
    rw [if_neg Bool.false_ne_true]
    cases c2 with
    | false =>
      rw [if_neg Bool.false_ne_true]
      exact h false H (PoolX.refl hp)
    | true =>
      rw [if_pos rfl]
      refine p_draw (m := 4) hp (by decide) (by decide) fun x H1 _ px => ?_
      rw [w_eqI]
      exact h _ H1 px
section
variable {P : Program} {w : World} {K : PySem.W.Frag} {mg : Str → Option Value} {base : Heap} {f : Addr} {fd : FuncData}
/-! ### _law_shows -/
abbrev s_law_shows : Stmt := top 29
theorem sc_law_shows : FnScope ["pool", "one", "two", "outputs", "star", "made", "b", "full", "first", "second", "which"] ["pool", "one", "two", "outputs"] (defScope s_law_shows) := ⟨rfl, rfl, rfl, by decide +kernel, rfl, by decide +kernel, by decide +kernel⟩
def spShows : Sp := fun vs H Q _ => ∃ (a : Addr) (one two outs : Nat), vs = [.ref a, .int (one : Nat), .int (two : Nat), .int (outs : Nat)] ∧ 0 < one ∧ one ≤ 1000 ∧ 0 < two ∧ two ≤ 1000 ∧ outs ≤ 24 ∧ PoolAt H a ∧
  ∀ (p : Addr) (ys : List V) (ss : List Show) H', PoolX a H H' → H p = none → H' p = some (.lst ys) → DvAll (new H H') ys (ss.map encS) → (∀ s ∈ ss, ShowOk s) → ss.length = outs → Q (.ref p) H'
theorem ok_law_shows (D_law_draw : Fn P w K mg base 1 "_law_draw" ["pool", "many"] spDraw) (D_law_pattern : Fn P w K mg base 3 "_law_pattern" ["pool", "length", "full"] spPattern) (F : Fun K "_law_shows" "_law_shows" s_law_shows f fd) (Z : Bl mg) : FnOk P w K mg base CX0 4 f fd ["pool", "one", "two", "outputs"] spShows := by
  refine F.ok sc_law_shows (fun vs H Q E h => ?_) (fun cdv A outer s H vs Q E hr h => ?_)
  · obtain ⟨a, one, two, outs, rfl, _⟩ := h
    rfl
  obtain ⟨a, one, two, outs, rfl, h1, l1, h2, l2, ho, hp, q⟩ := h
  refine ⟨_, (pss_cons (ps_set (i := 4) sc_law_shows.nd rfl (Or.inl rfl) (pe_call D_law_draw.G (hr.mono (by omega)) (by rfl) D_law_draw.m D_law_draw.kp D_law_draw.b .nil pass0 (pa_cons (pv 0) (pa_cons (pe_callB (call_max2 rfl) (by rfl) Z.max (by decide +kernel) (pa_cons pe_int (pa_cons (pv 3) pa_nil))) pa_nil))))
  (pss_cons (ps_set (i := 5) sc_law_shows.nd rfl (Or.inl rfl) (pe_lst pa_nil))
  (pss_cons (ps_for PassesOwn.never rfl (pi_range1 (by rfl) Z.range (pa_cons (pv 3) pa_nil)) (pg_name (i := 6) sc_law_shows.nd rfl (Or.inl rfl)) (pss_cons (ps_set (i := 7) sc_law_shows.nd rfl (Or.inl rfl) (pe_or (pe_cmpR op_eq (pv 6) (pv 4) (nomark _)) (pe_one (pe_and (pe_cmpR op_lt (pv 3) pe_int (nomark _)) (pe_one (pe_cmpR op_eq (pe_call D_law_draw.G (hr.mono (by omega)) (by rfl) D_law_draw.m D_law_draw.kp D_law_draw.b .nil pass0 (pa_cons (pv 0) (pa_cons pe_int pa_nil))) pe_int (nomark _)))))))
  (pss_cons (ps_set (i := 8) sc_law_shows.nd rfl (Or.inl rfl) (pe_call D_law_pattern.G (hr.mono (by omega)) (by rfl) D_law_pattern.m D_law_pattern.kp D_law_pattern.b .nil pass0 (pa_cons (pv 0) (pa_cons (pv 1) (pa_cons (pv 7) pa_nil)))))
  (pss_cons (ps_set (i := 9) sc_law_shows.nd rfl (Or.inl rfl) (pe_lst (pa_cons pe_int pa_nil)))
  (pss_cons (ps_set (i := 10) sc_law_shows.nd rfl (Or.inl rfl) pe_int)
  (pss_cons (ps_if (pt_cmpR op_gt (pv 2) pe_int (nomark _)) (pss_cons (ps_set (i := 10) sc_law_shows.nd rfl (Or.inl rfl) (pe_call D_law_draw.G (hr.mono (by omega)) (by rfl) D_law_draw.m D_law_draw.kp D_law_draw.b .nil pass0 (pa_cons (pv 0) (pa_cons pe_int pa_nil))))
  (pss_cons (ps_set (i := 9) sc_law_shows.nd rfl (Or.inl rfl) (pe_call D_law_pattern.G (hr.mono (by omega)) (by rfl) D_law_pattern.m D_law_pattern.kp D_law_pattern.b .nil pass0 (pa_cons (pv 0) (pa_cons (pv 2) (pa_cons (pv 7) pa_nil)))))
  (pss_one (ps_if (PW.pt (pw_and (pt_cmpR op_eq (pv 1) (pv 2) (nomark _)) (pw_and1 (pt_cmpR op_eq (pe_call D_law_draw.G (hr.mono (by omega)) (by rfl) D_law_draw.m D_law_draw.kp D_law_draw.b .nil pass0 (pa_cons (pv 0) (pa_cons pe_int pa_nil))) pe_int (nomark _))))) (pss_one (ps_set (i := 9) sc_law_shows.nd rfl (Or.inl rfl) (pv 8))) pss_nil)))) pss_nil)
  (pss_one (ps_expr (pe_bm PySem.F.plainAttrs_list PySem.F.slot_list_append PySem.F.type_list_append mt_append (pv 5) (pa_cons (pe_lst (pa_cons (pv 10) (pa_cons (pv 8) (pa_cons (pv 9) pa_nil)))) pa_nil))))))))))
  (pss_one (ps_ret (pv 5)))))), ?_⟩
  change tSeq _ _ _ [some (.ref a), some (.int (one : Nat)), some (.int (two : Nat)), some (.int (outs : Nat)), none, none, none, none, none, none, none] _
  walk_at "st"
  obtain ⟨mx, emx, mx0, mx1⟩ : ∃ mx : Nat, (if ((outs : Nat) : Int) > 1 then ((outs : Nat) : Int) else 1) = ((mx : Nat) : Int) ∧ 0 < mx ∧ mx ≤ 24 := by
    by_cases c : ((outs : Nat) : Int) > 1
    · exact ⟨outs, by rw [if_pos c], by omega, ho⟩
    · exact ⟨1, by rw [if_neg c]; rfl, by decide, by decide⟩
  rw [emx]
  refine p_draw hp mx0 (by omega) fun star H1 hst p1 => ?_
  walk_at "st"
  refine ⟨szr rfl, fun M hM => ?_⟩
  have aM : a ≠ M := p1.at'.ne hM
  have M0 : H M = none := p1.free hM
  walk_at "st"
  obtain ⟨Hm, hHm⟩ := opq (upd H1 M (.lst []))
  have hm : Hm M = some (.lst []) := by rw [hHm]; exact upd_same
  obtain ⟨oa, hma⟩ : ∃ o, Hm a = some o := by
    obtain ⟨c, r, k, _, _, e⟩ := p1.at'
    exact ⟨_, by rw [hHm, upd_ne aM]; exact e⟩
  obtain ⟨Pv, hP⟩ := opq (fun (i : Nat) (σ' : L2.St) (H' : Hp) => ∃ (a6 a7 a8 a9 a10 : Option V) (ys : List V) (ss : List Show), σ' = [some (.ref a), some (.int (one : Nat)), some (.int (two : Nat)), some (.int (outs : Nat)), some (.int (star : Nat)), some (.ref M), a6, a7, a8, a9, a10] ∧ PoolX a H1 H' ∧ H' M = some (.lst ys) ∧ DvAll (new Hm H') ys (ss.map encS) ∧ (∀ s ∈ ss, ShowOk s) ∧ ss.length = i)
  refine f_R1 (by omega) Pv ?_ ?_ ?_
  · rw [hP]
    exact ⟨_, _, _, _, _, [], [], rfl, (PoolX.refl p1.at').same (same_new hM _), upd_same, .nil, fun s hs => (by cases hs), rfl⟩
  · intro i σ' H' hi h
    rw [hP] at h
    obtain ⟨a6, a7, a8, a9, a10, ys, ss, rfl, px, hys, hdv, hss, hl⟩ := h
    have yl := dvs_len hdv
    -- the end of each turn
    have fin : ∀ (H5 : Hp) (wh : Nat) (fs gs : List Nat) (fa ga : Addr) (fb : Bool), PoolX a H' H5 → H' fa = none → H' ga = none → H5 fa = some (.lst (valsN fs)) → H5 ga = some (.lst (valsN gs)) → wh < 3 → Bits01 fs → Bits01 gs → ∀ pl, H5 pl = none →
        Pv (i + 1) [some (.ref a), some (.int (one : Nat)), some (.int (two : Nat)), some (.int (outs : Nat)), some (.int (star : Nat)), some (.ref M), some (.int (i : Nat)), some (.bl fb), some (.ref fa), some (.ref ga), some (.int (wh : Nat))]
          (upd (upd H5 pl (.lst [.int (wh : Nat), .ref fa, .ref ga])) M (.lst (ys ++ [.ref pl]))) := by
      intro H5 wh fs gs fa ga fb p5 hfa hga efa ega hw hF hG pl hpl
      rw [hP]
      have hM5 : H5 M = some (.lst ys) := p5.sx _ _ aM.symm hys
      have plM : pl ≠ M := fun z => by rw [z, hM5] at hpl; cases hpl
      have s6 := same_new hpl (.lst [.int (wh : Nat), .ref fa, .ref ga])
      have p6 := (px.trans p5).same s6
      have nf : ∀ {b : Addr}, H' b = none → Hm b = none := fun {b} e => by
        have bM : b ≠ M := fun z => by rw [z, hys] at e; cases e
        rw [hHm, upd_ne bM]
        exact px.free e
      refine ⟨_, _, _, _, _, ys ++ [.ref pl], ss ++ [(wh, fs, gs)], rfl, p6.put hM aM, upd_same, ?_, fun s hs => ?_, by rw [List.length_append, hl]; rfl⟩
      · rw [new_upd hm, List.map_append]
        refine dvs_app (dvs_same (new_monoX hma (p5.sx.trans (SameX.of s6))) hdv) (dvs_one (dv_s (f := fa) (g := ga) ?_ ?_ ?_))
        · rw [new_of (nf (p5.free hpl)), upd_same]
        · rw [new_of (nf hfa)]; exact s6 _ _ efa
        · rw [new_of (nf hga)]; exact s6 _ _ ega
      · rcases List.mem_append.mp hs with z | z
        · exact hss s z
        · rw [List.mem_singleton.mp z]; exact ⟨hw, hF, hG⟩
    walk_at "wp"
    walk_at "st"
    refine full_cases px.at' rfl rfl fun fb H2 p2 => ?_
    walk_at "st"
    refine ⟨a, one, fb, rfl, h1, l1, p2.at', fun fa fs H3 p3 hfa efa hF => ?_⟩
    have p03 := p2.trans p3
    have fa0 : H' fa = none := p2.free hfa
    walk_at "st"
    refine ⟨szr rfl, fun gz hgz => ?_⟩
    have p04 := p03.same (same_new hgz (.lst [.int 0]))
    have gz0 : H' gz = none := p03.free hgz
    have efa4 := same_new hgz (.lst [.int 0]) _ _ efa
    have egz : upd H3 gz (.lst [.int 0]) gz = some (.lst (valsN [0])) := upd_same
    generalize upd H3 gz (.lst [.int 0]) = H4 at p04 efa4 egz ⊢
    walk_at "st"
    walk_at "st"
    refine ite_split (fun c => ?_) (fun c => ?_)
    · walk_at "st"
      refine p_draw (m := 3) p04.at' (by decide) (by decide) fun wh H5 hw p5 => ?_
      have p05 := p04.trans p5
      walk_at "st"
      refine ⟨a, two, fb, rfl, h2, l2, p5.at', fun ga gs H6 p6 hga ega hG => ?_⟩
      have p06 := p05.trans p6
      have ga0 : H' ga = none := p05.free hga
      have nea : ∀ {b : Addr} {X : Hp}, H' b = none → b ≠ a := fun {b X} e z => px.at'.ne e z.symm
      have efa6 := p6.sx _ _ (nea (X := H') fa0) (p5.sx _ _ (nea (X := H') fa0) efa4)
      walk_at "wp"
      have hM6 := p06.sx _ _ aM.symm hys
      refine ite_split (fun c2 => ?_) (fun c2 => ?_)
      · refine p_draw (m := 2) p06.at' (by decide) (by decide) fun x H7 _ p7 => ?_
        have p07 := p06.trans p7
        have hM7 := p07.sx _ _ aM.symm hys
        have efa7 := p7.sx _ _ (nea (X := H') fa0) efa6
        have ega7 := p7.sx _ _ (nea (X := H') ga0) ega
        walk_at "wp"
        refine ite_split (fun c3 => ?_) (fun c3 => ?_)
        · refine ⟨k_tyL hM7, szr rfl, fun pl hpl => k_app (same_new hpl _ _ _ hM7) (by omega) ?_⟩
          exact fin H7 wh fs fs fa fa fb p07 fa0 fa0 efa7 efa7 hw hF hF pl hpl
        · refine ⟨k_tyL hM7, szr rfl, fun pl hpl => k_app (same_new hpl _ _ _ hM7) (by omega) ?_⟩
          exact fin H7 wh fs gs fa ga fb p07 fa0 ga0 efa7 ega7 hw hF hG pl hpl
      · refine ⟨k_tyL hM6, szr rfl, fun pl hpl => k_app (same_new hpl _ _ _ hM6) (by omega) ?_⟩
        exact fin H6 wh fs gs fa ga fb p06 fa0 ga0 efa6 ega hw hF hG pl hpl
    · walk_at "wp"
      have hM4 := p04.sx _ _ aM.symm hys
      refine ⟨k_tyL hM4, szr rfl, fun pl hpl => k_app (same_new hpl _ _ _ hM4) (by omega) ?_⟩
      exact fin H4 0 fs [0] fa gz fb p04 fa0 gz0 efa4 egz (by decide) hF ⟨by decide, by decide, by decide⟩ pl hpl
  · intro σ' H' h
    rw [hP] at h
    obtain ⟨a6, a7, a8, a9, a10, ys, ss, rfl, px, hys, hdv, hss, hl⟩ := h
    walk_at "wp"
    refine q M ys ss H' (p1.trans px) M0 hys (dvs_same (fun b o e => ?_) hdv) hss hl
    obtain ⟨e1, e2⟩ := new_get e
    have bM : b ≠ M := fun z => by rw [z, hm] at e1; cases e1
    rw [hHm, upd_ne bM] at e1
    rw [new_of (p1.free e1)]
    exact e2
end
end Ck
namespace Ck
open PySem L2
section
variable {P : Program} {w : World} {K : PySem.W.Frag} {mg : Str → Option Value} {base : Heap} {f : Addr} {fd : FuncData}
/-! ### _law_moves -/
abbrev s_law_moves : Stmt := top 31
theorem sc_law_moves : FnScope ["pool", "world", "count", "great", "one", "two", "moves", "n", "step", "spot"] ["pool", "world", "count"] (defScope s_law_moves) := ⟨rfl, rfl, rfl, by decide +kernel, rfl, by decide +kernel, by decide +kernel⟩
/-- moves: a list of pairs, each a list of its own -/
def encM (m : Nat × Nat) : PyData := .list [.int (m.1 : Nat), .int (m.2 : Nat)]
theorem m_dv {H : Hp} {v : V} {m : Nat × Nat} (h : Dv H v (encM m)) : ∃ l, v = .ref l ∧ H l = some (.lst [.int (m.1 : Nat), .int (m.2 : Nat)]) := by
  unfold encM at h
  cases h with
  | lst a b =>
    cases b with
    | cons b1 b2 =>
      cases b1
      cases b2 with
      | cons b3 b4 =>
        cases b3
        cases b4
        exact ⟨_, rfl, a⟩
theorem dv_m {H : Hp} {l : Addr} {m : Nat × Nat} (h : H l = some (.lst [.int (m.1 : Nat), .int (m.2 : Nat)])) : Dv H (.ref l) (encM m) := .lst h (.cons (.int _) (.cons (.int _) .nil))
/-- one pair's first turned to 1 -/
def turned (l : Addr) (ys : List V) (ms : List (Nat × Nat)) : List (Nat × Nat) := (ys.zip ms).map fun p => if p.1 = .ref l then (1, p.2.2) else p.2
theorem turned_len {l : Addr} {ys : List V} {ms : List (Nat × Nat)} (h : ys.length = ms.length) : (turned l ys ms).length = ms.length := by
  unfold turned
  rw [List.length_map, List.length_zip]
  omega
theorem dvs_turned {G : Hp} {l : Addr} {x1 x2 : Nat} (h : G l = some (.lst [.int (x1 : Nat), .int (x2 : Nat)])) : ∀ {ys : List V} {ms : List (Nat × Nat)}, DvAll G ys (ms.map encM) → DvAll (upd G l (.lst [.int 1, .int (x2 : Nat)])) ys ((turned l ys ms).map encM) := by
  intro ys ms
  induction ms generalizing ys with
  | nil =>
    intro d
    rw [List.map_nil] at d
    cases d
    exact .nil
  | cons m ms ih =>
    intro d
    rw [List.map_cons] at d
    cases d with
    | @cons v vs _ _ d1 d2 =>
      obtain ⟨t, rfl, ht⟩ := m_dv d1
      show DvAll _ _ (encM (if V.ref t = V.ref l then (1, m.2) else m) :: (turned l vs ms).map encM)
      refine .cons ?_ (ih d2)
      by_cases c : t = l
      · subst c
        rw [if_pos rfl]
        rw [ht] at h
        have h := HO.lst.inj (Option.some.inj h)
        injection h with e1 e2
        injection e2 with e2 _
        injection e2 with e2
        refine dv_m (m := (1, m.2)) ?_
        rw [upd_same, ← e2]
        rfl
      · rw [if_neg fun z => c (by injection z)]
        exact dv_m (by rw [upd_ne c]; exact ht)
def spMoves : Sp := fun vs H Q _ => ∃ (a wd : Addr) (cnt gr one two : Nat) (v0 v4 v5 : V), vs = [.ref a, .ref wd, .int (cnt : Nat)] ∧ 0 < cnt ∧ cnt ≤ 16 ∧ 0 < one ∧ one ≤ 1000 ∧ 0 < two ∧ two ≤ 1000 ∧ wd ≠ a ∧ H wd = some (.lst [v0, .int (gr : Nat), .int (one : Nat), .int (two : Nat), v4, v5]) ∧ PoolAt H a ∧
  ∀ (p : Addr) (ys : List V) (ms : List (Nat × Nat)) H', PoolX a H H' → H p = none → H' p = some (.lst ys) → DvAll (new H H') ys (ms.map encM) → ms.length = cnt → Q (.ref p) H'
theorem ok_law_moves (D_law_draw : Fn P w K mg base 1 "_law_draw" ["pool", "many"] spDraw) (D_law_pick : Fn P w K mg base 2 "_law_pick" ["pool", "row"] spPick) (D_law_meets_all : Fn P w K mg base 1 "_law_meets_all" ["step", "length"] spMeets) (F : Fun K "_law_moves" "_law_moves" s_law_moves f fd) (Z : Bl mg) : FnOk P w K mg base CX0 3 f fd ["pool", "world", "count"] spMoves := by
  refine F.ok sc_law_moves (fun vs H Q E h => ?_) (fun cdv A outer s H vs Q E hr h => ?_)
  · obtain ⟨a, wd, cnt, gr, one, two, v0, v4, v5, rfl, _⟩ := h
    rfl
  obtain ⟨a, wd, cnt, gr, one, two, v0, v4, v5, rfl, c0, c1, h1, l1, h2, l2, wa, hw, hp, q⟩ := h
  refine ⟨_, (pss_cons (ps_set (i := 3) sc_law_moves.nd rfl (Or.inl rfl) (pe_ix (ixk_list (K := K) rfl) (pv 1) pe_int (fun _ _ => rfl)))
  (pss_cons (ps_set (i := 4) sc_law_moves.nd rfl (Or.inl rfl) (pe_ix (ixk_list (K := K) rfl) (pv 1) pe_int (fun _ _ => rfl)))
  (pss_cons (ps_set (i := 5) sc_law_moves.nd rfl (Or.inl rfl) (pe_ix (ixk_list (K := K) rfl) (pv 1) pe_int (fun _ _ => rfl)))
  (pss_cons (ps_set (i := 6) sc_law_moves.nd rfl (Or.inl rfl) (pe_lst pa_nil))
  (pss_cons (ps_for PassesOwn.never rfl (pi_range1 (by rfl) Z.range (pa_cons (pv 2) pa_nil)) (pg_name (i := 7) sc_law_moves.nd rfl (Or.inl rfl)) (pss_cons (ps_set (i := 8) sc_law_moves.nd rfl (Or.inl rfl) (pe_call D_law_pick.G (hr.mono (by omega)) (by rfl) D_law_pick.m D_law_pick.kp D_law_pick.b .nil pass0 (pa_cons (pv 0) (pa_cons (pe_lst (pa_cons pe_int (pa_cons pe_int (pa_cons pe_int (pa_cons (pe_op op_sub (pv 4) pe_int) (pa_cons pe_int (pa_cons (pe_call D_law_draw.G (hr.mono (by omega)) (by rfl) D_law_draw.m D_law_draw.kp D_law_draw.b .nil pass0 (pa_cons (pv 0) (pa_cons (pv 4) pa_nil))) pa_nil))))))) pa_nil))))
  (pss_one (ps_expr (pe_bm PySem.F.plainAttrs_list PySem.F.slot_list_append PySem.F.type_list_append mt_append (pv 6) (pa_cons (pe_lst (pa_cons (pv 8) (pa_cons (pe_call D_law_pick.G (hr.mono (by omega)) (by rfl) D_law_pick.m D_law_pick.kp D_law_pick.b .nil pass0 (pa_cons (pv 0) (pa_cons (pe_lst (pa_cons pe_int (pa_cons pe_int (pa_cons pe_int (pa_cons (pe_op op_sub (pv 5) pe_int) (pa_cons (pv 8) (pa_cons (pe_call D_law_draw.G (hr.mono (by omega)) (by rfl) D_law_draw.m D_law_draw.kp D_law_draw.b .nil pass0 (pa_cons (pv 0) (pa_cons (pv 5) pa_nil))) pa_nil))))))) pa_nil))) pa_nil))) pa_nil))))))
  (pss_cons (ps_set (i := 9) sc_law_moves.nd rfl (Or.inl rfl) (pe_call D_law_draw.G (hr.mono (by omega)) (by rfl) D_law_draw.m D_law_draw.kp D_law_draw.b .nil pass0 (pa_cons (pv 0) (pa_cons (pv 2) pa_nil))))
  (pss_cons (ps_if (PW.pt (pw_and (pt_cmpR op_eq (pv 3) pe_int (nomark _)) (pw_and (pt_cmpR op_eq (pv 5) pe_int (nomark _)) (pw_and1 (pt_not (pt_val (pe_call D_law_meets_all.G (hr.mono (by omega)) (by rfl) D_law_meets_all.m D_law_meets_all.kp D_law_meets_all.b .nil pass0 (pa_cons (pe_ix (ixk_list (K := K) rfl) (pe_ix (ixk_list (K := K) rfl) (pv 6) (pv 9) (fun _ _ => rfl)) pe_int (fun _ _ => rfl)) (pa_cons (pv 4) pa_nil))))))))) (pss_one (ps_asg pe_int (pg_sub (pe_ix (ixk_list (K := K) rfl) (pv 6) (pv 9) (fun _ _ => rfl)) pe_int set_list))) pss_nil)
  (pss_one (ps_ret (pv 6)))))))))), ?_⟩
  change tSeq _ _ _ [some (.ref a), some (.ref wd), some (.int (cnt : Nat)), none, none, none, none, none, none, none] _
  walk_at "st"
  refine k_ix (SqL.of hw) (v := .int (gr : Nat)) rfl ?_
  walk_at "st"
  refine k_ix (SqL.of hw) (v := .int (one : Nat)) rfl ?_
  walk_at "st"
  refine k_ix (SqL.of hw) (v := .int (two : Nat)) rfl ?_
  walk_at "st"
  refine ⟨szr rfl, fun M hM => ?_⟩
  have aM : a ≠ M := hp.ne hM
  walk_at "st"
  obtain ⟨Hm, hHm⟩ := opq (upd H M (.lst []))
  have hm : Hm M = some (.lst []) := by rw [hHm]; exact upd_same
  obtain ⟨oa, hma⟩ : ∃ o, Hm a = some o := by
    obtain ⟨c, r, k, _, _, e⟩ := hp
    exact ⟨_, by rw [hHm, upd_ne aM]; exact e⟩
  obtain ⟨Pv, hP⟩ := opq (fun (i : Nat) (σ' : L2.St) (H' : Hp) => ∃ (a7 a8 : Option V) (ys : List V) (ms : List (Nat × Nat)), σ' = [some (.ref a), some (.ref wd), some (.int (cnt : Nat)), some (.int (gr : Nat)), some (.int (one : Nat)), some (.int (two : Nat)), some (.ref M), a7, a8, none] ∧ PoolX a H H' ∧ H' M = some (.lst ys) ∧ DvAll (new Hm H') ys (ms.map encM) ∧ ms.length = i)
  refine f_R1 (by omega) Pv ?_ ?_ ?_
  · rw [hP]
    exact ⟨_, _, [], [], rfl, (PoolX.refl hp).same (same_new hM _), upd_same, .nil, rfl⟩
  · intro i σ' H' hi h
    rw [hP] at h
    obtain ⟨a7, a8, ys, ms, rfl, px, hys, hdv, hl⟩ := h
    have yl := dvs_len hdv
    walk_at "wp"
    walk_at "st"
    refine p_draw px.at' h1 (by omega) fun x H1 hx p1 => ⟨szr rfl, fun t1 ht1 => ?_⟩
    have px1 := px.trans p1
    have e1 : ([V.int 0, V.int 1, V.int 1, V.int (((one : Nat) : Int) - 1), V.int 2, V.int (x : Nat)] : List V) = ([0, 1, 1, one - 1, 2, x] : List Nat).map fun n => V.int (n : Nat) := by
      rw [show ((one : Nat) : Int) - 1 = ((one - 1 : Nat) : Int) by omega]
      rfl
    rw [e1]
    refine p_pickN px1.at' ht1 (by show 0 < 6; decide) (by show 6 < 1000000; decide) fun s1 H2 _ p2 => ?_
    have px2 := px1.trans p2
    have hM2 := p2.sx _ _ aM.symm (p1.sx _ _ aM.symm hys)
    refine ⟨k_tyL hM2, p_draw px2.at' h2 (by omega) fun y H3 hy p3 => ⟨szr rfl, fun t2 ht2 => ?_⟩⟩
    have px3 := px2.trans p3
    have e2 : ([V.int 0, V.int 1, V.int 1, V.int (((two : Nat) : Int) - 1), V.int (s1 : Nat), V.int (y : Nat)] : List V) = ([0, 1, 1, two - 1, s1, y] : List Nat).map fun n => V.int (n : Nat) := by
      rw [show ((two : Nat) : Int) - 1 = ((two - 1 : Nat) : Int) by omega]
      rfl
    rw [e2]
    refine p_pickN px3.at' ht2 (by show 0 < 6; decide) (by show 6 < 1000000; decide) fun s2 H4 _ p4 => ⟨szr rfl, fun l hl5 => ?_⟩
    have px4 := px3.trans p4
    have hM4 := p4.sx _ _ aM.symm (p3.sx _ _ aM.symm hM2)
    have s5 := same_new hl5 (.lst [.int (s1 : Nat), .int (s2 : Nat)])
    have sx4 : SameX a H' H4 := (p1.sx.trans p2.sx).trans (p3.sx.trans p4.sx)
    have lM : l ≠ M := fun z => by rw [z, hM4] at hl5; cases hl5
    refine k_app (s5 _ _ hM4) (by omega) ?_
    rw [hP]
    refine ⟨_, _, ys ++ [.ref l], ms ++ [(s1, s2)], rfl, (px4.same s5).put hM aM, upd_same, ?_, by rw [List.length_append, hl]; rfl⟩
    rw [new_upd hm, List.map_append]
    refine dvs_app (dvs_same (new_monoX hma (sx4.trans (SameX.of s5))) hdv) (dvs_one (dv_m (m := (s1, s2)) ?_))
    rw [new_of (by rw [hHm, upd_ne lM]; exact px4.free hl5), upd_same]
  · intro σ' H' h
    rw [hP] at h
    obtain ⟨a7, a8, ys, ms, rfl, px, hys, hdv, hl⟩ := h
    have yl := dvs_len hdv
    have back : ∀ {G : Hp}, Same (new Hm G) (new H G) := fun {G} b o e => by
      obtain ⟨e1, e2⟩ := new_get e
      have bM : b ≠ M := fun z => by rw [z, hm] at e1; cases e1
      rw [hHm, upd_ne bM] at e1
      rw [new_of e1]
      exact e2
    walk_at "st"
    walk_at "st"
    refine p_draw px.at' c0 (by omega) fun sp H1 hsp p1 => ?_
    have px1 := px.trans p1
    have hM1 := p1.sx _ _ aM.symm hys
    have hdv1 := dvs_same (new_monoX hma p1.sx) hdv
    walk_at "st"
    have done : Q (.ref M) H1 := q M ys ms H1 px1 hM hM1 (dvs_same back hdv1) hl
    refine ite_split (fun c => ?_) (fun c => ?_)
    · walk_at "wp"
      refine ite_split (fun c2 => ?_) (fun c2 => ?_)
      · obtain ⟨v, hv⟩ : ∃ v, ys[sp]? = some v := ⟨ys[sp]'(by omega), List.getElem?_eq_getElem (by omega)⟩
        obtain ⟨m, hm2, hd⟩ := dvs_item hdv1 hv
        obtain ⟨l, rfl, hl2⟩ := m_dv hd
        walk_at "wp"
        refine k_ix (SqL.of hM1) (atI_nat hv) ?_
        walk_at "wp"
        refine k_ix (SqL.of (new_same _ _ hl2)) (v := .int (m.1 : Nat)) rfl ?_
        walk_at "wp"
        refine ⟨m.1, one, rfl, h1, by omega, fun b => ?_⟩
        walk_at "wp"
        refine ite_split (fun c3 => ?_) (fun c3 => ?_)
        · walk_at "wp"
          refine k_ix (SqL.of hM1) (atI_nat hv) ?_
          walk_at "wp"
          obtain ⟨l0, l1'⟩ := new_get hl2
          refine k_set (n := 0) l1' rfl ?_
          walk_at "wp"
          have lM : M ≠ l := fun z => by rw [← z, hm] at l0; cases l0
          have al : a ≠ l := fun z => by rw [← z, hma] at l0; cases l0
          have lH : H l = none := by
            rw [hHm, upd_ne lM.symm] at l0
            exact l0
          refine q M ys (turned l ys ms) _ (px1.put lH al) hM (by rw [upd_ne lM]; exact hM1) ?_ (by rw [turned_len yl]; exact hl)
          have e : upd (new H H1) l (.lst [.int 1, .int (m.2 : Nat)]) = new H (upd H1 l (.lst [.int 1, .int (m.2 : Nat)])) := by
            funext b
            by_cases bl : b = l
            · rw [bl, upd_same, new_of lH, upd_same]
            · rw [upd_ne bl]
              unfold new
              rw [upd_ne bl]
          show DvAll (new H (upd H1 l (.lst [.int 1, .int (m.2 : Nat)]))) ys _
          rw [← e]
          exact dvs_turned (back _ _ hl2) (dvs_same back hdv1)
        · exact done
      · exact done
    · exact done
end
end Ck
namespace Ck
open PySem L2
section
variable {P : Program} {w : World} {K : PySem.W.Frag} {mg : Str → Option Value} {base : Heap} {f : Addr} {fd : FuncData}
/-! ### _law_rings -/
abbrev s_law_rings : Stmt := top 27
theorem sc_law_rings : FnScope ["pool", "at", "great", "bits", "size", "many", "more", "period", "one", "two"] ["pool", "at"] (defScope s_law_rings) := ⟨rfl, rfl, rfl, by decide +kernel, rfl, by decide +kernel, by decide +kernel⟩
structure RingsOk (bits gr one two f1 f2 : Nat) : Prop where
  b0 : 4 ≤ bits
  b1 : bits ≤ 8
  g : gr ≤ 1
  o : 0 < one
  t : 0 < two
  ot : one * two ≤ 2 ^ bits
  a : 0 < f1 ∧ f1 ≤ 256
  b : 0 < f2 ∧ f2 ≤ 256
def spRings : Sp := fun vs H Q _ => ∃ (a : Addr) (k : Nat), vs = [.ref a, .int (k : Nat)] ∧ PoolAt H a ∧
  ∀ (p : Addr) (bits gr one two f1 f2 : Nat) H', PoolX a H H' → H p = none → H' p = some (.lst [.int (bits : Nat), .int (gr : Nat), .int (one : Nat), .int (two : Nat), .int (f1 : Nat), .int (f2 : Nat)]) → RingsOk bits gr one two f1 f2 → Q (.ref p) H'
theorem ok_law_rings (D_law_draw : Fn P w K mg base 1 "_law_draw" ["pool", "many"] spDraw) (D_law_pick : Fn P w K mg base 2 "_law_pick" ["pool", "row"] spPick) (D_law_divisor : Fn P w K mg base 2 "_law_divisor" ["pool", "length"] spDivisor) (F : Fun K "_law_rings" "_law_rings" s_law_rings f fd) (Z : Bl mg) : FnOk P w K mg base CX0 3 f fd ["pool", "at"] spRings := by
  refine F.ok sc_law_rings (fun vs H Q E h => ?_) (fun cdv A outer s H vs Q E hr h => ?_)
  · obtain ⟨a, k, rfl, _⟩ := h
    rfl
  obtain ⟨a, k, rfl, hp, q⟩ := h
  refine ⟨_, (pss_cons (ps_set (i := 2) sc_law_rings.nd rfl (Or.inl rfl) (pe_call D_law_draw.G (hr.mono (by omega)) (by rfl) D_law_draw.m D_law_draw.kp D_law_draw.b .nil pass0 (pa_cons (pv 0) (pa_cons pe_int pa_nil))))
  (pss_cons (ps_set (i := 3) sc_law_rings.nd rfl (Or.inl rfl) (pe_ix (ixk_list (K := K) rfl) (pe_lst (pa_cons (pe_op op_add pe_int (pe_call D_law_draw.G (hr.mono (by omega)) (by rfl) D_law_draw.m D_law_draw.kp D_law_draw.b .nil pass0 (pa_cons (pv 0) (pa_cons pe_int pa_nil)))) (pa_cons (pe_op op_add pe_int (pe_call D_law_draw.G (hr.mono (by omega)) (by rfl) D_law_draw.m D_law_draw.kp D_law_draw.b .nil pass0 (pa_cons (pv 0) (pa_cons pe_int pa_nil)))) pa_nil))) (pv 2) (fun _ _ => rfl)))
  (pss_cons (ps_set (i := 4) sc_law_rings.nd rfl (Or.inl rfl) (pe_op op_shl pe_int (pv 3)))
  (pss_cons (ps_if (PW.pt (pw_and (pt_cmpR op_eq (pv 1) pe_int (nomark _)) (pw_and1 (pt_cmpR op_eq (pv 2) pe_int (nomark _))))) (pss_cons (ps_set (i := 5) sc_law_rings.nd rfl (Or.inl rfl) (pe_op op_add pe_int (pe_op op_mul (pe_call D_law_draw.G (hr.mono (by omega)) (by rfl) D_law_draw.m D_law_draw.kp D_law_draw.b .nil pass0 (pa_cons (pv 0) (pa_cons pe_int pa_nil))) (pe_op op_sub (pv 3) pe_int))))
  (pss_cons (ps_set (i := 6) sc_law_rings.nd rfl (Or.inl rfl) (pe_op op_sub (pe_op op_fdivW (pv 4) (pv 5)) pe_int))
  (pss_cons (ps_set (i := 7) sc_law_rings.nd rfl (Or.inl rfl) (pe_op op_add pe_int (pe_call D_law_pick.G (hr.mono (by omega)) (by rfl) D_law_pick.m D_law_pick.kp D_law_pick.b .nil pass0 (pa_cons (pv 0) (pa_cons (pe_lst (pa_cons (pv 6) (pa_cons (pe_call D_law_draw.G (hr.mono (by omega)) (by rfl) D_law_draw.m D_law_draw.kp D_law_draw.b .nil pass0 (pa_cons (pv 0) (pa_cons pe_int pa_nil))) (pa_cons (pe_call D_law_draw.G (hr.mono (by omega)) (by rfl) D_law_draw.m D_law_draw.kp D_law_draw.b .nil pass0 (pa_cons (pv 0) (pa_cons (pe_op op_add (pv 6) pe_int) pa_nil))) pa_nil)))) pa_nil)))))
  (pss_one (ps_ret (pe_lst (pa_cons (pv 3) (pa_cons (pv 2) (pa_cons (pe_op op_mul (pv 7) (pv 5)) (pa_cons pe_int (pa_cons (pv 7) (pa_cons pe_int pa_nil)))))))))))) pss_nil)
  (pss_cons (ps_if (pt_cmpR op_eq (pv 1) pe_int (nomark _)) (pss_cons (ps_set (i := 7) sc_law_rings.nd rfl (Or.inl rfl) (pe_call D_law_pick.G (hr.mono (by omega)) (by rfl) D_law_pick.m D_law_pick.kp D_law_pick.b .nil pass0 (pa_cons (pv 0) (pa_cons (pe_lst (pa_cons pe_int (pa_cons pe_int (pa_cons (pv 4) (pa_cons (pe_op op_fdivW (pv 4) pe_int) (pa_cons (pe_op op_add pe_int (pe_call D_law_draw.G (hr.mono (by omega)) (by rfl) D_law_draw.m D_law_draw.kp D_law_draw.b .nil pass0 (pa_cons (pv 0) (pa_cons (pv 4) pa_nil)))) (pa_cons (pe_op op_add pe_int (pe_call D_law_draw.G (hr.mono (by omega)) (by rfl) D_law_draw.m D_law_draw.kp D_law_draw.b .nil pass0 (pa_cons (pv 0) (pa_cons (pv 4) pa_nil)))) pa_nil))))))) pa_nil))))
  (pss_one (ps_ret (pe_lst (pa_cons (pv 3) (pa_cons (pv 2) (pa_cons (pe_op op_mul (pv 7) (pe_op op_add pe_int (pe_call D_law_draw.G (hr.mono (by omega)) (by rfl) D_law_draw.m D_law_draw.kp D_law_draw.b .nil pass0 (pa_cons (pv 0) (pa_cons (pe_op op_fdivW (pv 4) (pv 7)) pa_nil))))) (pa_cons pe_int (pa_cons (pv 7) (pa_cons pe_int pa_nil)))))))))) pss_nil)
  (pss_cons (ps_set (i := 8) sc_law_rings.nd rfl (Or.inl rfl) (pe_op op_add pe_int (pe_call D_law_draw.G (hr.mono (by omega)) (by rfl) D_law_draw.m D_law_draw.kp D_law_draw.b .nil pass0 (pa_cons (pv 0) (pa_cons pe_int pa_nil)))))
  (pss_cons (ps_set (i := 9) sc_law_rings.nd rfl (Or.inl rfl) (pe_op op_add pe_int (pe_call D_law_draw.G (hr.mono (by omega)) (by rfl) D_law_draw.m D_law_draw.kp D_law_draw.b .nil pass0 (pa_cons (pv 0) (pa_cons (pe_op op_fdivW (pv 4) (pv 8)) pa_nil)))))
  (pss_cons (ps_if (PW.pt (pw_and (pt_cmpR op_le (pe_op op_mul (pv 8) (pv 8)) (pv 4) (nomark _)) (pw_and1 (pt_cmpR op_eq (pe_call D_law_draw.G (hr.mono (by omega)) (by rfl) D_law_draw.m D_law_draw.kp D_law_draw.b .nil pass0 (pa_cons (pv 0) (pa_cons pe_int pa_nil))) pe_int (nomark _))))) (pss_one (ps_set (i := 9) sc_law_rings.nd rfl (Or.inl rfl) (pv 8))) pss_nil)
  (pss_one (ps_ret (pe_lst (pa_cons (pv 3) (pa_cons (pv 2) (pa_cons (pv 8) (pa_cons (pv 9) (pa_cons (pe_call D_law_divisor.G (hr.mono (by omega)) (by rfl) D_law_divisor.m D_law_divisor.kp D_law_divisor.b .nil pass0 (pa_cons (pv 0) (pa_cons (pv 8) pa_nil))) (pa_cons (pe_call D_law_divisor.G (hr.mono (by omega)) (by rfl) D_law_divisor.m D_law_divisor.kp D_law_divisor.b .nil pass0 (pa_cons (pv 0) (pa_cons (pv 9) pa_nil))) pa_nil))))))))))))))))), ?_⟩
  change tSeq _ _ _ [some (.ref a), some (.int (k : Nat)), none, none, none, none, none, none, none, none] _
  walk_at "st"
  refine p_draw (m := 2) hp (by decide) (by decide) fun gr H1 hg p1 => ?_
  walk_at "st"
  refine p_draw (m := 3) p1.at' (by decide) (by decide) fun x H2 hx p2 => ?_
  have p02 := p1.trans p2
  walk_at "wp"
  refine p_draw (m := 2) p02.at' (by decide) (by decide) fun y H3 hy p3 => ?_
  have p03 := p02.trans p3
  walk_at "wp"
  refine ⟨szr rfl, fun l hl => ?_⟩
  have p04 := p03.same (same_new hl (.lst [.int (4 + (x : Int)), .int (7 + (y : Int))]))
  have hl4 : upd H3 l (.lst [.int (4 + (x : Int)), .int (7 + (y : Int))]) l = some (.lst [.int (4 + (x : Int)), .int (7 + (y : Int))]) := upd_same
  generalize upd H3 l (.lst [.int (4 + (x : Int)), .int (7 + (y : Int))]) = H4 at p04 hl4 ⊢
  obtain ⟨bits, hb, b0, b1, b2⟩ : ∃ bits : Nat, atI [V.int (4 + (x : Int)), V.int (7 + (y : Int))] ((gr : Nat) : Int) = some (.int (bits : Nat)) ∧ 4 ≤ bits ∧ bits ≤ 8 ∧ (gr = 1 → 7 ≤ bits) := by
    have : gr = 0 ∨ gr = 1 := by omega
    rcases this with e | e
    · exact ⟨x + 4, by rw [e, show (4 : Int) + (x : Int) = ((x + 4 : Nat) : Int) by omega]; rfl, by omega, by omega, by omega⟩
    · exact ⟨y + 7, by rw [e, show (7 : Int) + (y : Int) = ((y + 7 : Nat) : Int) by omega]; rfl, by omega, by omega, by omega⟩
  refine k_ix (SqL.of hl4) hb ?_
  walk_at "st"
  refine ⟨n_pow_shl (by omega), ?_⟩
  walk_at "wn"
  have szb : 2 ^ bits = 16 ∨ 2 ^ bits = 32 ∨ 2 ^ bits = 64 ∨ 2 ^ bits = 128 ∨ 2 ^ bits = 256 := by
    have : bits = 4 ∨ bits = 5 ∨ bits = 6 ∨ bits = 7 ∨ bits = 8 := by omega
    rcases this with e | e | e | e | e <;> rw [e] <;> decide
  walk_at "st"
  have fin : ∀ (H9 : Hp) (one two f1 f2 : Nat), PoolX a H H9 → RingsOk bits gr one two f1 f2 → ∀ p, H9 p = none → Q (.ref p) (upd H9 p (.lst [.int (bits : Nat), .int (gr : Nat), .int (one : Nat), .int (two : Nat), .int (f1 : Nat), .int (f2 : Nat)])) := fun H9 one two f1 f2 p9 ok p hp9 => q p bits gr one two f1 f2 _ (p9.same (same_new hp9 _)) (p9.free hp9) upd_same ok
  refine ite_split (fun c => ?_) (fun c => ?_)
  · refine ite_split (fun c2 => ?_) (fun c2 => ?_)
    · have g1 : gr = 1 := by have := of_decide_eq_true c2; omega
      have b7 := b2 g1
      walk_at "st"
      refine p_draw (m := 3) p04.at' (by decide) (by decide) fun z H5 hz p5 => ?_
      have p05 := p04.trans p5
      walk_at "wp"
      rw [show ((bits : Nat) : Int) - 7 = ((bits - 7 : Nat) : Int) by omega]
      refine ⟨cmulr (by omega), ?_⟩
      obtain ⟨many, em, hm⟩ : ∃ many : Nat, (1 : Int) + ((z : Nat) : Int) * ((bits - 7 : Nat) : Int) = ((many : Nat) : Int) ∧ ((bits = 7 ∧ many = 1) ∨ (bits = 8 ∧ 1 ≤ many ∧ many ≤ 3)) := by
        have : bits = 7 ∨ bits = 8 := by omega
        rcases this with e | e
        · exact ⟨1, by rw [e]; simp, .inl ⟨e, rfl⟩⟩
        · exact ⟨z + 1, by rw [e]; simp; omega, .inr ⟨e, by omega, by omega⟩⟩
      rw [em]
      walk_at "st"
      refine ⟨cdivw (by omega) (by omega), ?_⟩
      obtain ⟨more, emo, m20, hmore⟩ : ∃ more : Nat, ((2 ^ bits : Nat) : Int) / ((many : Nat) : Int) - 65 = ((more : Nat) : Int) ∧ 15 ≤ more ∧ (65 + more) * many ≤ 2 ^ bits := by
        have : (bits = 7 ∧ many = 1) ∨ (bits = 8 ∧ many = 1) ∨ (bits = 8 ∧ many = 2) ∨ (bits = 8 ∧ many = 3) := by omega
        rcases this with ⟨e, e'⟩ | ⟨e, e'⟩ | ⟨e, e'⟩ | ⟨e, e'⟩ <;> subst e e'
        · exact ⟨63, by decide, by decide, by decide⟩
        · exact ⟨191, by decide, by decide, by decide⟩
        · exact ⟨63, by decide, by decide, by decide⟩
        · exact ⟨20, by decide, by decide, by decide⟩
      have mo256 : more ≤ 191 := by
        have : (65 + more) * 1 ≤ (65 + more) * many := Nat.mul_le_mul_left _ (by omega)
        omega
      rw [emo]
      walk_at "st"
      refine p_draw (m := 16) p05.at' (by decide) (by decide) fun d1 H6 hd1 p6 => ?_
      have p06 := p05.trans p6
      walk_at "wp"
      rw [n_add1]
      refine p_draw (m := more + 1) p06.at' (by omega) (by omega) fun d2 H7 hd2 p7 => ⟨szr rfl, fun t ht => ?_⟩
      have p07 := p06.trans p7
      refine p_pickN (ns := [more, d1, d2]) p07.at' ht (by show 0 < 3; decide) (by show 3 < 1000000; decide) fun per H8 hper p8 => ?_
      have p08 := p07.trans p8
      have per1 : per ≤ more := by
        simp only [List.mem_cons, List.not_mem_nil, or_false] at hper
        omega
      walk_at "wp"
      rw [show (65 : Int) + (per : Int) = ((65 + per : Nat) : Int) by omega]
      refine ⟨cmulr (by omega), szr rfl, fun p hp9 => ?_⟩
      rw [show ((65 + per : Nat) : Int) * ((many : Nat) : Int) = (((65 + per) * many : Nat) : Int) by rw [Int.natCast_mul]]
      refine fin H8 ((65 + per) * many) 1 (65 + per) 1 p08 ⟨b0, b1, by omega, Nat.mul_pos (by omega) (by omega), by decide, ?_, by omega, by decide⟩ p hp9
      rw [Nat.mul_one]
      exact Nat.le_trans (Nat.mul_le_mul_right _ (by omega)) hmore
    · walk_at "st"
      rw [if_pos c]
      walk_at "st"
      refine ⟨cdivw (m := 2) (by decide) (by decide), ?_⟩
      have sz0 : 0 < 2 ^ bits := Nat.two_pow_pos bits
      refine p_draw (m := 2 ^ bits) p04.at' sz0 (by omega) fun x1 H5 hx1 p5 => ?_
      have p05 := p04.trans p5
      walk_at "wp"
      refine p_draw (m := 2 ^ bits) p05.at' sz0 (by omega) fun x2 H6 hx2 p6 => ?_
      have p06 := p05.trans p6
      walk_at "wp"
      refine ⟨szr rfl, fun t ht => ?_⟩
      have e : ([V.int 1, V.int 2, V.int ((2 ^ bits : Nat) : Int), V.int (((2 ^ bits : Nat) : Int) / 2), V.int (1 + ((x1 : Nat) : Int)), V.int (1 + ((x2 : Nat) : Int))] : List V) = ([1, 2, 2 ^ bits, 2 ^ bits / 2, 1 + x1, 1 + x2] : List Nat).map fun n => V.int (n : Nat) := by
        rw [show (1 : Int) + ((x1 : Nat) : Int) = ((1 + x1 : Nat) : Int) by omega, show (1 : Int) + ((x2 : Nat) : Int) = ((1 + x2 : Nat) : Int) by omega]
        rfl
      rw [e]
      refine p_pickN p06.at' ht (by show 0 < 6; decide) (by show 6 < 1000000; decide) fun per H7 hper p7 => ?_
      have p07 := p06.trans p7
      have pr : 0 < per ∧ per ≤ 2 ^ bits := by
        simp only [List.mem_cons, List.not_mem_nil, or_false] at hper
        omega
      walk_at "st"
      refine ⟨cdivw pr.1 (by omega), ?_⟩
      have ed : ((2 ^ bits : Nat) : Int) / ((per : Nat) : Int) = ((2 ^ bits / per : Nat) : Int) := rfl
      rw [ed]
      have q0 : 0 < 2 ^ bits / per := Nat.div_pos pr.2 pr.1
      have q1 : 2 ^ bits / per ≤ 2 ^ bits := Nat.div_le_self _ _
      refine p_draw (m := 2 ^ bits / per) p07.at' q0 (by omega) fun x3 H8 hx3 p8 => ?_
      have p08 := p07.trans p8
      walk_at "wp"
      rw [show (1 : Int) + ((x3 : Nat) : Int) = ((1 + x3 : Nat) : Int) by omega]
      refine ⟨cmulr (by omega), szr rfl, fun p hp9 => ?_⟩
      rw [show ((per : Nat) : Int) * ((1 + x3 : Nat) : Int) = ((per * (1 + x3) : Nat) : Int) by rw [Int.natCast_mul]]
      refine fin H8 (per * (1 + x3)) 1 per 1 p08 ⟨b0, b1, by omega, Nat.mul_pos pr.1 (by omega), by decide, ?_, by omega, by decide⟩ p hp9
      rw [Nat.mul_one]
      exact Nat.le_trans (Nat.mul_le_mul_left _ (by omega : 1 + x3 ≤ 2 ^ bits / per)) (Nat.mul_div_le _ _)
  · walk_at "st"
    rw [if_neg (by rw [c]; decide)]
    walk_at "st"
    refine p_draw (m := 16) p04.at' (by decide) (by decide) fun x1 H5 hx1 p5 => ?_
    have p05 := p04.trans p5
    walk_at "wp"
    rw [show (1 : Int) + ((x1 : Nat) : Int) = ((x1 + 1 : Nat) : Int) by omega]
    walk_at "st"
    refine ⟨cdivw (by omega) (by omega), ?_⟩
    have ed : ((2 ^ bits : Nat) : Int) / ((x1 + 1 : Nat) : Int) = ((2 ^ bits / (x1 + 1) : Nat) : Int) := rfl
    rw [ed]
    have q0 : 0 < 2 ^ bits / (x1 + 1) := Nat.div_pos (by omega) (by omega)
    have q1 : 2 ^ bits / (x1 + 1) ≤ 2 ^ bits := Nat.div_le_self _ _
    refine p_draw (m := 2 ^ bits / (x1 + 1)) p05.at' q0 (by omega) fun x2 H6 hx2 p6 => ?_
    have p06 := p05.trans p6
    walk_at "wp"
    rw [show (1 : Int) + ((x2 : Nat) : Int) = ((x2 + 1 : Nat) : Int) by omega]
    walk_at "st"
    have fin2 : ∀ (H7 : Hp) (two : Nat), PoolX a H H7 → 0 < two → two ≤ 256 → (x1 + 1) * two ≤ 2 ^ bits → spDivisor [.ref a, .int ((x1 + 1 : Nat) : Nat)] H7 (fun x H8 => spDivisor [.ref a, .int (two : Nat)] H8 (fun y H9 => ([V.int (bits : Nat), V.int (gr : Nat), V.int ((x1 + 1 : Nat) : Nat), V.int (two : Nat), x, y] : List V).length ≤ sizeLine ∧ ∀ p, H9 p = none → Q (.ref p) (upd H9 p (.lst [V.int (bits : Nat), V.int (gr : Nat), V.int ((x1 + 1 : Nat) : Nat), V.int (two : Nat), x, y]))) E0) E0 := by
      intro H7 two p7 t0 t1 tt
      refine ⟨a, x1 + 1, rfl, by omega, by omega, p7.at', fun d1 H8 d10 d11 p8 => ?_⟩
      have p08 := p7.trans p8
      refine ⟨a, two, rfl, t0, by omega, p08.at', fun d2 H9 d20 d21 p9 => ⟨szr rfl, fun p hp9 => ?_⟩⟩
      exact fin H9 (x1 + 1) two d1 d2 (p08.trans p9) ⟨b0, b1, by omega, by omega, t0, tt, by omega, by omega⟩ p hp9
    have two1 : (x1 + 1) * (x2 + 1) ≤ 2 ^ bits := Nat.le_trans (Nat.mul_le_mul_left _ (by omega : x2 + 1 ≤ 2 ^ bits / (x1 + 1))) (Nat.mul_div_le _ _)
    refine ⟨cmulr (by omega), ?_⟩
    refine ite_split (fun c3 => ?_) (fun c3 => ?_)
    · refine p_draw (m := 2) p06.at' (by decide) (by decide) fun x3 H7 hx3 p7 => ?_
      walk_at "wp"
      refine ite_split (fun c4 => ?_) (fun c4 => ?_)
      · walk_at "wp"
        refine fin2 H7 (x1 + 1) (p06.trans p7) (by omega) (by omega) ?_
        have := of_decide_eq_true c3
        have e : ((x1 + 1 : Nat) : Int) * ((x1 + 1 : Nat) : Int) = (((x1 + 1) * (x1 + 1) : Nat) : Int) := by rw [Int.natCast_mul]
        rw [e] at this
        exact Int.ofNat_le.mp this
      · walk_at "wp"
        exact fin2 H7 (x2 + 1) (p06.trans p7) (by omega) (by omega) two1
    · walk_at "wp"
      exact fin2 H6 (x2 + 1) p06 (by omega) (by omega) two1
end
end Ck
namespace Ck
open PySem L2
/-- the dict of words beside the entries -/
structure RunsAt (G : Hp) (kvs : List (Key × V)) (E : List Ent) : Prop where
  len : kvs.length = E.length
  get : ∀ (i : Nat) (e : Ent), E[i]? = some e → ∃ l : Addr, kvs[i]? = some (Sum.inl ((e.node : Nat) : Int), V.ref l) ∧ G l = some (.lst (valsN e.word))
theorem RunsAt.same {G G' : Hp} {kvs : List (Key × V)} {E : List Ent} (s : Same G G') (h : RunsAt G kvs E) : RunsAt G' kvs E := ⟨h.len, fun i e he => by
  obtain ⟨l, h1, h2⟩ := h.get i e he
  exact ⟨l, h1, s _ _ h2⟩⟩
theorem RunsAt.snoc {G : Hp} {kvs : List (Key × V)} {E : List Ent} {e : Ent} {l : Addr} (h : RunsAt G kvs E) (hl : G l = some (.lst (valsN e.word))) : RunsAt G (kvs ++ [(Sum.inl ((e.node : Nat) : Int), V.ref l)]) (E ++ [e]) := ⟨by rw [List.length_append, List.length_append, h.len]; rfl, fun i x hx => by
  by_cases c : i < E.length
  · rw [List.getElem?_append_left c] at hx
    obtain ⟨l', h1, h2⟩ := h.get i x hx
    exact ⟨l', by rw [List.getElem?_append_left (by rw [h.len]; exact c)]; exact h1, h2⟩
  · have il : i = E.length := by
      have := (List.getElem?_eq_some_iff.mp hx).1
      rw [List.length_append, List.length_singleton] at this
      omega
    subst il
    rw [List.getElem?_append_right (Nat.le_refl _), Nat.sub_self] at hx
    simp at hx
    subst hx
    refine ⟨l, ?_, hl⟩
    rw [← h.len, List.getElem?_append_right (Nat.le_refl _), Nat.sub_self]
    rfl⟩
/-- looking a node up -/
theorem RunsAt.val {G : Hp} {kvs : List (Key × V)} {E : List Ent} (h : RunsAt G kvs E) (nd : (nodes E).Nodup) (x : Nat) : (x ∉ nodes E ∧ valV kvs (Sum.inl ((x : Nat) : Int)) = none) ∨ ∃ (i : Nat) (e : Ent) (l : Addr), E[i]? = some e ∧ e.node = x ∧ valV kvs (Sum.inl ((x : Nat) : Int)) = some (.ref l) ∧ G l = some (.lst (valsN e.word)) := by
  have keys : ∀ p ∈ kvs, ∃ (i : Nat) (e : Ent) (l : Addr), E[i]? = some e ∧ p = (Sum.inl ((e.node : Nat) : Int), V.ref l) ∧ G l = some (.lst (valsN e.word)) := fun p hp => by
    obtain ⟨i, hi⟩ := List.getElem?_of_mem hp
    have il := (List.getElem?_eq_some_iff.mp hi).1
    rw [h.len] at il
    obtain ⟨l, h1, h2⟩ := h.get i E[i] (List.getElem?_eq_getElem il)
    rw [hi] at h1
    exact ⟨i, E[i], l, List.getElem?_eq_getElem il, Option.some.inj h1, h2⟩
  unfold valV
  cases q : kvs.find? fun kv => decide (kv.1 = Sum.inl ((x : Nat) : Int)) with
  | none =>
    refine .inl ⟨fun hx => ?_, rfl⟩
    obtain ⟨e, he, rfl⟩ := List.mem_map.mp hx
    obtain ⟨i, hi⟩ := List.getElem?_of_mem he
    obtain ⟨l, h1, _⟩ := h.get i e hi
    have := List.find?_eq_none.mp q _ (List.mem_of_getElem? h1)
    simp at this
  | some p =>
    have pm := List.mem_of_find?_eq_some q
    have pk := List.find?_some q
    obtain ⟨i, e, l, h1, rfl, h3⟩ := keys p pm
    refine .inr ⟨i, e, l, h1, ?_, rfl, h3⟩
    have := of_decide_eq_true pk
    have := Sum.inl.inj this
    exact Int.ofNat.inj this
end Ck
namespace Ck
open PySem L2
/-- the table of what follows -/
def AfterAt (H : Hp) (rows : List V) (sc : Nat → Nat → Nat) (cnt N : Nat) : Prop := rows.length = N ∧ ∀ k, k < N → ∃ l : Addr, rows[k]? = some (.ref l) ∧ H l = some (.lst (valsN ((List.range cnt).map (sc k))))
theorem bok_wlen {sc : Nat → Nat → Nat} {cnt s : Nat} {E : List Ent} (b : Bok sc cnt s E) : ∀ (i : Nat) (e : Ent), E[i]? = some e → e.word.length ≤ i := by
  intro i
  induction i using Nat.strongRecOn with
  | _ i ih =>
    intro e h
    rcases b.par i e h with ⟨_, z, _⟩ | ⟨j, n, u, h1, h2, _, _, h5, _⟩
    · rw [z]; exact Nat.zero_le _
    · rw [h5, List.length_append]
      have := ih j h1 u h2
      show _ + 1 ≤ _
      omega
theorem putK_new {kvs : List (Key × V)} {k : Key} {v : V} (h : valV kvs k = none) : putK kvs k v = kvs ++ [(k, v)] := by
  unfold putK
  rw [valV_any, h]
  rfl
theorem nodes_get {E : List Ent} {i : Nat} {e : Ent} (h : E[i]? = some e) : (nodes E)[i]? = some e.node := by unfold nodes; rw [List.getElem?_map, h]; rfl
section
variable {P : Program} {w : World} {K : PySem.W.Frag} {mg : Str → Option Value} {base : Heap} {f : Addr} {fd : FuncData}
/-! ### _law_walked -/
abbrev s_law_walked : Stmt := top 32
theorem sc_law_walked : FnScope ["after", "start", "order", "runs", "at", "n", "spot"] ["after", "start"] (defScope s_law_walked) := ⟨rfl, rfl, rfl, by decide +kernel, rfl, by decide +kernel, by decide +kernel⟩
def spWalked : Sp := fun vs H Q _ => ∃ (af : Addr) (rows : List V) (sc : Nat → Nat → Nat) (cnt s N : Nat), vs = [.ref af, .int (s : Nat)] ∧ H af = some (.lst rows) ∧ AfterAt H rows sc cnt N ∧ s < N ∧ N ≤ 256 ∧ cnt ≤ 16 ∧ (∀ u n, u < N → n < cnt → sc u n < N) ∧
  ∀ (p o d : Addr) (kvs : List (Key × V)) H', Same H H' → H p = none → H o = none → H d = none → H' p = some (.lst [.ref o, .ref d]) → H' o = some (.lst (valsN (nodes (walkE sc cnt s N)))) → H' d = some (.dK kvs) → RunsAt (new H H') kvs (walkE sc cnt s N) → Q (.ref p) H'
theorem ok_law_walked (F : Fun K "_law_walked" "_law_walked" s_law_walked f fd) (Z : Bl mg) : FnOk P w K mg base CX0 1 f fd ["after", "start"] spWalked := by
  refine F.ok sc_law_walked (fun vs H Q E h => ?_) (fun cdv A outer s H vs Q E hr h => ?_)
  · obtain ⟨af, rows, sc, cnt, s, N, rfl, _⟩ := h
    rfl
  obtain ⟨af, rows, sc, cnt, st, N, rfl, haf, hat, hs, hN, hcnt, hc, q⟩ := h
  refine ⟨_, (pss_cons (ps_set (i := 2) sc_law_walked.nd rfl (Or.inl rfl) (pe_lst (pa_cons (pv 1) pa_nil)))
  (pss_cons (ps_set (i := 3) sc_law_walked.nd rfl (Or.inl rfl) (pe_disp (pps_cons (pv 1) (pe_lst pa_nil) pps_nil) (by rfl) (by rfl) (fun z => by cases z) (by decide)))
  (pss_cons (ps_for PassesOwn.never rfl (pi_range1 (by rfl) Z.range (pa_cons (pe_callB (callk_lenL (K := K) rfl) (by rfl) Z.len (by decide +kernel) (pa_cons (pv 0) pa_nil)) pa_nil)) (pg_name (i := 4) sc_law_walked.nd rfl (Or.inl rfl)) (pss_cons (ps_if (pt_cmpR op_eq (pv 4) (pe_callB (callk_lenL (K := K) rfl) (by rfl) Z.len (by decide +kernel) (pa_cons (pv 2) pa_nil)) (nomark _)) (pss_one ps_break) pss_nil)
  (pss_one (ps_for PassesOwn.never rfl (pi_range1 (by rfl) Z.range (pa_cons (pe_callB (callk_lenL (K := K) rfl) (by rfl) Z.len (by decide +kernel) (pa_cons (pe_ix (ixk_list (K := K) rfl) (pv 0) pe_int (fun _ _ => rfl)) pa_nil)) pa_nil)) (pg_name (i := 5) sc_law_walked.nd rfl (Or.inl rfl)) (pss_cons (ps_set (i := 6) sc_law_walked.nd rfl (Or.inl rfl) (pe_ix (ixk_list (K := K) rfl) (pe_ix (ixk_list (K := K) rfl) (pv 0) (pe_ix (ixk_list (K := K) rfl) (pv 2) (pv 4) (fun _ _ => rfl)) (fun _ _ => rfl)) (pv 5) (fun _ _ => rfl)))
  (pss_one (ps_if (pt_cmp (pc_dnotin (hu_of hr) (pv 6) (pv 3))) (pss_cons (ps_dput (hu_of hr) (pv 3) (pv 6) (pe_op op_cat (pe_dget (hu_of hr) (pv 3) (pe_ix (ixk_list (K := K) rfl) (pv 2) (pv 4) (fun _ _ => rfl)) (fun _ _ => rfl)) (pe_lst (pa_cons (pv 5) pa_nil))) rfl)
  (pss_one (ps_expr (pe_bm PySem.F.plainAttrs_list PySem.F.slot_list_append PySem.F.type_list_append mt_append (pv 2) (pa_cons (pv 6) pa_nil))))) pss_nil)))))))
  (pss_one (ps_ret (pe_lst (pa_cons (pv 2) (pa_cons (pv 3) pa_nil)))))))), ?_⟩
  change tSeq _ _ _ [some (.ref af), some (.int (st : Nat)), none, none, none, none, none] _
  walk_at "st"
  refine ⟨szr rfl, fun o ho => ?_⟩
  walk_at "st"
  intro d hd
  refine ⟨szr rfl, fun l0 hl0 => ?_⟩
  obtain ⟨od, ho'⟩ := upd_none hd
  obtain ⟨l0d, hl1⟩ := upd_none hl0
  obtain ⟨l0o, hl2⟩ := upd_none hl1
  refine ⟨by rw [upd_ne l0d.symm, upd_same], [(Sum.inl ((st : Nat) : Int), .ref l0)], rfl, Nat.le_of_ble_eq_true rfl, ?_⟩
  obtain ⟨Hm, hHm⟩ := opq (upd (upd H o (.lst [])) d (.lst []))
  have hmo : Hm o = some (.lst []) := by rw [hHm, upd_ne od.symm, upd_same]
  have hmd : Hm d = some (.lst []) := by rw [hHm, upd_same]
  have sHm : ∀ {b : Addr}, b ≠ o → b ≠ d → Hm b = H b := fun bo bd => by rw [hHm, upd_ne bd, upd_ne bo]
  obtain ⟨Inv, hI⟩ := opq (fun (E : List Ent) (H' : Hp) => Same H H' ∧ ∃ kvs, H' o = some (.lst (valsN (nodes E))) ∧ H' d = some (.dK kvs) ∧ RunsAt (new Hm H') kvs E)
  have inv0 : Inv (bfs sc cnt st 0) (upd (upd (upd (upd H o (.lst [.int (st : Nat)])) d (.dK [])) l0 (.lst [])) d (.dK (mergeK [] [(Sum.inl ((st : Nat) : Int), .ref l0)]))) := by
    rw [hI]
    refine ⟨same_upd (same_upd (same_upd (same_new ho _) ho') hl2) ho', [(Sum.inl ((st : Nat) : Int), .ref l0)], ?_, upd_same, ⟨rfl, fun i e he => ?_⟩⟩
    · rw [upd_ne od.symm, upd_ne l0o.symm, upd_ne od.symm, upd_same]
      rfl
    · have i0 : i = 0 := by
        have := (List.getElem?_eq_some_iff.mp he).1
        simpa [bfs] using this
      subst i0
      simp [bfs] at he
      subst he
      refine ⟨l0, rfl, ?_⟩
      rw [new_of (by rw [sHm l0o l0d]; exact hl2), upd_ne l0d, upd_same]
      rfl
  generalize upd (upd (upd (upd H o (.lst [.int (st : Nat)])) d (.dK [])) l0 (.lst [])) d (.dK (mergeK [] [(Sum.inl ((st : Nat) : Int), .ref l0)])) = H0 at inv0 ⊢
  have haf0 : H0 af = some (.lst rows) := by
    rw [hI] at inv0
    exact inv0.1 _ _ haf
  walk_at "st"
  walk_at "st"
  refine g_len (SqL.of haf0) ?_
  rw [hat.1]
  -- the two ends of the walk
  have ret : ∀ (H' : Hp), Inv (walkE sc cnt st N) H' → ∀ p, H' p = none → Q (.ref p) (upd H' p (.lst [.ref o, .ref d])) := fun H' hin p hp => by
    rw [hI] at hin
    obtain ⟨sm, kvs, eo, ed, hr⟩ := hin
    have po : p ≠ o := fun z => by rw [z, eo] at hp; cases hp
    have pd : p ≠ d := fun z => by rw [z, ed] at hp; cases hp
    refine q p o d kvs _ (sm.trans (same_new hp _)) (sm.free hp) ho ho' upd_same (by rw [upd_ne po.symm]; exact eo) (by rw [upd_ne pd.symm]; exact ed) (hr.same fun b u e => ?_)
    obtain ⟨e1, e2⟩ := new_get e
    have bo : b ≠ o := fun z => by rw [z, hmo] at e1; cases e1
    have bd : b ≠ d := fun z => by rw [z, hmd] at e1; cases e1
    rw [sHm bo bd] at e1
    rw [new_of e1]
    exact same_new hp _ _ _ e2
  obtain ⟨Pv, hP⟩ := opq (fun (i : Nat) (σ' : L2.St) (H' : Hp) => ∃ a4 a5 a6 : Option V, σ' = [some (.ref af), some (.int (st : Nat)), some (.ref o), some (.ref d), a4, a5, a6] ∧ Inv (bfs sc cnt st i) H' ∧ i ≤ (bfs sc cnt st i).length)
  refine f_R1 (by omega) Pv ?_ ?_ ?_
  · rw [hP]
    exact ⟨_, _, _, rfl, inv0, Nat.zero_le _⟩
  · intro i σ' H' hi h
    rw [hP] at h
    obtain ⟨a4, a5, a6, rfl, hin, hil⟩ := h
    have hin' := hin
    rw [hI] at hin'
    obtain ⟨sm, kvs, eo, ed, hrun⟩ := hin'
    walk_at "wp"
    walk_at "st"
    refine g_len (SqL.of eo) ?_
    rw [valsN_len]
    walk_at "wp"
    refine ite_split (fun c => ?_) (fun c => ?_)
    · have c : i = (bfs sc cnt st i).length := by
        have := of_decide_eq_true c
        unfold nodes at this
        rw [List.length_map] at this
        omega
      rw [w_break]
      walk_at "wp"
      rw [bfs_end hs hc (by omega)] at hin
      exact ⟨szr rfl, fun p hp => ret H' hin p hp⟩
    · have ci : i < (bfs sc cnt st i).length := by
        have := of_decide_eq_false c
        unfold nodes at this
        rw [List.length_map] at this
        omega
      obtain ⟨r0, hr0, hl0r⟩ := hat.2 0 (by omega)
      refine k_ix (SqL.of (sm _ _ haf)) (atI_nat (j := 0) hr0) ?_
      refine g_len (SqL.of (sm _ _ hl0r)) ?_
      rw [valsN_len, List.length_map, List.length_range]
      have hu : (bfs sc cnt st i)[i]? = some (bfs sc cnt st i)[i] := List.getElem?_eq_getElem ci
      generalize (bfs sc cnt st i)[i] = u at hu
      have stp : bstep sc cnt (bfs sc cnt st i) i = bpart sc (bfs sc cnt st i) u cnt := by unfold bstep; rw [hu]
      have bok := bok_bfs (sc := sc) (cnt := cnt) (s := st) i
      have ult := bok_lt bok hs hc i u hu
      obtain ⟨Pw, hQ⟩ := opq (fun (m : Nat) (σ' : L2.St) (H' : Hp) => ∃ a5 a6 : Option V, σ' = [some (.ref af), some (.int (st : Nat)), some (.ref o), some (.ref d), some (.int (i : Nat)), a5, a6] ∧ m ≤ cnt ∧ Inv (bpart sc (bfs sc cnt st i) u m) H')
      refine f_R1 (by omega) Pw ?_ ?_ ?_
      · rw [hQ]
        exact ⟨_, _, rfl, Nat.zero_le _, hin⟩
      · intro m σ' H2 hm h
        rw [hQ] at h
        obtain ⟨a5, a6, rfl, mc, hin2⟩ := h
        have hin2' := hin2
        rw [hI] at hin2'
        obtain ⟨sm2, kvs2, eo2, ed2, hrun2⟩ := hin2'
        have bok2 := bok_part bok hu m mc
        obtain ⟨pre, hpre⟩ := bpart_pre (sc := sc) (bfs sc cnt st i) u m
        have hu2 : (bpart sc (bfs sc cnt st i) u m)[i]? = some u := by
          rw [hpre, List.getElem?_append_left ci]
          exact hu
        obtain ⟨ru, hru, hlu⟩ := hat.2 u.node ult
        have hgu : ((List.range cnt).map (sc u.node))[m]? = some (sc u.node m) := by
          rw [List.getElem?_map, List.getElem?_range hm]
          rfl
        walk_at "wp"
        walk_at "st"
        refine k_ix (SqL.of eo2) (valsN_at (nodes_get hu2)) ?_
        walk_at "wp"
        refine k_ix (SqL.of (sm2 _ _ haf)) (atI_nat hru) ?_
        walk_at "wp"
        refine k_ix (SqL.of (sm2 _ _ hlu)) (valsN_at hgu) ?_
        walk_at "wp"
        refine d_notinK (k := Sum.inl ((sc u.node m : Nat) : Int)) (.of ed2) ?_
        have addE_eq : bpart sc (bfs sc cnt st i) u (m + 1) = addE (bpart sc (bfs sc cnt st i) u m) ⟨sc u.node m, u.word ++ [m], some (u.node, m)⟩ := rfl
        rcases hrun2.val bok2.nd (sc u.node m) with ⟨hno, hv⟩ | ⟨j, e, l, hj, hje, hv, _⟩
        · rw [hv]
          walk_at "wp"
          walk_at "st"
          refine k_ix (SqL.of eo2) (valsN_at (nodes_get hu2)) ?_
          obtain ⟨lu, hkv, hlw⟩ := hrun2.get i u hu2
          rcases hrun2.val bok2.nd u.node with ⟨hn2, _⟩ | ⟨j2, e2, l2, hj2, hje2, hv2, hl2⟩
          · exact absurd (List.mem_map.mpr ⟨u, List.mem_of_getElem? hu2, rfl⟩) hn2
          · have e2u : e2 = u := by
              have q1 := nodes_get hj2
              have q2 := nodes_get hu2
              rw [hje2] at q1
              have ij : j2 = i := (List.getElem?_inj (List.getElem?_eq_some_iff.mp q1).1 bok2.nd).mp (q1.trans q2.symm)
              rw [ij, hu2] at hj2
              exact (Option.some.inj hj2).symm
            subst e2u
            refine d_getK (k := Sum.inl ((e2.node : Nat) : Int)) (.of ed2) hv2 ?_
            walk_at "wp"
            have wl := bok_wlen bok2 i e2 hu2
            have el := bok_len bok2 hs hc
            have d2 := new_same _ _ hl2
            refine ⟨szr rfl, fun pn hpn => ?_⟩
            have npn : l2 ≠ pn := ne_of_none d2 hpn
            refine ⟨l2, pn, valsN e2.word, [.int (m : Nat)], rfl, rfl, by rw [upd_ne npn]; exact d2, upd_same, sz (by rw [valsN_len, List.length_singleton]; omega), fun pw hpw => ?_⟩
            obtain ⟨pwn, hpw2⟩ := upd_none hpw
            have S := (same_new hpn (.lst [.int (m : Nat)])).trans (same_new hpw (.lst (valsN e2.word ++ [.int (m : Nat)])))
            have ew : upd (upd H2 pn (.lst [.int (m : Nat)])) pw (.lst (valsN e2.word ++ [.int (m : Nat)])) pw = some (.lst (valsN (e2.word ++ [m]))) := by
              rw [upd_same]
              unfold valsN
              rw [List.map_append]
              rfl
            generalize upd (upd H2 pn (.lst [.int (m : Nat)])) pw (.lst (valsN e2.word ++ [.int (m : Nat)])) = H3 at S ew ⊢
            refine d_putK (k := Sum.inl ((sc e2.node m : Nat) : Int)) (S _ _ ed2) (by rw [hrun2.len]; omega) ?_
            rw [putK_new hv]
            have od2 : o ≠ d := od.symm
            have eo3 : upd H3 d (.dK (kvs2 ++ [(Sum.inl ((sc e2.node m : Nat) : Int), .ref pw)])) o = some (.lst (valsN (nodes (bpart sc (bfs sc cnt st i) e2 m)))) := by rw [upd_ne od2]; exact S _ _ eo2
            walk_at "wp"
            refine ⟨k_tyL eo3, k_app eo3 (by rw [valsN_len]; unfold nodes; rw [List.length_map]; omega) ?_⟩
            rw [hQ]
            refine ⟨_, _, rfl, hm, ?_⟩
            rw [addE_eq]
            unfold addE
            rw [if_neg hno, hI]
            refine ⟨same_upd (same_upd (sm2.trans S) ho') ho, kvs2 ++ [(Sum.inl ((sc e2.node m : Nat) : Int), .ref pw)], ?_, by rw [upd_ne od2.symm, upd_same], ?_⟩
            · rw [upd_same]
              unfold nodes valsN
              rw [List.map_append, List.map_append]
              rfl
            · rw [new_upd hmo, new_upd hmd]
              refine RunsAt.snoc (e := ⟨sc e2.node m, e2.word ++ [m], some (e2.node, m)⟩) (hrun2.same (new_mono S)) ?_
              have pwo : pw ≠ o := fun z => by rw [z, eo2] at hpw2; cases hpw2
              have pwd : pw ≠ d := fun z => by rw [z, ed2] at hpw2; cases hpw2
              rw [new_of (by rw [sHm pwo pwd]; exact sm2.free hpw2)]
              exact ew
        · rw [hv]
          walk_at "wp"
          rw [hQ]
          refine ⟨_, _, rfl, hm, ?_⟩
          rw [addE_eq]
          unfold addE
          rw [if_pos (by rw [← hje]; exact List.mem_map.mpr ⟨e, List.mem_of_getElem? hj, rfl⟩)]
          exact hin2
      · intro σ' H2 h
        rw [hQ] at h
        obtain ⟨a5, a6, rfl, mc, hin2⟩ := h
        rw [hP]
        refine ⟨_, _, _, rfl, ?_, ?_⟩
        · show Inv (bstep sc cnt (bfs sc cnt st i) i) H2
          rw [stp]
          exact hin2
        · show i + 1 ≤ (bstep sc cnt (bfs sc cnt st i) i).length
          obtain ⟨r, hr⟩ := bstep_pre (sc := sc) (cnt := cnt) (bfs sc cnt st i) i
          rw [hr, List.length_append]
          omega
  · intro σ' H' h
    rw [hP] at h
    obtain ⟨a4, a5, a6, rfl, hin, _⟩ := h
    walk_at "wp"
    exact ⟨szr rfl, fun p hp => ret H' hin p hp⟩
end
end Ck
namespace Ck
open PySem L2
/-- for over a list that may be left early: one word for both ends -/
theorem f_Lb {K : PySem.W.Frag} {σ : L2.St} {H : Hp} {g : TG} {tu : TS} {D : Ends} {a : Addr} {xs : List V} (hx : SqL K H a xs) (Post : L2.St → Hp → Prop) (Pv : Nat → L2.St → Hp → Prop) (h0 : Pv 0 σ H) (hl : ∀ i σ' H', i ≤ xs.length → Pv i σ' H' → SqL K H' a xs)
    (hs : ∀ N : L2.St → Hp → Prop, (∀ σ' H', Post σ' H' → N σ' H') → ∀ i x σ' H', xs[i]? = some x → Pv i σ' H' → g x σ' H' fun σ2 H2 => tu { D with nx := Pv (i + 1), ct := Pv (i + 1), bk := N } σ2 H2)
    (hd : ∀ σ' H', Pv xs.length σ' H' → Post σ' H') (hp : ∀ σ' H', Post σ' H' → D.nx σ' H') : fL K g tu D σ (.ref a) H :=
  f_L hx Pv h0 hl (hs D.nx hp) fun σ' H' p => hp _ _ (hd _ _ p)
theorem sub_mod (k two : Nat) : ((k : Nat) : Int) - ((k / two : Nat) : Int) * ((two : Nat) : Int) = ((k % two : Nat) : Int) := by
  have := Nat.div_add_mod k two
  have h : ((k / two : Nat) : Int) * ((two : Nat) : Int) = ((two * (k / two) : Nat) : Int) := by rw [Int.natCast_mul, Int.mul_comm]
  rw [h]
  generalize two * (k / two) = x at this ⊢
  omega
theorem n_ediv (a b : Nat) : ((a : Nat) : Int) / ((b : Nat) : Int) = ((a / b : Nat) : Int) := rfl
/-- tuples of whole numbers: the same if the numbers are -/
theorem eqv_valsN : ∀ a b : List Nat, PyData.eqvAll (a.map fun n => PyData.int (n : Nat)) (b.map fun n => PyData.int (n : Nat)) = decide (a = b)
  | [], [] => by simp [PyData.eqvAll]
  | [], b :: bs => by simp [PyData.eqvAll]
  | a :: as, [] => by simp [PyData.eqvAll]
  | a :: as, b :: bs => by
    rw [List.map_cons, List.map_cons, PySem.W.eqv_all_cons, eqv_valsN as bs, PyData.eqv]
    by_cases h : a = b
    · subst h
      simp
    · have h2 : ¬ ((a : Nat) : Int) = ((b : Nat) : Int) := by omega
      simp [h, h2]
theorem dps_valsN {K : PySem.W.Frag} {H : Hp} : ∀ a : List Nat, DpAll K H (valsN a) (a.map fun n => PyData.int (n : Nat))
  | [] => .nil
  | _ :: as => .cons (.int _) (dps_valsN as)
theorem shaped_ints (ns : List Int) : SeqAt.shaped (.tuple (ns.map PyData.int)) = true := by
  simp [SeqAt.shaped, PyData.canLay0, PyData.depth, PySem.W.ke_canLayAll0, PySem.W.ke_depthAll]
theorem shaped_valsN (a : List Nat) : SeqAt.shaped (.tuple (a.map fun n => PyData.int (n : Nat))) = true := by
  have := shaped_ints (a.map fun n => ((n : Nat) : Int))
  rw [List.map_map] at this
  exact this
theorem g_neT {K : PySem.W.Frag} {H : Hp} {Q : VK} {p q : Addr} {a b : List Nat} (hp : H p = some (.tup (valsN a))) (hq : H q = some (.tup (valsN b))) (k : Q (.bl (!decide (a = b))) H) : rNeD K (.ref p) (.ref q) H Q := by
  refine ⟨_, _, .tup (SqT.of hp) (dps_valsN a), .tup (SqT.of hq) (dps_valsN b), shaped_valsN a, shaped_valsN b, ?_⟩
  rw [PyData.eqv, eqv_valsN]
  exact k
/-- pairs beside a list of tuples -/
structure KpAt (H : Hp) (xs : List V) (ps : List (Int × Int)) : Prop where
  len : xs.length = ps.length
  get : ∀ (j : Nat) (p : Int × Int), ps[j]? = some p → ∃ t : Addr, xs[j]? = some (.ref t) ∧ H t = some (.tup [.int p.1, .int p.2])
theorem KpAt.keep {H H' : Hp} {xs : List V} {ps : List (Int × Int)} (k : ∀ b ys, H b = some (.tup ys) → H' b = some (.tup ys)) (h : KpAt H xs ps) : KpAt H' xs ps := ⟨h.len, fun j p e => by
  obtain ⟨t, h1, h2⟩ := h.get j p e
  exact ⟨t, h1, k _ _ h2⟩⟩
theorem KpAt.snoc {H : Hp} {xs : List V} {ps : List (Int × Int)} {p : Int × Int} {t : Addr} (h : KpAt H xs ps) (ht : H t = some (.tup [.int p.1, .int p.2])) : KpAt H (xs ++ [.ref t]) (ps ++ [p]) := ⟨by rw [List.length_append, List.length_append, h.len]; rfl, fun j x hx => by
  by_cases c : j < ps.length
  · rw [List.getElem?_append_left c] at hx
    obtain ⟨t', h1, h2⟩ := h.get j x hx
    exact ⟨t', by rw [List.getElem?_append_left (by rw [h.len]; exact c)]; exact h1, h2⟩
  · have il : j = ps.length := by
      have := (List.getElem?_eq_some_iff.mp hx).1
      rw [List.length_append, List.length_singleton] at this
      omega
    subst il
    rw [List.getElem?_append_right (Nat.le_refl _), Nat.sub_self] at hx
    simp at hx
    subst hx
    refine ⟨t, ?_, ht⟩
    rw [← h.len, List.getElem?_append_right (Nat.le_refl _), Nat.sub_self]
    rfl⟩
theorem key_ne {a b : Nat} (h : ¬ a = b) : ¬ (Sum.inl ((a : Nat) : Int) : Key) = Sum.inl ((b : Nat) : Int) := fun z => h (by
  have := Sum.inl.inj z
  omega)
theorem valsN_get {bs : List Nat} {i : Nat} {x : V} (h : (valsN bs)[i]? = some x) : ∃ b, bs[i]? = some b ∧ x = .int (b : Nat) := by
  unfold valsN at h
  rw [List.getElem?_map] at h
  obtain ⟨b, hb, rfl⟩ := Option.map_eq_some_iff.mp h
  exact ⟨b, hb, rfl⟩
theorem giv_all {α : Type} (n : Nat) (v : Nat → α) : giv n (fun _ => true) v = (List.range n).map v := by
  unfold giv
  rw [List.filter_eq_self.mpr fun _ _ => rfl]
theorem giv_nums (ns : List Nat) : giv ns.length (fun _ => true) (fun i => V.int ((ns.getD i 0 : Nat) : Int)) = valsN ns := by
  rw [giv_all]
  unfold valsN
  refine List.ext_getElem (by simp) fun i h1 h2 => ?_
  simp at h1
  simp [List.getD_eq_getElem?_getD, h1]
section
variable {P : Program} {w : World} {K : PySem.W.Frag} {mg : Str → Option Value} {base : Heap} {f : Addr} {fd : FuncData}
/-! ### _law_numbers -/
abbrev s_law_numbers : Stmt := top 34
theorem sc_law_numbers : FnScope ["one", "two", "look", "order", "first", "second", "keeps", "spot", "p", "q", "unlike", "place", "numbers", "count"] ["one", "two", "look", "order"] (defScope s_law_numbers) := ⟨rfl, rfl, rfl, by decide +kernel, rfl, by decide +kernel, by decide +kernel⟩
/-- the looks of the places: tuples of whole numbers -/
def LookAt (H : Hp) (lks : List V) (look : Nat → List Nat) (N : Nat) : Prop := lks.length = N ∧ ∀ k, k < N → ∃ l : Addr, lks[k]? = some (.ref l) ∧ H l = some (.tup (valsN (look k)))
def spNumbers : Sp := fun vs H Q _ => ∃ (R : Rings) (look : Nat → List Nat) (la oa : Addr) (lks : List V), vs = [.int (R.one : Nat), .int (R.two : Nat), .ref la, .ref oa] ∧ R.one ≤ 256 ∧ R.two ≤ 256 ∧ R.one * R.two ≤ 256 ∧ H la = some (.lst lks) ∧ LookAt H lks look (R.one * R.two) ∧ (∀ k, (look k).length ≤ 16) ∧ H oa = some (.lst (valsN R.order)) ∧
  ∀ (p : Addr) H', Same H H' → H p = none → H' p = some (.lst (valsN (R.nums look))) → Q (.ref p) H'
theorem ok_law_numbers (D_law_shifted : Fn P w K mg base 1 "_law_shifted" ["one", "two", "place", "p", "q"] spShifted) (F : Fun K "_law_numbers" "_law_numbers" s_law_numbers f fd) (Z : Bl mg) : FnOk P w K mg base CX0 2 f fd ["one", "two", "look", "order"] spNumbers := by
  refine F.ok sc_law_numbers (fun vs H Q E h => ?_) (fun cdv A outer s H vs Q E hr h => ?_)
  · obtain ⟨R, look, la, oa, lks, rfl, _⟩ := h
    rfl
  obtain ⟨R, look, la, oa, lks, rfl, h1, h2, hN, hla, hlk, hl16, hoa, q⟩ := h
  have o0 := R.h1
  have t0 := R.h2
  have ol := R.order_len
  refine ⟨_, (pss_cons (ps_set (i := 4) sc_law_numbers.nd rfl (Or.inl rfl) (pe_op op_fdivW (pe_ix (ixk_list (K := K) rfl) (pv 3) pe_int (fun _ _ => rfl)) (pv 1)))
  (pss_cons (ps_set (i := 5) sc_law_numbers.nd rfl (Or.inl rfl) (pe_op op_sub (pe_ix (ixk_list (K := K) rfl) (pv 3) pe_int (fun _ _ => rfl)) (pe_op op_mul (pv 4) (pv 1))))
  (pss_cons (ps_set (i := 6) sc_law_numbers.nd rfl (Or.inl rfl) (pe_lst pa_nil))
  (pss_cons (ps_for PassesOwn.never rfl (pik_list (K := K) rfl (pv 3)) (pg_name (i := 7) sc_law_numbers.nd rfl (Or.inl rfl)) (pss_cons (ps_set (i := 8) sc_law_numbers.nd rfl (Or.inl rfl) (pe_op op_sub (pe_op op_fdivW (pv 7) (pv 1)) (pv 4)))
  (pss_cons (ps_set (i := 9) sc_law_numbers.nd rfl (Or.inl rfl) (pe_op op_sub (pe_op op_sub (pv 7) (pe_op op_mul (pe_op op_fdivW (pv 7) (pv 1)) (pv 1))) (pv 5)))
  (pss_cons (ps_set (i := 10) sc_law_numbers.nd rfl (Or.inl rfl) pe_bl)
  (pss_cons (ps_for PassesOwn.never rfl (pik_list (K := K) rfl (pv 3)) (pg_name (i := 11) sc_law_numbers.nd rfl (Or.inl rfl)) (pss_one (ps_if (pt_cmpR (opk_neD (K := K) rfl hr.units) (pe_ix (ixk_list (K := K) rfl) (pv 2) (pe_call D_law_shifted.G (hr.mono (by omega)) (by rfl) D_law_shifted.m D_law_shifted.kp D_law_shifted.b .nil pass0 (pa_cons (pv 0) (pa_cons (pv 1) (pa_cons (pv 11) (pa_cons (pv 8) (pa_cons (pv 9) pa_nil)))))) (fun _ _ => rfl)) (pe_ix (ixk_list (K := K) rfl) (pv 2) (pv 11) (fun _ _ => rfl)) (nomark _)) (pss_cons (ps_set (i := 10) sc_law_numbers.nd rfl (Or.inl rfl) pe_bl)
  (pss_one ps_break)) pss_nil)))
  (pss_one (ps_if (pt_not (pt_val (pv 10))) (pss_one (ps_expr (pe_bm PySem.F.plainAttrs_list PySem.F.slot_list_append PySem.F.type_list_append mt_append (pv 6) (pa_cons (pe_tup (pa_cons (pv 8) (pa_cons (pv 9) pa_nil))) pa_nil)))) pss_nil)))))))
  (pss_cons (ps_set (i := 12) sc_law_numbers.nd rfl (Or.inr rfl) pe_dnewK)
  (pss_cons (ps_set (i := 13) sc_law_numbers.nd rfl (Or.inl rfl) pe_int)
  (pss_cons (ps_for PassesOwn.never rfl (pik_list (K := K) rfl (pv 3)) (pg_name (i := 11) sc_law_numbers.nd rfl (Or.inl rfl)) (pss_one (ps_if (pt_cmp (pc_dnotin (hu_of hr) (pv 11) (pv 12))) (pss_cons (ps_for PassesOwn.never rfl (pik_list (K := K) rfl (pv 6)) (pgk_tup (K := K) (n := 2) rfl (by rfl) (pgs_cons (pg_name (i := 8) sc_law_numbers.nd rfl (Or.inl rfl)) (pgs_cons (pg_name (i := 9) sc_law_numbers.nd rfl (Or.inl rfl)) pgs_nil))) (pss_one (ps_dput (hu_of hr) (pv 12) (pe_call D_law_shifted.G (hr.mono (by omega)) (by rfl) D_law_shifted.m D_law_shifted.kp D_law_shifted.b .nil pass0 (pa_cons (pv 0) (pa_cons (pv 1) (pa_cons (pv 11) (pa_cons (pv 8) (pa_cons (pv 9) pa_nil)))))) (pv 13) rfl)))
  (pss_one (ps_set (i := 13) sc_law_numbers.nd rfl (Or.inl rfl) (pe_op op_add (pv 13) pe_int)))) pss_nil)))
  (pss_one (ps_ret (pe_lc (own := [("place", 11)]) (tt := tYes) rfl sc_law_numbers.nd (pik_list (K := K) rfl (pv 3)) (blkOk_by (N := ["one", "two", "look", "order", "first", "second", "keeps", "spot", "p", "q", "unlike", "place", "numbers", "count"]) (sc := defScope s_law_numbers) (by decide +kernel)) (fun _ _ _ _ _ => (pg_name (i := 11) sc_law_numbers.nd rfl (Or.inl rfl))) (fun _ _ _ _ _ => pts_nil) (fun _ _ _ _ _ => (pe_dget (hu_of hr) (pv 12) (pv 11) (fun _ _ => rfl))))))))))))), ?_⟩
  change tSeq _ _ _ [some (.int (R.one : Nat)), some (.int (R.two : Nat)), some (.ref la), some (.ref oa), none, none, none, none, none, none, none, none, none, none] _
  walk_at "st"
  refine k_ix (SqL.of hoa) (valsN_at (i := 0) R.order_head) ?_
  walk_at "wp"
  refine ⟨cdivw t0 (by omega), ?_⟩
  rw [n_ediv]
  walk_at "st"
  refine k_ix (SqL.of hoa) (valsN_at (i := 0) R.order_head) ?_
  walk_at "wp"
  refine ⟨cmulr (by omega), ?_⟩
  rw [sub_mod]
  walk_at "st"
  refine ⟨szr rfl, fun kl hkl => ?_⟩
  have hk0 : upd H kl (.lst []) kl = some (.lst []) := upd_same
  have s0 := same_new hkl (.lst [])
  generalize upd H kl (.lst []) = H0 at hk0 s0 ⊢
  walk_at "st"
  rw [show ((R.first / R.two : Nat) : Int) = ((R.first / R.two : Nat) : Int) from rfl]
  obtain ⟨Pv, hP⟩ := opq (fun (i : Nat) (σ' : L2.St) (H' : Hp) => ∃ (a7 a8 a9 a10 a11 : Option V) (xs : List V), σ' = [some (.int (R.one : Nat)), some (.int (R.two : Nat)), some (.ref la), some (.ref oa), some (.int ((R.first / R.two : Nat) : Int)), some (.int ((R.first % R.two : Nat) : Int)), some (.ref kl), a7, a8, a9, a10, a11, none, none] ∧ Same H H' ∧ H' kl = some (.lst xs) ∧ KpAt H' xs (R.keepsOf look (R.order.take i)))
  refine f_L (SqL.of (s0 _ _ hoa)) Pv ?_ ?_ ?_ ?_
  · rw [hP]
    exact ⟨_, _, _, _, _, [], rfl, s0, hk0, rfl, fun j p e => by cases e⟩
  · intro i σ' H' hi h
    rw [hP] at h
    obtain ⟨_, _, _, _, _, _, _, s1, _, _⟩ := h
    exact SqL.of (s1 _ _ hoa)
  · intro i x σ' H' hi h
    rw [hP] at h
    obtain ⟨a7, a8, a9, a10, a11, xs, rfl, s1, hk, kp⟩ := h
    obtain ⟨t, ht, rfl⟩ := valsN_get hi
    have il := (List.getElem?_eq_some_iff.mp ht).1
    walk_at "wp"
    walk_at "st"
    refine ⟨cdivw t0 (by omega), ?_⟩
    rw [n_ediv, show ((t / R.two : Nat) : Int) - ((R.first / R.two : Nat) : Int) = R.dP R.first t from rfl]
    walk_at "st"
    refine ⟨cdivw t0 (by omega), cmulr (by omega), ?_⟩
    rw [n_ediv, sub_mod, show ((t % R.two : Nat) : Int) - ((R.first % R.two : Nat) : Int) = R.dQ R.first t from rfl]
    walk_at "st"
    walk_at "st"
    obtain ⟨Post, hPo⟩ := opq (fun (σ' : L2.St) (H2 : Hp) => ∃ (b : Bool) (a11 : Option V), σ' = [some (.int (R.one : Nat)), some (.int (R.two : Nat)), some (.ref la), some (.ref oa), some (.int ((R.first / R.two : Nat) : Int)), some (.int ((R.first % R.two : Nat) : Int)), some (.ref kl), some (.int (t : Nat)), some (.int (R.dP R.first t)), some (.int (R.dQ R.first t)), some (.bl b), a11, none, none] ∧ H2 = H' ∧ (b = false ↔ R.KeepT look t))
    obtain ⟨Pw, hPw⟩ := opq (fun (j : Nat) (σ' : L2.St) (H2 : Hp) => ∃ (a11 : Option V), σ' = [some (.int (R.one : Nat)), some (.int (R.two : Nat)), some (.ref la), some (.ref oa), some (.int ((R.first / R.two : Nat) : Int)), some (.int ((R.first % R.two : Nat) : Int)), some (.ref kl), some (.int (t : Nat)), some (.int (R.dP R.first t)), some (.int (R.dQ R.first t)), some (.bl false), a11, none, none] ∧ H2 = H' ∧ ∀ z ∈ R.order.take j, look (sh R.one R.two z (R.dP R.first t) (R.dQ R.first t)) = look z)
    refine f_Lb (SqL.of (s1 _ _ hoa)) Post Pw ?_ ?_ ?_ ?_ ?_
    · rw [hPw]
      exact ⟨_, rfl, rfl, fun z hz => by cases hz⟩
    · intro j σ' H2 hj h
      rw [hPw] at h
      obtain ⟨_, _, rfl, _⟩ := h
      exact SqL.of (s1 _ _ hoa)
    · intro N hN j x σ' H2 hj h
      rw [hPw] at h
      obtain ⟨a11, rfl, rfl, hz⟩ := h
      obtain ⟨z, hzo, rfl⟩ := valsN_get hj
      have zm := List.mem_of_getElem? hzo
      obtain ⟨l1, hl1, hl1'⟩ := hlk.2 _ (sh_lt R.h1 R.h2 z (R.dP R.first t) (R.dQ R.first t))
      obtain ⟨l2, hl2, hl2'⟩ := hlk.2 z (R.order_lt zm)
      walk_at "wp"
      refine ⟨R.one, R.two, z, R.dP R.first t, R.dQ R.first t, rfl, o0, t0, by omega, by omega, ?_⟩
      refine k_ix (SqL.of (s1 _ _ hla)) (atI_nat hl1) ?_
      walk_at "wp"
      refine k_ix (SqL.of (s1 _ _ hla)) (atI_nat hl2) ?_
      refine g_neT (s1 _ _ hl1') (s1 _ _ hl2') ?_
      walk_at "wp"
      refine ite_split (fun c => ?_) (fun c => ?_)
      · walk_at "st"
        rw [w_break]
        refine hN _ _ ?_
        rw [hPo]
        refine ⟨true, _, rfl, rfl, ⟨fun e => Bool.noConfusion e, fun k => ?_⟩⟩
        exfalso
        have c : ¬ look (sh R.one R.two z (R.dP R.first t) (R.dQ R.first t)) = look z := by simpa using c
        exact c (k z zm)
      · walk_at "wp"
        have c : look (sh R.one R.two z (R.dP R.first t) (R.dQ R.first t)) = look z := by simpa using c
        rw [hPw]
        refine ⟨_, rfl, rfl, fun y hy => ?_⟩
        rw [take_snoc hzo] at hy
        rcases List.mem_append.mp hy with m | m
        · exact hz y m
        · rw [List.mem_singleton.mp m]; exact c
    · intro σ' H2 h
      rw [hPw] at h
      obtain ⟨a11, rfl, rfl, hz⟩ := h
      rw [valsN_len, List.take_length] at hz
      rw [hPo]
      exact ⟨false, _, rfl, rfl, ⟨fun _ => hz, fun _ => rfl⟩⟩
    · intro σ' H2 h
      rw [hPo] at h
      obtain ⟨b, a11, rfl, rfl, hb⟩ := h
      walk_at "wp"
      refine ite_split (fun c => ?_) (fun c => ?_)
      · have kt : R.KeepT look t := hb.mp (by simpa using c)
        have kl' := R.keeps_len look (R.order.take i)
        rw [List.length_take] at kl'
        walk_at "wp"
        refine ⟨k_tyL hk, szr rfl, fun tp htp => ?_⟩
        have tk : kl ≠ tp := ne_of_none hk htp
        refine k_app (by rw [upd_ne tk]; exact hk) (by rw [kp.len]; omega) ?_
        rw [hP]
        refine ⟨_, _, _, _, _, xs ++ [.ref tp], rfl, same_upd (s1.trans (same_new htp _)) hkl, upd_same, ?_⟩
        rw [take_snoc ht, R.keeps_yes look kt]
        refine KpAt.snoc (p := (R.dP R.first t, R.dQ R.first t)) (kp.keep fun b ys e => ?_) ?_
        · rw [upd_ne (ne_of e hk (by intro z; cases z)), upd_ne (ne_of_none e htp)]
          exact e
        · rw [upd_ne tk.symm, upd_same]
      · have kt : ¬ R.KeepT look t := fun k => by
          rw [hb.mpr k] at c
          cases c
        walk_at "wp"
        rw [hP]
        refine ⟨_, _, _, _, _, xs, rfl, s1, hk, ?_⟩
        rw [take_snoc ht, R.keeps_no look kt]
        exact kp
  intro σ' H1 h
  rw [hP] at h
  obtain ⟨a7, a8, a9, a10, a11, xs, rfl, s1, hk, kp⟩ := h
  rw [valsN_len, List.take_length] at kp
  have kl' := R.keeps_len look R.order
  clear hP Pv
  walk_at "st"
  intro d hd
  have hd1 : upd H1 d (.dK []) d = some (.dK []) := upd_same
  have s2 := same_new hd (.dK [])
  have dn : H d = none := s1.free hd
  obtain ⟨H2, hH2⟩ := opq (upd H1 d (.dK []))
  rw [← hH2] at hd1 s2 ⊢
  have sd : ∀ o, Same H1 (upd H2 d o) := fun o => same_upd s2 hd
  walk_at "st"
  walk_at "st"
  obtain ⟨Pn, hPn⟩ := opq (fun (i : Nat) (σ' : L2.St) (H3 : Hp) => ∃ (a7 a8 a9 a11 : Option V) (kvs : List (Key × V)), σ' = [some (.int (R.one : Nat)), some (.int (R.two : Nat)), some (.ref la), some (.ref oa), some (.int ((R.first / R.two : Nat) : Int)), some (.int ((R.first % R.two : Nat) : Int)), some (.ref kl), a7, a8, a9, a10, a11, some (.ref d), some (.int ((R.accOf look i).length : Nat))] ∧ Same H1 H3 ∧ H3 d = some (.dK kvs) ∧ kvs.length ≤ 256 * i ∧ ∀ y ∈ R.order, valV kvs (Sum.inl ((y : Nat) : Int)) = (R.numAt look (R.accOf look i) y).map fun n => V.int (n : Nat))
  walk_at "st"
  refine f_L (SqL.of (s2 _ _ (s1 _ _ hoa))) Pn ?_ ?_ ?_ ?_
  · rw [hPn]
    exact ⟨_, _, _, _, [], rfl, s2, hd1, Nat.zero_le _, fun y hy => rfl⟩
  · intro i σ' H3 hi h
    rw [hPn] at h
    obtain ⟨_, _, _, _, _, _, s3, _⟩ := h
    exact SqL.of (s3 _ _ (s1 _ _ hoa))
  · intro i x σ' H3 hi h
    rw [hPn] at h
    obtain ⟨a7, a8, a9, a11, kvs, rfl, s3, hd3, hkl3, hval⟩ := h
    obtain ⟨x, hx, rfl⟩ := valsN_get hi
    have xm := List.mem_of_getElem? hx
    have il := (List.getElem?_eq_some_iff.mp hx).1
    have as := R.acc_succ look hx
    walk_at "wp"
    refine d_notinK (k := Sum.inl ((x : Nat) : Int)) (.of hd3) ?_
    rw [hval x xm]
    by_cases c : R.key look x ∈ R.accOf look i
    · rw [show R.numAt look (R.accOf look i) x = some ((R.accOf look i).idxOf (R.key look x)) by unfold Rings.numAt; rw [if_pos c]]
      walk_at "wp"
      simp only [Option.map_some, Option.isSome_some]
      walk_at "wp"
      rw [hPn]
      refine ⟨a7, a8, a9, some (.int (x : Nat)), kvs, ?_, s3, hd3, by omega, fun y hy => ?_⟩
      · rw [as]
        unfold addK
        rw [if_pos c]
      · rw [as, R.numAt_old look c]
        exact hval y hy
    · rw [show R.numAt look (R.accOf look i) x = none by unfold Rings.numAt; rw [if_neg c]]
      simp only [Option.map_none, Option.isSome_none]
      walk_at "wp"
      walk_at "st"
      obtain ⟨Pm, hPm⟩ := opq (fun (j : Nat) (σ' : L2.St) (H4 : Hp) => ∃ (a8 a9 : Option V) (kvs : List (Key × V)), σ' = [some (.int (R.one : Nat)), some (.int (R.two : Nat)), some (.ref la), some (.ref oa), some (.int ((R.first / R.two : Nat) : Int)), some (.int ((R.first % R.two : Nat) : Int)), some (.ref kl), a7, a8, a9, a10, some (.int (x : Nat)), some (.ref d), some (.int ((R.accOf look i).length : Nat))] ∧ Same H1 H4 ∧ H4 d = some (.dK kvs) ∧ kvs.length ≤ 256 * i + j ∧ ∀ y ∈ R.order, valV kvs (Sum.inl ((y : Nat) : Int)) = if y ∈ R.shL x ((R.keepsOf look R.order).take j) then some (V.int ((R.accOf look i).length : Nat)) else (R.numAt look (R.accOf look i) y).map fun n => V.int (n : Nat))
      refine f_L (SqL.of (s3 _ _ hk)) Pm ?_ ?_ ?_ ?_
      · rw [hPm]
        exact ⟨_, _, kvs, rfl, s3, hd3, by omega, fun y hy => by rw [hval y hy]; rfl⟩
      · intro j σ' H4 hj h
        rw [hPm] at h
        obtain ⟨_, _, _, _, s4, _⟩ := h
        exact SqL.of (s4 _ _ hk)
      · intro j v σ' H4 hj h
        rw [hPm] at h
        obtain ⟨a8, a9, kvs4, rfl, s4, hd4, hkl4, hval4⟩ := h
        have jl := (List.getElem?_eq_some_iff.mp hj).1
        rw [kp.len] at jl
        obtain ⟨pq, hpq⟩ : ∃ pq, (R.keepsOf look R.order)[j]? = some pq := ⟨_, List.getElem?_eq_getElem jl⟩
        obtain ⟨tp, htp1, htp2⟩ := kp.get j pq hpq
        rw [hj] at htp1
        obtain rfl := Option.some.inj htp1
        refine g_tup (SqT.of (s4 _ _ htp2)) rfl ?_
        walk_at "wp"
        refine ⟨R.one, R.two, x, pq.1, pq.2, rfl, o0, t0, by omega, by omega, ?_⟩
        have h256 : i < 256 := by omega
        refine d_putK (k := Sum.inl ((sh R.one R.two x pq.1 pq.2 : Nat) : Int)) hd4 (by omega) ?_
        rw [hPm]
        refine ⟨_, _, _, rfl, same_upd s4 hd, upd_same, ?_, fun y hy => ?_⟩
        · have : (putK kvs4 (Sum.inl ((sh R.one R.two x pq.1 pq.2 : Nat) : Int)) (V.int ((R.accOf look i).length : Nat))).length ≤ kvs4.length + 1 := by
            unfold putK
            split <;> simp
          omega
        · rw [valV_put, hval4 y hy, take_snoc hpq]
          unfold Rings.shL
          rw [List.map_append, List.map_cons, List.map_nil]
          by_cases e : y = sh R.one R.two x pq.1 pq.2
          · rw [if_pos (by rw [e]), if_pos (by rw [e]; simp)]
          · rw [if_neg (key_ne e)]
            by_cases m : y ∈ ((R.keepsOf look R.order).take j).map fun k => sh R.one R.two x k.1 k.2
            · rw [if_pos m, if_pos (List.mem_append_left _ m)]
            · rw [if_neg m, if_neg (by simp only [List.mem_append, List.mem_singleton]; exact fun z => z.elim m e)]
      · intro σ' H4 h
        rw [hPm] at h
        obtain ⟨a8, a9, kvs4, rfl, s4, hd4, hkl4, hval4⟩ := h
        rw [kp.len] at hkl4 hval4
        rw [List.take_length] at hval4
        walk_at "wp"
        rw [hPn]
        refine ⟨a7, a8, a9, some (.int (x : Nat)), kvs4, ?_, s4, hd4, by omega, fun y hy => ?_⟩
        · rw [as, n_add1]
          unfold addK
          rw [if_neg c, List.length_append]
          rfl
        · rw [hval4 y hy, as, R.numAt_new look c]
          by_cases e : R.key look y = R.key look x
          · rw [if_pos e, if_pos ((R.shL_mem look xm).mpr ⟨hy, e⟩)]
            rfl
          · rw [if_neg e, if_neg fun z => e ((R.shL_mem look xm).mp z).2]
  intro σ' H3 h
  rw [hPn] at h
  obtain ⟨a7, a8, a9, a11, kvs, rfl, s3, hd3, _, hval⟩ := h
  rw [valsN_len] at hval
  walk_at "wp"
  refine c_L (SqL.of (s3 _ _ (s1 _ _ hoa))) (fun _ => true) (fun i => V.int (((R.nums look).getD i 0 : Nat) : Int)) (fun D i x hD hi => ?_) (fun p hp => ?_)
  · obtain ⟨x, hx, rfl⟩ := valsN_get hi
    have il := (List.getElem?_eq_some_iff.mp hx).1
    obtain ⟨n, hn1, hn2⟩ := R.nums_get look hx
    walk_at "wp"
    refine d_getK (k := Sum.inl ((x : Nat) : Int)) (.of ((same_new hD _) _ _ hd3)) (v := .int (n : Nat)) ?_ ?_
    · rw [hval x (List.mem_of_getElem? hx), hn1]
      rfl
    · refine cY_at (by omega) rfl ?_
      rw [List.getD_eq_getElem?_getD, hn2]
      rfl
  · refine q p _ (s1.trans (s3.trans (same_new hp _))) (s1.free (s3.free hp)) ?_
    rw [upd_same, valsN_len, ← R.nums_len look, giv_nums]
end
end Ck
namespace Ck
open PySem L2
/-- pairs of whole numbers beside a list of tuples -/
structure NpAt (H : Hp) (xs : List V) (ps : List (Nat × Nat)) : Prop where
  len : xs.length = ps.length
  get : ∀ (j : Nat) (p : Nat × Nat), ps[j]? = some p → ∃ t : Addr, xs[j]? = some (.ref t) ∧ H t = some (.tup [.int (p.1 : Nat), .int (p.2 : Nat)])
theorem NpAt.keep {H H' : Hp} {xs : List V} {ps : List (Nat × Nat)} (k : ∀ b ys, H b = some (.tup ys) → H' b = some (.tup ys)) (h : NpAt H xs ps) : NpAt H' xs ps := ⟨h.len, fun j p e => by
  obtain ⟨t, h1, h2⟩ := h.get j p e
  exact ⟨t, h1, k _ _ h2⟩⟩
theorem NpAt.snoc {H : Hp} {xs : List V} {ps : List (Nat × Nat)} {p : Nat × Nat} {t : Addr} (h : NpAt H xs ps) (ht : H t = some (.tup [.int (p.1 : Nat), .int (p.2 : Nat)])) : NpAt H (xs ++ [.ref t]) (ps ++ [p]) := ⟨by rw [List.length_append, List.length_append, h.len]; rfl, fun j x hx => by
  by_cases c : j < ps.length
  · rw [List.getElem?_append_left c] at hx
    obtain ⟨t', h1, h2⟩ := h.get j x hx
    exact ⟨t', by rw [List.getElem?_append_left (by rw [h.len]; exact c)]; exact h1, h2⟩
  · have il : j = ps.length := by
      have := (List.getElem?_eq_some_iff.mp hx).1
      rw [List.length_append, List.length_singleton] at this
      omega
    subst il
    rw [List.getElem?_append_right (Nat.le_refl _), Nat.sub_self] at hx
    simp at hx
    subst hx
    refine ⟨t, ?_, ht⟩
    rw [← h.len, List.getElem?_append_right (Nat.le_refl _), Nat.sub_self]
    rfl⟩
/-- the places of the codes so far -/
def PlAt (kvs : List (Key × V)) (cs : List Nat) : Prop := kvs.length ≤ cs.length ∧ ∀ y : Nat, (∀ k, cs[k]? = some y → valV kvs (Sum.inl ((y : Nat) : Int)) = some (.int (k : Nat))) ∧ (y ∉ cs → valV kvs (Sum.inl ((y : Nat) : Int)) = none)
theorem PlAt.put {kvs : List (Key × V)} {cs : List Nat} {c : Nat} (h : PlAt kvs cs) (nd : (cs ++ [c]).Nodup) : PlAt (putK kvs (Sum.inl ((c : Nat) : Int)) (.int ((cs.length : Nat) : Int))) (cs ++ [c]) := by
  have cn : c ∉ cs := fun m => (List.nodup_append.mp nd).2.2 c m c (by simp) rfl
  refine ⟨?_, fun y => ⟨fun k hk => ?_, fun hy => ?_⟩⟩
  · have : (putK kvs (Sum.inl ((c : Nat) : Int)) (.int ((cs.length : Nat) : Int))).length ≤ kvs.length + 1 := by
      unfold putK
      split <;> simp
    rw [List.length_append, List.length_singleton]
    have := h.1
    omega
  · rw [valV_put]
    by_cases c1 : k < cs.length
    · rw [List.getElem?_append_left c1] at hk
      have ym := List.mem_of_getElem? hk
      rw [if_neg (key_ne fun z => by rw [z] at ym; exact cn ym)]
      exact (h.2 y).1 k hk
    · have il : k = cs.length := by
        have := (List.getElem?_eq_some_iff.mp hk).1
        rw [List.length_append, List.length_singleton] at this
        omega
      subst il
      rw [List.getElem?_append_right (Nat.le_refl _), Nat.sub_self] at hk
      simp at hk
      subst hk
      rw [if_pos rfl]
  · rw [valV_put]
    have h1 : y ∉ cs := fun z => hy (List.mem_append_left _ z)
    have h2 : ¬ y = c := fun z => hy (by rw [z]; simp)
    rw [if_neg (key_ne h2)]
    exact (h.2 y).2 h1
theorem take_nodup {l : List Nat} (h : l.Nodup) (i : Nat) : (l.take i).Nodup := (List.take_sublist i l).nodup h
section
variable {P : Program} {w : World} {K : PySem.W.Frag} {mg : Str → Option Value} {base : Heap} {f : Addr} {fd : FuncData}
/-! ### _law_rows -/
abbrev s_law_rows : Stmt := top 35
theorem sc_law_rows : FnScope ["pool", "counts", "codes", "look", "after", "inputs", "outputs", "bits", "place", "k", "rows", "state", "n"] ["pool", "counts", "codes", "look", "after"] (defScope s_law_rows) := ⟨rfl, rfl, rfl, by decide +kernel, rfl, by decide +kernel, by decide +kernel⟩
def spRows : Sp := fun vs H Q _ => ∃ (a ct ca la af : Addr) (G : Hp) (ins outs bits : Nat) (codes : List Nat) (lks afs : List V) (look : Nat → List Nat) (sc : Nat → Nat → Nat), vs = [.ref a, .ref ct, .ref ca, .ref la, .ref af] ∧ PoolAt H a ∧ Same G H ∧ G a = none ∧
  G ct = some (.lst [.int (ins : Nat), .int (outs : Nat), .int (bits : Nat)]) ∧ G ca = some (.lst (valsN codes)) ∧ G la = some (.lst lks) ∧ G af = some (.lst afs) ∧ LookAt G lks look codes.length ∧ AfterAt G afs sc (2 ^ ins) codes.length ∧
  ins ≤ 4 ∧ outs ≤ 24 ∧ bits ≤ 8 ∧ codes.length ≤ 256 ∧ codes.Nodup ∧ (∀ c ∈ codes, c < 2 ^ bits) ∧ (∀ k, k < codes.length → (look k).length = 2 ^ ins ∧ ∀ o ∈ look k, o < 2 ^ outs) ∧ (∀ k n, k < codes.length → n < 2 ^ ins → sc k n < codes.length) ∧
  ∀ (p : Addr) (xs : List V) (ps : List (Nat × Nat)) H', PoolX a H H' → H p = none → H' p = some (.lst xs) → NpAt (new H H') xs ps → ps.length = 2 ^ bits * 2 ^ ins → (∀ j p, ps[j]? = some p → RowOk outs bits (2 ^ ins) codes look sc j p) → Q (.ref p) H'
theorem ok_law_rows (D_law_draw : Fn P w K mg base 1 "_law_draw" ["pool", "many"] spDraw) (F : Fun K "_law_rows" "_law_rows" s_law_rows f fd) (Z : Bl mg) : FnOk P w K mg base CX0 2 f fd ["pool", "counts", "codes", "look", "after"] spRows := by
  refine F.ok sc_law_rows (fun vs H Q E h => ?_) (fun cdv A outer s H vs Q E hr h => ?_)
  · obtain ⟨a, ct, ca, la, af, _, _, _, _, _, _, _, _, _, rfl, _⟩ := h
    rfl
  obtain ⟨a, ct, ca, la, af, G, ins, outs, bits, codes, lks, afs, look, sc, rfl, hp, sG, aG, hct, hca, hla, haf, hlk, hat, i4, o24, b8, cl, cnd, clt, hlook, hsc, q⟩ := h
  have c0 : 0 < 2 ^ ins := Nat.two_pow_pos ins
  have c16 : 2 ^ ins ≤ 16 := Nat.pow_le_pow_right (by decide) i4
  have b256 : 2 ^ bits ≤ 256 := Nat.pow_le_pow_right (by decide) b8
  have o0 : 0 < 2 ^ outs := Nat.two_pow_pos outs
  have oM : 2 ^ outs ≤ 16777216 := Nat.pow_le_pow_right (by decide) o24
  -- what G says holds as long as the pool alone changes
  have gk : ∀ {H'}, PoolX a H H' → Same G H' := fun px b u e => px.sx _ _ (fun z => by rw [z, aG] at e; cases e) (sG _ _ e)
  refine ⟨_, (pss_cons (ps_asg (pv 1) (pgk_unl (K := K) (n := 3) rfl (by rfl) (pgs_cons (pg_name (i := 5) sc_law_rows.nd rfl (Or.inl rfl)) (pgs_cons (pg_name (i := 6) sc_law_rows.nd rfl (Or.inl rfl)) (pgs_cons (pg_name (i := 7) sc_law_rows.nd rfl (Or.inl rfl)) pgs_nil)))))
  (pss_cons (ps_set (i := 8) sc_law_rows.nd rfl (Or.inl rfl) pe_dnewK)
  (pss_cons (ps_for PassesOwn.never rfl (pi_range1 (by rfl) Z.range (pa_cons (pe_callB (callk_lenL (K := K) rfl) (by rfl) Z.len (by decide +kernel) (pa_cons (pv 2) pa_nil)) pa_nil)) (pg_name (i := 9) sc_law_rows.nd rfl (Or.inl rfl)) (pss_one (ps_dput (hu_of hr) (pv 8) (pe_ix (ixk_list (K := K) rfl) (pv 2) (pv 9) (fun _ _ => rfl)) (pv 9) rfl)))
  (pss_cons (ps_set (i := 10) sc_law_rows.nd rfl (Or.inl rfl) (pe_lst pa_nil))
  (pss_cons (ps_for PassesOwn.never rfl (pi_range1 (by rfl) Z.range (pa_cons (pe_op op_shl pe_int (pv 7)) pa_nil)) (pg_name (i := 11) sc_law_rows.nd rfl (Or.inl rfl)) (pss_one (ps_for PassesOwn.never rfl (pi_range1 (by rfl) Z.range (pa_cons (pe_op op_shl pe_int (pv 5)) pa_nil)) (pg_name (i := 12) sc_law_rows.nd rfl (Or.inl rfl)) (pss_one (ps_if (pt_cmp (pc_din (hu_of hr) (pv 11) (pv 8))) (pss_cons (ps_set (i := 9) sc_law_rows.nd rfl (Or.inl rfl) (pe_dget (hu_of hr) (pv 8) (pv 11) (fun _ _ => rfl)))
  (pss_one (ps_expr (pe_bm PySem.F.plainAttrs_list PySem.F.slot_list_append PySem.F.type_list_append mt_append (pv 10) (pa_cons (pe_tup (pa_cons (pe_ix (ixk_tup (K := K) rfl) (pe_ix (ixk_list (K := K) rfl) (pv 3) (pv 9) (fun _ _ => rfl)) (pv 12) (fun _ _ => rfl)) (pa_cons (pe_ix (ixk_list (K := K) rfl) (pv 2) (pe_ix (ixk_list (K := K) rfl) (pe_ix (ixk_list (K := K) rfl) (pv 4) (pv 9) (fun _ _ => rfl)) (pv 12) (fun _ _ => rfl)) (fun _ _ => rfl)) pa_nil))) pa_nil))))) (pss_one (ps_expr (pe_bm PySem.F.plainAttrs_list PySem.F.slot_list_append PySem.F.type_list_append mt_append (pv 10) (pa_cons (pe_tup (pa_cons (pe_call D_law_draw.G (hr.mono (by omega)) (by rfl) D_law_draw.m D_law_draw.kp D_law_draw.b .nil pass0 (pa_cons (pv 0) (pa_cons (pe_op op_shl pe_int (pv 6)) pa_nil))) (pa_cons (pe_call D_law_draw.G (hr.mono (by omega)) (by rfl) D_law_draw.m D_law_draw.kp D_law_draw.b .nil pass0 (pa_cons (pv 0) (pa_cons (pe_op op_shl pe_int (pv 7)) pa_nil))) pa_nil))) pa_nil)))))))))
  (pss_one (ps_ret (pv 10)))))))), ?_⟩
  change tSeq _ _ _ [some (.ref a), some (.ref ct), some (.ref ca), some (.ref la), some (.ref af), none, none, none, none, none, none, none, none] _
  walk_at "st"
  refine g_unl (SqL.of (sG _ _ hct)) rfl ?_
  walk_at "wp"
  walk_at "st"
  intro d hd
  have ad : a ≠ d := hp.ne hd
  have p0 := (PoolX.refl hp).put (o := .dK []) hd ad
  have hd0 : upd H d (.dK []) d = some (.dK []) := upd_same
  have nd0 : new H (upd H d (.dK [])) d = some (.dK []) := by rw [new_of hd]; exact hd0
  generalize upd H d (.dK []) = H0 at p0 hd0 nd0 ⊢
  walk_at "st"
  refine g_len (SqL.of (gk p0 _ _ hca)) ?_
  rw [valsN_len]
  obtain ⟨Pv, hP⟩ := opq (fun (i : Nat) (σ' : L2.St) (H' : Hp) => ∃ (a9 : Option V) (kvs : List (Key × V)), σ' = [some (.ref a), some (.ref ct), some (.ref ca), some (.ref la), some (.ref af), some (.int (ins : Nat)), some (.int (outs : Nat)), some (.int (bits : Nat)), some (.ref d), a9, none, none, none] ∧ PoolX a H H' ∧ H' d = some (.dK kvs) ∧ PlAt kvs (codes.take i))
  refine f_R1 (by omega) Pv ?_ ?_ ?_
  · rw [hP]
    exact ⟨_, [], rfl, p0, hd0, Nat.le_refl _, fun y => ⟨fun k hk => by simp at hk, fun _ => rfl⟩⟩
  · intro i σ' H' hi h
    rw [hP] at h
    obtain ⟨a9, kvs, rfl, p1, hd1, pl⟩ := h
    obtain ⟨c, hc⟩ : ∃ c, codes[i]? = some c := ⟨_, List.getElem?_eq_getElem hi⟩
    walk_at "wp"
    refine k_ix (SqL.of (gk p1 _ _ hca)) (valsN_at hc) ?_
    refine d_putK (k := Sum.inl ((c : Nat) : Int)) hd1 (by have := pl.1; rw [List.length_take] at this; omega) ?_
    rw [hP]
    refine ⟨_, _, rfl, p1.put hd ad, upd_same, ?_⟩
    have tl : (codes.take i).length = i := by rw [List.length_take]; omega
    have := PlAt.put pl (c := c) (by rw [← take_snoc hc]; exact take_nodup cnd _)
    rw [tl] at this
    rw [take_snoc hc]
    exact this
  intro σ' H1 h
  rw [hP] at h
  obtain ⟨a9, kvs, rfl, p1, hd1, pl⟩ := h
  rw [List.take_length] at pl
  clear hP Pv
  walk_at "st"
  refine ⟨szr rfl, fun rl hrl => ?_⟩
  have hrl0 : H rl = none := p1.free hrl
  have arl : a ≠ rl := hp.ne hrl0
  have drl : d ≠ rl := ne_of_none hd1 hrl
  have p2 := p1.put (o := .lst []) hrl0 arl
  have hr2 : upd H1 rl (.lst []) rl = some (.lst []) := upd_same
  have hd2 : upd H1 rl (.lst []) d = some (.dK kvs) := by rw [upd_ne drl]; exact hd1
  generalize upd H1 rl (.lst []) = H2 at p2 hr2 hd2 ⊢
  walk_at "st"
  walk_at "st"
  refine ⟨n_pow_shl (by omega), ?_⟩
  walk_at "wn"
  -- what holds at each row
  obtain ⟨Inv, hI⟩ := opq (fun (m : Nat) (H' : Hp) => ∃ (xs : List V) (ps : List (Nat × Nat)), PoolX a H H' ∧ H' d = some (.dK kvs) ∧ H' rl = some (.lst xs) ∧ NpAt (new H H') xs ps ∧ ps.length = m ∧ ∀ j p, ps[j]? = some p → RowOk outs bits (2 ^ ins) codes look sc j p)
  have grow : ∀ {m : Nat} {Ha Hb : Hp} {tp : Addr} {x y : Nat}, Inv m Ha → PoolX a Ha Hb → Hb tp = none → RowOk outs bits (2 ^ ins) codes look sc m (x, y) → ∀ {xs : List V}, Ha rl = some (.lst xs) → Inv (m + 1) (upd (upd Hb tp (.tup [.int (x : Nat), .int (y : Nat)])) rl (.lst (xs ++ [.ref tp]))) := by
    intro m Ha Hb tp x y hin px htp ok xs hxs
    rw [hI] at hin ⊢
    obtain ⟨xs', ps, q1, q2, q3, q4, q5, q6⟩ := hin
    rw [hxs] at q3
    obtain rfl := HO.lst.inj (Option.some.inj q3)
    have pt := q1.trans px
    have tp0 : H tp = none := pt.free htp
    have trl : rl ≠ tp := fun z => by rw [← z, px.sx _ _ arl.symm hxs] at htp; cases htp
    refine ⟨_, ps ++ [(x, y)], (pt.put tp0 (hp.ne tp0)).put hrl0 arl, ?_, upd_same, ?_, by rw [List.length_append, q5]; rfl, fun j p hj => ?_⟩
    · rw [upd_ne drl, upd_ne (fun z => by rw [← z, px.sx _ _ ad.symm q2] at htp; cases htp)]
      exact px.sx _ _ ad.symm q2
    · refine NpAt.snoc (p := (x, y)) (q4.keep fun b ys e => ?_) ?_
      · obtain ⟨e1, e2⟩ := new_get e
        have ba : b ≠ a := fun z => by
          rw [z] at e1
          obtain ⟨_, _, _, _, _, z⟩ := hp
          rw [z] at e1
          cases e1
        have eb := px.sx _ _ ba e2
        rw [new_of e1, upd_ne (ne_of e2 hxs (by intro z; cases z)), upd_ne (ne_of_none eb htp)]
        exact eb
      · rw [new_of tp0, upd_ne trl.symm, upd_same]
    · by_cases c : j < ps.length
      · rw [List.getElem?_append_left c] at hj
        exact q6 j p hj
      · have il : j = ps.length := by
          have := (List.getElem?_eq_some_iff.mp hj).1
          rw [List.length_append, List.length_singleton] at this
          omega
        subst il
        rw [List.getElem?_append_right (Nat.le_refl _), Nat.sub_self] at hj
        simp at hj
        subst hj
        rw [q5]
        exact ok
  have inv0 : Inv 0 H2 := by
    rw [hI]
    exact ⟨[], [], p2, hd2, hr2, ⟨rfl, fun j p e => by cases e⟩, rfl, fun j p e => by cases e⟩
  clear hr2 hd2
  obtain ⟨Pv, hP⟩ := opq (fun (i : Nat) (σ' : L2.St) (H' : Hp) => ∃ (a9 a11 a12 : Option V), σ' = [some (.ref a), some (.ref ct), some (.ref ca), some (.ref la), some (.ref af), some (.int (ins : Nat)), some (.int (outs : Nat)), some (.int (bits : Nat)), some (.ref d), a9, some (.ref rl), a11, a12] ∧ Inv (i * 2 ^ ins) H')
  refine f_R1 (by omega) Pv ?_ ?_ ?_
  · rw [hP]
    exact ⟨_, _, _, rfl, by rw [Nat.zero_mul]; exact inv0⟩
  · intro i σ' H3 hi h
    rw [hP] at h
    obtain ⟨a9, a11, a12, rfl, hin⟩ := h
    walk_at "wp"
    refine ⟨n_pow_shl (by omega), ?_⟩
    walk_at "wn"
    obtain ⟨Pw, hQ⟩ := opq (fun (n : Nat) (σ' : L2.St) (H' : Hp) => ∃ (a9 a12 : Option V), σ' = [some (.ref a), some (.ref ct), some (.ref ca), some (.ref la), some (.ref af), some (.int (ins : Nat)), some (.int (outs : Nat)), some (.int (bits : Nat)), some (.ref d), a9, some (.ref rl), some (.int (i : Nat)), a12] ∧ Inv (i * 2 ^ ins + n) H')
    refine f_R1 (by omega) Pw ?_ ?_ ?_
    · rw [hQ]
      exact ⟨_, _, rfl, hin⟩
    · intro n σ' H4 hn h
      rw [hQ] at h
      obtain ⟨a9, a12, rfl, hin4⟩ := h
      have hin' := hin4
      rw [hI] at hin'
      obtain ⟨xs, ps, q1, q2, q3, q4, q5, q6⟩ := hin'
      have psl : ps.length ≤ 4096 := by
        have : i * 2 ^ ins ≤ 255 * 16 := Nat.mul_le_mul (by omega) c16
        omega
      walk_at "wp"
      refine d_inK (k := Sum.inl ((i : Nat) : Int)) (.of q2) ?_
      by_cases ic : i ∈ codes
      · obtain ⟨k, hk⟩ := List.getElem?_of_mem ic
        have hkl := (List.getElem?_eq_some_iff.mp hk).1
        have hv := (pl.2 i).1 k hk
        rw [hv]
        walk_at "wp"
        walk_at "st"
        refine d_getK (k := Sum.inl ((i : Nat) : Int)) (.of q2) hv ?_
        walk_at "st"
        obtain ⟨l1, hl1, hl1'⟩ := hlk.2 k hkl
        obtain ⟨l2, hl2, hl2'⟩ := hat.2 k hkl
        obtain ⟨o, ho⟩ : ∃ o, (look k)[n]? = some o := ⟨_, List.getElem?_eq_getElem (by rw [(hlook k hkl).1]; exact hn)⟩
        obtain ⟨c, hc⟩ : ∃ c, codes[sc k n]? = some c := ⟨_, List.getElem?_eq_getElem (hsc k n hkl hn)⟩
        have hg2 : ((List.range (2 ^ ins)).map (sc k))[n]? = some (sc k n) := by
          rw [List.getElem?_map, List.getElem?_range hn]
          rfl
        refine ⟨k_tyL q3, k_ix (SqL.of (gk q1 _ _ hla)) (atI_nat hl1) ?_⟩
        refine k_ixT (SqT.of (gk q1 _ _ hl1')) (valsN_at ho) ?_
        refine k_ix (SqL.of (gk q1 _ _ haf)) (atI_nat hl2) ?_
        refine k_ix (SqL.of (gk q1 _ _ hl2')) (valsN_at hg2) ?_
        refine k_ix (SqL.of (gk q1 _ _ hca)) (valsN_at hc) ⟨szr rfl, fun tp htp => ?_⟩
        have rtp : rl ≠ tp := ne_of_none q3 htp
        refine k_app (xs := xs) (by rw [upd_ne rtp]; exact q3) (by rw [q4.len]; omega) ?_
        rw [hQ]
        refine ⟨_, _, rfl, grow hin4 (PoolX.refl q1.at') htp ⟨(hlook k hkl).2 o (List.mem_of_getElem? ho), clt c (List.mem_of_getElem? hc), fun k' n' c' hk' hn' e => ?_⟩ q3⟩
        have ec : i = c' ∧ n = n' := by
          have e1 : (i * 2 ^ ins + n) / 2 ^ ins = i := by rw [Nat.mul_comm, Nat.mul_add_div c0, Nat.div_eq_of_lt hn, Nat.add_zero]
          have e2 : (c' * 2 ^ ins + n') / 2 ^ ins = c' := by rw [Nat.mul_comm, Nat.mul_add_div c0, Nat.div_eq_of_lt hn', Nat.add_zero]
          rw [e, e2] at e1
          subst e1
          exact ⟨rfl, by omega⟩
        obtain ⟨rfl, rfl⟩ := ec
        have kk : k' = k := (List.getElem?_inj (List.getElem?_eq_some_iff.mp hk').1 cnd).mp (hk'.trans hk.symm)
        subst kk
        exact ⟨ho, hc⟩
      · rw [(pl.2 i).2 ic]
        walk_at "wp"
        refine ⟨k_tyL q3, n_pow_shl (by omega), ?_⟩
        walk_at "wn"
        refine p_draw q1.at' o0 (by omega) fun x H5 hx p5 => ⟨n_pow_shl (by omega), ?_⟩
        walk_at "wn"
        refine p_draw (q1.trans p5).at' (Nat.two_pow_pos bits) (by omega) fun y H6 hy p6 => ⟨szr rfl, fun tp htp => ?_⟩
        have p56 := p5.trans p6
        have q36 : H6 rl = some (.lst xs) := p56.sx _ _ arl.symm q3
        have rtp : rl ≠ tp := ne_of_none q36 htp
        refine k_app (xs := xs) (by rw [upd_ne rtp]; exact q36) (by rw [q4.len]; omega) ?_
        rw [hQ]
        refine ⟨_, _, rfl, grow hin4 p56 htp ⟨hx, hy, fun k' n' c' hk' hn' e => ?_⟩ q3⟩
        exfalso
        have e1 : (i * 2 ^ ins + n) / 2 ^ ins = i := by rw [Nat.mul_comm, Nat.mul_add_div c0, Nat.div_eq_of_lt hn, Nat.add_zero]
        have e2 : (c' * 2 ^ ins + n') / 2 ^ ins = c' := by rw [Nat.mul_comm, Nat.mul_add_div c0, Nat.div_eq_of_lt hn', Nat.add_zero]
        rw [e, e2] at e1
        subst e1
        exact ic (List.mem_of_getElem? hk')
    · intro σ' H4 h
      rw [hQ] at h
      obtain ⟨a9, a12, rfl, hin4⟩ := h
      rw [hP]
      exact ⟨_, _, _, rfl, by rw [Nat.succ_mul]; exact hin4⟩
  · intro σ' H3 h
    rw [hP] at h
    obtain ⟨a9, a11, a12, rfl, hin⟩ := h
    rw [hI] at hin
    obtain ⟨xs, ps, q1, q2, q3, q4, q5, q6⟩ := hin
    walk_at "wp"
    exact q rl xs ps H3 q1 hrl0 q3 q4 q5 q6
end
end Ck
local macro_rules | `(tactic| walk_at "wp") => `(tactic| try simp only [Ck.w_var0, Ck.w_varS, Ck.w_c, Ck.w_op, Ck.w_un, Ck.w_i0, Ck.w_i, Ck.w_u, Ck.w_test, Ck.w_B, Ck.w_and, Ck.w_or, Ck.w_not, Ck.w_andV, Ck.w_notV, Ck.w_orV, Ck.w_max2, Ck.w_eqI, Ck.w_neI, Ck.w_neB, Ck.w_eqB, Ck.w_nil, Ck.w_cons, Ck.w_tup, Ck.w_lst, Ck.w_cb, Ck.w_call, Ck.w_asg, Ck.w_name, Ck.w_ret, Ck.w_drop, Ck.w_next, Ck.w_ifs, Ck.w_ifx, Ck.w_set0, Ck.w_setS, Ck.w_bm, Ck.w_sub, Ck.w_sl, L2.V.int.injEq, L2.V.bl.injEq, L2.V.ref.injEq, List.cons.injEq, List.append_nil, List.nil_append, List.cons_append, and_true, true_and, and_self, exists_eq_left', exists_eq_left, exists_eq', exists_eq, reduceCtorEq, false_and, exists_false, or_false, false_or, exists_const, Ck.w_intI, Ck.w_intB, Ck.w_absI, Ck.cx_K, forall_const, Ck.w_forR1, Ck.w_forR2, Ck.w_forL, Ck.w_forI, Ck.w_lcR1, Ck.w_lcL, Ck.w_lcK, Ck.w_yes, Ck.w_wipe0, Ck.w_wipeS, Ck.w_gnil, Ck.w_gcons, Ck.w_dnewT, Ck.w_dnewK, Ck.w_disp1, Ck.w_dput, Ck.w_dget, Ck.w_din, Ck.w_dnotin, Ck.w_bits, Ck.w_tru, Ck.w_fld, Ck.w_sfld, Ck.w_meth, Ck.w_make, Ck.w_chain, Ck.w_retN, Ck.w_rev, Ck.w_forT, Ck.w_forZ, Ck.w_forE, Ck.w_lcT, Ck.w_dcZ, Ck.w_dnewN, Ck.w_dniN, Ck.w_dgetN, Ck.w_dputN, eq_self, if_true, if_false, Option.isSome_some, decide_true, decide_false, Option.isSome_none, Bool.not_true, Bool.not_false, Bool.false_eq_true, List.map_cons, List.map_nil])

namespace Ck
open PySem L2
/-- what a world is in the heap -/
structure WorldAt (G : Hp) (o d : Addr) (W : Wd) (rl c w n : Addr) (xs : List V) (kvs : List (Key × V)) : Prop where
  own : G o = some (.lst [.int (W.ins : Nat), .int (W.outs : Nat), .int (W.bits : Nat), .int (W.start : Nat), .ref rl])
  rows : G rl = some (.lst xs)
  np : NpAt G xs W.rows
  due : G d = some (.lst [.ref c, .ref w, .ref n])
  ord : G c = some (.lst (valsN W.ordC))
  ways : G w = some (.dK kvs)
  runs : RunsAt G kvs W.ents
  nums : G n = some (.lst (valsN (W.R.nums W.look)))
/-! ### what is new, some places apart -/
section
variable {a M : Addr} {H Hm Hi Hj : Hp} {o : HO}
theorem nx (ha : Hm a ≠ none) (p : PoolX a Hi Hj) : Same (new Hm Hi) (new Hm Hj) := fun b u h => by
  obtain ⟨e1, e2⟩ := new_get h
  rw [new_of e1]
  exact p.sx _ _ (fun z => ha (z ▸ e1)) e2
theorem new_subP {H' : Hp} (e : ∀ b, Hm b = none → H b = none) : Same (new Hm H') (new H H') := fun b u h => by
  obtain ⟨h1, h2⟩ := new_get h
  rw [new_of (e b h1)]
  exact h2
theorem n_enter (hM : Hi M = none) : Same (new Hm Hi) (new (upd Hm M o) Hi) := fun b u h => by
  obtain ⟨e1, e2⟩ := new_get h
  have bM : b ≠ M := ne_of_none e2 hM
  rw [new_of (by rw [upd_ne bM]; exact e1)]
  exact e2
theorem n_leave : Same (new (upd Hm M o) Hi) (new Hm Hi) := fun b u h => by
  obtain ⟨e1, e2⟩ := new_get h
  obtain ⟨_, e3⟩ := upd_none e1
  rw [new_of e3]
  exact e2
theorem pool_some (h : PoolAt H a) : H a ≠ none := by
  obtain ⟨_, _, _, _, _, e⟩ := h
  rw [e]
  exact fun z => by cases z
theorem upd_some {p : Addr} {u : HO} (h : H a ≠ none) : upd H p u a ≠ none := by
  by_cases e : a = p
  · rw [e, upd_same]; exact fun z => by cases z
  · rw [upd_ne e]; exact h
end
theorem LookAt.same {G G' : Hp} {lks : List V} {look : Nat → List Nat} {N : Nat} (s : Same G G') (h : LookAt G lks look N) : LookAt G' lks look N := ⟨h.1, fun k hk => by
  obtain ⟨l, h1, h2⟩ := h.2 k hk
  exact ⟨l, h1, s _ _ h2⟩⟩
theorem LookAt.snoc {G : Hp} {lks : List V} {look : Nat → List Nat} {N : Nat} {t : Addr} {os : List Nat} (h : LookAt G lks look N) (ht : G t = some (.tup (valsN os))) : LookAt G (lks ++ [.ref t]) (fun k => if k = N then os else look k) (N + 1) := ⟨by rw [List.length_append, h.1]; rfl, fun k hk => by
  by_cases c : k < N
  · obtain ⟨l, h1, h2⟩ := h.2 k c
    exact ⟨l, by rw [List.getElem?_append_left (by rw [h.1]; exact c)]; exact h1, by show G l = some (.tup (valsN (if k = N then os else look k))); rw [if_neg (by omega)]; exact h2⟩
  · have e : k = N := by omega
    subst e
    exact ⟨t, by rw [← h.1, List.getElem?_append_right (Nat.le_refl _), Nat.sub_self]; rfl, by show G t = some (.tup (valsN (if k = k then os else look k))); rw [if_pos rfl]; exact ht⟩⟩
theorem AfterAt.same {G G' : Hp} {afs : List V} {sc : Nat → Nat → Nat} {cnt N : Nat} (s : Same G G') (h : AfterAt G afs sc cnt N) : AfterAt G' afs sc cnt N := ⟨h.1, fun k hk => by
  obtain ⟨l, h1, h2⟩ := h.2 k hk
  exact ⟨l, h1, s _ _ h2⟩⟩
theorem AfterAt.snoc {G : Hp} {afs : List V} {sc : Nat → Nat → Nat} {cnt N : Nat} {t : Addr} (h : AfterAt G afs sc cnt N) (ht : G t = some (.lst (valsN ((List.range cnt).map (sc N))))) : AfterAt G (afs ++ [.ref t]) sc cnt (N + 1) := ⟨by rw [List.length_append, h.1]; rfl, fun k hk => by
  by_cases c : k < N
  · obtain ⟨l, h1, h2⟩ := h.2 k c
    exact ⟨l, by rw [List.getElem?_append_left (by rw [h.1]; exact c)]; exact h1, h2⟩
  · have e : k = N := by omega
    subst e
    exact ⟨t, by rw [← h.1, List.getElem?_append_right (Nat.le_refl _), Nat.sub_self]; rfl, ht⟩⟩
theorem valsN_rep (n t : Nat) : valsN (List.replicate n t) = List.replicate n (V.int (t : Nat)) := by unfold valsN; rw [List.map_replicate]
theorem RunsAt.at' {G : Hp} {kvs : List (Key × V)} {E : List Ent} (h : RunsAt G kvs E) (nd : (nodes E).Nodup) {i : Nat} {e : Ent} (he : E[i]? = some e) : ∃ l : Addr, valV kvs (Sum.inl ((e.node : Nat) : Int)) = some (.ref l) ∧ G l = some (.lst (valsN e.word)) := by
  rcases h.val nd e.node with ⟨hn, _⟩ | ⟨j, e', l, hj, hje, hv, hl⟩
  · exact absurd (List.mem_map.mpr ⟨e, List.mem_of_getElem? he, rfl⟩) hn
  · have q1 := nodes_get hj
    have q2 := nodes_get he
    rw [hje] at q1
    have ij : j = i := (List.getElem?_inj (List.getElem?_eq_some_iff.mp q1).1 nd).mp (q1.trans q2.symm)
    rw [ij, he] at hj
    obtain rfl := Option.some.inj hj
    exact ⟨l, hv, hl⟩
theorem nodup_take {l : List Nat} (nd : l.Nodup) {i x : Nat} (h : l[i]? = some x) : x ∉ l.take i := fun m => by
  obtain ⟨j, hj⟩ := List.getElem?_of_mem m
  have jl := (List.getElem?_eq_some_iff.mp hj).1
  rw [List.length_take] at jl
  rw [List.getElem?_take, if_pos (by omega)] at hj
  have := (List.getElem?_inj (by omega) nd).mp (hj.trans h.symm)
  omega
theorem nodes_take (E : List Ent) (i : Nat) : nodes (E.take i) = (nodes E).take i := by unfold nodes; rw [List.map_take]
theorem or_draw {c : Bool} {a : Addr} {H : Hp} {C : VK} {G1 : Prop} (hp : PoolAt H a) (e1 : G1 = C (.bl true) H) (h : ∀ (b : Bool) H2, PoolX a H H2 → C (.bl b) H2) : if c = true then G1 else spDraw [.ref a, .int 2] H (fun x H1 => rEq x (.int 0) H1 C) E0 := by
  cases c with
  | true =>
    rw [if_pos rfl, e1]
    exact h true H (PoolX.refl hp)
  | false =>
    rw [if_neg Bool.false_ne_true]
    refine p_draw (m := 2) hp (by decide) (by decide) fun x H1 _ px => ?_
    rw [w_eqI]
    exact h _ H1 px
/-- the shows, one list for each input number -/
def MadeAt (G : Hp) (xs : List V) (outs : Nat) : Prop := ∀ x ∈ xs, ∃ (l : Addr) (ys : List V) (ss : List Show), x = .ref l ∧ G l = some (.lst ys) ∧ DvAll G ys (ss.map encS) ∧ (∀ s ∈ ss, ShowOk s) ∧ ss.length = outs
theorem MadeAt.same {G G' : Hp} {xs : List V} {outs : Nat} (s : Same G G') (h : MadeAt G xs outs) : MadeAt G' xs outs := fun x hx => by
  obtain ⟨l, ys, ss, h1, h2, h3, h4, h5⟩ := h x hx
  exact ⟨l, ys, ss, h1, s _ _ h2, dvs_same s h3, h4, h5⟩
section
variable {P : Program} {w : World} {K : PySem.W.Frag} {mg : Str → Option Value} {base : Heap} {f : Addr} {fd : FuncData}
/-! ### _law_world -/
abbrev s_law_world : Stmt := top 36
theorem sc_law_world : FnScope ["pool", "at", "world", "bits", "great", "one", "two", "first", "second", "size", "inputs", "count", "outputs", "alike", "made", "n", "moves", "step", "base", "mask", "codes", "start", "look", "after", "k", "p", "q", "rows", "order", "runs", "ways", "due"] ["pool", "at"] (defScope s_law_world) := ⟨rfl, rfl, rfl, by decide +kernel, rfl, by decide +kernel, by decide +kernel⟩
def spWorld : Sp := fun vs H Q _ => ∃ (a : Addr) (k : Nat), vs = [.ref a, .int (k : Nat)] ∧ PoolAt H a ∧
  ∀ (p o d : Addr) (W : Wd) (rl c w n : Addr) (xs : List V) (kvs : List (Key × V)) H', PoolX a H H' → H p = none → H' p = some (.lst [.ref o, .ref d]) → WorldAt (new H H') o d W rl c w n xs kvs → Q (.ref p) H'
theorem ok_law_world (D_law_draw : Fn P w K mg base 1 "_law_draw" ["pool", "many"] spDraw) (D_law_pick : Fn P w K mg base 2 "_law_pick" ["pool", "row"] spPick) (D_law_rings : Fn P w K mg base 3 "_law_rings" ["pool", "at"] spRings) (D_law_shows : Fn P w K mg base 4 "_law_shows" ["pool", "one", "two", "outputs"] spShows)
    (D_law_show : Fn P w K mg base 1 "_law_show" ["made", "p", "q"] spShow) (D_law_moves : Fn P w K mg base 3 "_law_moves" ["pool", "world", "count"] spMoves) (D_law_shifted : Fn P w K mg base 1 "_law_shifted" ["one", "two", "place", "p", "q"] spShifted) (D_law_rows : Fn P w K mg base 2 "_law_rows" ["pool", "counts", "codes", "look", "after"] spRows)
    (D_law_walked : Fn P w K mg base 1 "_law_walked" ["after", "start"] spWalked) (D_law_numbers : Fn P w K mg base 2 "_law_numbers" ["one", "two", "look", "order"] spNumbers)
    (F : Fun K "_law_world" "_law_world" s_law_world f fd) (Z : Bl mg) : FnOk P w K mg base CX0 5 f fd ["pool", "at"] spWorld := by
  refine F.ok sc_law_world (fun vs H Q E h => ?_) (fun cdv A outer s H vs Q E hr h => ?_)
  · obtain ⟨a, k, rfl, _⟩ := h
    rfl
  obtain ⟨a, k, rfl, hp, q⟩ := h
  refine ⟨_, (pss_cons (ps_set (i := 2) sc_law_world.nd rfl (Or.inl rfl) (pe_call D_law_rings.G (hr.mono (by omega)) (by rfl) D_law_rings.m D_law_rings.kp D_law_rings.b .nil pass0 (pa_cons (pv 0) (pa_cons (pv 1) pa_nil))))
  (pss_cons (ps_asg (pv 2) (pgk_unl (K := K) (n := 6) rfl (by rfl) (pgs_cons (pg_name (i := 3) sc_law_world.nd rfl (Or.inl rfl)) (pgs_cons (pg_name (i := 4) sc_law_world.nd rfl (Or.inl rfl)) (pgs_cons (pg_name (i := 5) sc_law_world.nd rfl (Or.inr rfl)) (pgs_cons (pg_name (i := 6) sc_law_world.nd rfl (Or.inr rfl)) (pgs_cons (pg_name (i := 7) sc_law_world.nd rfl (Or.inl rfl)) (pgs_cons (pg_name (i := 8) sc_law_world.nd rfl (Or.inl rfl)) pgs_nil))))))))
  (pss_cons (ps_set (i := 9) sc_law_world.nd rfl (Or.inr rfl) (pe_op op_shl pe_int (pv 3)))
  (pss_cons (ps_set (i := 10) sc_law_world.nd rfl (Or.inl rfl) (pe_callB (call_min2 rfl) (by rfl) Z.min (by decide +kernel) (pa_cons (pe_call D_law_pick.G (hr.mono (by omega)) (by rfl) D_law_pick.m D_law_pick.kp D_law_pick.b .nil pass0 (pa_cons (pv 0) (pa_cons (pe_lst (pa_cons pe_int (pa_cons pe_int (pa_cons pe_int (pa_cons pe_int (pa_cons pe_int (pa_cons pe_int (pa_cons pe_int pa_nil)))))))) pa_nil))) (pa_cons (pe_op op_fdivW (pe_op op_sub pe_int (pv 3)) pe_int) pa_nil))))
  (pss_cons (ps_set (i := 11) sc_law_world.nd rfl (Or.inl rfl) (pe_op op_shl pe_int (pv 10)))
  (pss_cons (ps_set (i := 12) sc_law_world.nd rfl (Or.inl rfl) (pe_call D_law_pick.G (hr.mono (by omega)) (by rfl) D_law_pick.m D_law_pick.kp D_law_pick.b .nil pass0 (pa_cons (pv 0) (pa_cons (pe_lst (pa_cons pe_int (pa_cons pe_int (pa_cons pe_int (pa_cons pe_int (pa_cons pe_int (pa_cons pe_int (pa_cons pe_int (pa_cons (pv 4) pa_nil))))))))) pa_nil))))
  (pss_cons (ps_set (i := 13) sc_law_world.nd rfl (Or.inl rfl) (pe_or (pe_cmpR op_gt (pv 12) pe_int (nomark _)) (pe_one (pe_cmpR op_eq (pe_call D_law_draw.G (hr.mono (by omega)) (by rfl) D_law_draw.m D_law_draw.kp D_law_draw.b .nil pass0 (pa_cons (pv 0) (pa_cons pe_int pa_nil))) pe_int (nomark _)))))
  (pss_cons (ps_set (i := 14) sc_law_world.nd rfl (Or.inr rfl) (pe_lst (pa_cons (pe_call D_law_shows.G (hr.mono (by omega)) (by rfl) D_law_shows.m D_law_shows.kp D_law_shows.b .nil pass0 (pa_cons (pv 0) (pa_cons (pv 7) (pa_cons (pv 8) (pa_cons (pv 12) pa_nil))))) pa_nil)))
  (pss_cons (ps_for PassesOwn.never rfl (pi_range2 (by rfl) Z.range (pa_cons pe_int (pa_cons (pv 11) pa_nil))) (pg_name (i := 15) sc_law_world.nd rfl (Or.inl rfl)) (pss_one (ps_if (pt_val (pv 13)) (pss_one (ps_expr (pe_bm PySem.F.plainAttrs_list PySem.F.slot_list_append PySem.F.type_list_append mt_append (pv 14) (pa_cons (pe_ix (ixk_list (K := K) rfl) (pv 14) pe_int (fun _ _ => rfl)) pa_nil)))) (pss_one (ps_expr (pe_bm PySem.F.plainAttrs_list PySem.F.slot_list_append PySem.F.type_list_append mt_append (pv 14) (pa_cons (pe_call D_law_shows.G (hr.mono (by omega)) (by rfl) D_law_shows.m D_law_shows.kp D_law_shows.b .nil pass0 (pa_cons (pv 0) (pa_cons (pv 7) (pa_cons (pv 8) (pa_cons (pv 12) pa_nil))))) pa_nil)))))))
  (pss_cons (ps_set (i := 16) sc_law_world.nd rfl (Or.inr rfl) (pe_call D_law_moves.G (hr.mono (by omega)) (by rfl) D_law_moves.m D_law_moves.kp D_law_moves.b .nil pass0 (pa_cons (pv 0) (pa_cons (pv 2) (pa_cons (pv 11) pa_nil)))))
  (pss_cons (ps_set (i := 17) sc_law_world.nd rfl (Or.inr rfl) (pe_op op_add pe_int (pe_op op_mul pe_int (pe_call D_law_draw.G (hr.mono (by omega)) (by rfl) D_law_draw.m D_law_draw.kp D_law_draw.b .nil pass0 (pa_cons (pv 0) (pa_cons (pe_op op_fdivW (pv 9) pe_int) pa_nil))))))
  (pss_cons (ps_set (i := 18) sc_law_world.nd rfl (Or.inr rfl) (pe_call D_law_draw.G (hr.mono (by omega)) (by rfl) D_law_draw.m D_law_draw.kp D_law_draw.b .nil pass0 (pa_cons (pv 0) (pa_cons (pv 9) pa_nil))))
  (pss_cons (ps_set (i := 19) sc_law_world.nd rfl (Or.inr rfl) (pe_call D_law_draw.G (hr.mono (by omega)) (by rfl) D_law_draw.m D_law_draw.kp D_law_draw.b .nil pass0 (pa_cons (pv 0) (pa_cons (pv 9) pa_nil))))
  (pss_cons (ps_set (i := 20) sc_law_world.nd rfl (Or.inr rfl) (pe_lc (own := [("k", 24)]) (tt := tYes) rfl sc_law_world.nd (pi_range1 (by rfl) Z.range (pa_cons (pe_op op_mul (pv 5) (pv 6)) pa_nil)) (blkOk_by (N := ["pool", "at", "world", "bits", "great", "one", "two", "first", "second", "size", "inputs", "count", "outputs", "alike", "made", "n", "moves", "step", "base", "mask", "codes", "start", "look", "after", "k", "p", "q", "rows", "order", "runs", "ways", "due"]) (sc := defScope s_law_world) (by decide +kernel)) (fun _ _ _ _ _ => (pg_name (i := 24) sc_law_world.nd rfl (Or.inl rfl))) (fun _ _ _ _ _ => pts_nil) (fun _ _ _ _ _ => (pe_op op_xor (pe_op op_and (pe_op op_add (pv 18) (pe_op op_mul (pv 17) (pv 24))) (pe_op op_sub (pv 9) pe_int)) (pv 19)))))
  (pss_cons (ps_set (i := 21) sc_law_world.nd rfl (Or.inl rfl) (pe_call D_law_draw.G (hr.mono (by omega)) (by rfl) D_law_draw.m D_law_draw.kp D_law_draw.b .nil pass0 (pa_cons (pv 0) (pa_cons (pe_op op_mul (pv 5) (pv 6)) pa_nil))))
  (pss_cons (ps_set (i := 22) sc_law_world.nd rfl (Or.inl rfl) (pe_lst pa_nil))
  (pss_cons (ps_set (i := 23) sc_law_world.nd rfl (Or.inl rfl) (pe_lst pa_nil))
  (pss_cons (ps_for PassesOwn.never rfl (pi_range1 (by rfl) Z.range (pa_cons (pe_op op_mul (pv 5) (pv 6)) pa_nil)) (pg_name (i := 24) sc_law_world.nd rfl (Or.inr rfl)) (pss_cons (ps_set (i := 25) sc_law_world.nd rfl (Or.inr rfl) (pe_op op_fdivW (pv 24) (pv 6)))
  (pss_cons (ps_set (i := 26) sc_law_world.nd rfl (Or.inr rfl) (pe_op op_sub (pv 24) (pe_op op_mul (pv 25) (pv 6))))
  (pss_cons (ps_if (pt_val (pv 13)) (pss_one (ps_expr (pe_bm PySem.F.plainAttrs_list PySem.F.slot_list_append PySem.F.type_list_append mt_append (pv 22) (pa_cons (pe_op (op_repA (K := K) rfl) (pe_tup (pa_cons (pe_call D_law_show.G (hr.mono (by omega)) (by rfl) D_law_show.m D_law_show.kp D_law_show.b .nil pass0 (pa_cons (pe_ix (ixk_list (K := K) rfl) (pv 14) pe_int (fun _ _ => rfl)) (pa_cons (pv 25) (pa_cons (pv 26) pa_nil)))) pa_nil)) (pv 11)) pa_nil)))) (pss_one (ps_expr (pe_bm PySem.F.plainAttrs_list PySem.F.slot_list_append PySem.F.type_list_append mt_append (pv 22) (pa_cons (pe_callTy (callk_tupL (K := K) rfl) (by rfl) Z.tuple (by decide +kernel) (pa_cons (pe_lc (own := [("n", 15)]) (tt := tYes) rfl sc_law_world.nd (pi_range1 (by rfl) Z.range (pa_cons (pv 11) pa_nil)) (blkOk_by (N := ["pool", "at", "world", "bits", "great", "one", "two", "first", "second", "size", "inputs", "count", "outputs", "alike", "made", "n", "moves", "step", "base", "mask", "codes", "start", "look", "after", "k", "p", "q", "rows", "order", "runs", "ways", "due"]) (sc := defScope s_law_world) (by decide +kernel)) (fun _ _ _ _ _ => (pg_name (i := 15) sc_law_world.nd rfl (Or.inl rfl))) (fun _ _ _ _ _ => pts_nil) (fun _ _ _ _ _ => (pe_call D_law_show.G (hr.mono (by omega)) (by rfl) D_law_show.m D_law_show.kp D_law_show.b .nil pass0 (pa_cons (pe_ix (ixk_list (K := K) rfl) (pv 14) (pv 15) (fun _ _ => rfl)) (pa_cons (pv 25) (pa_cons (pv 26) pa_nil)))))) pa_nil)) pa_nil)))))
  (pss_one (ps_expr (pe_bm PySem.F.plainAttrs_list PySem.F.slot_list_append PySem.F.type_list_append mt_append (pv 23) (pa_cons (pe_lc (own := [("n", 15)]) (tt := tYes) rfl sc_law_world.nd (pi_range1 (by rfl) Z.range (pa_cons (pv 11) pa_nil)) (blkOk_by (N := ["pool", "at", "world", "bits", "great", "one", "two", "first", "second", "size", "inputs", "count", "outputs", "alike", "made", "n", "moves", "step", "base", "mask", "codes", "start", "look", "after", "k", "p", "q", "rows", "order", "runs", "ways", "due"]) (sc := defScope s_law_world) (by decide +kernel)) (fun _ _ _ _ _ => (pg_name (i := 15) sc_law_world.nd rfl (Or.inl rfl))) (fun _ _ _ _ _ => pts_nil) (fun _ _ _ _ _ => (pe_call D_law_shifted.G (hr.mono (by omega)) (by rfl) D_law_shifted.m D_law_shifted.kp D_law_shifted.b .nil pass0 (pa_cons (pv 5) (pa_cons (pv 6) (pa_cons (pv 24) (pa_cons (pe_ix (ixk_list (K := K) rfl) (pe_ix (ixk_list (K := K) rfl) (pv 16) (pv 15) (fun _ _ => rfl)) pe_int (fun _ _ => rfl)) (pa_cons (pe_ix (ixk_list (K := K) rfl) (pe_ix (ixk_list (K := K) rfl) (pv 16) (pv 15) (fun _ _ => rfl)) pe_int (fun _ _ => rfl)) pa_nil)))))))) pa_nil))))))))
  (pss_cons (ps_set (i := 27) sc_law_world.nd rfl (Or.inl rfl) (pe_call D_law_rows.G (hr.mono (by omega)) (by rfl) D_law_rows.m D_law_rows.kp D_law_rows.b .nil pass0 (pa_cons (pv 0) (pa_cons (pe_lst (pa_cons (pv 10) (pa_cons (pv 12) (pa_cons (pv 3) pa_nil)))) (pa_cons (pv 20) (pa_cons (pv 22) (pa_cons (pv 23) pa_nil)))))))
  (pss_cons (ps_asg (pe_call D_law_walked.G (hr.mono (by omega)) (by rfl) D_law_walked.m D_law_walked.kp D_law_walked.b .nil pass0 (pa_cons (pv 23) (pa_cons (pv 21) pa_nil))) (pgk_unl (K := K) (n := 2) rfl (by rfl) (pgs_cons (pg_name (i := 28) sc_law_world.nd rfl (Or.inl rfl)) (pgs_cons (pg_name (i := 29) sc_law_world.nd rfl (Or.inl rfl)) pgs_nil))))
  (pss_cons (ps_set (i := 30) sc_law_world.nd rfl (Or.inl rfl) pe_dnewK)
  (pss_cons (ps_for PassesOwn.never rfl (pik_list (K := K) rfl (pv 28)) (pg_name (i := 24) sc_law_world.nd rfl (Or.inr rfl)) (pss_one (ps_dput (hu_of hr) (pv 30) (pe_ix (ixk_list (K := K) rfl) (pv 20) (pv 24) (fun _ _ => rfl)) (pe_dget (hu_of hr) (pv 29) (pv 24) (fun _ _ => rfl)) rfl)))
  (pss_cons (ps_set (i := 31) sc_law_world.nd rfl (Or.inl rfl) (pe_lst (pa_cons (pe_lc (own := [("k", 24)]) (tt := tYes) rfl sc_law_world.nd (pik_list (K := K) rfl (pv 28)) (blkOk_by (N := ["pool", "at", "world", "bits", "great", "one", "two", "first", "second", "size", "inputs", "count", "outputs", "alike", "made", "n", "moves", "step", "base", "mask", "codes", "start", "look", "after", "k", "p", "q", "rows", "order", "runs", "ways", "due"]) (sc := defScope s_law_world) (by decide +kernel)) (fun _ _ _ _ _ => (pg_name (i := 24) sc_law_world.nd rfl (Or.inl rfl))) (fun _ _ _ _ _ => pts_nil) (fun _ _ _ _ _ => (pe_ix (ixk_list (K := K) rfl) (pv 20) (pv 24) (fun _ _ => rfl)))) (pa_cons (pv 30) (pa_cons (pe_call D_law_numbers.G (hr.mono (by omega)) (by rfl) D_law_numbers.m D_law_numbers.kp D_law_numbers.b .nil pass0 (pa_cons (pv 5) (pa_cons (pv 6) (pa_cons (pv 22) (pa_cons (pv 28) pa_nil))))) pa_nil)))))
  (pss_one (ps_ret (pe_lst (pa_cons (pe_lst (pa_cons (pv 10) (pa_cons (pv 12) (pa_cons (pv 3) (pa_cons (pe_ix (ixk_list (K := K) rfl) (pv 20) (pv 21) (fun _ _ => rfl)) (pa_cons (pv 27) pa_nil)))))) (pa_cons (pv 31) pa_nil)))))))))))))))))))))))))))), ?_⟩
  change tSeq _ _ _ [some (.ref a), some (.int (k : Nat)), none, none, none, none, none, none, none, none, none, none, none, none, none, none, none, none, none, none, none, none, none, none, none, none, none, none, none, none, none, none] _
  walk_at "st"
  
  refine ⟨a, k, rfl, hp, fun wd bits gr one two f1 f2 H1 p1 hwd0 hwd ok => ?_⟩
  have ha := pool_some hp
  have b4 := ok.b0
  have b8 := ok.b1
  have o0 := ok.o
  have t0 := ok.t
  have b256 : 2 ^ bits ≤ 256 := Nat.pow_le_pow_right (by decide) b8
  have N256 : one * two ≤ 256 := Nat.le_trans ok.ot b256
  have one256 : one ≤ 256 := Nat.le_trans (Nat.le_mul_of_pos_right one t0) N256
  have two256 : two ≤ 256 := Nat.le_trans (Nat.le_mul_of_pos_left two o0) N256
  have nwd : new H H1 wd = some (.lst [.int (bits : Nat), .int (gr : Nat), .int (one : Nat), .int (two : Nat), .int (f1 : Nat), .int (f2 : Nat)]) := by rw [new_of hwd0]; exact hwd
  walk_at "st"
  refine g_unl (SqL.of hwd) rfl ?_
  walk_at "wp"
  walk_at "st"
  refine ⟨n_pow_shl (by omega), ?_⟩
  walk_at "wn"
  walk_at "st"
  refine ⟨szr rfl, fun t1 ht1 => ?_⟩
  refine p_pickN (ns := [0, 1, 1, 2, 2, 3, 4]) p1.at' ht1 (by decide) (by decide) fun in0 H2 hin p2 => ?_
  walk_at "wp"
  refine ⟨cdivw (m := 2) (by decide) (by decide), ?_⟩
  obtain ⟨ins, ein, i4, joint⟩ : ∃ ins : Nat, (if (12 - ((bits : Nat) : Int)) / 2 < ((in0 : Nat) : Int) then (12 - ((bits : Nat) : Int)) / 2 else ((in0 : Nat) : Int)) = ((ins : Nat) : Int) ∧ ins ≤ 4 ∧ bits + 2 * ins ≤ 12 := by
    have i4 : in0 ≤ 4 := by
      simp only [List.mem_cons, List.not_mem_nil, or_false] at hin
      omega
    by_cases c : (12 - ((bits : Nat) : Int)) / 2 < ((in0 : Nat) : Int)
    · exact ⟨(12 - bits) / 2, by rw [if_pos c]; omega, by omega, by omega⟩
    · exact ⟨in0, by rw [if_neg c], i4, by omega⟩
  rw [ein]
  clear ein hin in0
  have c0 : 0 < 2 ^ ins := Nat.two_pow_pos ins
  have c16 : 2 ^ ins ≤ 16 := Nat.pow_le_pow_right (by decide) i4
  have p02 := p1.trans p2
  walk_at "st"
  refine ⟨n_pow_shl (by omega), ?_⟩
  walk_at "wn"
  walk_at "st"
  refine ⟨szr rfl, fun t2 ht2 => ?_⟩
  refine p_pickN (ns := [1, 2, 2, 3, 3, 1, 24, gr]) p02.at' ht2 (by show 0 < 8; decide) (by show 8 < 1000000; decide) fun outs H3 hout p3 => ?_
  have o24 : outs ≤ 24 := by
    have := ok.g
    simp only [List.mem_cons, List.not_mem_nil, or_false] at hout
    omega
  clear hout
  have p03 := p02.trans p3
  walk_at "st"
  refine or_draw p03.at' rfl fun al H4 p4 => ?_
  have p04 := p03.trans p4
  walk_at "st"
  refine ⟨a, f1, f2, outs, rfl, ok.a.1, by have := ok.a.2; omega, ok.b.1, by have := ok.b.2; omega, o24, p04.at', fun sp ys ss H5 p5 hsp0 hsp hdv hss hsl => ⟨szr rfl, fun M hM => ?_⟩⟩
  have p05 := p04.trans p5
  have M0 : H M = none := p05.free hM
  have aM : a ≠ M := p05.at'.ne hM
  
  -- the shows
  have nsp : new H H5 sp = some (.lst ys) := by rw [new_of (p04.free hsp0)]; exact hsp
  have hmade0 : MadeAt (new H H5) [.ref sp] outs := fun x hx => by
    rw [List.mem_singleton.mp hx]
    exact ⟨sp, ys, ss, rfl, nsp, dvs_same (new_subP fun b e => p04.free e) hdv, hss, hsl⟩
  have nwd5 := nx ha p2 _ _ nwd
  replace nwd5 := nx ha (p3.trans (p4.trans p5)) _ _ nwd5
  obtain ⟨Hm, hHm⟩ := opq (upd H M (.lst []))
  have ha1 : Hm a ≠ none := by rw [hHm]; exact upd_some ha
  have hmM : Hm M = some (.lst []) := by rw [hHm]; exact upd_same
  have en : Same (new H H5) (new Hm H5) := by rw [hHm]; exact n_enter hM
  replace hmade0 := hmade0.same en
  replace nwd5 := en _ _ nwd5
  obtain ⟨Pv, hP⟩ := opq (fun (i : Nat) (σ' : L2.St) (H' : Hp) => ∃ (a15 : Option V) (xs : List V), σ' = [some (.ref a), some (.int (k : Nat)), some (.ref wd), some (.int (bits : Nat)), some (.int (gr : Nat)), some (.int (one : Nat)), some (.int (two : Nat)), some (.int (f1 : Nat)), some (.int (f2 : Nat)), some (.int ((2 ^ bits : Nat) : Int)), some (.int (ins : Nat)), some (.int ((2 ^ ins : Nat) : Int)), some (.int (outs : Nat)), some (.bl al), some (.ref M), a15, none, none, none, none, none, none, none, none, none, none, none, none, none, none, none, none] ∧ PoolX a H H' ∧ Same (new Hm H5) (new Hm H') ∧ H' M = some (.lst xs) ∧ xs.length = i + 1 ∧ MadeAt (new Hm H') xs outs)
  walk_at "st"
  refine f_R2 (by omega) Pv ?_ ?_ ?_
  · rw [hP]
    refine ⟨_, [.ref sp], rfl, p05.put M0 aM, ?_, upd_same, rfl, ?_⟩
    · rw [new_upd hmM]; exact Same.refl _
    · rw [new_upd hmM]; exact hmade0
  · intro i σ' H' hi h
    rw [hP] at h
    obtain ⟨a15, xs, rfl, px, sg, hMx, xl, hmd⟩ := h
    walk_at "wp"
    refine ite_split (fun c => ?_) (fun c => ?_)
    · obtain ⟨x0, hx0⟩ : ∃ x, xs[0]? = some x := ⟨_, List.getElem?_eq_getElem (by omega)⟩
      refine ⟨k_tyL hMx, k_ix (SqL.of hMx) (atI_nat (j := 0) hx0) (k_app hMx (by omega) ?_)⟩
      rw [hP]
      refine ⟨_, xs ++ [x0], rfl, px.put M0 aM, ?_, upd_same, by rw [List.length_append, xl]; rfl, fun x hx => ?_⟩
      · rw [new_upd hmM]; exact sg
      · rw [new_upd hmM]
        rcases List.mem_append.mp hx with m | m
        · exact hmd x m
        · rw [List.mem_singleton.mp m]; exact hmd x0 (List.mem_of_getElem? hx0)
    · refine ⟨k_tyL hMx, a, f1, f2, outs, rfl, ok.a.1, by have := ok.a.2; omega, ok.b.1, by have := ok.b.2; omega, o24, px.at', fun sp2 ys2 ss2 H6 p6 hsp0 hsp hdv hss hsl => ?_⟩
      have hM6 : H6 M = some (.lst xs) := p6.sx _ _ aM.symm hMx
      refine k_app hM6 (by omega) ?_
      have fr : ∀ {b : Addr}, H' b = none → Hm b = none := fun {b} e => by
        have bM : b ≠ M := fun z => by rw [z, hMx] at e; cases e
        rw [hHm, upd_ne bM]
        exact px.free e
      rw [hP]
      refine ⟨_, xs ++ [.ref sp2], rfl, (px.trans p6).put M0 aM, ?_, upd_same, by rw [List.length_append, xl]; rfl, fun x hx => ?_⟩
      · rw [new_upd hmM]; exact sg.trans (nx ha1 p6)
      · rw [new_upd hmM]
        rcases List.mem_append.mp hx with m | m
        · exact (hmd.same (nx ha1 p6)) x m
        · rw [List.mem_singleton.mp m]
          exact ⟨sp2, ys2, ss2, rfl, by rw [new_of (fr hsp0)]; exact hsp, dvs_same (new_subP fun b e => fr e) hdv, hss, hsl⟩
  intro σ' H6 h
  rw [hP] at h
  obtain ⟨a15, mxs, rfl, p06, sg, hMx, mxl, hmd⟩ := h
  have mxl : mxs.length = 2 ^ ins := by omega
  have lv : Same (new Hm H6) (new H H6) := by rw [hHm]; exact n_leave
  replace hmd := hmd.same lv
  have nM : new H H6 M = some (.lst mxs) := by rw [new_of M0]; exact hMx
  have nwd6 := lv _ _ (sg _ _ nwd5)
  clear hP Pv sg hmade0 nwd5 nsp hdv lv en hmM ha1 hHm Hm
  -- the moves
  walk_at "st"
  walk_at "st"
  refine ⟨a, wd, 2 ^ ins, gr, one, two, _, _, _, rfl, c0, c16, o0, by omega, t0, by omega, ?_, new_same _ _ nwd6, p06.at', fun mv mys ms H7 p7 hmv0 hmv hmdv msl => ?_⟩
  · intro z
    rw [z] at hwd0
    exact ha hwd0
  have p07 := p06.trans p7
  have g67 := nx ha p7
  replace nM := g67 _ _ nM
  replace hmd := hmd.same g67
  have nmv : new H H7 mv = some (.lst mys) := by rw [new_of (p06.free hmv0)]; exact hmv
  replace hmdv := dvs_same (new_subP (Hm := H6) (H := H) (H' := H7) fun b e => p06.free e) hmdv
  walk_at "st"
  refine ⟨cdivw (m := 2) (by decide) (by decide), ?_⟩
  rw [show ((2 ^ bits : Nat) : Int) / 2 = ((2 ^ bits / 2 : Nat) : Int) from rfl]
  have sz16 : 16 ≤ 2 ^ bits := Nat.pow_le_pow_right (n := 2) (by decide) b4
  refine p_draw (m := 2 ^ bits / 2) p07.at' (by omega) (by omega) fun st H8 hst p8 => ?_
  have p08 := p07.trans p8
  walk_at "wp"
  refine ⟨cmul_of (by decide) (by decide), ?_⟩
  rw [show (1 : Int) + 2 * ((st : Nat) : Int) = ((2 * st + 1 : Nat) : Int) by omega]
  walk_at "st"
  refine p_draw (m := 2 ^ bits) p08.at' (by omega) (by omega) fun bs H9 hbs p9 => ?_
  have p09 := p08.trans p9
  walk_at "st"
  refine p_draw (m := 2 ^ bits) p09.at' (by omega) (by omega) fun mk H10 hmk p10 => ?_
  have p010 := p09.trans p10
  have g710 := nx ha (p8.trans (p9.trans p10))
  replace nM := g710 _ _ nM
  replace nmv := g710 _ _ nmv
  replace hmd := hmd.same g710
  replace hmdv := dvs_same g710 hmdv
  clear g67 g710
  -- the codes
  walk_at "st"
  refine ⟨cmulr (by omega), ?_⟩
  rw [show ((one : Nat) : Int) * ((two : Nat) : Int) = ((one * two : Nat) : Int) by rw [Int.natCast_mul]]
  obtain ⟨codes, hcodes⟩ := opq ((List.range (one * two)).map (code bits bs (2 * st + 1) mk))
  have cl : codes.length = one * two := by rw [hcodes]; simp
  have cget : ∀ i, i < one * two → codes[i]? = some (code bits bs (2 * st + 1) mk i) := fun i hi => by rw [hcodes, List.getElem?_map, List.getElem?_range hi]; rfl
  have cnd : codes.Nodup := by
    rw [hcodes]
    refine List.pairwise_map.mpr (List.Pairwise.imp_of_mem ?_ List.nodup_range)
    intro x y hx hy hxy e
    have := ok.ot
    exact hxy (code_inj (Nat.lt_of_lt_of_le (List.mem_range.mp hx) this) (Nat.lt_of_lt_of_le (List.mem_range.mp hy) this) e)
  have clt : ∀ c ∈ codes, c < 2 ^ bits := fun c hc => by
    rw [hcodes] at hc
    obtain ⟨k, _, rfl⟩ := List.mem_map.mp hc
    exact code_lt hmk
  refine c_R1 (n := one * two) (by omega) (fun _ => true) (fun i => V.int (codes.getD i 0 : Nat)) (fun D i hD hi => ?_) (fun ca hca => ?_)
  · walk_at "wp"
    refine ⟨cmulr (m := i) (by omega), ?_⟩
    refine cY_at (by omega) rfl ?_
    rw [show ((2 * st + 1 : Nat) : Int) * ((i : Nat) : Int) = (((2 * st + 1) * i : Nat) : Int) by rw [Int.natCast_mul], n_add, show ((2 ^ bits : Nat) : Int) - 1 = ((2 ^ bits - 1 : Nat) : Int) by omega, n_and, n_xor]
    rw [List.getD_eq_getElem?_getD, cget i hi]
    rfl
  rw [← cl, giv_nums]
  have ca0 : H ca = none := p010.free hca
  have p11 := p010.same (same_new hca (.lst (valsN codes)))
  have g11 : Same (new H H10) (new H (upd H10 ca (.lst (valsN codes)))) := new_mono (same_new hca _)
  have nca : new H (upd H10 ca (.lst (valsN codes))) ca = some (.lst (valsN codes)) := by rw [new_of ca0, upd_same]
  generalize upd H10 ca (.lst (valsN codes)) = H11 at p11 g11 nca ⊢
  replace nM := g11 _ _ nM
  replace nmv := g11 _ _ nmv
  replace hmd := hmd.same g11
  replace hmdv := dvs_same g11 hmdv
  clear g11 hwd hwd0 nwd nwd6
  walk_at "st"
  refine ⟨cmulr (by omega), ?_⟩
  rw [show ((one : Nat) : Int) * ((two : Nat) : Int) = ((one * two : Nat) : Int) by rw [Int.natCast_mul]]
  refine p_draw (m := one * two) p11.at' (Nat.mul_pos o0 t0) (by omega) fun fs H12 hfs p12 => ?_
  have g12 := nx ha p12
  replace nM := g12 _ _ nM
  replace nmv := g12 _ _ nmv
  replace nca := g12 _ _ nca
  replace hmd := hmd.same g12
  replace hmdv := dvs_same g12 hmdv
  replace p12 := p11.trans p12
  clear g12
  
  -- looks and what follows
  obtain ⟨R, hR⟩ : ∃ R : Rings, R = ⟨one, two, 2 ^ ins, fun n => ms.getD n (0, 0), fs, o0, t0, hfs⟩ := ⟨_, rfl⟩
  walk_at "st"
  refine ⟨szr rfl, fun L hL => ?_⟩
  have L0 : H L = none := p12.free hL
  have aL : a ≠ L := p12.at'.ne hL
  have p13 := p12.put (o := .lst []) L0 aL
  walk_at "st"
  refine ⟨szr rfl, fun A hA => ?_⟩
  obtain ⟨AL, hA12⟩ := upd_none hA
  have A0 : H A = none := p12.free hA12
  have aA : a ≠ A := p12.at'.ne hA12
  have p14 := p13.put (o := .lst []) A0 aA
  obtain ⟨Hm, hHm⟩ := opq (upd (upd H L (.lst [])) A (.lst []))
  have ha1 : Hm a ≠ none := by rw [hHm]; exact upd_some (upd_some ha)
  have hmL : Hm L = some (.lst []) := by rw [hHm, upd_ne AL.symm, upd_same]
  have hmA : Hm A = some (.lst []) := by rw [hHm, upd_same]
  have fr : ∀ {H' : Hp} {b : Addr}, PoolX a H H' → H' L ≠ none → H' A ≠ none → H' b = none → Hm b = none := fun {H' b} px e1 e2 e => by
    have bL : b ≠ L := fun z => e1 (by rw [← z]; exact e)
    have bA : b ≠ A := fun z => e2 (by rw [← z]; exact e)
    rw [hHm, upd_ne bA, upd_ne bL]
    exact px.free e
  have en : Same (new H H12) (new Hm (upd (upd H12 L (.lst [])) A (.lst []))) := by
    rw [new_upd hmA, new_upd hmL, hHm]
    exact (n_enter hL).trans (n_enter hA12)
  replace nM := en _ _ nM
  replace nmv := en _ _ nmv
  replace nca := en _ _ nca
  replace hmd := hmd.same en
  replace hmdv := dvs_same en hmdv
  have hL14 : upd (upd H12 L (.lst [])) A (.lst []) L = some (.lst []) := by rw [upd_ne AL.symm, upd_same]
  have hA14 : upd (upd H12 L (.lst [])) A (.lst []) A = some (.lst []) := upd_same
  generalize upd (upd H12 L (.lst [])) A (.lst []) = H14 at p14 nM nmv nca hmd hmdv hL14 hA14 ⊢
  clear en
  
  walk_at "st"
  walk_at "st"
  refine ⟨cmulr (by omega), ?_⟩
  rw [show ((one : Nat) : Int) * ((two : Nat) : Int) = ((one * two : Nat) : Int) by rw [Int.natCast_mul]]
  obtain ⟨Pv, hP⟩ := opq (fun (i : Nat) (σ' : L2.St) (H' : Hp) => ∃ (a15 a24 a25 a26 : Option V) (lks afs : List V) (look : Nat → List Nat), σ' = [some (.ref a), some (.int (k : Nat)), some (.ref wd), some (.int (bits : Nat)), some (.int (gr : Nat)), some (.int (one : Nat)), some (.int (two : Nat)), some (.int (f1 : Nat)), some (.int (f2 : Nat)), some (.int ((2 ^ bits : Nat) : Int)), some (.int (ins : Nat)), some (.int ((2 ^ ins : Nat) : Int)), some (.int (outs : Nat)), some (.bl al), some (.ref M), a15, some (.ref mv), some (.int ((2 * st + 1 : Nat) : Int)), some (.int (bs : Nat)), some (.int (mk : Nat)), some (.ref ca), some (.int (fs : Nat)), some (.ref L), some (.ref A), a24, a25, a26, none, none, none, none, none] ∧ PoolX a H H' ∧ Same (new Hm H14) (new Hm H') ∧ H' L = some (.lst lks) ∧ H' A = some (.lst afs) ∧ LookAt (new Hm H') lks look i ∧ AfterAt (new Hm H') afs R.sc (2 ^ ins) i ∧ (∀ k, (look k).length ≤ 16) ∧ ∀ k, k < i → (look k).length = 2 ^ ins ∧ ∀ o ∈ look k, o < 2 ^ outs)
  refine f_R1 (by omega) Pv ?_ ?_ ?_
  · rw [hP]
    exact ⟨_, _, _, _, [], [], fun _ => [], rfl, p14, Same.refl _, hL14, hA14, ⟨rfl, fun k hk => absurd hk (Nat.not_lt_zero _)⟩, ⟨rfl, fun k hk => absurd hk (Nat.not_lt_zero _)⟩, fun k => Nat.zero_le _, fun k hk => absurd hk (Nat.not_lt_zero _)⟩
  · intro i σ' H' hi h
    rw [hP] at h
    obtain ⟨a15, a24, a25, a26, lks, afs, look, rfl, px, sg, hL', hA', hlk, haf, l16, lok⟩ := h
    have L' : H' L ≠ none := fun z => by rw [hL'] at z; cases z
    have A' : H' A ≠ none := fun z => by rw [hA'] at z; cases z
    walk_at "wp"
    walk_at "st"
    refine ⟨cdivw t0 (by omega), ?_⟩
    rw [n_ediv]
    walk_at "st"
    refine ⟨cmulr (by omega), ?_⟩
    rw [sub_mod]
    obtain ⟨Post, hPo⟩ := opq (fun (σ' : L2.St) (H2 : Hp) => ∃ (a15 : Option V) (t : Addr) (os : List Nat), σ' = [some (.ref a), some (.int (k : Nat)), some (.ref wd), some (.int (bits : Nat)), some (.int (gr : Nat)), some (.int (one : Nat)), some (.int (two : Nat)), some (.int (f1 : Nat)), some (.int (f2 : Nat)), some (.int ((2 ^ bits : Nat) : Int)), some (.int (ins : Nat)), some (.int ((2 ^ ins : Nat) : Int)), some (.int (outs : Nat)), some (.bl al), some (.ref M), a15, some (.ref mv), some (.int ((2 * st + 1 : Nat) : Int)), some (.int (bs : Nat)), some (.int (mk : Nat)), some (.ref ca), some (.int (fs : Nat)), some (.ref L), some (.ref A), some (.int (i : Nat)), some (.int ((i / two : Nat) : Int)), some (.int ((i % two : Nat) : Int)), none, none, none, none, none] ∧ PoolX a H H2 ∧ Same (new Hm H') (new Hm H2) ∧ H2 L = some (.lst (lks ++ [.ref t])) ∧ H2 A = some (.lst afs) ∧ new Hm H2 t = some (.tup (valsN os)) ∧ os.length = 2 ^ ins ∧ ∀ o ∈ os, o < 2 ^ outs)
    refine seq_mid Post (fun N hN => ?_) (fun σ2 H2 h2 => ?_)
    · -- a look
      have put : ∀ (H3 : Hp) (t : Addr) (os : List Nat), Same H' H3 → H' t = none → H3 t = some (.tup (valsN os)) → os.length = 2 ^ ins → (∀ o ∈ os, o < 2 ^ outs) → N [some (.ref a), some (.int (k : Nat)), some (.ref wd), some (.int (bits : Nat)), some (.int (gr : Nat)), some (.int (one : Nat)), some (.int (two : Nat)), some (.int (f1 : Nat)), some (.int (f2 : Nat)), some (.int ((2 ^ bits : Nat) : Int)), some (.int (ins : Nat)), some (.int ((2 ^ ins : Nat) : Int)), some (.int (outs : Nat)), some (.bl al), some (.ref M), a15, some (.ref mv), some (.int ((2 * st + 1 : Nat) : Int)), some (.int (bs : Nat)), some (.int (mk : Nat)), some (.ref ca), some (.int (fs : Nat)), some (.ref L), some (.ref A), some (.int (i : Nat)), some (.int ((i / two : Nat) : Int)), some (.int ((i % two : Nat) : Int)), none, none, none, none, none] (upd H3 L (.lst (lks ++ [.ref t]))) := fun H3 t os s3 ht0 ht ol oo => by
        refine hN _ _ ?_
        rw [hPo]
        refine ⟨_, t, os, rfl, (px.same s3).put L0 aL, ?_, upd_same, by rw [upd_ne AL]; exact s3 _ _ hA', ?_, ol, oo⟩
        · rw [new_upd hmL]; exact new_mono s3
        · rw [new_upd hmL, new_of (fr px L' A' ht0)]; exact ht
      walk_at "wp"
      have hM' := new_same _ _ (sg _ _ nM)
      have hmd' := hmd.same sg
      refine ite_split (fun c => ?_) (fun c => ?_)
      · obtain ⟨x0, hx0⟩ : ∃ x, mxs[0]? = some x := ⟨_, List.getElem?_eq_getElem (by omega)⟩
        obtain ⟨l, ys, ss, rfl, hl, hdv, hss, hsl⟩ := hmd' x0 (List.mem_of_getElem? hx0)
        refine ⟨k_tyL hL', k_ix (SqL.of hM') (atI_nat (j := 0) hx0) ?_⟩
        refine ⟨l, i / two, i % two, ys, ss, rfl, new_same _ _ hl, dvs_same new_same hdv, hss, by omega, fun t ht => ⟨szr rfl, fun tp htp => ?_⟩⟩
        have s1 := same_new htp (.tup [.int (t : Nat)])
        refine g_repA (k := 2 ^ ins) upd_same c0 (by omega) fun p2 H3 s2 o2 e2 => ?_
        have s3 := s1.trans s2
        have p20 : H' p2 = none := by
          rcases o2 with e | e
          · rw [e]; exact htp
          · exact s1.free e
        refine k_app (s3 _ _ hL') (by rw [hlk.1]; omega) ?_
        refine put H3 p2 (List.replicate (2 ^ ins) t) s3 p20 (by rw [e2, valsN_rep]) (by simp) fun o ho => ?_
        rw [(List.mem_replicate.mp ho).2, ← hsl]
        exact ht
      · refine ⟨k_tyL hL', ?_⟩
        obtain ⟨Pc, hPc⟩ := opq (fun (D : Addr) (j : Nat) (H3 : Hp) => ∃ ts : List Nat, H3 = upd H' D (.lst (valsN ts)) ∧ ts.length = j ∧ ∀ t ∈ ts, t < 2 ^ outs)
        refine c_R1w (by omega) Pc (fun D hD => ?_) (fun D j H3 hD hj h3 => ?_) (fun D H3 hD h3 => ?_)
        · rw [hPc]
          exact ⟨[], rfl, rfl, fun t ht => by cases ht⟩
        · rw [hPc] at h3
          obtain ⟨ts, rfl, tl, tb⟩ := h3
          have s3 := same_new hD (.lst (valsN ts))
          obtain ⟨x0, hx0⟩ : ∃ x, mxs[j]? = some x := ⟨_, List.getElem?_eq_getElem (by omega)⟩
          obtain ⟨l, ys, ss, rfl, hl, hdv, hss, hsl⟩ := hmd' x0 (List.mem_of_getElem? hx0)
          walk_at "wp"
          refine k_ix (SqL.of (s3 _ _ hM')) (atI_nat hx0) ?_
          refine ⟨l, i / two, i % two, ys, ss, rfl, s3 _ _ (new_same _ _ hl), dvs_same (new_same.trans s3) hdv, hss, by omega, fun t ht => ⟨_, upd_same, szl (by rw [valsN_len]; omega), ?_⟩⟩
          rw [hPc, upd_upd]
          refine ⟨ts ++ [t], by unfold valsN; rw [List.map_append]; rfl, by rw [List.length_append, tl]; rfl, fun o ho => ?_⟩
          rcases List.mem_append.mp ho with m | m
          · exact tb o m
          · rw [List.mem_singleton.mp m, ← hsl]; exact ht
        · rw [hPc] at h3
          obtain ⟨ts, rfl, tl, tb⟩ := h3
          have s3 := same_new hD (.lst (valsN ts))
          refine g_tupL (SqL.of upd_same) fun tp htp => ?_
          obtain ⟨tpD, htp'⟩ := upd_none htp
          have s4 := s3.trans (same_new htp (.tup (valsN ts)))
          exact k_app (s4 _ _ hL') (by rw [hlk.1]; omega) (put _ tp ts s4 htp' upd_same tl tb)
    · rw [hPo] at h2
      obtain ⟨a15, t, os, rfl, p2, s2, hL2, hA2, ht, ol, oo⟩ := h2
      have L2' : H2 L ≠ none := fun z => by rw [hL2] at z; cases z
      have A2' : H2 A ≠ none := fun z => by rw [hA2] at z; cases z
      have hmv2 := new_same _ _ ((sg.trans s2) _ _ nmv)
      have hmdv2 := dvs_same (sg.trans s2) hmdv
      walk_at "wp"
      refine ⟨k_tyL hA2, ?_⟩
      refine c_R1 (n := 2 ^ ins) (by omega) (fun _ => true) (fun n => V.int ((((List.range (2 ^ ins)).map (R.sc i)).getD n 0 : Nat) : Int)) (fun D n hD hn => ?_) (fun p hp3 => ?_)
      · have s3 := same_new hD (.lst (giv n (fun _ => true) (fun n => V.int ((((List.range (2 ^ ins)).map (R.sc i)).getD n 0 : Nat) : Int))))
        obtain ⟨m, hm⟩ : ∃ m, ms[n]? = some m := ⟨_, List.getElem?_eq_getElem (by omega)⟩
        obtain ⟨v, hv, dv⟩ := dvs_get' hmdv2 (i := n) (d := encM m) (by rw [List.getElem?_map, hm]; rfl)
        obtain ⟨l, rfl, hl⟩ := m_dv dv
        have hl3 := s3 _ _ (new_same _ _ hl)
        walk_at "wp"
        refine k_ix (SqL.of (s3 _ _ hmv2)) (atI_nat hv) (k_ix (SqL.of hl3) (v := .int (m.1 : Nat)) rfl ?_)
        refine k_ix (SqL.of (s3 _ _ hmv2)) (atI_nat hv) (k_ix (SqL.of hl3) (v := .int (m.2 : Nat)) rfl ?_)
        refine ⟨one, two, i, (m.1 : Nat), (m.2 : Nat), rfl, o0, t0, by omega, by omega, cY_at (by omega) rfl ?_⟩
        have e : ((List.range (2 ^ ins)).map (R.sc i)).getD n 0 = R.sc i n := by
          rw [List.getD_eq_getElem?_getD, List.getElem?_map, List.getElem?_range hn]
          rfl
        rw [e, hR]
        unfold Rings.sc
        show _ = V.int ((sh one two i ((ms.getD n (0, 0)).1 : Nat) ((ms.getD n (0, 0)).2 : Nat) : Nat) : Int)
        rw [List.getD_eq_getElem?_getD, hm]
        rfl
      · have gl : giv (2 ^ ins) (fun _ => true) (fun n => V.int ((((List.range (2 ^ ins)).map (R.sc i)).getD n 0 : Nat) : Int)) = valsN ((List.range (2 ^ ins)).map (R.sc i)) := by
          have := giv_nums ((List.range (2 ^ ins)).map (R.sc i))
          rw [List.length_map, List.length_range] at this
          exact this
        rw [gl]
        have s3 := same_new hp3 (.lst (valsN ((List.range (2 ^ ins)).map (R.sc i))))
        refine k_app (s3 _ _ hA2) (by rw [haf.1]; omega) ?_
        rw [hP]
        have s4 : Same (new Hm H2) (new Hm (upd H2 p (.lst (valsN ((List.range (2 ^ ins)).map (R.sc i)))))) := new_mono s3
        refine ⟨_, _, _, _, lks ++ [.ref t], afs ++ [.ref p], fun k => if k = i then os else look k, rfl, (p2.same s3).put A0 aA, ?_, by rw [upd_ne AL.symm]; exact s3 _ _ hL2, upd_same, ?_, ?_, fun k => ?_, fun k hk => ?_⟩
        · rw [new_upd hmA]; exact sg.trans (s2.trans s4)
        · rw [new_upd hmA]; exact (hlk.same (s2.trans s4)).snoc (s4 _ _ ht)
        · rw [new_upd hmA]; exact (haf.same (s2.trans s4)).snoc (by rw [new_of (fr p2 L2' A2' hp3), upd_same])
        · show (if k = i then os else look k).length ≤ 16
          split
          · omega
          · exact l16 k
        · show (if k = i then os else look k).length = _ ∧ ∀ o ∈ (if k = i then os else look k), _
          by_cases e : k = i
          · rw [if_pos e]; exact ⟨ol, oo⟩
          · rw [if_neg e]; exact lok k (by omega)
  intro σ' H15 h
  rw [hP] at h
  obtain ⟨a15, a24, a25, a26, lks, afs, look, rfl, p15, sg, hL15, hA15, hlk, haf, l16, lok⟩ := h
  have lv : Same (new Hm H15) (new H H15) := by rw [hHm]; exact n_leave.trans n_leave
  replace nca := lv _ _ (sg _ _ nca)
  replace hlk := hlk.same lv
  replace haf := haf.same lv
  have nL : new H H15 L = some (.lst lks) := by rw [new_of L0]; exact hL15
  have nA : new H H15 A = some (.lst afs) := by rw [new_of A0]; exact hA15
  clear hP Pv sg lv hmd hmdv nM nmv hmL hmA ha1 fr hHm Hm
  walk_at "wp"
  have Rone : R.one = one := by rw [hR]
  have Rtwo : R.two = two := by rw [hR]
  have Rcnt : R.cnt = 2 ^ ins := by rw [hR]
  have Rfirst : R.first = fs := by rw [hR]
  clear hR hcodes cget
  subst Rone Rtwo Rfirst
  -- the rows
  walk_at "st"
  refine ⟨szr rfl, fun ct hct => ?_⟩
  have ct0 : H ct = none := p15.free hct
  have s16 := same_new hct (.lst [.int (ins : Nat), .int (outs : Nat), .int (bits : Nat)])
  have p16 := p15.same s16
  have g16 := new_mono (H := H) s16
  have nct : new H (upd H15 ct (.lst [.int (ins : Nat), .int (outs : Nat), .int (bits : Nat)])) ct = some (.lst [.int (ins : Nat), .int (outs : Nat), .int (bits : Nat)]) := by rw [new_of ct0, upd_same]
  generalize upd H15 ct (.lst [.int (ins : Nat), .int (outs : Nat), .int (bits : Nat)]) = H16 at p16 g16 nct ⊢
  replace nca := g16 _ _ nca
  replace hlk := hlk.same g16
  replace haf := haf.same g16
  replace nL := g16 _ _ nL
  replace nA := g16 _ _ nA
  clear g16 s16 hL15 hA15
  have na : new H H16 a = none := by
    obtain ⟨_, _, _, _, _, e⟩ := hp
    exact new_no e
  refine ⟨a, ct, ca, L, A, new H H16, ins, outs, bits, codes, lks, afs, look, R.sc, rfl, p16.at', new_same, na, nct, nca, nL, nA, by rw [cl]; exact hlk, by rw [cl]; exact haf, i4, o24, b8, by omega, cnd, clt, by rw [cl]; exact lok, by rw [cl]; exact fun u n hu hn => sh_lt R.h1 R.h2 _ _ _, fun rl rxs ps H17 p17 hrl0 hrl hnp psl prok => ?_⟩
  have g17 := nx ha p17
  replace nca := g17 _ _ nca
  replace hlk := hlk.same g17
  replace haf := haf.same g17
  replace nL := g17 _ _ nL
  replace nA := g17 _ _ nA
  have nrl : new H H17 rl = some (.lst rxs) := by rw [new_of (p16.free hrl0)]; exact hrl
  replace hnp := hnp.keep fun b ys e => new_subP (Hm := H16) (H := H) (H' := H17) (fun b e => p16.free e) _ _ e
  replace p17 := p16.trans p17
  clear g17
  obtain ⟨W, e1, e2, e3, e4, e5, e6, e7⟩ : ∃ W : Wd, W.ins = ins ∧ W.outs = outs ∧ W.bits = bits ∧ W.R = R ∧ W.codes = codes ∧ W.look = look ∧ W.rows = ps := ⟨⟨ins, outs, bits, i4, o24, b8, joint, R, Rcnt, codes, cl, cnd, clt, look, by rw [cl]; exact lok, ps, psl, prok⟩, rfl, rfl, rfl, rfl, rfl, rfl, rfl⟩
  subst e1 e2 e3 e4 e5 e6 e7
  have Rcnt' := Rcnt
  -- the walk
  walk_at "st"
  refine ⟨A, afs, W.R.sc, 2 ^ W.ins, W.R.first, W.R.one * W.R.two, rfl, new_same _ _ nA, haf.same new_same, W.R.hf, N256, c16, fun u n hu hn => sh_lt W.R.h1 W.R.h2 _ _ _, fun wp od dd kvs H18 s18 hwp0 ho0 hd0 hwp ho hd hrun => ?_⟩
  walk_at "wp"
  refine g_unl (SqL.of hwp) rfl ?_
  rw [← Rcnt] at ho hrun
  have ho : H18 od = some (.lst (valsN W.R.order)) := ho
  obtain ⟨Ew, hEw⟩ : ∃ E, E = walkE W.R.sc W.R.cnt W.R.first (W.R.one * W.R.two) := ⟨_, rfl⟩
  rw [← hEw] at hrun
  have Ents : W.ents = Ew.map (reEnt W.code) := by rw [hEw]; exact W.ents_eq
  have Eord : W.R.order = nodes Ew := by rw [hEw]; rfl
  have End : (nodes Ew).Nodup := by rw [hEw]; exact (bok_bfs _).nd
  replace hrun := hrun.same (new_subP (Hm := H17) (H := H) (H' := H18) fun b e => p17.free e)
  have p18 := p17.same s18
  have g18 := new_mono (H := H) s18
  replace nca := g18 _ _ nca
  replace hlk := hlk.same g18
  replace nL := g18 _ _ nL
  replace nrl := g18 _ _ nrl
  replace hnp := hnp.keep fun b ys e => g18 _ _ e
  have nod : new H H18 od = some (.lst (valsN W.R.order)) := by rw [new_of (p17.free ho0)]; exact ho
  have ndd : new H H18 dd = some (.dK kvs) := by rw [new_of (p17.free hd0)]; exact hd
  clear g18 haf nA
  
  walk_at "wp"
  walk_at "st"
  intro wy hwy
  have wy0 : H wy = none := p18.free hwy
  obtain ⟨H19, hH19⟩ := opq (upd H18 wy (.dK []))
  have s19 : Same H18 H19 := by rw [hH19]; exact same_new hwy _
  have hwy19 : H19 wy = some (.dK []) := by rw [hH19, upd_same]
  rw [← hH19]
  walk_at "st"
  
  obtain ⟨Pv, hP⟩ := opq (fun (i : Nat) (σ' : L2.St) (H' : Hp) => ∃ (a24 : Option V) (kv2 : List (Key × V)), σ' = [some (.ref a), some (.int (k : Nat)), some (.ref wd), some (.int (W.bits : Nat)), some (.int (gr : Nat)), some (.int (W.R.one : Nat)), some (.int (W.R.two : Nat)), some (.int (f1 : Nat)), some (.int (f2 : Nat)), some (.int ((2 ^ W.bits : Nat) : Int)), some (.int (W.ins : Nat)), some (.int ((2 ^ W.ins : Nat) : Int)), some (.int (W.outs : Nat)), some (.bl al), some (.ref M), a15, some (.ref mv), some (.int ((2 * st + 1 : Nat) : Int)), some (.int (bs : Nat)), some (.int (mk : Nat)), some (.ref ca), some (.int (W.R.first : Nat)), some (.ref L), some (.ref A), a24, a25, a26, some (.ref rl), some (.ref od), some (.ref dd), some (.ref wy), none] ∧ Same H18 H' ∧ H' wy = some (.dK kv2) ∧ RunsAt (new H H') kv2 (W.ents.take i))
  have el : W.ents.length ≤ 256 := Nat.le_trans W.ents_len b256
  have ordl : W.R.order.length = W.ents.length := by rw [Ents, Eord]; unfold nodes; simp
  refine f_L (SqL.of (s19 _ _ ho)) Pv ?_ ?_ ?_ ?_
  · rw [hP]
    exact ⟨_, [], rfl, s19, hwy19, ⟨rfl, fun i e he => by simp at he⟩⟩
  · intro i σ' H' hi h
    rw [hP] at h
    obtain ⟨_, _, _, s20, _⟩ := h
    exact SqL.of (s20 _ _ ho)
  · intro i x σ' H' hi h
    rw [hP] at h
    obtain ⟨a24, kv2, rfl, s20, hw20, hr20⟩ := h
    obtain ⟨u, hu, rfl⟩ := valsN_get hi
    have hu2 := hu
    rw [Eord] at hu2
    unfold nodes at hu2
    rw [List.getElem?_map] at hu2
    obtain ⟨e, he, rfl⟩ := Option.map_eq_some_iff.mp hu2
    have uN : e.node < W.N := W.order_N (List.mem_of_getElem? hu)
    obtain ⟨l, hv, hl⟩ := hrun.at' End he
    have il : i < W.ents.length := by
      have := (List.getElem?_eq_some_iff.mp hu).1
      omega
    have he' : W.ents[i]? = some (reEnt W.code e) := by rw [Ents, List.getElem?_map, he]; rfl
    have wnd : (nodes W.ents).Nodup := W.bok.nd
    have nt : W.code e.node ∉ nodes (W.ents.take i) := by
      rw [nodes_take]
      exact nodup_take wnd (nodes_get he')
    have hv2 : valV kv2 (Sum.inl ((W.code e.node : Nat) : Int)) = none := by
      rcases hr20.val (by rw [nodes_take]; exact take_nodup wnd i) (W.code e.node) with ⟨_, h⟩ | ⟨j, e2, _, hj, hje, _⟩
      · exact h
      · exact absurd (List.mem_map.mpr ⟨e2, List.mem_of_getElem? hj, hje⟩) nt
    walk_at "wp"
    refine d_getK (k := Sum.inl ((e.node : Nat) : Int)) (.of (s20 _ _ hd)) hv ?_
    refine k_ix (SqL.of (s20 _ _ (new_same _ _ nca))) (valsN_at (W.code_get uN)) ?_
    refine d_putK (k := Sum.inl ((W.code e.node : Nat) : Int)) hw20 (by rw [hr20.len, List.length_take]; omega) ?_
    rw [putK_new hv2, hP]
    have k20 : Same (new H H') (new H (upd H' wy (.dK (kv2 ++ [(Sum.inl ((W.code e.node : Nat) : Int), .ref l)])))) → True := fun _ => trivial
    refine ⟨_, kv2 ++ [(Sum.inl ((W.code e.node : Nat) : Int), .ref l)], rfl, same_upd s20 hwy, upd_same, ?_⟩
    rw [take_snoc he']
    have lst : ∀ (b : Addr) (ys : List V), new H H' b = some (.lst ys) → new H (upd H' wy (.dK (kv2 ++ [(Sum.inl ((W.code e.node : Nat) : Int), .ref l)]))) b = some (.lst ys) := fun b ys eb => by
      obtain ⟨q1, q2⟩ := new_get eb
      rw [new_of q1, upd_ne (ne_of q2 hw20 (by intro z; cases z))]
      exact q2
    refine RunsAt.snoc (e := reEnt W.code e) ⟨hr20.len, fun j e2 hj => ?_⟩ (lst _ _ (new_mono s20 _ _ hl))
    obtain ⟨l2, g1, g2⟩ := hr20.get j e2 hj
    exact ⟨l2, g1, lst _ _ g2⟩
  intro σ' H20 h
  rw [hP] at h
  obtain ⟨a24, kv2, rfl, s20, hw20, hr20⟩ := h
  rw [valsN_len, ordl, List.take_length] at hr20
  have p20 := p18.same s20
  have g20 := new_mono (H := H) s20
  replace nca := g20 _ _ nca
  replace hlk := hlk.same g20
  replace nL := g20 _ _ nL
  replace nrl := g20 _ _ nrl
  replace hnp := hnp.keep fun b ys e => g20 _ _ e
  replace nod := g20 _ _ nod
  have nwy : new H H20 wy = some (.dK kv2) := by rw [new_of wy0]; exact hw20
  clear hP Pv g20 hH19 hwy19 s19 H19
  
  walk_at "wp"
  walk_at "st"
  have ol2 : W.ordC.length = (valsN W.R.order).length := by rw [valsN_len, W.ord_len]
  refine c_L (SqL.of (new_same _ _ nod)) (fun _ => true) (fun i => V.int ((W.ordC.getD i 0 : Nat) : Int)) (fun D i x hD hi => ?_) (fun cc hcc => ?_)
  · obtain ⟨u, hu, rfl⟩ := valsN_get hi
    have il := (List.getElem?_eq_some_iff.mp hu).1
    have uN : u < W.N := W.order_N (List.mem_of_getElem? hu)
    walk_at "wp"
    refine k_ix (SqL.of (same_new hD _ _ _ (new_same _ _ nca))) (valsN_at (W.code_get uN)) (cY_at (by omega) rfl ?_)
    rw [List.getD_eq_getElem?_getD, W.ordC_eq, List.getElem?_map, hu]
    rfl
  rw [← ol2, giv_nums]
  have s21 := same_new hcc (.lst (valsN W.ordC))
  have ncc : new H (upd H20 cc (.lst (valsN W.ordC))) cc = some (.lst (valsN W.ordC)) := by rw [new_of (p20.free hcc), upd_same]
  generalize upd H20 cc (.lst (valsN W.ordC)) = H21 at s21 ncc ⊢
  have p21 := p20.same s21
  have g21 := new_mono (H := H) s21
  replace nca := g21 _ _ nca
  replace hlk := hlk.same g21
  replace nL := g21 _ _ nL
  replace nrl := g21 _ _ nrl
  replace hnp := hnp.keep fun b ys e => g21 _ _ e
  replace nod := g21 _ _ nod
  replace nwy := g21 _ _ nwy
  replace hr20 := hr20.same g21
  clear g21
  refine ⟨W.R, W.look, L, od, lks, rfl, by omega, by omega, N256, new_same _ _ nL, hlk.same new_same, l16, new_same _ _ nod, fun nn H22 s22 hn0 hn => ⟨szr rfl, fun du hdu => ?_⟩⟩
  have p22 := p21.same s22
  have s23 := s22.trans (same_new hdu (.lst [.ref cc, .ref wy, .ref nn]))
  have nnn : new H (upd H22 du (.lst [.ref cc, .ref wy, .ref nn])) nn = some (.lst (valsN (W.R.nums W.look))) := by rw [new_of (p21.free hn0)]; exact same_new hdu _ _ _ hn
  have ndu : new H (upd H22 du (.lst [.ref cc, .ref wy, .ref nn])) du = some (.lst [.ref cc, .ref wy, .ref nn]) := by rw [new_of (p22.free hdu), upd_same]
  generalize upd H22 du (.lst [.ref cc, .ref wy, .ref nn]) = H23 at s23 nnn ndu ⊢
  have p23 := p21.same s23
  have g23 := new_mono (H := H) s23
  replace nca := g23 _ _ nca
  replace nrl := g23 _ _ nrl
  replace hnp := hnp.keep fun b ys e => g23 _ _ e
  replace nwy := g23 _ _ nwy
  replace ncc := g23 _ _ ncc
  replace hr20 := hr20.same g23
  clear g23
  walk_at "wp"
  refine k_ix (SqL.of (new_same _ _ nca)) (valsN_at (W.code_get W.R.hf)) ⟨szr rfl, fun ow how => ?_⟩
  have s24 := same_new how (.lst [.int (W.ins : Nat), .int (W.outs : Nat), .int (W.bits : Nat), .int (W.code W.R.first : Nat), .ref rl])
  have now : new H (upd H23 ow (.lst [.int (W.ins : Nat), .int (W.outs : Nat), .int (W.bits : Nat), .int (W.code W.R.first : Nat), .ref rl])) ow = some (.lst [.int (W.ins : Nat), .int (W.outs : Nat), .int (W.bits : Nat), .int (W.code W.R.first : Nat), .ref rl]) := by rw [new_of (p23.free how), upd_same]
  generalize upd H23 ow (.lst [.int (W.ins : Nat), .int (W.outs : Nat), .int (W.bits : Nat), .int (W.code W.R.first : Nat), .ref rl]) = H24 at s24 now ⊢
  have p24 := p23.same s24
  refine ⟨szr rfl, fun p hp9 => ?_⟩
  have g25 : Same (new H H23) (new H (upd H24 p (.lst [.ref ow, .ref du]))) := new_mono (s24.trans (same_new hp9 _))
  have g26 : Same (new H H24) (new H (upd H24 p (.lst [.ref ow, .ref du]))) := new_mono (same_new hp9 _)
  exact q p ow du W rl cc wy nn rxs kv2 _ (p24.same (same_new hp9 _)) (p24.free hp9) upd_same ⟨g26 _ _ now, g25 _ _ nrl, hnp.keep fun b ys e => g25 _ _ e, g25 _ _ ndu, g25 _ _ ncc, g25 _ _ nwy, hr20.same g25, g25 _ _ nnn⟩
end
end Ck
namespace Ck
open PySem L2
/-- what the walk asks of the class Machine -/
structure MT (K : PySem.W.Frag) (mg : Str → Option Value) (C : Addr) : Prop where
  cl : Cls K C
  n1 : NoAttr K C "inputs"
  n2 : NoAttr K C "outputs"
  n3 : NoAttr K C "state_bits"
  n4 : NoAttr K C "reset"
  n5 : NoAttr K C "rows"
  mgC : mg "Machine" = some (.ref C)
/-- a method, an __init__ at its place, with its promise -/
structure Mth (P : Program) (w : World) (K : PySem.W.Frag) (mg : Str → Option Value) (base : Heap) (k : Nat) (C : Addr) (m : Str) (ps : List Str) (sp : Sp) where
  f : Addr
  fd : FuncData
  G : FnOk P w K mg base CX0 k f fd ps sp
  me : Meth K C m f
  b : Binds K fd ps []
structure Ini (P : Program) (w : World) (K : PySem.W.Frag) (mg : Str → Option Value) (base : Heap) (k : Nat) (C : Addr) (ps : List Str) (sp : Sp) where
  f : Addr
  fd : FuncData
  G : FnOk P w K mg base CX0 k f fd ps sp
  mki : Mk K C f
  b : Binds K fd ps []
/-- the attributes, in the order in which __init__ stores them -/
def mF (W : Wd) (t : Addr) : List (Str × V) := [("inputs", .int (W.ins : Nat)), ("outputs", .int (W.outs : Nat)), ("state_bits", .int (W.bits : Nat)), ("reset", .int (W.start : Nat)), ("rows", .ref t)]
def mF1 (W : Wd) : List (Str × V) := [("inputs", V.int (W.ins : Nat))]
def mF2 (W : Wd) : List (Str × V) := [("inputs", V.int (W.ins : Nat)), ("outputs", V.int (W.outs : Nat))]
def mF3 (W : Wd) : List (Str × V) := [("inputs", V.int (W.ins : Nat)), ("outputs", V.int (W.outs : Nat)), ("state_bits", V.int (W.bits : Nat))]
def mF4 (W : Wd) : List (Str × V) := [("inputs", V.int (W.ins : Nat)), ("outputs", V.int (W.outs : Nat)), ("state_bits", V.int (W.bits : Nat)), ("reset", V.int (W.start : Nat))]
section
variable {W : Wd} {t : Addr}
theorem lk_hit {f : Str} {v : V} {r : List (Str × V)} : ((f, v) :: r).lookup f = some v := by simp [List.lookup]
theorem lk_miss {f g : Str} {v : V} {r : List (Str × V)} (h : (f == g) = false) : ((g, v) :: r).lookup f = r.lookup f := by rw [List.lookup_cons, h]
theorem mF_ins : (mF W t).lookup ("inputs" : Str) = some (.int (W.ins : Nat)) := lk_hit
theorem mF_outs : (mF W t).lookup ("outputs" : Str) = some (.int (W.outs : Nat)) := by unfold mF; rw [lk_miss (by decide +kernel), lk_hit]
theorem mF_bits : (mF W t).lookup ("state_bits" : Str) = some (.int (W.bits : Nat)) := by unfold mF; rw [lk_miss (by decide +kernel), lk_miss (by decide +kernel), lk_hit]
theorem mF_reset : (mF W t).lookup ("reset" : Str) = some (.int (W.start : Nat)) := by unfold mF; rw [lk_miss (by decide +kernel), lk_miss (by decide +kernel), lk_miss (by decide +kernel), lk_hit]
theorem mF_rows : (mF W t).lookup ("rows" : Str) = some (.ref t) := by unfold mF; rw [lk_miss (by decide +kernel), lk_miss (by decide +kernel), lk_miss (by decide +kernel), lk_miss (by decide +kernel), lk_hit]
theorem mF_no {m : Str} (h1 : (m == ("inputs" : Str)) = false) (h2 : (m == ("outputs" : Str)) = false) (h3 : (m == ("state_bits" : Str)) = false) (h4 : (m == ("reset" : Str)) = false) (h5 : (m == ("rows" : Str)) = false) : (mF W t).lookup m = none := by
  unfold mF
  rw [lk_miss h1, lk_miss h2, lk_miss h3, lk_miss h4, lk_miss h5]
  rfl
theorem pf_nil {f : Str} {v : V} : putF f v [] = [(f, v)] := rfl
theorem pf_miss {f g : Str} {v u : V} {r : List (Str × V)} (h : ¬ g = f) : putF f v ((g, u) :: r) = (g, u) :: putF f v r := by
  show (if g = f then _ else _) = _
  rw [if_neg h]
end
/-- a machine stands at m -/
structure MAt (G : Hp) (C m : Addr) (W : Wd) (t : Addr) (xs : List V) : Prop where
  ob : ∃ dx, G m = some (.ins C dx (mF W t))
  tu : G t = some (.tup xs)
  np : NpAt G xs W.rows
theorem MAt.same {G G' : Hp} {C m t : Addr} {W : Wd} {xs : List V} (s : Same G G') (h : MAt G C m W t xs) : MAt G' C m W t xs := ⟨by
  obtain ⟨dx, e⟩ := h.ob
  exact ⟨dx, s _ _ e⟩, s _ _ h.tu, h.np.keep fun b ys e => s _ _ e⟩
section
variable {P : Program} {w : World} {K : PySem.W.Frag} {mg : Str → Option Value} {base : Heap} {f C : Addr} {fd : FuncData}
/-! ### check_counts -/
abbrev s_check_counts : Stmt := top 14
theorem sc_check_counts : FnScope ["inputs", "outputs", "state_bits"] ["inputs", "outputs", "state_bits"] (defScope s_check_counts) := ⟨rfl, rfl, rfl, by decide +kernel, rfl, by decide +kernel, by decide +kernel⟩
def spCounts : Sp := fun vs H Q _ => ∃ i o b : Nat, vs = [.int (i : Nat), .int (o : Nat), .int (b : Nat)] ∧ i ≤ 4 ∧ o ≤ 24 ∧ b ≤ 8 ∧ b + 2 * i ≤ 12 ∧ Q .non H
theorem ok_check_counts (g_INPUT_LIMIT : ∃ t, mg "INPUT_LIMIT" = some (.int 4 t)) (g_OUTPUT_LIMIT : ∃ t, mg "OUTPUT_LIMIT" = some (.int 24 t)) (g_STATE_LIMIT : ∃ t, mg "STATE_LIMIT" = some (.int 8 t)) (g_JOINT_LIMIT : ∃ t, mg "JOINT_LIMIT" = some (.int 12 t)) (F : Fun K "check_counts" "check_counts" s_check_counts f fd) (Z : Bl mg) : FnOk P w K mg base CX0 1 f fd ["inputs", "outputs", "state_bits"] spCounts := by
  refine F.ok sc_check_counts (fun vs H Q E h => ?_) (fun cdv A outer s H vs Q E hr h => ?_)
  · obtain ⟨i, o, b, rfl, _⟩ := h
    rfl
  obtain ⟨i, o, b, rfl, h1, h2, h3, h4, q⟩ := h
  refine ⟨_, (pss_cons (ps_if (pt_cmpR op_gt (pv 0) (pe_globI rfl g_INPUT_LIMIT) (nomark _)) (pss_one ps_never) pss_nil)
  (pss_cons (ps_if (pt_cmpR op_gt (pv 1) (pe_globI rfl g_OUTPUT_LIMIT) (nomark _)) (pss_one ps_never) pss_nil)
  (pss_cons (ps_if (pt_cmpR op_gt (pv 2) (pe_globI rfl g_STATE_LIMIT) (nomark _)) (pss_one ps_never) pss_nil)
  (pss_one (ps_if (pt_cmpR op_gt (pe_op op_add (pv 2) (pe_op op_mul pe_int (pv 0))) (pe_globI rfl g_JOINT_LIMIT) (nomark _)) (pss_one ps_never) pss_nil))))), ?_⟩
  change tSeq _ _ _ [some (.int (i : Nat)), some (.int (o : Nat)), some (.int (b : Nat))] _
  walk_at "st"
  refine ite_split (fun c => absurd (of_decide_eq_true c) (by omega)) (fun _ => ?_)
  walk_at "st"
  refine ite_split (fun c => absurd (of_decide_eq_true c) (by omega)) (fun _ => ?_)
  walk_at "st"
  refine ite_split (fun c => absurd (of_decide_eq_true c) (by omega)) (fun _ => ?_)
  walk_at "wp"
  refine ⟨cmul_of (by decide) (by decide), ?_⟩
  refine ite_split (fun c => absurd (of_decide_eq_true c) (by omega)) (fun _ => ?_)
  exact q
/-! ### Machine.has_right_rows -/
abbrev s_Machine_has_right_rows : Stmt := inClass (top 15) 1
theorem sc_Machine_has_right_rows : FnScope ["self", "states", "output", "state"] ["self"] (defScope s_Machine_has_right_rows) := ⟨rfl, rfl, rfl, by decide +kernel, rfl, by decide +kernel, by decide +kernel⟩
def spRightRows (C : Addr) : Sp := fun vs H Q _ => ∃ (m : Addr) (W : Wd) (t : Addr) (xs : List V), vs = [.ref m] ∧ MAt H C m W t xs ∧ Q (.bl true) H
theorem ok_Machine_has_right_rows (T_Machine : MT K mg C) (F : Fun K "has_right_rows" "Machine.has_right_rows" s_Machine_has_right_rows f fd) (Z : Bl mg) : FnOk P w K mg base CX0 1 f fd ["self"] (spRightRows C) := by
  refine F.ok sc_Machine_has_right_rows (fun vs H Q E h => ?_) (fun cdv A outer s H vs Q E hr h => ?_)
  · obtain ⟨m, W, t, xs, rfl, _⟩ := h
    rfl
  obtain ⟨m, W, t, xs, rfl, hm, q⟩ := h
  obtain ⟨dx, ob⟩ := hm.ob
  have T := T_Machine
  refine ⟨_, (pss_cons (ps_set (i := 1) sc_Machine_has_right_rows.nd rfl (Or.inl rfl) (pe_op op_shl pe_int (fldk (K := K) rfl (pv 0) rfl)))
  (pss_cons (ps_if (PW.pt (pw_or (pt_cmpR op_ne (pe_callB (callk_lenT (K := K) rfl) (by rfl) Z.len (by decide +kernel) (pa_cons (fldk (K := K) rfl (pv 0) rfl) pa_nil)) (pe_op op_shl pe_int (pe_op op_add (fldk (K := K) rfl (pv 0) rfl) (fldk (K := K) rfl (pv 0) rfl))) (nomark _)) (pw_or1 (pt_not (pt_chain op_le op_lt pe_int (fldk (K := K) rfl (pv 0) rfl) (pv 1)))))) (pss_one (ps_ret pe_bl)) pss_nil)
  (pss_cons (ps_for PassesOwn.never rfl (pik_tup (K := K) rfl (fldk (K := K) rfl (pv 0) rfl)) (pgk_tup (K := K) (n := 2) rfl (by rfl) (pgs_cons (pg_name (i := 2) sc_Machine_has_right_rows.nd rfl (Or.inl rfl)) (pgs_cons (pg_name (i := 3) sc_Machine_has_right_rows.nd rfl (Or.inl rfl)) pgs_nil))) (pss_one (ps_if (PW.pt (pw_or (pt_not (pt_chain op_le op_lt pe_int (pv 2) (pe_op op_shl pe_int (fldk (K := K) rfl (pv 0) rfl)))) (pw_or1 (pt_not (pt_chain op_le op_lt pe_int (pv 3) (pv 1)))))) (pss_one (ps_ret pe_bl)) pss_nil)))
  (pss_one (ps_ret pe_bl))))), ?_⟩
  
  change tSeq _ _ _ [some (.ref m), none, none, none] _
  have xl : xs.length = 2 ^ W.bits * 2 ^ W.ins := by rw [hm.np.len, W.rl]
  have b256 := W.b256
  have sl := W.start_lt
  have b8 := W.b8
  have i4 := W.i4
  have o24 := W.o24
  walk_at "st"
  refine g_fld ob T.cl T.n3 mF_bits ?_
  walk_at "wp"
  refine ⟨n_pow_shl (by omega), ?_⟩
  walk_at "wn"
  walk_at "st"
  refine g_fld ob T.cl T.n5 mF_rows ?_
  refine g_lenT (SqT.of hm.tu) ?_
  walk_at "wp"
  refine g_fld ob T.cl T.n3 mF_bits ?_
  walk_at "wp"
  refine g_fld ob T.cl T.n1 mF_ins ?_
  walk_at "wp"
  rw [n_add]
  refine ⟨n_pow_shl (by omega), ?_⟩
  rw [n_shl, xl, Nat.pow_add]
  walk_at "wp"
  refine g_fld ob T.cl T.n4 mF_reset ?_
  walk_at "wp"
  rw [if_pos (decide_eq_true (by omega)), if_neg (by rw [decide_eq_true (by omega)]; decide)]
  
  walk_at "st"
  refine g_fld ob T.cl T.n5 mF_rows ?_
  obtain ⟨Pv, hP⟩ := opq (fun (i : Nat) (σ' : L2.St) (H' : Hp) => ∃ (a2 a3 : Option V), σ' = [some (.ref m), some (.int ((2 ^ W.bits : Nat) : Int)), a2, a3] ∧ H' = H)
  refine f_T (SqT.of hm.tu) Pv ?_ ?_ ?_ ?_
  · rw [hP]
    exact ⟨_, _, rfl, rfl⟩
  · intro i σ' H' hi h
    rw [hP] at h
    obtain ⟨_, _, _, rfl⟩ := h
    exact SqT.of hm.tu
  · intro i x σ' H' hi h
    rw [hP] at h
    obtain ⟨a2, a3, rfl, rfl⟩ := h
    have il := (List.getElem?_eq_some_iff.mp hi).1
    obtain ⟨p, hp⟩ : ∃ p, W.rows[i]? = some p := ⟨_, List.getElem?_eq_getElem (by rw [← hm.np.len]; exact il)⟩
    obtain ⟨l, hl, hl'⟩ := hm.np.get i p hp
    rw [hi] at hl
    obtain rfl := Option.some.inj hl
    obtain ⟨r1, r2, _⟩ := W.rok i p hp
    refine g_tup (SqT.of hl') rfl ?_
    walk_at "wp"
    rw [if_pos (decide_eq_true (by omega))]
    refine g_fld ob T.cl T.n2 mF_outs ?_
    walk_at "wp"
    refine ⟨n_pow_shl (by omega), ?_⟩
    rw [n_shl, if_neg (by rw [decide_eq_true (by omega)]; decide)]
    rw [if_pos (decide_eq_true (by omega)), if_neg (by rw [decide_eq_true (by omega)]; decide)]
    rw [hP]
    exact ⟨_, _, rfl, rfl⟩
  · intro σ' H' h
    rw [hP] at h
    obtain ⟨_, _, rfl, rfl⟩ := h
    walk_at "wp"
    exact q
/-! ### Machine.__init__ -/
abbrev s_Machine_init : Stmt := inClass (top 15) 0
theorem sc_Machine_init : FnScope ["self", "inputs", "outputs", "state_bits", "reset", "rows", "row"] ["self", "inputs", "outputs", "state_bits", "reset", "rows"] (defScope s_Machine_init) := ⟨rfl, rfl, rfl, by decide +kernel, rfl, by decide +kernel, by decide +kernel⟩
def spMake (C : Addr) : Sp := fun vs H Q _ => ∃ (x dx rl : Addr) (W : Wd) (xs : List V), vs = [.ref x, .int (W.ins : Nat), .int (W.outs : Nat), .int (W.bits : Nat), .int (W.start : Nat), .ref rl] ∧ H x = some (.ins C dx []) ∧ H rl = some (.lst xs) ∧ NpAt H xs W.rows ∧
  ∀ (t : Addr) H', SameX x H H' → H t = none → MAt H' C x W t xs → Q .non H'
theorem ok_Machine_init (T_Machine : MT K mg C) (D_check_counts : Fn P w K mg base 1 "check_counts" ["inputs", "outputs", "state_bits"] spCounts) (D_Machine_has_right_rows : Mth P w K mg base 1 C "has_right_rows" ["self"] (spRightRows C)) (F : Fun K "__init__" "Machine.__init__" s_Machine_init f fd) (Z : Bl mg) : FnOk P w K mg base CX0 2 f fd ["self", "inputs", "outputs", "state_bits", "reset", "rows"] (spMake C) := by
  refine F.ok sc_Machine_init (fun vs H Q E h => ?_) (fun cdv A outer s H vs Q E hr h => ?_)
  · obtain ⟨x, dx, rl, W, xs, rfl, _⟩ := h
    rfl
  obtain ⟨x, dx, rl, W, xs, rfl, hx, hrl, np, q⟩ := h
  have T := T_Machine
  refine ⟨_, (pss_cons (ps_expr (pe_call D_check_counts.G (hr.mono (by omega)) (by rfl) D_check_counts.m D_check_counts.kp D_check_counts.b .nil pass0 (pa_cons (pv 1) (pa_cons (pv 2) (pa_cons (pv 3) pa_nil)))))
  (pss_cons (psk_fld (K := K) rfl (pv 0) (pv 1) rfl)
  (pss_cons (psk_fld (K := K) rfl (pv 0) (pv 2) rfl)
  (pss_cons (psk_fld (K := K) rfl (pv 0) (pv 3) rfl)
  (pss_cons (psk_fld (K := K) rfl (pv 0) (pv 4) rfl)
  (pss_cons (psk_fld (K := K) rfl (pv 0) (pe_callTy (callk_tupL (K := K) rfl) (by rfl) Z.tuple (by decide +kernel) (pa_cons (pe_lc (own := [("row", 6)]) (tt := tYes) rfl sc_Machine_init.nd (pik_list (K := K) rfl (pv 5)) (blkOk_by (N := ["self", "inputs", "outputs", "state_bits", "reset", "rows", "row"]) (sc := defScope s_Machine_init) (by decide +kernel)) (fun _ _ _ _ _ => (pg_name (i := 6) sc_Machine_init.nd rfl (Or.inl rfl))) (fun _ _ _ _ _ => pts_nil) (fun _ _ _ _ _ => (pe_callTy (callk_tupT (K := K) rfl) (by rfl) Z.tuple (by decide +kernel) (pa_cons (pv 6) pa_nil)))) pa_nil)) rfl)
  (pss_one (ps_if (pt_not (pt_val (pe_meth0 (pv 0) T_Machine.cl D_Machine_has_right_rows.me D_Machine_has_right_rows.G (hr.mono (by omega)) D_Machine_has_right_rows.b .nil pass0))) (pss_one ps_never) pss_nil)))))))), ?_⟩
  
  change tSeq _ _ _ [some (.ref x), some (.int (W.ins : Nat)), some (.int (W.outs : Nat)), some (.int (W.bits : Nat)), some (.int (W.start : Nat)), some (.ref rl), none] _
  walk_at "st"
  refine ⟨W.ins, W.outs, W.bits, rfl, W.i4, W.o24, W.b8, W.joint, ?_⟩
  walk_at "st"
  have e1 : putF ("inputs" : Str) (V.int (W.ins : Nat)) [] = (mF1 W) := rfl
  have e2 : putF ("outputs" : Str) (V.int (W.outs : Nat)) (mF1 W) = (mF2 W) := by simp only [mF1, mF2, mF3, mF4]; rw [pf_miss (by decide +kernel), pf_nil]
  have e3 : putF ("state_bits" : Str) (V.int (W.bits : Nat)) (mF2 W) = (mF3 W) := by simp only [mF1, mF2, mF3, mF4]; rw [pf_miss (by decide +kernel), pf_miss (by decide +kernel), pf_nil]
  have e4 : putF ("reset" : Str) (V.int (W.start : Nat)) (mF3 W) = (mF4 W) := by simp only [mF1, mF2, mF3, mF4]; rw [pf_miss (by decide +kernel), pf_miss (by decide +kernel), pf_miss (by decide +kernel), pf_nil]
  have e5 : ∀ t : Addr, putF ("rows" : Str) (V.ref t) (mF4 W) = mF W t := fun t => by simp only [mF1, mF2, mF3, mF4]; rw [pf_miss (by decide +kernel), pf_miss (by decide +kernel), pf_miss (by decide +kernel), pf_miss (by decide +kernel), pf_nil]; rfl
  refine g_sfld hx T.cl T.n1 (by simp) ?_
  rw [e1]
  walk_at "wp"
  walk_at "st"
  refine g_sfld (fs := mF1 W) upd_same T.cl T.n2 (by show 1 < 1000; decide) ?_
  rw [e2, upd_upd]
  walk_at "wp"
  walk_at "st"
  refine g_sfld (fs := mF2 W) upd_same T.cl T.n3 (by show 2 < 1000; decide) ?_
  rw [e3, upd_upd]
  walk_at "wp"
  walk_at "st"
  refine g_sfld (fs := mF3 W) upd_same T.cl T.n4 (by show 3 < 1000; decide) ?_
  rw [e4, upd_upd]
  have hx1 : upd H x (.ins C dx (mF4 W)) x = some (.ins C dx (mF4 W)) := upd_same
  have sx1 : SameX x H (upd H x (.ins C dx (mF4 W))) := SameX.upd x H _
  generalize upd H x (.ins C dx (mF4 W)) = H1 at hx1 sx1 ⊢
  have rlx : rl ≠ x := ne_of hrl hx (by intro z; cases z)
  have xl : xs.length ≤ 4096 := by
    rw [np.len, W.rl]
    exact Nat.mul_le_mul W.b256 W.c16
  have np1 : NpAt H1 xs W.rows := np.keep fun b ys e => sx1 _ _ (ne_of e hx (by intro z; cases z)) e
  walk_at "wp"
  walk_at "st"
  refine c_L (SqL.of (sx1 _ _ rlx hrl)) (fun _ => true) (fun i => xs.getD i .non) (fun D i y hD hi => ?_) (fun D hD => ?_)
  · have il := (List.getElem?_eq_some_iff.mp hi).1
    obtain ⟨p, hp⟩ : ∃ p, W.rows[i]? = some p := ⟨_, List.getElem?_eq_getElem (by rw [← np.len]; exact il)⟩
    obtain ⟨l, hl, hl'⟩ := np1.get i p hp
    rw [hi] at hl
    obtain rfl := Option.some.inj hl
    walk_at "wp"
    refine g_tupT (SqT.of (same_new hD _ _ _ hl')) (cY_at (by omega) rfl ?_)
    rw [List.getD_eq_getElem?_getD, hi]
    rfl
  · have gx : giv xs.length (fun _ => true) (fun i => xs.getD i V.non) = xs := by
      have := giv_filter xs V.non fun _ => true
      rw [this, List.filter_eq_self.mpr fun _ _ => rfl]
    rw [gx]
    refine g_tupL (SqL.of upd_same) fun t ht => ?_
    obtain ⟨tD, ht1⟩ := upd_none ht
    have s2 := (same_new hD (.lst xs)).trans (same_new ht (.tup xs))
    have ht2 : upd (upd H1 D (.lst xs)) t (.tup xs) t = some (.tup xs) := upd_same
    generalize upd (upd H1 D (.lst xs)) t (.tup xs) = H2 at s2 ht2 ⊢
    have tx : t ≠ x := fun z => by rw [z, hx1] at ht1; cases ht1
    have t0 : H t = none := sx1.free tx ht1
    refine g_sfld (fs := mF4 W) (s2 _ _ hx1) T.cl T.n5 (by show 4 < 1000; decide) ?_
    rw [e5]
    have sx3 : SameX x H (upd H2 x (.ins C dx (mF W t))) := (sx1.trans (SameX.of s2)).here
    have m3 : MAt (upd H2 x (.ins C dx (mF W t))) C x W t xs := ⟨⟨dx, upd_same⟩, by rw [upd_ne tx]; exact ht2, np.keep fun b ys e => sx3 _ _ (ne_of e hx (by intro z; cases z)) e⟩
    walk_at "wp"
    refine g_meth upd_same (mF_no (by decide +kernel) (by decide +kernel) (by decide +kernel) (by decide +kernel) (by decide +kernel)) ?_
    refine ⟨x, W, t, xs, rfl, m3, ?_⟩
    walk_at "wp"
    exact q t _ sx3 t0 m3
end
end Ck
local macro_rules | `(tactic| walk_at "wp") => `(tactic| try simp only [Ck.w_var0, Ck.w_varS, Ck.w_c, Ck.w_op, Ck.w_un, Ck.w_i0, Ck.w_i, Ck.w_u, Ck.w_test, Ck.w_B, Ck.w_and, Ck.w_or, Ck.w_not, Ck.w_andV, Ck.w_notV, Ck.w_orV, Ck.w_max2, Ck.w_eqI, Ck.w_neI, Ck.w_neB, Ck.w_eqB, Ck.w_nil, Ck.w_cons, Ck.w_tup, Ck.w_lst, Ck.w_cb, Ck.w_call, Ck.w_asg, Ck.w_name, Ck.w_ret, Ck.w_drop, Ck.w_next, Ck.w_ifs, Ck.w_ifx, Ck.w_set0, Ck.w_setS, Ck.w_bm, Ck.w_sub, Ck.w_sl, L2.V.int.injEq, L2.V.bl.injEq, L2.V.ref.injEq, List.cons.injEq, List.append_nil, List.nil_append, List.cons_append, and_true, true_and, and_self, exists_eq_left', exists_eq_left, exists_eq', exists_eq, reduceCtorEq, false_and, exists_false, or_false, false_or, exists_const, Ck.w_intI, Ck.w_intB, Ck.w_absI, Ck.cx_K, forall_const, Ck.w_forR1, Ck.w_forR2, Ck.w_forL, Ck.w_forI, Ck.w_lcR1, Ck.w_lcL, Ck.w_lcK, Ck.w_yes, Ck.w_wipe0, Ck.w_wipeS, Ck.w_gnil, Ck.w_gcons, Ck.w_dnewT, Ck.w_dnewK, Ck.w_disp1, Ck.w_dput, Ck.w_dget, Ck.w_din, Ck.w_dnotin, Ck.w_bits, Ck.w_tru, Ck.w_part, Ck.w_ipI, Ck.w_pnone, Ck.w_fld, Ck.w_sfld, Ck.w_meth, Ck.w_make, Ck.w_chain, Ck.w_retN, Ck.w_rev, Ck.w_forT, Ck.w_forZ, Ck.w_forE, Ck.w_lcT, Ck.w_dcZ, Ck.w_dnewN, Ck.w_dniN, Ck.w_dgetN, Ck.w_dputN, eq_self, if_true, if_false, Option.isSome_some, decide_true, decide_false, Option.isSome_none, Bool.not_true, Bool.not_false, Bool.false_eq_true, List.map_cons, List.map_nil])

namespace Ck
open PySem L2
/-- a dict beside the entries: each entry's last step -/
def StV (G : Hp) (e : Ent) (v : V) : Prop := match e.par with
  | none => v = .non
  | some p => ∃ t : Addr, v = .ref t ∧ G t = some (.tup [.int (p.1 : Nat), .int (p.2 : Nat)])
theorem StV.same {G G' : Hp} {e : Ent} {v : V} (s : ∀ b ys, G b = some (.tup ys) → G' b = some (.tup ys)) (h : StV G e v) : StV G' e v := by
  unfold StV at h ⊢
  cases q : e.par with
  | none => rw [q] at h; exact h
  | some p =>
    rw [q] at h
    obtain ⟨t, h1, h2⟩ := h
    exact ⟨t, h1, s _ _ h2⟩
structure StAt (G : Hp) (kvs : List (Key × V)) (E : List Ent) : Prop where
  len : kvs.length = E.length
  get : ∀ (i : Nat) (e : Ent), E[i]? = some e → ∃ v : V, kvs[i]? = some (Sum.inl ((e.node : Nat) : Int), v) ∧ StV G e v
theorem StAt.same {G G' : Hp} {kvs : List (Key × V)} {E : List Ent} (s : ∀ b ys, G b = some (.tup ys) → G' b = some (.tup ys)) (h : StAt G kvs E) : StAt G' kvs E := ⟨h.len, fun i e he => by
  obtain ⟨l, h1, h2⟩ := h.get i e he
  exact ⟨l, h1, h2.same s⟩⟩
theorem StAt.snoc {G : Hp} {kvs : List (Key × V)} {E : List Ent} {e : Ent} {v : V} (h : StAt G kvs E) (hl : StV G e v) : StAt G (kvs ++ [(Sum.inl ((e.node : Nat) : Int), v)]) (E ++ [e]) := ⟨by rw [List.length_append, List.length_append, h.len]; rfl, fun i x hx => by
  by_cases c : i < E.length
  · rw [List.getElem?_append_left c] at hx
    obtain ⟨l', h1, h2⟩ := h.get i x hx
    exact ⟨l', by rw [List.getElem?_append_left (by rw [h.len]; exact c)]; exact h1, h2⟩
  · have il : i = E.length := by
      have := (List.getElem?_eq_some_iff.mp hx).1
      rw [List.length_append, List.length_singleton] at this
      omega
    subst il
    rw [List.getElem?_append_right (Nat.le_refl _), Nat.sub_self] at hx
    simp at hx
    subst hx
    refine ⟨v, ?_, hl⟩
    rw [← h.len, List.getElem?_append_right (Nat.le_refl _), Nat.sub_self]
    rfl⟩
theorem StAt.val {G : Hp} {kvs : List (Key × V)} {E : List Ent} (h : StAt G kvs E) (x : Nat) : (x ∉ nodes E ∧ valV kvs (Sum.inl ((x : Nat) : Int)) = none) ∨ ∃ (i : Nat) (e : Ent) (v : V), E[i]? = some e ∧ e.node = x ∧ valV kvs (Sum.inl ((x : Nat) : Int)) = some v ∧ StV G e v := by
  have keys : ∀ p ∈ kvs, ∃ (i : Nat) (e : Ent) (v : V), E[i]? = some e ∧ p = (Sum.inl ((e.node : Nat) : Int), v) ∧ StV G e v := fun p hp => by
    obtain ⟨i, hi⟩ := List.getElem?_of_mem hp
    have il := (List.getElem?_eq_some_iff.mp hi).1
    rw [h.len] at il
    obtain ⟨l, h1, h2⟩ := h.get i E[i] (List.getElem?_eq_getElem il)
    rw [hi] at h1
    exact ⟨i, E[i], l, List.getElem?_eq_getElem il, Option.some.inj h1, h2⟩
  unfold valV
  cases q : kvs.find? fun kv => decide (kv.1 = Sum.inl ((x : Nat) : Int)) with
  | none =>
    refine .inl ⟨fun hx => ?_, rfl⟩
    obtain ⟨e, he, rfl⟩ := List.mem_map.mp hx
    obtain ⟨i, hi⟩ := List.getElem?_of_mem he
    obtain ⟨l, h1, _⟩ := h.get i e hi
    have := List.find?_eq_none.mp q _ (List.mem_of_getElem? h1)
    simp at this
  | some p =>
    have pm := List.mem_of_find?_eq_some q
    have pk := List.find?_some q
    obtain ⟨i, e, l, h1, rfl, h3⟩ := keys p pm
    refine .inr ⟨i, e, l, h1, ?_, rfl, h3⟩
    have := of_decide_eq_true pk
    have := Sum.inl.inj this
    exact Int.ofNat.inj this
theorem StAt.at' {G : Hp} {kvs : List (Key × V)} {E : List Ent} (h : StAt G kvs E) (nd : (nodes E).Nodup) {i : Nat} {e : Ent} (he : E[i]? = some e) : ∃ v : V, valV kvs (Sum.inl ((e.node : Nat) : Int)) = some v ∧ StV G e v := by
  rcases h.val e.node with ⟨hn, _⟩ | ⟨j, e', l, hj, hje, hv, hl⟩
  · exact absurd (List.mem_map.mpr ⟨e, List.mem_of_getElem? he, rfl⟩) hn
  · have q1 := nodes_get hj
    have q2 := nodes_get he
    rw [hje] at q1
    have ij : j = i := (List.getElem?_inj (List.getElem?_eq_some_iff.mp q1).1 nd).mp (q1.trans q2.symm)
    rw [ij, he] at hj
    obtain rfl := Option.some.inj hj
    exact ⟨l, hv, hl⟩
section
variable {P : Program} {w : World} {K : PySem.W.Frag} {mg : Str → Option Value} {base : Heap} {f C : Addr} {fd : FuncData}
/-! ### rows_of -/
abbrev s_rows_of : Stmt := top 5
theorem sc_rows_of : FnScope ["machine", "state"] ["machine", "state"] (defScope s_rows_of) := ⟨rfl, rfl, rfl, by decide +kernel, rfl, by decide +kernel, by decide +kernel⟩
def spRowsOf (C : Addr) : Sp := fun vs H Q _ => ∃ (m : Addr) (s : Nat) (W : Wd) (t : Addr) (xs : List V), vs = [.ref m, .int (s : Nat)] ∧ MAt H C m W t xs ∧ s < 2 ^ W.bits ∧
  ∀ (p : Addr) (ys : List V) H', Same H H' → H' p = some (.tup ys) → NpAt H' ys ((List.range (2 ^ W.ins)).map (W.row s)) → Q (.ref p) H'
/-- the rows of one state among all -/
theorem rows_part {G : Hp} {W : Wd} {xs : List V} {s : Nat} (np : NpAt G xs W.rows) (hs : s < 2 ^ W.bits) : NpAt G ((xs.drop (s * 2 ^ W.ins)).take ((s + 1) * 2 ^ W.ins - s * 2 ^ W.ins)) ((List.range (2 ^ W.ins)).map (W.row s)) := by
  have e : (s + 1) * 2 ^ W.ins - s * 2 ^ W.ins = 2 ^ W.ins := by rw [Nat.succ_mul, Nat.add_sub_cancel_left]
  have l1 : (s + 1) * 2 ^ W.ins ≤ 2 ^ W.bits * 2 ^ W.ins := Nat.mul_le_mul_right _ hs
  rw [e]
  refine ⟨?_, fun j p hj => ?_⟩
  · rw [List.length_take, List.length_drop, np.len, W.rl, List.length_map, List.length_range]
    rw [Nat.succ_mul] at l1
    omega
  · have jl := (List.getElem?_eq_some_iff.mp hj).1
    rw [List.length_map, List.length_range] at jl
    rw [List.getElem?_map, List.getElem?_range jl] at hj
    obtain rfl := Option.some.inj hj
    obtain ⟨t, h1, h2⟩ := np.get _ _ (W.row_get hs jl)
    exact ⟨t, by rw [List.getElem?_take, if_pos jl, List.getElem?_drop]; exact h1, h2⟩
theorem ok_rows_of (T_Machine : MT K mg C) (F : Fun K "rows_of" "rows_of" s_rows_of f fd) (Z : Bl mg) : FnOk P w K mg base CX0 1 f fd ["machine", "state"] (spRowsOf C) := by
  refine F.ok sc_rows_of (fun vs H Q E h => ?_) (fun cdv A outer s H vs Q E hr h => ?_)
  · obtain ⟨m, s, W, t, xs, rfl, _⟩ := h
    rfl
  obtain ⟨m, st, W, t, xs, rfl, hm, hs, q⟩ := h
  have T := T_Machine
  obtain ⟨dx, ob⟩ := hm.ob
  have i4 := W.i4
  have b256 := W.b256
  refine ⟨_, (pss_one (ps_ret (pe_slice (slk_tup (K := K) rfl) (fldk (K := K) rfl (pv 0) rfl) (po_some (pe_op op_shl (pv 1) (fldk (K := K) rfl (pv 0) rfl))) (po_some (pe_op op_shl (pe_op op_add (pv 1) pe_int) (fldk (K := K) rfl (pv 0) rfl)))))), ?_⟩
  change tRet _ _ [some (.ref m), some (.int (st : Nat))] _
  walk_at "st"
  refine g_fld ob T.cl T.n5 mF_rows ?_
  walk_at "wp"
  refine g_fld ob T.cl T.n1 mF_ins ?_
  walk_at "wp"
  refine ⟨cpow_of (by omega) (by omega), ?_⟩
  rw [n_shlN]
  refine g_fld ob T.cl T.n1 mF_ins ?_
  walk_at "wp"
  rw [n_add1]
  refine ⟨cpow_of (by omega) (by omega), ?_⟩
  rw [n_shlN]
  refine g_sl hm.tu fun p H' sm hp => ?_
  exact q p _ H' sm hp (rows_part (hm.np.keep fun b ys e => sm _ _ e) hs)
/-! ### first_steps -/
abbrev s_first_steps : Stmt := top 6
theorem sc_first_steps : FnScope ["machine", "steps", "reached", "at", "state", "number", "row"] ["machine"] (defScope s_first_steps) := ⟨rfl, rfl, rfl, by decide +kernel, rfl, by decide +kernel, by decide +kernel⟩
def spSteps (C : Addr) : Sp := fun vs H Q _ => ∃ (m : Addr) (W : Wd) (t : Addr) (xs : List V), vs = [.ref m] ∧ MAt H C m W t xs ∧
  ∀ (d : Addr) (kvs : List (Key × V)) H', Same H H' → H d = none → H' d = some (.dK kvs) → StAt H' kvs W.ents → Q (.ref d) H'
theorem ok_first_steps (T_Machine : MT K mg C) (D_rows_of : Fn P w K mg base 1 "rows_of" ["machine", "state"] (spRowsOf C)) (F : Fun K "first_steps" "first_steps" s_first_steps f fd) (Z : Bl mg) : FnOk P w K mg base CX0 2 f fd ["machine"] (spSteps C) := by
  refine F.ok sc_first_steps (fun vs H Q E h => ?_) (fun cdv A outer s H vs Q E hr h => ?_)
  · obtain ⟨m, W, t, xs, rfl, _⟩ := h
    rfl
  obtain ⟨m, W, t, xs, rfl, hm, q⟩ := h
  have T := T_Machine
  obtain ⟨dx, ob⟩ := hm.ob
  have i4 := W.i4
  have b256 := W.b256
  have c16 := W.c16
  refine ⟨_, (pss_cons (ps_set (i := 1) sc_first_steps.nd rfl (Or.inl rfl) (pe_disp (pps_cons (fldk (K := K) rfl (pv 0) rfl) pe_non pps_nil) (by rfl) (by rfl) (fun z => by cases z) (by decide)))
  (pss_cons (ps_set (i := 2) sc_first_steps.nd rfl (Or.inl rfl) (pe_lst (pa_cons (fldk (K := K) rfl (pv 0) rfl) pa_nil)))
  (pss_cons (ps_set (i := 3) sc_first_steps.nd rfl (Or.inl rfl) pe_int)
  (pss_cons (ps_while PassesOwn.never (pt_cmpR op_lt (pv 3) (pe_callB (callk_lenL (K := K) rfl) (by rfl) Z.len (by decide +kernel) (pa_cons (pv 2) pa_nil)) (nomark _)) (pss_cons (ps_set (i := 4) sc_first_steps.nd rfl (Or.inl rfl) (pe_ix (ixk_list (K := K) rfl) (pv 2) (pv 3) (fun _ _ => rfl)))
  (pss_cons (ps_for PassesOwn.never rfl (pi_enumT (K := K) rfl (by rfl) Z.enumerate (pa_cons (pe_call D_rows_of.G (hr.mono (by omega)) (by rfl) D_rows_of.m D_rows_of.kp D_rows_of.b .nil pass0 (pa_cons (pv 0) (pa_cons (pv 4) pa_nil))) pa_nil)) (pgk_tup (K := K) (n := 2) rfl (by rfl) (pgs_cons (pg_name (i := 5) sc_first_steps.nd rfl (Or.inl rfl)) (pgs_cons (pg_name (i := 6) sc_first_steps.nd rfl (Or.inl rfl)) pgs_nil))) (pss_one (ps_if (pt_cmp (pc_dnotin (hu_of hr) (pe_ix (ixk_tup (K := K) rfl) (pv 6) pe_int (fun _ _ => rfl)) (pv 1))) (pss_cons (ps_dput (hu_of hr) (pv 1) (pe_ix (ixk_tup (K := K) rfl) (pv 6) pe_int (fun _ _ => rfl)) (pe_tup (pa_cons (pv 4) (pa_cons (pv 5) pa_nil))) rfl)
  (pss_one (ps_expr (pe_bm PySem.F.plainAttrs_list PySem.F.slot_list_append PySem.F.type_list_append mt_append (pv 2) (pa_cons (pe_ix (ixk_tup (K := K) rfl) (pv 6) pe_int (fun _ _ => rfl)) pa_nil))))) pss_nil)))
  (pss_one (ps_aug (i := 3) sc_first_steps.nd rfl (Or.inl rfl) pe_int ip_add)))))
  (pss_one (ps_ret (pv 1))))))), ?_⟩
  
  change tSeq _ _ _ [some (.ref m), none, none, none, none, none, none] _
  walk_at "st"
  intro d hd
  refine g_fld (same_new hd _ _ _ ob) T.cl T.n4 mF_reset ?_
  walk_at "wp"
  refine ⟨upd_same, [(Sum.inl ((W.start : Nat) : Int), .non)], rfl, Nat.le_of_ble_eq_true rfl, ?_⟩
  rw [upd_upd]
  have s1 := same_new hd (.dK (mergeK [] [((Sum.inl ((W.start : Nat) : Int) : Key), V.non)]))
  have hd1 : upd H d (.dK (mergeK [] [((Sum.inl ((W.start : Nat) : Int) : Key), V.non)])) d = some (.dK [(Sum.inl ((W.start : Nat) : Int), .non)]) := by rw [upd_same]; rfl
  generalize upd H d (.dK (mergeK [] [((Sum.inl ((W.start : Nat) : Int) : Key), V.non)])) = H1 at s1 hd1 ⊢
  walk_at "st"
  refine g_fld (s1 _ _ ob) T.cl T.n4 mF_reset ?_
  refine ⟨szr rfl, fun re hre => ?_⟩
  have re0 : H re = none := s1.free hre
  have s2 := s1.trans (same_new hre (.lst [.int (W.start : Nat)]))
  have hd2 := same_new hre (.lst [.int (W.start : Nat)]) _ _ hd1
  have hr2 : upd H1 re (.lst [.int (W.start : Nat)]) re = some (.lst [.int (W.start : Nat)]) := upd_same
  generalize upd H1 re (.lst [.int (W.start : Nat)]) = H2 at s2 hd2 hr2 ⊢
  have rd : re ≠ d := ne_of hr2 hd2 (by intro z; cases z)
  walk_at "st"
  walk_at "st"
  
  obtain ⟨Inv, hI⟩ := opq (fun (E : List Ent) (H' : Hp) => Same H H' ∧ ∃ kvs, H' re = some (.lst (valsN (nodes E))) ∧ H' d = some (.dK kvs) ∧ StAt H' kvs E)
  have inv0 : Inv (bfs W.sc (2 ^ W.ins) W.start 0) H2 := by
    rw [hI]
    refine ⟨s2, [(Sum.inl ((W.start : Nat) : Int), .non)], hr2, hd2, rfl, fun i e he => ?_⟩
    have i0 : i = 0 := by
      have := (List.getElem?_eq_some_iff.mp he).1
      simpa [bfs] using this
    subst i0
    simp [bfs] at he
    subst he
    exact ⟨.non, rfl, rfl⟩
  obtain ⟨Wl, hW⟩ := opq (fun (mm : Nat) (σ' : L2.St) (H' : Hp) => ∃ (i : Nat) (a4 a5 a6 : Option V), mm = 2 ^ W.bits - i ∧ σ' = [some (.ref m), some (.ref d), some (.ref re), some (.int (i : Nat)), a4, a5, a6] ∧ i ≤ (bfs W.sc (2 ^ W.ins) W.start i).length ∧ Inv (bfs W.sc (2 ^ W.ins) W.start i) H')
  refine f_while Wl (2 ^ W.bits) ?_ ?_ ?_
  · rw [hW]
    exact ⟨0, _, _, _, rfl, rfl, Nat.zero_le _, inv0⟩
  · intro mm σ' H' h
    rw [hW] at h
    obtain ⟨i, a4, a5, a6, rfl, rfl, il, hin⟩ := h
    have hin' := hin
    rw [hI] at hin'
    obtain ⟨s3, kvs, hr3, hd3, hst⟩ := hin'
    have bok := bok_bfs (sc := W.sc) (cnt := 2 ^ W.ins) (s := W.start) i
    have bl := bok_len bok W.start_lt W.sc_lt
    walk_at "wp"
    refine g_len (SqL.of hr3) ?_
    rw [valsN_len]
    have nl : (nodes (bfs W.sc (2 ^ W.ins) W.start i)).length = (bfs W.sc (2 ^ W.ins) W.start i).length := by unfold nodes; rw [List.length_map]
    rw [nl]
    walk_at "wp"
    refine ite_split (fun c => ?_) (fun c => ?_)
    · have ci : i < (bfs W.sc (2 ^ W.ins) W.start i).length := by
        have := of_decide_eq_true c
        omega
      obtain ⟨u, hu⟩ : ∃ u, (bfs W.sc (2 ^ W.ins) W.start i)[i]? = some u := ⟨_, List.getElem?_eq_getElem ci⟩
      have stp : bstep W.sc (2 ^ W.ins) (bfs W.sc (2 ^ W.ins) W.start i) i = bpart W.sc (bfs W.sc (2 ^ W.ins) W.start i) u (2 ^ W.ins) := by unfold bstep; rw [hu]
      have ult := bok_lt bok W.start_lt W.sc_lt i u hu
      walk_at "st"
      refine k_ix (SqL.of hr3) (valsN_at (nodes_get hu)) ?_
      walk_at "st"
      refine ⟨m, u.node, W, t, xs, rfl, hm.same s3, ult, fun p ys H4 s4 hp4 np4 => ?_⟩
      have inv4 : Inv (bfs W.sc (2 ^ W.ins) W.start i) H4 := by
        rw [hI]
        exact ⟨s3.trans s4, kvs, s4 _ _ hr3, s4 _ _ hd3, hst.same fun b ys e => s4 _ _ e⟩
      obtain ⟨Pw, hQ⟩ := opq (fun (n : Nat) (σ' : L2.St) (H' : Hp) => ∃ (a5 a6 : Option V), σ' = [some (.ref m), some (.ref d), some (.ref re), some (.int (i : Nat)), some (.int (u.node : Nat)), a5, a6] ∧ n ≤ 2 ^ W.ins ∧ (∀ b ys, H4 b = some (.tup ys) → H' b = some (.tup ys)) ∧ Inv (bpart W.sc (bfs W.sc (2 ^ W.ins) W.start i) u n) H')
      have yl : ys.length = 2 ^ W.ins := by rw [np4.len]; simp
      refine f_E (SqT.of hp4) Pw ?_ ?_ ?_ ?_
      · rw [hQ]
        exact ⟨_, _, rfl, Nat.zero_le _, fun b ys e => e, inv4⟩
      · intro n σ' H' hn h
        rw [hQ] at h
        obtain ⟨_, _, _, _, k, _⟩ := h
        exact SqT.of (k _ _ hp4)
      · intro n x T' σ' H5 hx h hT
        rw [hQ] at h
        obtain ⟨a5, a6, rfl, nc, k5, hin5⟩ := h
        have nl2 : n < 2 ^ W.ins := by
          have := (List.getElem?_eq_some_iff.mp hx).1
          omega
        obtain ⟨l, hl, hl'⟩ := np4.get n (W.row u.node n) (by rw [List.getElem?_map, List.getElem?_range nl2]; rfl)
        rw [hx] at hl
        obtain rfl := Option.some.inj hl
        rw [hI] at hin5
        obtain ⟨s5, kvs5, hr5, hd5, hst5⟩ := hin5
        have s6 := same_new hT (.tup [.int (n : Nat), .ref l])
        have hr6 := s6 _ _ hr5
        have hd6 := s6 _ _ hd5
        have hl6 := s6 _ _ (k5 _ _ hl')
        have ht6 : upd H5 T' (.tup [.int (n : Nat), .ref l]) T' = some (.tup [.int (n : Nat), .ref l]) := upd_same
        have s56 := s5.trans s6
        have st6 := hst5.same (G' := upd H5 T' (.tup [.int (n : Nat), .ref l])) fun b ys e => s6 _ _ e
        have k6 : ∀ b ys, H4 b = some (.tup ys) → upd H5 T' (.tup [.int (n : Nat), .ref l]) b = some (.tup ys) := fun b ys e => s6 _ _ (k5 b ys e)
        generalize upd H5 T' (.tup [.int (n : Nat), .ref l]) = H6 at s6 hr6 hd6 hl6 ht6 s56 st6 k6 ⊢
        have bok5 := bok_part bok hu n nc
        have bl5 := bok_len bok5 W.start_lt W.sc_lt
        refine g_tup (SqT.of ht6) rfl ?_
        walk_at "wp"
        refine k_ixT (SqT.of hl6) (v := .int ((W.row u.node n).2 : Nat)) rfl ?_
        refine d_notinK (k := Sum.inl (((W.row u.node n).2 : Nat) : Int)) (.of hd6) ?_
        have addE_eq : bpart W.sc (bfs W.sc (2 ^ W.ins) W.start i) u (n + 1) = addE (bpart W.sc (bfs W.sc (2 ^ W.ins) W.start i) u n) ⟨W.sc u.node n, u.word ++ [n], some (u.node, n)⟩ := rfl
        rcases st6.val (W.sc u.node n) with ⟨hno, hv⟩ | ⟨j, e, v, hj, hje, hv, _⟩
        · have hv' : valV kvs5 (Sum.inl (((W.row u.node n).2 : Nat) : Int)) = none := hv
          rw [hv']
          walk_at "wp"
          walk_at "st"
          refine ⟨szr rfl, fun tt htt => ?_⟩
          have s7 := same_new htt (.tup [.int (u.node : Nat), .int (n : Nat)])
          have ht7 : upd H6 tt (.tup [.int (u.node : Nat), .int (n : Nat)]) tt = some (.tup [.int (u.node : Nat), .int (n : Nat)]) := upd_same
          generalize upd H6 tt (.tup [.int (u.node : Nat), .int (n : Nat)]) = H7 at s7 ht7 ⊢
          refine k_ixT (SqT.of (s7 _ _ hl6)) (v := .int ((W.row u.node n).2 : Nat)) rfl ?_
          refine d_putK (k := Sum.inl (((W.row u.node n).2 : Nat) : Int)) (s7 _ _ hd6) (by rw [st6.len]; omega) ?_
          rw [putK_new hv']
          have kt : ∀ (b : Addr) (ys : List V), H7 b = some (.tup ys) → upd H7 d (.dK (kvs5 ++ [(Sum.inl (((W.row u.node n).2 : Nat) : Int), .ref tt)])) b = some (.tup ys) := fun b ys e => by
            rw [upd_ne (ne_of e (s7 _ _ hd6) (by intro z; cases z))]
            exact e
          have hr8 : upd H7 d (.dK (kvs5 ++ [(Sum.inl (((W.row u.node n).2 : Nat) : Int), .ref tt)])) re = some (.lst (valsN (nodes (bpart W.sc (bfs W.sc (2 ^ W.ins) W.start i) u n)))) := by rw [upd_ne rd]; exact s7 _ _ hr6
          walk_at "wp"
          refine ⟨k_tyL hr8, k_ixT (SqT.of (kt _ _ (s7 _ _ hl6))) (v := .int ((W.row u.node n).2 : Nat)) rfl (k_app hr8 (by rw [valsN_len]; unfold nodes; rw [List.length_map]; omega) ?_)⟩
          rw [hQ]
          have kt2 : ∀ (b : Addr) (ys : List V), H7 b = some (.tup ys) → upd (upd H7 d (.dK (kvs5 ++ [(Sum.inl (((W.row u.node n).2 : Nat) : Int), .ref tt)]))) re (.lst (valsN (nodes (bpart W.sc (bfs W.sc (2 ^ W.ins) W.start i) u n)) ++ [.int ((W.row u.node n).2 : Nat)])) b = some (.tup ys) := fun b ys e => by
            rw [upd_ne (ne_of e (s7 _ _ hr6) (by intro z; cases z)), upd_ne (ne_of e (s7 _ _ hd6) (by intro z; cases z))]
            exact e
          refine ⟨_, _, rfl, nl2, fun b ys e => kt2 _ _ (s7 _ _ (k6 _ _ e)), ?_⟩
          rw [addE_eq]
          unfold addE
          rw [if_neg hno, hI]
          refine ⟨same_upd (same_upd (s56.trans s7) hd) re0, kvs5 ++ [(Sum.inl (((W.row u.node n).2 : Nat) : Int), .ref tt)], ?_, by rw [upd_ne rd.symm, upd_same], ?_⟩
          · rw [upd_same]
            unfold nodes valsN
            rw [List.map_append, List.map_append]
            rfl
          · exact StAt.snoc (e := ⟨W.sc u.node n, u.word ++ [n], some (u.node, n)⟩) (st6.same fun b ys e => kt2 _ _ (s7 _ _ e)) ⟨tt, rfl, kt2 _ _ ht7⟩
        · have hv' : valV kvs5 (Sum.inl (((W.row u.node n).2 : Nat) : Int)) = some v := hv
          rw [hv']
          walk_at "wp"
          rw [hQ]
          refine ⟨_, _, rfl, nl2, k6, ?_⟩
          rw [addE_eq]
          unfold addE
          rw [if_pos (by rw [← hje]; exact List.mem_map.mpr ⟨e, List.mem_of_getElem? hj, rfl⟩), hI]
          exact ⟨s56, kvs5, hr6, hd6, st6⟩
      · intro σ' H5 h
        rw [hQ] at h
        obtain ⟨a5, a6, rfl, nc, k5, hin5⟩ := h
        rw [yl] at hin5
        walk_at "wp"
        refine w_aug0 (x := .int (i : Nat)) rfl ?_
        walk_at "wp"
        rw [hW]
        refine ⟨2 ^ W.bits - (i + 1), by omega, i + 1, _, _, _, rfl, by rw [n_add1], ?_, ?_⟩
        · show i + 1 ≤ (bstep W.sc (2 ^ W.ins) (bfs W.sc (2 ^ W.ins) W.start i) i).length
          obtain ⟨r, hr⟩ := bstep_pre (sc := W.sc) (cnt := 2 ^ W.ins) (bfs W.sc (2 ^ W.ins) W.start i) i
          rw [hr, List.length_append]
          omega
        · show Inv (bstep W.sc (2 ^ W.ins) (bfs W.sc (2 ^ W.ins) W.start i) i) H5
          rw [stp]
          exact hin5
    · have ci : i = (bfs W.sc (2 ^ W.ins) W.start i).length := by
        have := of_decide_eq_false c
        omega
      walk_at "wp"
      have e := bfs_end (i := i) W.start_lt W.sc_lt (Nat.le_of_eq ci.symm)
      rw [e] at hst
      exact q d kvs H' s3 hd hd3 hst
  · exact mo_test (mo_op mo_rI0 mo_var (mo_cb mo_lenL (mo_cons mo_var mo_nil)))
end
end Ck
namespace Ck
open PySem L2
section
variable {P : Program} {w : World} {K : PySem.W.Frag} {mg : Str → Option Value} {base : Heap} {f C : Addr} {fd : FuncData}
/-! ### reached_states -/
abbrev s_reached_states : Stmt := top 7
theorem sc_reached_states : FnScope ["machine"] ["machine"] (defScope s_reached_states) := ⟨rfl, rfl, rfl, by decide +kernel, rfl, by decide +kernel, by decide +kernel⟩
def spReached (C : Addr) : Sp := fun vs H Q _ => ∃ (m : Addr) (W : Wd) (t : Addr) (xs : List V), vs = [.ref m] ∧ MAt H C m W t xs ∧
  ∀ (p : Addr) H', Same H H' → H p = none → H' p = some (.lst (valsN W.ordC)) → Q (.ref p) H'
theorem st_keys {G : Hp} {kvs : List (Key × V)} {E : List Ent} (h : StAt G kvs E) : (kvs.map fun kv => kV kv.1) = valsN (nodes E) := by
  unfold valsN nodes
  rw [List.map_map]
  refine List.ext_getElem? fun i => ?_
  rw [List.getElem?_map, List.getElem?_map]
  by_cases c : i < E.length
  · obtain ⟨v, h1, _⟩ := h.get i E[i] (List.getElem?_eq_getElem c)
    rw [h1, List.getElem?_eq_getElem c]
    rfl
  · rw [List.getElem?_eq_none (by rw [h.len]; omega), List.getElem?_eq_none (by omega)]
    rfl
theorem ok_reached_states (D_first_steps : Fn P w K mg base 2 "first_steps" ["machine"] (spSteps C)) (F : Fun K "reached_states" "reached_states" s_reached_states f fd) (Z : Bl mg) : FnOk P w K mg base CX0 3 f fd ["machine"] (spReached C) := by
  refine F.ok sc_reached_states (fun vs H Q E h => ?_) (fun cdv A outer s H vs Q E hr h => ?_)
  · obtain ⟨m, W, t, xs, rfl, _⟩ := h
    rfl
  obtain ⟨m, W, t, xs, rfl, hm, q⟩ := h
  refine ⟨_, (pss_one (ps_ret (pe_callTy (call_listDk rfl) (by rfl) Z.list (by decide +kernel) (pa_cons (pe_call D_first_steps.G (hr.mono (by omega)) (by rfl) D_first_steps.m D_first_steps.kp D_first_steps.b .nil pass0 (pa_cons (pv 0) pa_nil)) pa_nil)))), ?_⟩
  change tRet _ _ [some (.ref m)] _
  walk_at "st"
  refine ⟨m, W, t, xs, rfl, hm, fun d kvs H' s1 hd0 hd hst => g_listD (.of hd) fun p hp => ?_⟩
  refine q p _ (s1.trans (same_new hp _)) (s1.free hp) ?_
  rw [upd_same, st_keys hst]
  rfl
/-! ### first_run -/
abbrev s_first_run : Stmt := top 8
theorem sc_first_run : FnScope ["machine", "state", "steps", "run", "step"] ["machine", "state"] (defScope s_first_run) := ⟨rfl, rfl, rfl, by decide +kernel, rfl, by decide +kernel, by decide +kernel⟩
def spFirst (C : Addr) : Sp := fun vs H Q _ => ∃ (m : Addr) (st : Nat) (W : Wd) (t : Addr) (xs : List V), vs = [.ref m, .int (st : Nat)] ∧ MAt H C m W t xs ∧
  (st ∉ nodes W.ents → ∀ H', Same H H' → Q .non H') ∧ ∀ (i : Nat) (e : Ent), W.ents[i]? = some e → e.node = st → ∀ (p : Addr) H', Same H H' → H p = none → H' p = some (.lst (valsN e.word)) → Q (.ref p) H'
theorem ok_first_run (D_first_steps : Fn P w K mg base 2 "first_steps" ["machine"] (spSteps C)) (F : Fun K "first_run" "first_run" s_first_run f fd) (Z : Bl mg) : FnOk P w K mg base CX0 3 f fd ["machine", "state"] (spFirst C) := by
  refine F.ok sc_first_run (fun vs H Q E h => ?_) (fun cdv A outer s H vs Q E hr h => ?_)
  · obtain ⟨m, st, W, t, xs, rfl, _⟩ := h
    rfl
  obtain ⟨m, st, W, t, xs, rfl, hm, q1, q2⟩ := h
  refine ⟨_, (pss_cons (ps_set (i := 2) sc_first_run.nd rfl (Or.inl rfl) (pe_call D_first_steps.G (hr.mono (by omega)) (by rfl) D_first_steps.m D_first_steps.kp D_first_steps.b .nil pass0 (pa_cons (pv 0) pa_nil)))
  (pss_cons (ps_if (pt_cmp (pc_dnotin (hu_of hr) (pv 1) (pv 2))) (pss_one (ps_ret pe_non)) pss_nil)
  (pss_cons (ps_set (i := 3) sc_first_run.nd rfl (Or.inl rfl) (pe_lst pa_nil))
  (pss_cons (ps_set (i := 4) sc_first_run.nd rfl (Or.inl rfl) (pe_dget (hu_of hr) (pv 2) (pv 1) (fun _ _ => rfl)))
  (pss_cons (ps_while PassesOwn.never (pt_cmpR op_notN (pv 4) pe_non (nomark _)) (pss_cons (ps_expr (pe_bm PySem.F.plainAttrs_list PySem.F.slot_list_append PySem.F.type_list_append mt_append (pv 3) (pa_cons (pe_ix (ixk_tup (K := K) rfl) (pv 4) pe_int (fun _ _ => rfl)) pa_nil)))
  (pss_one (ps_set (i := 4) sc_first_run.nd rfl (Or.inl rfl) (pe_dget (hu_of hr) (pv 2) (pe_ix (ixk_tup (K := K) rfl) (pv 4) pe_int (fun _ _ => rfl)) (fun _ _ => rfl))))))
  (pss_one (ps_ret (pek_revL (K := K) rfl (pv 3))))))))), ?_⟩
  
  change tSeq _ _ _ [some (.ref m), some (.int (st : Nat)), none, none, none] _
  have b256 := W.b256
  have el := W.ents_len
  walk_at "st"
  refine ⟨m, W, t, xs, rfl, hm, fun d kvs H1 s1 hd0 hd hst => ?_⟩
  walk_at "st"
  refine d_notinK (k := Sum.inl ((st : Nat) : Int)) (.of hd) ?_
  rcases hst.val st with ⟨hno, hv⟩ | ⟨i, e, v, hi, hie, hv, hsv⟩
  · rw [hv]
    walk_at "wp"
    exact q1 hno H1 s1
  · rw [hv]
    walk_at "wp"
    walk_at "st"
    refine ⟨szr rfl, fun rn hrn => ?_⟩
    have rn0 : H rn = none := s1.free hrn
    have s2 := same_new hrn (.lst [])
    have hr2 : upd H1 rn (.lst []) rn = some (.lst []) := upd_same
    have nrd : rn ≠ d := fun z => by rw [z, hd] at hrn; cases hrn
    have hd2 := s2 _ _ hd
    walk_at "st"
    refine d_getK (k := Sum.inl ((st : Nat) : Int)) (.of hd2) hv ?_
    walk_at "st"
    
    obtain ⟨Wl, hW⟩ := opq (fun (mm : Nat) (σ' : L2.St) (H' : Hp) => ∃ (j : Nat) (u : Ent) (v : V) (rs : List Nat), mm = j ∧ W.ents[j]? = some u ∧ σ' = [some (.ref m), some (.int (st : Nat)), some (.ref d), some (.ref rn), some v] ∧ SameX rn H1 H' ∧ H' rn = some (.lst (valsN rs)) ∧ StV H1 u v ∧ e.word = u.word ++ rs.reverse ∧ rs.length ≤ e.word.length)
    have wl : ∀ (j : Nat) (u : Ent), W.ents[j]? = some u → u.word.length ≤ 256 := fun j u hu => by
      have := bok_wlen W.bok j u hu
      have := (List.getElem?_eq_some_iff.mp hu).1
      omega
    refine f_while Wl i ?_ ?_ ?_
    · rw [hW]
      exact ⟨i, e, v, [], rfl, hi, rfl, SameX.of s2, hr2, hsv, by simp, Nat.zero_le _⟩
    · intro mm σ' H' h
      rw [hW] at h
      obtain ⟨j, u, v, rs, rfl, hu, rfl, sx, hrs, hsv', hw, hl⟩ := h
      rcases W.bok.par mm u hu with ⟨p1, p2, p3⟩ | ⟨j2, n, u2, g1, g2, g3, g4, g5, g6⟩
      · have ev : v = .non := by
          unfold StV at hsv'
          rw [p1] at hsv'
          exact hsv'
        subst ev
        walk_at "wp"
        refine g_rev (SqL.of hrs) fun p hp => ?_
        rw [p2, List.nil_append] at hw
        have pr : p ≠ rn := fun z => by rw [z, hrs] at hp; cases hp
        have hp1 : H1 p = none := sx.free pr hp
        refine q2 i e hi hie p _ (s1.trans ?_) (s1.free hp1) ?_
        · intro b o eb
          have bp : b ≠ p := ne_of_none eb hp1
          rw [upd_ne bp]
          exact sx _ _ (ne_of_none eb hrn) eb
        · rw [upd_same, hw]
          unfold valsN
          rw [List.map_reverse]
      · have ⟨tt, ev, ht⟩ : ∃ t : Addr, v = .ref t ∧ H1 t = some (.tup [.int (u2.node : Nat), .int (n : Nat)]) := by
          unfold StV at hsv'
          rw [g3] at hsv'
          exact hsv'
        subst ev
        have ht' : H' tt = some (.tup [.int (u2.node : Nat), .int (n : Nat)]) := sx _ _ (ne_of_none ht hrn) ht
        have wle := wl i e hi
        walk_at "wp"
        walk_at "st"
        refine ⟨k_tyL hrs, k_ixT (SqT.of ht') (v := .int (n : Nat)) rfl (k_app hrs (by rw [valsN_len]; omega) ?_)⟩
        have hd3 : upd H' rn (.lst (valsN rs ++ [.int (n : Nat)])) d = some (.dK kvs) := by rw [upd_ne nrd.symm]; exact sx _ _ nrd.symm hd
        have ht3 : upd H' rn (.lst (valsN rs ++ [.int (n : Nat)])) tt = some (.tup [.int (u2.node : Nat), .int (n : Nat)]) := by rw [upd_ne (ne_of ht' hrs (by intro z; cases z))]; exact ht'
        obtain ⟨v2, hv2, hs2⟩ := hst.at' W.bok.nd g2
        walk_at "wp"
        refine k_ixT (SqT.of ht3) (v := .int (u2.node : Nat)) rfl ?_
        refine d_getK (k := Sum.inl ((u2.node : Nat) : Int)) (.of hd3) hv2 ?_
        walk_at "wp"
        rw [hW]
        refine ⟨j2, g1, j2, u2, v2, rs ++ [n], rfl, g2, rfl, sx.here, ?_, hs2, ?_, ?_⟩
        · rw [upd_same]
          unfold valsN
          rw [List.map_append]
          rfl
        · rw [hw, g5]
          simp
        · rw [hw, g5]
          simp
    · exact mo_test (mo_op mo_notN mo_var mo_c)
end
end Ck
namespace Ck
open PySem L2
theorem valN_snoc {L : NL} {k0 k : NestedKey} {b : Addr} {v : V} (h : valN L k0 = none) : valN (L ++ [(k0, b, v)]) k = if k = k0 then some v else valN L k := by
  unfold valN at h ⊢
  rw [List.find?_append]
  by_cases e : k = k0
  · subst e
    rw [if_pos rfl]
    have : L.find? (fun p => decide (p.1 = k)) = none := by
      cases q : L.find? (fun p => decide (p.1 = k)) with
      | none => rfl
      | some p => rw [q] at h; cases h
    rw [this]
    simp
  · rw [if_neg e]
    have : ([(k0, b, v)] : NL).find? (fun p => decide (p.1 = k)) = none := by
      rw [List.find?_cons, show decide (k0 = k) = false from decide_eq_false (fun z => e z.symm)]
      rfl
    rw [this]
    simp
theorem putN_new {L : NL} {k : NestedKey} {b : Addr} {v : V} (h : valN L k = none) : putN L k b v = L ++ [(k, b, v)] := by
  unfold putN
  rw [h]
  rfl
theorem met_app {α : Type} [DecidableEq α] (acc l m : List α) : met acc (l ++ m) = met (met acc l) m := by
  unfold met
  rw [List.foldl_append]
theorem numbered_take {α : Type} [DecidableEq α] {l : List α} {i : Nat} {k : α} (h : l[i]? = some k) : (numbered l)[i]? = some ((met [] (l.take (i + 1))).idxOf k) := by
  rw [numbered_get h]
  have e : met [] l = met (met [] (l.take (i + 1))) (l.drop (i + 1)) := by rw [← met_app, List.take_append_drop]
  obtain ⟨r, hr⟩ := met_pre (l.drop (i + 1)) (met [] (l.take (i + 1)))
  rw [e, hr]
  have m : k ∈ met [] (l.take (i + 1)) := (mem_met _).mpr (.inr (by rw [take_snoc h]; simp))
  rw [idxOf_pre m]
/-- keys beside a list of values -/
structure KyAt (H : Hp) (xs : List V) (ks : List NestedKey) : Prop where
  len : xs.length = ks.length
  get : ∀ (j : Nat) (k : NestedKey), ks[j]? = some k → ∃ t : Addr, xs[j]? = some (.ref t) ∧ NK H (.ref t) k
  dep : ∀ k ∈ ks, k.depth ≤ 8
theorem KyAt.keep {H H' : Hp} {xs : List V} {ks : List NestedKey} (s : ∀ b ys, H b = some (.tup ys) → H' b = some (.tup ys)) (h : KyAt H xs ks) : KyAt H' xs ks := ⟨h.len, fun j p e => by
  obtain ⟨t, h1, h2⟩ := h.get j p e
  exact ⟨t, h1, nk_keep s _ _ h2⟩, h.dep⟩
theorem KyAt.snoc {H : Hp} {xs : List V} {ks : List NestedKey} {k : NestedKey} {t : Addr} (h : KyAt H xs ks) (ht : NK H (.ref t) k) (hd : k.depth ≤ 8) : KyAt H (xs ++ [.ref t]) (ks ++ [k]) := ⟨by rw [List.length_append, List.length_append, h.len]; rfl, fun j x hx => by
  by_cases c : j < ks.length
  · rw [List.getElem?_append_left c] at hx
    obtain ⟨t', h1, h2⟩ := h.get j x hx
    exact ⟨t', by rw [List.getElem?_append_left (by rw [h.len]; exact c)]; exact h1, h2⟩
  · have il : j = ks.length := by
      have := (List.getElem?_eq_some_iff.mp hx).1
      rw [List.length_append, List.length_singleton] at this
      omega
    subst il
    rw [List.getElem?_append_right (Nat.le_refl _), Nat.sub_self] at hx
    simp at hx
    subst hx
    refine ⟨t, ?_, ht⟩
    rw [← h.len, List.getElem?_append_right (Nat.le_refl _), Nat.sub_self]
    rfl, fun x hx => by
  rcases List.mem_append.mp hx with m | m
  · exact h.dep x m
  · rw [List.mem_singleton.mp m]; exact hd⟩
section
variable {P : Program} {w : World} {K : PySem.W.Frag} {mg : Str → Option Value} {base : Heap} {f C : Addr} {fd : FuncData}
/-! ### numbered -/
abbrev s_numbered : Stmt := top 17
theorem sc_numbered : FnScope ["keys", "numbers", "result", "key"] ["keys"] (defScope s_numbered) := ⟨rfl, rfl, rfl, by decide +kernel, rfl, by decide +kernel, by decide +kernel⟩
def spNumbered : Sp := fun vs H Q _ => ∃ (ka : Addr) (xs : List V) (ks : List NestedKey), vs = [.ref ka] ∧ H ka = some (.lst xs) ∧ KyAt H xs ks ∧ ks.length ≤ 1000 ∧
  ∀ (p : Addr) H', Same H H' → H p = none → H' p = some (.lst (valsN (numbered ks))) → Q (.ref p) H'
theorem ok_numbered (F : Fun K "numbered" "numbered" s_numbered f fd) (Z : Bl mg) : FnOk P w K mg base CX0 1 f fd ["keys"] spNumbered := by
  refine F.ok sc_numbered (fun vs H Q E h => ?_) (fun cdv A outer s H vs Q E hr h => ?_)
  · obtain ⟨ka, xs, ks, rfl, _⟩ := h
    rfl
  obtain ⟨ka, xs, ks, rfl, hka, ky, kl, q⟩ := h
  refine ⟨_, (pss_cons (ps_set (i := 1) sc_numbered.nd rfl (Or.inl rfl) (pe_dnewN (P := P) (w := w) rfl rfl))
  (pss_cons (ps_set (i := 2) sc_numbered.nd rfl (Or.inl rfl) (pe_lst pa_nil))
  (pss_cons (ps_for PassesOwn.never rfl (pik_list (K := K) rfl (pv 0)) (pg_name (i := 3) sc_numbered.nd rfl (Or.inl rfl)) (pss_cons (ps_if (pt_cmp (pc_dniN (P := P) (w := w) rfl rfl hr.units (pv 3) (pv 1))) (pss_one (ps_dputN (P := P) (w := w) rfl rfl hr.units (pv 1) (pv 3) (pe_callB (call_lenN (P := P) (w := w) rfl rfl) (by rfl) Z.len (by decide +kernel) (pa_cons (pv 1) pa_nil)) rfl)) pss_nil)
  (pss_one (ps_expr (pe_bm PySem.F.plainAttrs_list PySem.F.slot_list_append PySem.F.type_list_append mt_append (pv 2) (pa_cons (pe_dgetN (P := P) (w := w) rfl rfl hr.units (pv 1) (pv 3) (fun _ _ => rfl)) pa_nil))))))
  (pss_one (ps_ret (pv 2)))))), ?_⟩
  
  change tSeq _ _ _ [some (.ref ka), none, none, none] _
  walk_at "st"
  intro d hd
  have s1 := same_new hd (DicN P w d [])
  have hd1 : upd H d (DicN P w d []) d = some (DicN P w d []) := upd_same
  generalize upd H d (DicN P w d []) = H1 at s1 hd1 ⊢
  walk_at "st"
  refine ⟨szr rfl, fun rs hrs => ?_⟩
  have s2 := s1.trans (same_new hrs (.lst []))
  have hr2 : upd H1 rs (.lst []) rs = some (.lst []) := upd_same
  have hd2 := same_new hrs (.lst []) _ _ hd1
  have rd : rs ≠ d := fun z => by rw [z, hd1] at hrs; cases hrs
  have rs0 : H rs = none := s1.free hrs
  generalize upd H1 rs (.lst []) = H2 at s2 hr2 hd2 ⊢
  
  walk_at "st"
  obtain ⟨Pv, hP⟩ := opq (fun (i : Nat) (σ' : L2.St) (H' : Hp) => ∃ (a3 : Option V) (L : NL), σ' = [some (.ref ka), some (.ref d), some (.ref rs), a3] ∧ Same H H' ∧ H' d = some (DicN P w d L) ∧ H' rs = some (.lst (valsN ((numbered ks).take i))) ∧ KeysN H' L ∧ L.length = (met [] (ks.take i)).length ∧ ∀ k, valN L k = if k ∈ met [] (ks.take i) then some (.int ((met [] (ks.take i)).idxOf k : Nat)) else none)
  refine f_L (SqL.of (s2 _ _ hka)) Pv ?_ ?_ ?_ ?_
  · rw [hP]
    exact ⟨_, [], rfl, s2, hd2, hr2, (fun p hp => by cases hp), rfl, fun k => rfl⟩
  · intro i σ' H' hi h
    rw [hP] at h
    obtain ⟨_, _, _, s3, _⟩ := h
    exact SqL.of (s3 _ _ hka)
  · intro i x σ' H' hi h
    rw [hP] at h
    obtain ⟨a3, L, rfl, s3, hd3, hr3, hk3, hl3, hv3⟩ := h
    have il := (List.getElem?_eq_some_iff.mp hi).1
    rw [ky.len] at il
    obtain ⟨k, hk⟩ : ∃ k, ks[i]? = some k := ⟨_, List.getElem?_eq_getElem il⟩
    obtain ⟨t, ht, nk⟩ := ky.get i k hk
    rw [hi] at ht
    obtain rfl := Option.some.inj ht
    have dp := ky.dep k (List.mem_of_getElem? hk)
    have nk3 := nk_keep (fun b ys e => s3 _ _ e) _ _ nk
    have ml : (met [] (ks.take i)).length ≤ 1000 := by
      have := met_len (ks.take i) []
      rw [List.length_take, List.length_nil] at this
      omega
    have nl : ((numbered ks).take i).length ≤ 1000 := by
      rw [List.length_take, numbered_length]
      omega
    have mk : met [] (ks.take (i + 1)) = addK (met [] (ks.take i)) k := by rw [take_snoc hk, met_snoc]
    have nt := numbered_take hk
    rw [mk] at nt
    walk_at "wp"
    -- the end of the turn
    obtain ⟨Post, hPo⟩ := opq (fun (σ' : L2.St) (H4 : Hp) => ∃ (L : NL), σ' = [some (.ref ka), some (.ref d), some (.ref rs), some (.ref t)] ∧ Same H H4 ∧ H4 d = some (DicN P w d L) ∧ H4 rs = some (.lst (valsN ((numbered ks).take i))) ∧ KeysN H4 L ∧ L.length = (met [] (ks.take (i + 1))).length ∧ ∀ j, valN L j = if j ∈ met [] (ks.take (i + 1)) then some (.int ((met [] (ks.take (i + 1))).idxOf j : Nat)) else none)
    refine seq_mid Post (fun N hN => ?_) (fun σ' H4 h => ?_)
    · walk_at "wp"
      refine g_niN hd3 hk3 nk3 dp ?_
      by_cases c : k ∈ met [] (ks.take i)
      · rw [hv3 k, if_pos c]
        walk_at "wp"
        refine hN _ _ ?_
        rw [hPo]
        have e : addK (met [] (ks.take i)) k = met [] (ks.take i) := by unfold addK; rw [if_pos c]
        rw [mk, e]
        exact ⟨L, rfl, s3, hd3, hr3, hk3, hl3, hv3⟩
      · have hv := hv3 k
        rw [if_neg c] at hv
        rw [hv]
        walk_at "wp"
        refine g_lenN hd3 hk3 ?_
        refine g_putN hd3 hk3 nk3 dp (by omega) ?_
        rw [putN_new hv]
        refine hN _ _ ?_
        rw [hPo]
        have e : addK (met [] (ks.take i)) k = met [] (ks.take i) ++ [k] := by unfold addK; rw [if_neg c]
        rw [mk, e]
        have kt : ∀ (b : Addr) (ys : List V), H' b = some (.tup ys) → upd H' d (DicN P w d (L ++ [(k, t, V.int (L.length : Nat))])) b = some (.tup ys) := fun b ys e => by
          rw [upd_ne (ne_of e hd3 (by intro z; cases z))]
          exact e
        refine ⟨_, rfl, same_upd s3 hd, upd_same, by rw [upd_ne rd]; exact hr3, fun p hp => ?_, by rw [List.length_append, List.length_append, hl3]; rfl, fun j => ?_⟩
        · rcases List.mem_append.mp hp with m | m
          · exact ⟨nk_keep kt _ _ (hk3 p m).1, (hk3 p m).2⟩
          · rw [List.mem_singleton.mp m]
            exact ⟨nk_keep kt _ _ nk3, dp⟩
        · rw [valN_snoc hv, hv3 j, List.idxOf_append]
          by_cases ej : j = k
          · subst ej
            rw [if_pos rfl, if_pos (by simp), if_neg c, hl3]
            simp
          · rw [if_neg ej]
            by_cases cj : j ∈ met [] (ks.take i)
            · rw [if_pos cj, if_pos (List.mem_append_left _ cj), if_pos cj]
            · rw [if_neg cj, if_neg (by simp [cj, ej])]
    · rw [hPo] at h
      obtain ⟨L4, rfl, s4, hd4, hr4, hk4, hl4, hv4⟩ := h
      have nk4 := nk_keep (fun b ys e => s4 _ _ e) _ _ nk
      have km : k ∈ met [] (ks.take (i + 1)) := (mem_met _).mpr (.inr (by rw [take_snoc hk]; simp))
      have hv := hv4 k
      rw [if_pos km, mk] at hv
      walk_at "wp"
      refine ⟨k_tyL hr4, ?_⟩
      refine g_getN hd4 hk4 nk4 dp hv (k_app hr4 (by rw [valsN_len]; omega) ?_)
      rw [hP]
      have kt : ∀ (b : Addr) (ys : List V), H4 b = some (.tup ys) → upd H4 rs (.lst (valsN ((numbered ks).take i) ++ [.int ((addK (met [] (ks.take i)) k).idxOf k : Nat)])) b = some (.tup ys) := fun b ys e => by
        rw [upd_ne (ne_of e hr4 (by intro z; cases z))]
        exact e
      refine ⟨_, L4, rfl, same_upd s4 rs0, by rw [upd_ne rd.symm]; exact hd4, ?_, fun p hp => ⟨nk_keep kt _ _ (hk4 p hp).1, (hk4 p hp).2⟩, hl4, hv4⟩
      rw [upd_same, take_snoc nt]
      unfold valsN
      rw [List.map_append]
      rfl
  · intro σ' H' h
    rw [hP] at h
    obtain ⟨a3, L, rfl, s3, hd3, hr3, hk3, hl3, hv3⟩ := h
    walk_at "wp"
    refine q rs H' s3 rs0 ?_
    rw [hr3, ky.len, ← numbered_length ks, List.take_length]
end
end Ck
namespace Ck
open PySem L2
/-! ### numbers and pairs as keys -/
def nkL (l : List Nat) : NestedKey := .tup (l.map fun n => .num (n : Nat))
def nkP (p : Nat × List Nat) : NestedKey := .tup [.num (p.1 : Nat), nkL p.2]
theorem nkL_inj {a b : List Nat} (h : nkL a = nkL b) : a = b := by
  unfold nkL at h
  injection h with h
  induction a generalizing b with
  | nil =>
    cases b with
    | nil => rfl
    | cons y b => simp at h
  | cons x a ih =>
    cases b with
    | nil => simp at h
    | cons y b =>
      rw [List.map_cons, List.map_cons] at h
      injection h with h1 h2
      injection h1 with h1
      rw [ih h2, Int.ofNat.inj h1]
theorem nkP_inj {a b : Nat × List Nat} (h : nkP a = nkP b) : a = b := by
  unfold nkP at h
  injection h with h
  injection h with h1 h2
  injection h1 with h1
  injection h2 with h2 _
  exact Prod.ext (Int.ofNat.inj h1) (nkL_inj h2)
theorem nkL_dep (l : List Nat) : (nkL l).depth ≤ 1 := by
  unfold nkL
  have : NestedKey.depthAll (l.map fun n => NestedKey.num (n : Nat)) = 0 := by
    induction l with
    | nil => rfl
    | cons x l ih =>
      rw [List.map_cons, NestedKey.depthAll, ih]
      rfl
  rw [NestedKey.depth, this]
  decide
theorem nkP_dep (p : Nat × List Nat) : (nkP p).depth ≤ 8 := by
  unfold nkP
  have := nkL_dep p.2
  simp only [NestedKey.depth, NestedKey.depthAll]
  omega
theorem numbered_nkL (l : List (List Nat)) : numbered (l.map nkL) = numbered l := (numbered_map l nkL fun _ _ _ _ h => nkL_inj h).symm
theorem numbered_nkP (l : List (Nat × List Nat)) : numbered (l.map nkP) = numbered l := (numbered_map l nkP fun _ _ _ _ h => nkP_inj h).symm
theorem nks_valsN {H : Hp} : ∀ l : List Nat, NKs H (valsN l) (l.map fun n => .num (n : Nat))
  | [] => .nil
  | n :: l => .cons (.int (n : Nat)) (nks_valsN l)
theorem nk_L {H : Hp} {a : Addr} {l : List Nat} (h : H a = some (.tup (valsN l))) : NK H (.ref a) (nkL l) := .tup h (nks_valsN l)
theorem nk_P {H : Hp} {a b : Addr} {n : Nat} {l : List Nat} (h : H a = some (.tup [.int (n : Nat), .ref b])) (hb : H b = some (.tup (valsN l))) : NK H (.ref a) (nkP (n, l)) := .tup h (.cons (.int (n : Nat)) (.cons (nk_L hb) .nil))
theorem n_mul (a b : Nat) : ((a : Nat) : Int) * ((b : Nat) : Int) = ((a * b : Nat) : Int) := by rw [Int.natCast_mul]
theorem g_maxN {K : PySem.W.Frag} {H : Hp} {Q : VK} {a : Addr} {C : List Nat} (h : H a = some (.lst (valsN C))) (h0 : 0 < C.length) (q : ∀ m : Nat, m ∈ C → (∀ y ∈ C, y ≤ m) → Q (.int (m : Nat)) H) : rMax K [V.ref a] H Q := by
  have e : valsN C = (C.map fun n => ((n : Nat) : Int)).map V.int := by unfold valsN; rw [List.map_map]; rfl
  rw [e] at h
  refine g_max (SqL.of h) (by rw [List.length_map]; exact h0) fun m m1 m2 => ?_
  obtain ⟨n, hn, rfl⟩ := List.mem_map.mp m1
  exact q n hn fun y hy => by
    have := m2 _ (List.mem_map_of_mem hy)
    omega
namespace Wd
variable (W : Wd)
def S : Sys (List Nat) := W.R.sys W.look
theorem S_L : W.S.L = W.R.order.length := rfl
theorem S_cnt : W.S.cnt = 2 ^ W.ins := W.cnt
theorem S_out {i : Nat} (hi : i < W.R.order.length) : W.S.out i = (List.range (2 ^ W.ins)).map fun n => (W.row (W.code (W.R.ord i)) n).1 := W.look_eq (W.order_N (W.R.ord_mem hi))
theorem S_next {i n : Nat} (hi : i < W.R.order.length) (hn : n < 2 ^ W.ins) : W.S.nx i n < W.R.order.length ∧ (W.row (W.code (W.R.ord i)) n).2 = W.code (W.R.ord (W.S.nx i n)) := by
  refine ⟨W.S.ok i n hi (by rw [W.S_cnt]; exact hn), ?_⟩
  have h1 := (W.link (W.order_N (W.R.ord_mem hi)) hn).2
  have m : W.R.sc (W.R.ord i) n ∈ W.R.order := walk_closed W.R.hf W.R.sc_lt (W.R.ord_mem hi) (by rw [W.cnt]; exact hn)
  show W.sc _ n = W.code (W.R.ord (W.R.order.idxOf (W.R.sc (W.R.ord i) n)))
  rw [W.R.ord_idx m, h1]
end Wd
/-- the rows of the reached states -/
def RowsL (W : Wd) (G : Hp) (acc : List V) (i : Nat) : Prop := acc.length = i ∧ ∀ j, j < i → ∃ (t : Addr) (ys : List V), acc[j]? = some (.ref t) ∧ G t = some (.tup ys) ∧ NpAt G ys ((List.range (2 ^ W.ins)).map (W.row (W.code (W.R.ord j))))
theorem RowsL.keep {W : Wd} {G G' : Hp} {acc : List V} {i : Nat} (k : ∀ b ys, G b = some (.tup ys) → G' b = some (.tup ys)) (h : RowsL W G acc i) : RowsL W G' acc i := ⟨h.1, fun j hj => by
  obtain ⟨t, ys, h1, h2, h3⟩ := h.2 j hj
  exact ⟨t, ys, h1, k _ _ h2, h3.keep k⟩⟩
theorem RowsL.snoc {W : Wd} {G : Hp} {acc : List V} {i : Nat} {t : Addr} {ys : List V} (h : RowsL W G acc i) (ht : G t = some (.tup ys)) (hn : NpAt G ys ((List.range (2 ^ W.ins)).map (W.row (W.code (W.R.ord i))))) : RowsL W G (acc ++ [.ref t]) (i + 1) := ⟨by rw [List.length_append, h.1]; rfl, fun j hj => by
  by_cases c : j < i
  · obtain ⟨t', ys', h1, h2, h3⟩ := h.2 j c
    exact ⟨t', ys', by rw [List.getElem?_append_left (by rw [h.1]; exact c)]; exact h1, h2, h3⟩
  · have e : j = i := by omega
    subst e
    exact ⟨t, ys, by rw [← h.1, List.getElem?_append_right (Nat.le_refl _), Nat.sub_self]; rfl, ht, hn⟩⟩
theorem giv_range (n : Nat) (f : Nat → Nat) : giv n (fun _ => true) (fun i => V.int (f i : Nat)) = valsN ((List.range n).map f) := by
  rw [giv_all]
  unfold valsN
  rw [List.map_map]
  rfl
theorem onto_le {C : List Nat} {k L : Nat} (h : ∀ c, c < k → ∃ i, i < L ∧ cl C i = c) : k ≤ L := by
  have rep : ∀ c, ∃ i, c < k → i < L ∧ cl C i = c := fun c => by
    by_cases hc : c < k
    · obtain ⟨i, hi⟩ := h c hc
      exact ⟨i, fun _ => hi⟩
    · exact ⟨0, fun z => absurd z hc⟩
  obtain ⟨r, hr⟩ := Classical.axiomOfChoice rep
  have nd : ((List.range k).map r).Nodup := by
    refine List.pairwise_map.mpr (List.Pairwise.imp_of_mem ?_ List.nodup_range)
    intro c d hc hd hcd e
    have h1 := (hr c (List.mem_range.mp hc)).2
    have h2 := (hr d (List.mem_range.mp hd)).2
    rw [e, h2] at h1
    exact hcd h1.symm
  have := nodup_lt L _ nd fun x hx => by
    obtain ⟨c, hc, rfl⟩ := List.mem_map.mp hx
    exact (hr c (List.mem_range.mp hc)).1
  simpa using this
theorem Wd.ne (W : Wd) {i j : Nat} (hi : i < W.R.order.length) (hj : j < W.R.order.length) (h : ¬ i = j) : ¬ W.code (W.R.ord i) = W.code (W.R.ord j) := fun e => h (by
  have e1 := W.ord_at hi
  have e2 := W.ord_at hj
  rw [← e] at e2
  exact (List.getElem?_inj (by show i < W.ordC.length; rw [W.ord_len]; exact hi) W.bok.nd).mp (e1.trans e2.symm))
/-- the dict from states to classes -/
def ClsAt (W : Wd) (kvs : List (Key × V)) (C : List Nat) (i : Nat) : Prop := kvs.length ≤ i ∧ ∀ j, j < i → valV kvs (Sum.inl ((W.code (W.R.ord j) : Nat) : Int)) = some (.int (cl C j : Nat))
theorem ClsAt.put {W : Wd} {kvs : List (Key × V)} {C : List Nat} {i : Nat} (h : ClsAt W kvs C i) (hi : i < W.R.order.length) : ClsAt W (putK kvs (Sum.inl ((W.code (W.R.ord i) : Nat) : Int)) (.int (cl C i : Nat))) C (i + 1) := ⟨by
  have : (putK kvs (Sum.inl ((W.code (W.R.ord i) : Nat) : Int)) (V.int (cl C i : Nat))).length ≤ kvs.length + 1 := by
    unfold putK
    split <;> simp
  have := h.1
  omega, fun j hj => by
  rw [valV_put]
  by_cases c : j = i
  · subst c
    rw [if_pos rfl]
  · rw [if_neg (key_ne (W.ne (by omega) hi c))]
    exact h.2 j (by omega)⟩
theorem upd_tup {H : Hp} {p : Addr} {o : HO} {xs : List V} (h : H p = some (.lst xs)) : ∀ b ys, H b = some (.tup ys) → upd H p o b = some (.tup ys) := fun b ys e => by
  rw [upd_ne (ne_of e h (by intro z; cases z))]
  exact e
section
variable {P : Program} {w : World} {K : PySem.W.Frag} {mg : Str → Option Value} {base : Heap} {f C : Addr} {fd : FuncData}
/-! ### state_classes -/
abbrev s_state_classes : Stmt := top 18
theorem sc_state_classes : FnScope ["machine", "states", "width", "rows", "classes", "count", "class_of", "keys", "row", "number", "_", "after", "output", "state"] ["machine"] (defScope s_state_classes) := ⟨rfl, rfl, rfl, by decide +kernel, rfl, by decide +kernel, by decide +kernel⟩
def spClasses (C : Addr) : Sp := fun vs H Q _ => ∃ (m : Addr) (W : Wd) (t : Addr) (xs : List V), vs = [.ref m] ∧ MAt H C m W t xs ∧
  ∀ (p : Addr) H', Same H H' → H p = none → H' p = some (.lst (valsN (W.R.nums W.look))) → Q (.ref p) H'
theorem ok_state_classes (T_Machine : MT K mg C) (D_reached_states : Fn P w K mg base 3 "reached_states" ["machine"] (spReached C)) (D_numbered : Fn P w K mg base 1 "numbered" ["keys"] spNumbered) (F : Fun K "state_classes" "state_classes" s_state_classes f fd) (Z : Bl mg) : FnOk P w K mg base CX0 4 f fd ["machine"] (spClasses C) := by
  refine F.ok sc_state_classes (fun vs H Q E h => ?_) (fun cdv A outer s H vs Q E hr h => ?_)
  · obtain ⟨m, W, t, xs, rfl, _⟩ := h
    rfl
  obtain ⟨m, W, t, xs, rfl, hm, q⟩ := h
  have T := T_Machine
  obtain ⟨dx, ob⟩ := hm.ob
  refine ⟨_, (pss_cons (ps_set (i := 1) sc_state_classes.nd rfl (Or.inl rfl) (pe_call D_reached_states.G (hr.mono (by omega)) (by rfl) D_reached_states.m D_reached_states.kp D_reached_states.b .nil pass0 (pa_cons (pv 0) pa_nil)))
  (pss_cons (ps_set (i := 2) sc_state_classes.nd rfl (Or.inr rfl) (pe_op op_shl pe_int (fldk (K := K) rfl (pv 0) rfl)))
  (pss_cons (ps_setLc (i := 3) (own := [("state", 13)]) (tt := tYes) rfl sc_state_classes.nd rfl rfl (sw_true rfl rfl rfl (by decide +kernel)) (pik_list (K := K) rfl (pv 1)) (blkOk_by (N := ["machine", "states", "width", "rows", "classes", "count", "class_of", "keys", "row", "number", "_", "after", "output", "state"]) (sc := defScope s_state_classes) (by decide +kernel)) (fun _ _ _ _ _ => (pg_name (i := 13) sc_state_classes.nd rfl (Or.inl rfl))) (fun _ _ _ _ _ => pts_nil) (fun _ _ _ _ _ => (pe_slice (slk_tup (K := K) rfl) (fldk (K := K) rfl (pv 0) rfl) (po_some (pe_op op_mul (pv 13) (pv 2))) (po_some (pe_op op_mul (pe_op op_add (pv 13) pe_int) (pv 2))))))
  (pss_cons (ps_set (i := 4) sc_state_classes.nd rfl (Or.inl rfl) (pe_call D_numbered.G (hr.mono (by omega)) (by rfl) D_numbered.m D_numbered.kp D_numbered.b .nil pass0 (pa_cons (pe_lc (own := [("row", 8)]) (tt := tYes) rfl sc_state_classes.nd (pik_list (K := K) rfl (pv 3)) (blkOk_by (N := ["machine", "states", "width", "rows", "classes", "count", "class_of", "keys", "row", "number", "_", "after", "output", "state"]) (sc := defScope s_state_classes) (by decide +kernel)) (fun _ _ _ _ _ => (pg_name (i := 8) sc_state_classes.nd rfl (Or.inl rfl))) (fun _ _ _ _ _ => pts_nil) (fun _ _ _ _ _ => (pe_callTy (callk_tupL (K := K) rfl) (by rfl) Z.tuple (by decide +kernel) (pa_cons (pe_lc (own := [("output", 12), ("_", 10)]) (tt := tYes) rfl sc_state_classes.nd (pik_tup (K := K) rfl (pv 8)) (blkOk_by (by with_unfolding_all rfl)) (fun _ _ _ _ _ => (pgk_tup (K := K) (n := 2) rfl (by rfl) (pgs_cons (pg_name (i := 12) sc_state_classes.nd rfl (Or.inl rfl)) (pgs_cons (pg_name (i := 10) sc_state_classes.nd rfl (Or.inl rfl)) pgs_nil)))) (fun _ _ _ _ _ => pts_nil) (fun _ _ _ _ _ => (pv 12))) pa_nil)))) pa_nil)))
  (pss_cons (ps_set (i := 5) sc_state_classes.nd rfl (Or.inl rfl) pe_int)
  (pss_cons (ps_while PassesOwn.never (pt_cmpR op_le (pv 5) (pe_callB (crk_max (K := K) rfl rfl) (by rfl) Z.max (by decide +kernel) (pa_cons (pv 4) pa_nil)) (nomark _)) (pss_cons (ps_set (i := 5) sc_state_classes.nd rfl (Or.inl rfl) (pe_op op_add (pe_callB (crk_max (K := K) rfl rfl) (by rfl) Z.max (by decide +kernel) (pa_cons (pv 4) pa_nil)) pe_int))
  (pss_cons (ps_set (i := 6) sc_state_classes.nd rfl (Or.inr rfl) (pe_dc (own := [("state", 13), ("number", 9)]) (tt := tYes) rfl sc_state_classes.nd (pik_zip (K := K) rfl (by rfl) Z.zip (pa_cons (pv 1) (pa_cons (pv 4) pa_nil))) (blkOk_by (N := ["machine", "states", "width", "rows", "classes", "count", "class_of", "keys", "row", "number", "_", "after", "output", "state"]) (sc := defScope s_state_classes) (by decide +kernel)) (fun _ _ _ _ _ => (pgk_tup (K := K) (n := 2) rfl (by rfl) (pgs_cons (pg_name (i := 13) sc_state_classes.nd rfl (Or.inl rfl)) (pgs_cons (pg_name (i := 9) sc_state_classes.nd rfl (Or.inl rfl)) pgs_nil)))) (fun _ _ _ _ _ => pts_nil) (fun _ _ _ _ _ => (pv 13)) (fun _ _ _ _ _ => (pv 9))))
  (pss_cons (ps_set (i := 7) sc_state_classes.nd rfl (Or.inl rfl) (pe_lst pa_nil))
  (pss_cons (ps_for PassesOwn.never rfl (pik_zip (K := K) rfl (by rfl) Z.zip (pa_cons (pv 3) (pa_cons (pv 4) pa_nil))) (pgk_tup (K := K) (n := 2) rfl (by rfl) (pgs_cons (pg_name (i := 8) sc_state_classes.nd rfl (Or.inl rfl)) (pgs_cons (pg_name (i := 9) sc_state_classes.nd rfl (Or.inl rfl)) pgs_nil))) (pss_one (ps_expr (pe_bm PySem.F.plainAttrs_list PySem.F.slot_list_append PySem.F.type_list_append mt_append (pv 7) (pa_cons (pe_tup (pa_cons (pv 9) (pa_cons (pe_callTy (callk_tupL (K := K) rfl) (by rfl) Z.tuple (by decide +kernel) (pa_cons (pe_lc (own := [("_", 10), ("after", 11)]) (tt := tYes) rfl sc_state_classes.nd (pik_tup (K := K) rfl (pv 8)) (blkOk_by (N := ["machine", "states", "width", "rows", "classes", "count", "class_of", "keys", "row", "number", "_", "after", "output", "state"]) (sc := defScope s_state_classes) (by decide +kernel)) (fun _ _ _ _ _ => (pgk_tup (K := K) (n := 2) rfl (by rfl) (pgs_cons (pg_name (i := 10) sc_state_classes.nd rfl (Or.inl rfl)) (pgs_cons (pg_name (i := 11) sc_state_classes.nd rfl (Or.inl rfl)) pgs_nil)))) (fun _ _ _ _ _ => pts_nil) (fun _ _ _ _ _ => (pe_dget (hu_of hr) (pv 6) (pv 11) (fun _ _ => rfl)))) pa_nil)) pa_nil))) pa_nil)))))
  (pss_one (ps_set (i := 4) sc_state_classes.nd rfl (Or.inl rfl) (pe_call D_numbered.G (hr.mono (by omega)) (by rfl) D_numbered.m D_numbered.kp D_numbered.b .nil pass0 (pa_cons (pv 7) pa_nil)))))))))
  (pss_one (ps_ret (pv 4))))))))), ?_⟩
  
  change tSeq _ _ _ [some (.ref m), none, none, none, none, none, none, none, none, none, none, none, none, none] _
  walk_at "st"
  refine ⟨m, W, t, xs, rfl, hm, fun sa H1 s1 hsa0 hsa => ?_⟩
  walk_at "st"
  refine g_fld (s1 _ _ ob) T.cl T.n1 mF_ins ?_
  walk_at "wp"
  have i4 := W.i4
  refine ⟨n_pow_shl (by omega), ?_⟩
  walk_at "wn"
  walk_at "st"
  have b256 := W.b256
  have c16 := W.c16
  have ol : W.R.order.length ≤ 256 := Nat.le_trans W.R.order_len (Nat.le_trans W.NN b256)
  have op := W.order_pos
  
  -- the rows of each reached state
  obtain ⟨Pa, hPa⟩ := opq (fun (D : Addr) (i : Nat) (H' : Hp) => ∃ acc : List V, Same H1 H' ∧ H' D = some (.lst acc) ∧ RowsL W H' acc i)
  refine c_Lw (SqL.of hsa) Pa (fun D hD => ?_) (fun D i H' hD hi h => ?_) (fun D i x H' hD hi h => ?_) (fun ra H2 hra h => ?_)
  · rw [hPa]
    exact ⟨[], same_new hD _, upd_same, rfl, fun j hj => absurd hj (Nat.not_lt_zero _)⟩
  · rw [hPa] at h
    obtain ⟨_, s2, _⟩ := h
    exact SqL.of (s2 _ _ hsa)
  · rw [hPa] at h
    obtain ⟨acc, s2, hacc, hrows⟩ := h
    obtain ⟨c, hc, rfl⟩ := valsN_get hi
    have il : i < W.R.order.length := by
      have := (List.getElem?_eq_some_iff.mp hc).1
      rw [W.ord_len] at this
      exact this
    have ec : c = W.code (W.R.ord i) := by
      rw [W.ord_at il] at hc
      exact (Option.some.inj hc).symm
    have clt : c < 2 ^ W.bits := W.ord_lt (List.mem_of_getElem? hc)
    have s12 := s1.trans s2
    walk_at "wp"
    refine g_fld (s12 _ _ ob) T.cl T.n5 mF_rows ?_
    refine ⟨cmulr (by omega), ?_⟩
    rw [n_mul, n_add1]
    refine ⟨cmulr (by omega), ?_⟩
    rw [n_mul]
    refine g_sl (s12 _ _ hm.tu) fun p H3 s3 hp => ?_
    refine ⟨acc, s3 _ _ hacc, szl (by rw [hrows.1]; omega), ?_⟩
    rw [hPa]
    have kp := upd_tup (o := .lst (acc ++ [.ref p])) (s3 _ _ hacc)
    have s13 := s12.trans s3
    refine ⟨_, same_upd (s2.trans s3) hD, upd_same, (hrows.keep fun b ys e => kp _ _ (s3 _ _ e)).snoc (kp _ _ hp) ?_⟩
    rw [← ec]
    exact (rows_part (hm.np.keep fun b ys e => s13 _ _ e) clt).keep kp
  rw [hPa] at h
  obtain ⟨rxs, s2, hrx, hrows⟩ := h
  rw [valsN_len, W.ord_len] at hrows
  clear hPa Pa
  
  walk_at "wp"
  walk_at "st"
  -- the first classes
  have oget : ∀ i, i < W.R.order.length → (outsOf W.S)[i]? = some (W.S.out i) := fun i hi => by
    unfold outsOf
    rw [List.getElem?_map, List.getElem?_range (by exact hi)]
    rfl
  have olen : (outsOf W.S).length = W.R.order.length := by unfold outsOf; rw [List.length_map, List.length_range]; rfl
  obtain ⟨Pb, hPb⟩ := opq (fun (D : Addr) (i : Nat) (H' : Hp) => ∃ acc : List V, Same H2 H' ∧ H' D = some (.lst acc) ∧ KyAt H' acc (((outsOf W.S).take i).map nkL))
  refine c_Lw (SqL.of hrx) Pb (fun D hD => ?_) (fun D i H' hD hi h => ?_) (fun D i x H' hD hi h => ?_) (fun ka H3 hka h => ?_)
  · rw [hPb]
    exact ⟨[], same_new hD _, upd_same, rfl, (fun j k e => by cases e), fun k e => by cases e⟩
  · rw [hPb] at h
    obtain ⟨_, s3, _⟩ := h
    exact SqL.of (s3 _ _ hrx)
  · rw [hPb] at h
    obtain ⟨acc, s3, hacc, hky⟩ := h
    have il := (List.getElem?_eq_some_iff.mp hi).1
    rw [hrows.1] at il
    obtain ⟨tr, ys, h1, h2, h3⟩ := (hrows.keep fun b ys e => s3 _ _ e).2 i il
    rw [hi] at h1
    obtain rfl := Option.some.inj h1
    have yl : ys.length = 2 ^ W.ins := by rw [h3.len]; simp
    have al : acc.length ≤ 256 := by rw [hky.len, List.length_map, List.length_take, olen]; omega
    walk_at "wp"
    refine c_T (SqT.of h2) (fun _ => true) (fun n => V.int ((W.row (W.code (W.R.ord i)) n).1 : Nat)) (fun D2 n y hD2 hn => ?_) (fun lp hlp => ?_)
    · have nl : n < 2 ^ W.ins := by
        have := (List.getElem?_eq_some_iff.mp hn).1
        omega
      obtain ⟨l, hl, hl'⟩ := h3.get n (W.row (W.code (W.R.ord i)) n) (by rw [List.getElem?_map, List.getElem?_range nl]; rfl)
      rw [hn] at hl
      obtain rfl := Option.some.inj hl
      refine g_tup (SqT.of (same_new hD2 _ _ _ hl')) rfl ?_
      walk_at "wp"
      exact cY_at (by omega) rfl rfl
    · rw [yl, giv_range, ← W.S_out il]
      refine g_tupL (SqL.of upd_same) fun tp htp => ?_
      have s4 := (same_new hlp (.lst (valsN (W.S.out i)))).trans (same_new htp (.tup (valsN (W.S.out i))))
      have ht4 : upd (upd H' lp (.lst (valsN (W.S.out i)))) tp (.tup (valsN (W.S.out i))) tp = some (.tup (valsN (W.S.out i))) := upd_same
      generalize upd (upd H' lp (.lst (valsN (W.S.out i)))) tp (.tup (valsN (W.S.out i))) = H4 at s4 ht4 ⊢
      refine ⟨acc, s4 _ _ hacc, szl (by omega), ?_⟩
      rw [hPb]
      have kp := upd_tup (o := .lst (acc ++ [.ref tp])) (s4 _ _ hacc)
      refine ⟨_, same_upd (s3.trans s4) hD, upd_same, ?_⟩
      rw [take_snoc (oget i il), List.map_append]
      exact (hky.keep fun b ys e => kp _ _ (s4 _ _ e)).snoc (nk_L (kp _ _ ht4)) (Nat.le_trans (nkL_dep _) (by decide))
  rw [hPb] at h
  obtain ⟨kxs, s3, hkx, hky⟩ := h
  rw [hrows.1, ← olen, List.take_length] at hky
  clear hPb Pb
  refine ⟨ka, kxs, _, rfl, hkx, hky, by rw [List.length_map, olen]; omega, fun c0 H4 s4 hc00 hc0 => ?_⟩
  rw [numbered_nkL] at hc0
  have hc0 : H4 c0 = some (.lst (valsN (start W.S))) := hc0
  walk_at "st"
  walk_at "st"
  have s04 : Same H H4 := s1.trans (s2.trans (s3.trans s4))
  have s24 : Same H2 H4 := s3.trans s4
  have c00 : H c0 = none := s1.free (s2.free (s3.free hc00))
  have c02 : H2 c0 = none := s3.free hc00
  obtain ⟨Wl, hW⟩ := opq (fun (mm : Nat) (σ' : L2.St) (H' : Hp) => ∃ (C0 : List Nat) (n0 : Nat) (ca : Addr) (a6 a7 a8 a9 : Option V), mm = W.R.order.length + 1 - n0 ∧ σ' = [some (.ref m), some (.ref sa), some (.int ((2 ^ W.ins : Nat) : Int)), some (.ref ra), some (.ref ca), some (.int (n0 : Nat)), a6, a7, a8, a9, none, none, none, none] ∧ Same H2 H' ∧ H2 ca = none ∧ H' ca = some (.lst (valsN C0)) ∧ Good W.S C0 ∧ (n0 = 0 ∨ ∃ C1, Good W.S C1 ∧ C0 = refineC W.S C1 ∧ ∀ c, c < n0 → ∃ i, i < W.R.order.length ∧ cl C1 i = c))
  refine f_while Wl (W.R.order.length + 1) ?_ ?_ ?_
  · rw [hW]
    exact ⟨start W.S, 0, c0, _, _, _, _, rfl, rfl, s24, c02, hc0, good_start W.S, .inl rfl⟩
  · intro mm σ' H' h
    rw [hW] at h
    obtain ⟨C0, n0, ca, a6, a7, a8, a9, rfl, rfl, sH, hca2, hca, g, hn0⟩ := h
    have Cl : C0.length = W.R.order.length := g.len
    obtain ⟨kk, k1, k2⟩ := g.onto
    have kL : kk ≤ W.R.order.length := onto_le k2
    have inC : ∀ y, y ∈ C0 → y < kk := fun y hy => by
      obtain ⟨i, hi⟩ := List.getElem?_of_mem hy
      have il := (List.getElem?_eq_some_iff.mp hi).1
      have := getD_some il
      rw [hi] at this
      rw [Option.some.inj this]
      exact k1 i (by rw [← g.len]; exact il)
    have clC : ∀ i, i < W.R.order.length → cl C0 i ∈ C0 := fun i hi => List.mem_of_getElem? (getD_some (by rw [Cl]; exact hi))
    walk_at "wp"
    refine g_maxN hca (by omega) fun mx m1 m2 => ?_
    walk_at "wp"
    refine ite_split (fun c => ?_) (fun c => ?_)
    · have c : n0 ≤ mx := by
        have := of_decide_eq_true c
        omega
      have mk := inC mx m1
      walk_at "st"
      refine g_maxN hca (by omega) fun mx2 m12 m22 => ?_
      obtain rfl : mx = mx2 := Nat.le_antisymm (m22 _ m1) (m2 _ m12)
      walk_at "wp"
      rw [n_add1]
      walk_at "st"
      -- the dict of classes
      have sa2 := (s2.trans sH) _ _ hsa
      obtain ⟨Pd, hPd⟩ := opq (fun (D : Addr) (i : Nat) (H5 : Hp) => ∃ kvs, Same H' H5 ∧ H5 D = some (.dK kvs) ∧ ClsAt W kvs C0 i)
      refine d_Z (SqL.of sa2) (SqL.of hca) (by rw [valsN_len, valsN_len, W.ord_len, Cl]) Pd (fun D hD => ?_) (fun D i H5 hD h => ?_) (fun D i x y T' H5 hD hx hy h hT => ?_) (fun cd H5 hcd h => ?_)
      · rw [hPd]
        exact ⟨[], same_new hD _, upd_same, Nat.le_refl _, fun j hj => absurd hj (Nat.not_lt_zero _)⟩
      · rw [hPd] at h
        obtain ⟨_, s5, _⟩ := h
        exact ⟨SqL.of (s5 _ _ sa2), SqL.of (s5 _ _ hca)⟩
      · rw [hPd] at h
        obtain ⟨kvs, s5, hD5, hcl⟩ := h
        obtain ⟨x, hx1, rfl⟩ := valsN_get hx
        obtain ⟨y, hy1, rfl⟩ := valsN_get hy
        have il : i < W.R.order.length := by
          have := (List.getElem?_eq_some_iff.mp hy1).1
          omega
        rw [W.ord_at il] at hx1
        obtain rfl := Option.some.inj hx1
        rw [getD_some (by rw [Cl]; exact il)] at hy1
        obtain rfl := Option.some.inj hy1
        have s6 := same_new hT (.tup [.int (W.code (W.R.ord i) : Nat), .int (cl C0 i : Nat)])
        refine g_tup (SqT.of upd_same) rfl ?_
        walk_at "wp"
        refine ⟨kvs, Sum.inl ((W.code (W.R.ord i) : Nat) : Int), rfl, s6 _ _ hD5, szl (by have := hcl.1; omega), ?_⟩
        rw [hPd]
        exact ⟨_, same_upd (s5.trans s6) hD, upd_same, hcl.put il⟩
      rw [hPd] at h
      obtain ⟨kvs, s5, hcd5, hcl⟩ := h
      rw [valsN_len, W.ord_len] at hcl
      clear hPd Pd
      walk_at "st"
      refine ⟨szr rfl, fun kl hkl => ?_⟩
      -- the keys
      have kget : ∀ i, i < W.R.order.length → (keysOf W.S C0)[i]? = some (cl C0 i, (List.range (2 ^ W.ins)).map fun n => cl C0 (W.S.nx i n)) := fun i hi => by
        unfold keysOf
        rw [List.getElem?_map, List.getElem?_range (by exact hi), W.S_cnt]
        rfl
      have klen : (keysOf W.S C0).length = W.R.order.length := by unfold keysOf; rw [List.length_map, List.length_range]; rfl
      have s6 := same_new hkl (.lst [])
      have hkl6 : upd H5 kl (.lst []) kl = some (.lst []) := upd_same
      generalize upd H5 kl (.lst []) = H6 at s6 hkl6 ⊢
      have rx5 := (sH.trans s5) _ _ hrx
      have ca5 := s5 _ _ hca
      have hrows5 := hrows.keep (G' := H5) fun b ys e => (sH.trans s5) _ _ e
      walk_at "st"
      obtain ⟨Pk, hPk⟩ := opq (fun (i : Nat) (σ' : L2.St) (H7 : Hp) => ∃ (a8 a9 : Option V) (acc : List V), σ' = [some (.ref m), some (.ref sa), some (.int ((2 ^ W.ins : Nat) : Int)), some (.ref ra), some (.ref ca), some (.int ((mx + 1 : Nat) : Int)), some (.ref cd), some (.ref kl), a8, a9, none, none, none, none] ∧ Same H5 H7 ∧ H7 kl = some (.lst acc) ∧ KyAt H7 acc (((keysOf W.S C0).take i).map nkP))
      refine f_Z (SqL.of (s6 _ _ rx5)) (SqL.of (s6 _ _ ca5)) (by rw [hrows.1, valsN_len, Cl]) Pk ?_ ?_ ?_ ?_
      · rw [hPk]
        exact ⟨_, _, [], rfl, s6, hkl6, rfl, (fun j k e => by cases e), fun k e => by cases e⟩
      · intro i σ' H7 h
        rw [hPk] at h
        obtain ⟨_, _, _, _, s7, _⟩ := h
        exact ⟨SqL.of (s7 _ _ rx5), SqL.of (s7 _ _ ca5)⟩
      · intro i x y T' σ' H7 hx hy h hT
        rw [hPk] at h
        obtain ⟨a8, a9, acc, rfl, s7, hkl7, hky7⟩ := h
        have il : i < W.R.order.length := by
          have := (List.getElem?_eq_some_iff.mp hx).1
          rw [hrows.1] at this
          exact this
        obtain ⟨y, hy1, rfl⟩ := valsN_get hy
        rw [getD_some (by rw [Cl]; exact il)] at hy1
        obtain rfl := Option.some.inj hy1
        obtain ⟨tr, ys, h1, h2, h3⟩ := hrows5.2 i il
        rw [hx] at h1
        obtain rfl := Option.some.inj h1
        have yl : ys.length = 2 ^ W.ins := by rw [h3.len]; simp
        have al : acc.length ≤ 256 := by rw [hky7.len, List.length_map, List.length_take, klen]; omega
        have s8 := same_new hT (.tup [.ref tr, .int (cl C0 i : Nat)])
        have hT8 : upd H7 T' (.tup [.ref tr, .int (cl C0 i : Nat)]) T' = some (.tup [.ref tr, .int (cl C0 i : Nat)]) := upd_same
        generalize upd H7 T' (.tup [.ref tr, .int (cl C0 i : Nat)]) = H8 at s8 hT8 ⊢
        have s58 := s7.trans s8
        refine g_tup (SqT.of hT8) rfl ?_
        walk_at "wp"
        refine ⟨k_tyL (s8 _ _ hkl7), ?_⟩
        refine c_T (SqT.of (s58 _ _ h2)) (fun _ => true) (fun n => V.int (cl C0 (W.S.nx i n) : Nat)) (fun D2 n z hD2 hn => ?_) (fun lp hlp => ?_)
        · have nl : n < 2 ^ W.ins := by
            have := (List.getElem?_eq_some_iff.mp hn).1
            omega
          obtain ⟨l, hl, hl'⟩ := h3.get n (W.row (W.code (W.R.ord i)) n) (by rw [List.getElem?_map, List.getElem?_range nl]; rfl)
          rw [hn] at hl
          obtain rfl := Option.some.inj hl
          obtain ⟨n1, n2⟩ := W.S_next il nl
          have hv := hcl.2 _ n1
          rw [← n2] at hv
          refine g_tup (SqT.of (same_new hD2 _ _ _ (s58 _ _ hl'))) rfl ?_
          walk_at "wp"
          refine d_getK (k := Sum.inl (((W.row (W.code (W.R.ord i)) n).2 : Nat) : Int)) (.of (same_new hD2 _ _ _ (s58 _ _ hcd5))) hv ?_
          exact cY_at (by omega) rfl rfl
        · rw [yl, giv_range]
          refine g_tupL (SqL.of upd_same) fun tp htp => ⟨szr rfl, fun tq htq => ?_⟩
          have s9 := (same_new hlp (.lst (valsN ((List.range (2 ^ W.ins)).map fun n => cl C0 (W.S.nx i n))))).trans (same_new htp (.tup (valsN ((List.range (2 ^ W.ins)).map fun n => cl C0 (W.S.nx i n)))))
          have ht9 : upd (upd H8 lp (.lst (valsN ((List.range (2 ^ W.ins)).map fun n => cl C0 (W.S.nx i n))))) tp (.tup (valsN ((List.range (2 ^ W.ins)).map fun n => cl C0 (W.S.nx i n)))) tp = some (.tup (valsN ((List.range (2 ^ W.ins)).map fun n => cl C0 (W.S.nx i n)))) := upd_same
          generalize upd (upd H8 lp (.lst (valsN ((List.range (2 ^ W.ins)).map fun n => cl C0 (W.S.nx i n))))) tp (.tup (valsN ((List.range (2 ^ W.ins)).map fun n => cl C0 (W.S.nx i n)))) = H9 at s9 ht9 htq ⊢
          have s10 := same_new htq (.tup [.int (cl C0 i : Nat), .ref tp])
          have ht10 : upd H9 tq (.tup [.int (cl C0 i : Nat), .ref tp]) tq = some (.tup [.int (cl C0 i : Nat), .ref tp]) := upd_same
          generalize upd H9 tq (.tup [.int (cl C0 i : Nat), .ref tp]) = H10 at s10 ht10 ⊢
          have s810 := s8.trans (s9.trans s10)
          refine k_app (s810 _ _ hkl7) (by omega) ?_
          rw [hPk]
          have kp := upd_tup (o := .lst (acc ++ [.ref tq])) (s810 _ _ hkl7)
          refine ⟨_, _, acc ++ [.ref tq], rfl, same_upd (s7.trans s810) hkl, upd_same, ?_⟩
          rw [take_snoc (kget i il), List.map_append]
          exact (hky7.keep fun b ys e => kp _ _ (s810 _ _ e)).snoc (nk_P (kp _ _ ht10) (kp _ _ (s10 _ _ ht9))) (nkP_dep _)
      · intro σ' H7 h
        rw [hPk] at h
        obtain ⟨a8, a9, acc, rfl, s7, hkl7, hky7⟩ := h
        rw [hrows.1, ← klen, List.take_length] at hky7
        walk_at "wp"
        refine ⟨kl, acc, _, rfl, hkl7, hky7, by rw [List.length_map, klen]; omega, fun c2 H8 s8 hc20 hc2 => ?_⟩
        rw [numbered_nkP] at hc2
        have hc2 : H8 c2 = some (.lst (valsN (refineC W.S C0))) := hc2
        walk_at "wp"
        rw [hW]
        refine ⟨W.R.order.length + 1 - (mx + 1), by omega, refineC W.S C0, mx + 1, c2, _, _, _, _, rfl, rfl, sH.trans (s5.trans (s7.trans s8)), sH.free (s5.free (s7.free hc20)), hc2, good_refine W.S g, .inr ⟨C0, g, rfl, fun c hc => k2 c (by omega)⟩⟩
    · have c : mx < n0 := by
        have := of_decide_eq_false c
        omega
      walk_at "wp"
      rcases hn0 with e | ⟨C1, g1, eC, h2⟩
      · omega
      · have fin := W.R.done_nums W.look g1 (k := n0) (k' := mx + 1) (fun i hi => by
          have : refineC (W.R.sys W.look) C1 = C0 := eC.symm
          rw [this]
          exact Nat.lt_succ_of_le (m2 _ (clC i hi))) h2 c
        have eC2 : C0 = W.R.nums W.look := eC.trans fin
        rw [eC2] at hca
        exact q ca H' (s1.trans (s2.trans sH)) (s1.free (s2.free hca2)) hca
  · exact mo_test (mo_op mo_rI0 mo_var (mo_cb mo_max (mo_cons mo_var mo_nil)))
end
end Ck
namespace Ck
open PySem L2
def encP (p : Nat × Nat) : PyData := .tuple [.int (p.1 : Nat), .int (p.2 : Nat)]
theorem dvs_of_get {H : Hp} : ∀ {xs : List V} {ds : List PyData}, xs.length = ds.length → (∀ (i : Nat) (d : PyData), ds[i]? = some d → ∃ v, xs[i]? = some v ∧ Dv H v d) → DvAll H xs ds
  | [], [], _, _ => .nil
  | [], d :: ds, h, _ => by simp at h
  | x :: xs, [], h, _ => by simp at h
  | x :: xs, d :: ds, h, k => by
    obtain ⟨v, h1, h2⟩ := k 0 d rfl
    have e : x = v := by simpa using h1
    subst e
    exact .cons h2 (dvs_of_get (by simpa using h) fun i e he => by
      obtain ⟨u, g1, g2⟩ := k (i + 1) e (by simpa using he)
      exact ⟨u, by simpa using g1, g2⟩)
theorem np_dvs {H : Hp} {xs : List V} {ps : List (Nat × Nat)} (h : NpAt H xs ps) : DvAll H xs (ps.map encP) := dvs_of_get (by rw [h.len, List.length_map]) fun i d hd => by
  rw [List.getElem?_map] at hd
  obtain ⟨p, hp, rfl⟩ := Option.map_eq_some_iff.mp hd
  obtain ⟨t, h1, h2⟩ := h.get i p hp
  exact ⟨_, h1, .tup h2 (.cons (.int _) (.cons (.int _) .nil))⟩
theorem small_P (ps : List (Nat × Nat)) (h : ps.length ≤ 1000000) : Small (.tuple (ps.map encP)) := .tup (by rw [List.length_map]; exact h) fun d hd => by
  obtain ⟨p, _, rfl⟩ := List.mem_map.mp hd
  exact .tup (by show 2 ≤ 1000000; decide) fun e he => by
    simp only [List.mem_cons, List.not_mem_nil, or_false] at he
    rcases he with e | e <;> rw [e] <;> exact .int _
theorem small_N (ns : List Nat) (h : ns.length ≤ 1000000) : Small (encN ns) := .lst (by rw [List.length_map]; exact h) fun d hd => by
  obtain ⟨p, _, rfl⟩ := List.mem_map.mp hd
  exact .int _
theorem depthAll_le {ds : List PyData} {k : Nat} (h : ∀ d ∈ ds, d.depth ≤ k) : PyData.depthAll ds ≤ k := by
  induction ds with
  | nil => exact Nat.zero_le _
  | cons d ds ih =>
    rw [PyData.depthAll]
    have h1 := h d List.mem_cons_self
    have h2 := ih fun e he => h e (List.mem_cons_of_mem _ he)
    omega
theorem depth_P (ps : List (Nat × Nat)) : (PyData.tuple (ps.map encP)).depth ≤ 2 := by
  rw [PyData.depth]
  have := depthAll_le (ds := ps.map encP) (k := 1) fun d hd => by
    obtain ⟨p, _, rfl⟩ := List.mem_map.mp hd
    simp [encP, PyData.depth, PyData.depthAll]
  omega
theorem depth_N (ns : List Nat) : (encN ns).depth ≤ 1 := by
  unfold encN
  rw [PyData.depth]
  have := depthAll_le (ds := ns.map fun n => PyData.int (n : Nat)) (k := 0) fun d hd => by
    obtain ⟨p, _, rfl⟩ := List.mem_map.mp hd
    simp [PyData.depth]
  omega
/-- all a machine tells -/
def encW (W : Wd) : PyData := .list [.int (W.ins : Nat), .int (W.outs : Nat), .int (W.bits : Nat), .int (W.start : Nat), .tuple (W.rows.map encP)]
theorem rows_4096 (W : Wd) : W.rows.length ≤ 4096 := by
  rw [W.rl]
  exact Nat.mul_le_mul W.b256 W.c16
theorem small_W (W : Wd) : Small (encW W) := .lst (by show 5 ≤ 1000000; decide) fun d hd => by
  simp only [List.mem_cons, List.not_mem_nil, or_false] at hd
  rcases hd with e | e | e | e | e <;> rw [e]
  · exact .int _
  · exact .int _
  · exact .int _
  · exact .int _
  · exact small_P _ (Nat.le_trans (rows_4096 W) (by decide))
theorem depth_W (W : Wd) : (encW W).depth < 8 := by
  unfold encW
  rw [PyData.depth]
  have := depthAll_le (ds := [PyData.int (W.ins : Nat), .int (W.outs : Nat), .int (W.bits : Nat), .int (W.start : Nat), .tuple (W.rows.map encP)]) (k := 2) fun d hd => by
    simp only [List.mem_cons, List.not_mem_nil, or_false] at hd
    rcases hd with e | e | e | e | e <;> rw [e]
    · simp [PyData.depth]
    · simp [PyData.depth]
    · simp [PyData.depth]
    · simp [PyData.depth]
    · exact depth_P _
  omega
theorem dv_W {H : Hp} {a t : Addr} {W : Wd} {xs : List V} (h : H a = some (.lst [.int (W.ins : Nat), .int (W.outs : Nat), .int (W.bits : Nat), .int (W.start : Nat), .ref t])) (ht : H t = some (.tup xs)) (np : NpAt H xs W.rows) : Dv H (.ref a) (encW W) :=
  .lst h (.cons (.int _) (.cons (.int _) (.cons (.int _) (.cons (.int _) (.cons (.tup ht (np_dvs np)) .nil)))))
theorem WorldAt.same {G G' : Hp} {o d : Addr} {W : Wd} {rl c w n : Addr} {xs : List V} {kvs : List (Key × V)} (s : Same G G') (h : WorldAt G o d W rl c w n xs kvs) : WorldAt G' o d W rl c w n xs kvs :=
  ⟨s _ _ h.own, s _ _ h.rows, h.np.keep fun b ys e => s _ _ e, s _ _ h.due, s _ _ h.ord, s _ _ h.ways, h.runs.same s, s _ _ h.nums⟩
theorem ixN0 {n : Nat} (h : 0 < n) : ixN n 0 = some 0 := ixN_at (j := 0) h
theorem same_np {H H' : Hp} {xs : List V} {ps : List (Nat × Nat)} (s : Same H H') (h : NpAt H xs ps) : NpAt H' xs ps := h.keep fun b ys e => s _ _ e
section
variable {P : Program} {w : World} {K : PySem.W.Frag} {mg : Str → Option Value} {base : Heap} {f C : Addr} {fd : FuncData}
/-! ### _law_kept -/
abbrev s_law_kept : Stmt := top 37
theorem sc_law_kept : FnScope ["machine", "own", "told"] ["machine", "own"] (defScope s_law_kept) := ⟨rfl, rfl, rfl, by decide +kernel, rfl, by decide +kernel, by decide +kernel⟩
def spKept (C : Addr) : Sp := fun vs H Q _ => ∃ (m o : Addr) (W : Wd) (t rl : Addr) (mxs xs : List V), vs = [.ref m, .ref o] ∧ MAt H C m W t mxs ∧ H o = some (.lst [.int (W.ins : Nat), .int (W.outs : Nat), .int (W.bits : Nat), .int (W.start : Nat), .ref rl]) ∧ H rl = some (.lst xs) ∧ NpAt H xs W.rows ∧
  ∀ H', Same H H' → Q (.bl true) H'
theorem ok_law_kept (T_Machine : MT K mg C) (D_law_same : Fn P w K mg base 9 "_law_same" ["value", "due"] (spSame 8)) (F : Fun K "_law_kept" "_law_kept" s_law_kept f fd) (Z : Bl mg) : FnOk P w K mg base CX0 10 f fd ["machine", "own"] (spKept C) := by
  refine F.ok sc_law_kept (fun vs H Q E h => ?_) (fun cdv A outer s H vs Q E hr h => ?_)
  · obtain ⟨m, o, _, _, _, _, _, rfl, _⟩ := h
    rfl
  obtain ⟨m, o, W, t, rl, mxs, xs, rfl, hm, ho, hrl, np, q⟩ := h
  have T := T_Machine
  obtain ⟨dx, ob⟩ := hm.ob
  refine ⟨_, (pss_cons (ps_set (i := 2) sc_law_kept.nd rfl (Or.inl rfl) (pe_lst (pa_cons (fldk (K := K) rfl (pv 0) rfl) (pa_cons (fldk (K := K) rfl (pv 0) rfl) (pa_cons (fldk (K := K) rfl (pv 0) rfl) (pa_cons (fldk (K := K) rfl (pv 0) rfl) (pa_cons (fldk (K := K) rfl (pv 0) rfl) pa_nil)))))))
  (pss_one (ps_ret (pe_call D_law_same.G (hr.mono (by omega)) (by rfl) D_law_same.m D_law_same.kp D_law_same.b .nil pass0 (pa_cons (pv 2) (pa_cons (pe_lst (pa_cons (pe_ix (ixk_list (K := K) rfl) (pv 1) pe_int (fun _ _ => rfl)) (pa_cons (pe_ix (ixk_list (K := K) rfl) (pv 1) pe_int (fun _ _ => rfl)) (pa_cons (pe_ix (ixk_list (K := K) rfl) (pv 1) pe_int (fun _ _ => rfl)) (pa_cons (pe_ix (ixk_list (K := K) rfl) (pv 1) pe_int (fun _ _ => rfl)) (pa_cons (pe_callTy (callk_tupL (K := K) rfl) (by rfl) Z.tuple (by decide +kernel) (pa_cons (pe_ix (ixk_list (K := K) rfl) (pv 1) pe_int (fun _ _ => rfl)) pa_nil)) pa_nil)))))) pa_nil)))))), ?_⟩
  
  change tSeq _ _ _ [some (.ref m), some (.ref o), none] _
  walk_at "st"
  refine g_fld ob T.cl T.n1 mF_ins ?_
  walk_at "wp"
  refine g_fld ob T.cl T.n2 mF_outs ?_
  walk_at "wp"
  refine g_fld ob T.cl T.n3 mF_bits ?_
  walk_at "wp"
  refine g_fld ob T.cl T.n4 mF_reset ?_
  walk_at "wp"
  refine g_fld ob T.cl T.n5 mF_rows ?_
  refine ⟨szr rfl, fun l hl => ?_⟩
  have s1 := same_new hl (.lst [.int (W.ins : Nat), .int (W.outs : Nat), .int (W.bits : Nat), .int (W.start : Nat), .ref t])
  have hl1 : upd H l (.lst [.int (W.ins : Nat), .int (W.outs : Nat), .int (W.bits : Nat), .int (W.start : Nat), .ref t]) l = some (.lst [.int (W.ins : Nat), .int (W.outs : Nat), .int (W.bits : Nat), .int (W.start : Nat), .ref t]) := upd_same
  generalize upd H l (.lst [.int (W.ins : Nat), .int (W.outs : Nat), .int (W.bits : Nat), .int (W.start : Nat), .ref t]) = H1 at s1 hl1 ⊢
  walk_at "st"
  refine k_ix (SqL.of (s1 _ _ ho)) (v := .int (W.ins : Nat)) rfl ?_
  refine k_ix (SqL.of (s1 _ _ ho)) (v := .int (W.outs : Nat)) rfl ?_
  refine k_ix (SqL.of (s1 _ _ ho)) (v := .int (W.bits : Nat)) rfl ?_
  refine k_ix (SqL.of (s1 _ _ ho)) (v := .int (W.start : Nat)) rfl ?_
  refine k_ix (SqL.of (s1 _ _ ho)) (v := .ref rl) rfl ?_
  refine g_tupL (SqL.of (s1 _ _ hrl)) fun t2 ht2 => ⟨szr rfl, fun l2 hl2 => ?_⟩
  have s2 := same_new ht2 (.tup xs)
  have s3 := same_new hl2 (.lst [.int (W.ins : Nat), .int (W.outs : Nat), .int (W.bits : Nat), .int (W.start : Nat), .ref t2])
  have s13 := s1.trans (s2.trans s3)
  refine ⟨_, _, encW W, rfl, dv_W ((s2.trans s3) _ _ hl1) (s13 _ _ hm.tu) (same_np s13 hm.np), dv_W (t := t2) upd_same (s3 _ _ upd_same) (same_np s13 np), depth_W W, small_W W, fun H' s' => ?_⟩
  walk_at "wp"
  exact q H' (s13.trans s')
/-! ### _law_right -/
abbrev s_law_right : Stmt := top 38
theorem sc_law_right : FnScope ["machine", "world", "states", "own", "due", "told", "met", "state", "run"] ["machine", "world", "states"] (defScope s_law_right) := ⟨rfl, rfl, rfl, by decide +kernel, rfl, by decide +kernel, by decide +kernel⟩
def spRightL (C : Addr) : Sp := fun vs H Q _ => ∃ (m wd sa : Addr) (W : Wd) (t o d rl c wy n : Addr) (mxs xs : List V) (kvs : List (Key × V)) (sts : List Nat), vs = [.ref m, .ref wd, .ref sa] ∧ H wd = some (.lst [.ref o, .ref d]) ∧ WorldAt H o d W rl c wy n xs kvs ∧ MAt H C m W t mxs ∧ H sa = some (.lst (valsN sts)) ∧
  ∀ H', Same H H' → Q (.bl true) H'
theorem ok_law_right (D_state_classes : Fn P w K mg base 4 "state_classes" ["machine"] (spClasses C)) (D_reached_states : Fn P w K mg base 3 "reached_states" ["machine"] (spReached C)) (D_first_run : Fn P w K mg base 3 "first_run" ["machine", "state"] (spFirst C)) (D_law_same : Fn P w K mg base 9 "_law_same" ["value", "due"] (spSame 8)) (D_law_kept : Fn P w K mg base 10 "_law_kept" ["machine", "own"] (spKept C)) (F : Fun K "_law_right" "_law_right" s_law_right f fd) (Z : Bl mg) : FnOk P w K mg base CX0 11 f fd ["machine", "world", "states"] (spRightL C) := by
  refine F.ok sc_law_right (fun vs H Q E h => ?_) (fun cdv A outer s H vs Q E hr h => ?_)
  · obtain ⟨m, wd, sa, _, _, _, _, _, _, _, _, _, _, _, _, rfl, _⟩ := h
    rfl
  obtain ⟨m, wd, sa, W, t, o, d, rl, c, wy, n, mxs, xs, kvs, sts, rfl, hwd, hw, hm, hsa, q⟩ := h
  refine ⟨_, (pss_cons (ps_asg (pv 1) (pgk_unl (K := K) (n := 2) rfl (by rfl) (pgs_cons (pg_name (i := 3) sc_law_right.nd rfl (Or.inl rfl)) (pgs_cons (pg_name (i := 4) sc_law_right.nd rfl (Or.inl rfl)) pgs_nil))))
  (pss_cons (ps_set (i := 5) sc_law_right.nd rfl (Or.inl rfl) (pe_call D_state_classes.G (hr.mono (by omega)) (by rfl) D_state_classes.m D_state_classes.kp D_state_classes.b .nil pass0 (pa_cons (pv 0) pa_nil)))
  (pss_cons (ps_if (pt_not (pt_val (pe_call D_law_same.G (hr.mono (by omega)) (by rfl) D_law_same.m D_law_same.kp D_law_same.b .nil pass0 (pa_cons (pv 5) (pa_cons (pe_ix (ixk_list (K := K) rfl) (pv 4) pe_int (fun _ _ => rfl)) pa_nil))))) (pss_one (ps_ret pe_bl)) pss_nil)
  (pss_cons (ps_expr (pe_bm PySem.F.plainAttrs_list PySem.F.slot_list_append PySem.F.type_list_append mt_append (pv 5) (pa_cons pe_int pa_nil)))
  (pss_cons (ps_asg pe_int (pg_sub (pv 5) pe_int set_list))
  (pss_cons (ps_set (i := 6) sc_law_right.nd rfl (Or.inl rfl) (pe_call D_reached_states.G (hr.mono (by omega)) (by rfl) D_reached_states.m D_reached_states.kp D_reached_states.b .nil pass0 (pa_cons (pv 0) pa_nil)))
  (pss_cons (ps_if (pt_not (pt_val (pe_call D_law_same.G (hr.mono (by omega)) (by rfl) D_law_same.m D_law_same.kp D_law_same.b .nil pass0 (pa_cons (pv 6) (pa_cons (pe_ix (ixk_list (K := K) rfl) (pv 4) pe_int (fun _ _ => rfl)) pa_nil))))) (pss_one (ps_ret pe_bl)) pss_nil)
  (pss_cons (ps_expr (pe_bm PySem.F.plainAttrs_list PySem.F.slot_list_append PySem.F.type_list_append mt_append (pv 6) (pa_cons (pe_ix (ixk_list (K := K) rfl) (pv 6) pe_int (fun _ _ => rfl)) pa_nil)))
  (pss_cons (ps_asg (pe_op op_sub pe_int pe_int) (pg_sub (pv 6) pe_int set_list))
  (pss_cons (ps_for PassesOwn.never rfl (pik_list (K := K) rfl (pv 2)) (pg_name (i := 7) sc_law_right.nd rfl (Or.inl rfl)) (pss_cons (ps_set (i := 8) sc_law_right.nd rfl (Or.inl rfl) (pe_call D_first_run.G (hr.mono (by omega)) (by rfl) D_first_run.m D_first_run.kp D_first_run.b .nil pass0 (pa_cons (pv 0) (pa_cons (pv 7) pa_nil))))
  (pss_one (ps_if (pt_cmp (pc_dnotin (hu_of hr) (pv 7) (pe_ix (ixk_list (K := K) rfl) (pv 4) pe_int (fun _ _ => rfl)))) (pss_one (ps_if (pt_cmpR op_notN (pv 8) pe_non (nomark _)) (pss_one (ps_ret pe_bl)) pss_nil)) (pss_one (ps_if (pt_not (pt_val (pe_call D_law_same.G (hr.mono (by omega)) (by rfl) D_law_same.m D_law_same.kp D_law_same.b .nil pass0 (pa_cons (pv 8) (pa_cons (pe_dget (hu_of hr) (pe_ix (ixk_list (K := K) rfl) (pv 4) pe_int (fun _ _ => rfl)) (pv 7) (fun _ _ => rfl)) pa_nil))))) (pss_one (ps_ret pe_bl)) (pss_one (ps_expr (pe_bm PySem.F.plainAttrs_list PySem.F.slot_list_append PySem.F.type_list_append mt_append (pv 8) (pa_cons pe_int pa_nil))))))))))
  (pss_one (ps_ret (pe_call D_law_kept.G (hr.mono (by omega)) (by rfl) D_law_kept.m D_law_kept.kp D_law_kept.b .nil pass0 (pa_cons (pv 0) (pa_cons (pv 3) pa_nil))))))))))))))), ?_⟩
  
  change tSeq _ _ _ [some (.ref m), some (.ref wd), some (.ref sa), none, none, none, none, none, none] _
  walk_at "st"
  refine g_unl (SqL.of hwd) rfl ?_
  walk_at "wp"
  walk_at "st"
  refine ⟨m, W, t, mxs, rfl, hm, fun tl H1 s1 htl0 htl => ?_⟩
  walk_at "st"
  have on := W.order_pos
  have ol : W.R.order.length ≤ 256 := Nat.le_trans W.R.order_len (Nat.le_trans W.NN W.b256)
  have nl := W.R.nums_len W.look
  refine k_ix (SqL.of (s1 _ _ hw.due)) (v := .ref n) rfl ?_
  refine ⟨_, _, encN (W.R.nums W.look), rfl, dv_nats htl, dv_nats (s1 _ _ hw.nums), Nat.lt_of_le_of_lt (depth_N _) (by decide), small_N _ (by omega), fun H2 s2 => ?_⟩
  walk_at "wp"
  walk_at "st"
  have htl2 := s2 _ _ htl
  refine ⟨k_tyL htl2, k_app htl2 (by rw [valsN_len]; omega) ?_⟩
  walk_at "wp"
  walk_at "st"
  refine k_set (n := 0) upd_same (ixN0 (by rw [List.length_append]; exact Nat.succ_pos _)) ?_
  rw [upd_upd]
  have s3 : Same H (upd H2 tl (.lst ((valsN (W.R.nums W.look) ++ [V.int 0]).set 0 (V.int 9)))) := same_upd (s1.trans s2) htl0
  generalize upd H2 tl (.lst ((valsN (W.R.nums W.look) ++ [V.int 0]).set 0 (V.int 9))) = H3 at s3 ⊢
  walk_at "wp"
  walk_at "st"
  
  refine ⟨m, W, t, mxs, rfl, hm.same s3, fun me H4 s4 hme0 hme => ?_⟩
  have s04 := s3.trans s4
  walk_at "st"
  refine k_ix (SqL.of (s04 _ _ hw.due)) (v := .ref c) rfl ?_
  have ocl := W.ord_len
  refine ⟨_, _, encN W.ordC, rfl, dv_nats hme, dv_nats (s04 _ _ hw.ord), Nat.lt_of_le_of_lt (depth_N _) (by decide), small_N _ (by omega), fun H5 s5 => ?_⟩
  walk_at "wp"
  walk_at "st"
  have hme5 := s5 _ _ hme
  obtain ⟨c0, hc0⟩ : ∃ c0, W.ordC[0]? = some c0 := ⟨_, List.getElem?_eq_getElem (by omega)⟩
  refine ⟨k_tyL hme5, k_ix (SqL.of hme5) (valsN_at (i := 0) hc0) (k_app hme5 (by rw [valsN_len]; omega) ?_)⟩
  walk_at "wp"
  walk_at "st"
  refine k_set (n := 0) upd_same (ixN0 (by rw [List.length_append]; exact Nat.succ_pos _)) ?_
  rw [upd_upd]
  have me0 : H me = none := s3.free hme0
  have s6 : Same H (upd H5 me (.lst ((valsN W.ordC ++ [V.int (c0 : Nat)]).set 0 (V.int (0 - 1))))) := same_upd (s04.trans s5) me0
  generalize upd H5 me (.lst ((valsN W.ordC ++ [V.int (c0 : Nat)]).set 0 (V.int (0 - 1)))) = H6 at s6 ⊢
  walk_at "wp"
  walk_at "st"
  
  obtain ⟨Pv, hP⟩ := opq (fun (i : Nat) (σ' : L2.St) (H' : Hp) => ∃ (a7 a8 : Option V), σ' = [some (.ref m), some (.ref wd), some (.ref sa), some (.ref o), some (.ref d), some (.ref tl), some (.ref me), a7, a8] ∧ Same H H')
  refine f_L (SqL.of (s6 _ _ hsa)) Pv ?_ ?_ ?_ ?_
  · rw [hP]
    exact ⟨_, _, rfl, s6⟩
  · intro i σ' H' hi h
    rw [hP] at h
    obtain ⟨_, _, _, s7⟩ := h
    exact SqL.of (s7 _ _ hsa)
  · intro i x σ' H' hi h
    rw [hP] at h
    obtain ⟨a7, a8, rfl, s7⟩ := h
    obtain ⟨st, hst, rfl⟩ := valsN_get hi
    have hw7 := hw.same s7
    walk_at "wp"
    walk_at "st"
    rcases hw7.runs.val W.bok.nd st with ⟨hno, hv⟩ | ⟨j, e, l, hj, hje, hv, hl⟩
    · refine ⟨m, st, W, t, mxs, rfl, hm.same s7, fun _ H8 s8 => ?_, fun i e hi he => absurd (List.mem_map.mpr ⟨e, List.mem_of_getElem? hi, he⟩) hno⟩
      walk_at "wp"
      refine k_ix (SqL.of ((s7.trans s8) _ _ hw.due)) (v := .ref wy) rfl ?_
      refine d_notinK (k := Sum.inl ((st : Nat) : Int)) (.of ((s7.trans s8) _ _ hw.ways)) ?_
      rw [hv]
      walk_at "wp"
      rw [hP]
      exact ⟨_, _, rfl, s7.trans s8⟩
    · refine ⟨m, st, W, t, mxs, rfl, hm.same s7, fun hno => absurd (List.mem_map.mpr ⟨e, List.mem_of_getElem? hj, hje⟩) hno, fun i2 e2 hi2 he2 p H8 s8 hp0 hp => ?_⟩
      have ee : e2 = e := by
        have g1 := nodes_get hi2
        have g2 := nodes_get hj
        rw [he2] at g1
        rw [hje] at g2
        have ij : i2 = j := (List.getElem?_inj (List.getElem?_eq_some_iff.mp g1).1 W.bok.nd).mp (g1.trans g2.symm)
        rw [ij, hj] at hi2
        exact (Option.some.inj hi2).symm
      subst ee
      have wl : e2.word.length ≤ 256 := by
        have h1 := bok_wlen W.bok j e2 hj
        have h2 := (List.getElem?_eq_some_iff.mp hj).1
        have h3 := W.ents_len
        have h4 := W.b256
        omega
      walk_at "wp"
      refine k_ix (SqL.of ((s7.trans s8) _ _ hw.due)) (v := .ref wy) rfl ?_
      refine d_notinK (k := Sum.inl ((st : Nat) : Int)) (.of ((s7.trans s8) _ _ hw.ways)) ?_
      rw [hv]
      walk_at "wp"
      refine k_ix (SqL.of ((s7.trans s8) _ _ hw.due)) (v := .ref wy) rfl ?_
      refine d_getK (k := Sum.inl ((st : Nat) : Int)) (.of ((s7.trans s8) _ _ hw.ways)) hv ?_
      refine ⟨_, _, encN e2.word, rfl, dv_nats hp, dv_nats (s8 _ _ hl), Nat.lt_of_le_of_lt (depth_N _) (by decide), small_N _ (by omega), fun H9 s9 => ?_⟩
      walk_at "wp"
      have hp9 := s9 _ _ hp
      refine ⟨k_tyL hp9, k_app hp9 (by rw [valsN_len]; omega) ?_⟩
      rw [hP]
      exact ⟨_, _, rfl, same_upd (s7.trans (s8.trans s9)) (s7.free hp0)⟩
  · intro σ' H' h
    rw [hP] at h
    obtain ⟨a7, a8, rfl, s7⟩ := h
    have hw7 := hw.same s7
    walk_at "wp"
    exact ⟨m, o, W, t, rl, mxs, xs, rfl, hm.same s7, hw7.own, hw7.rows, hw7.np, fun H8 s8 => q H8 (s7.trans s8)⟩
end
end Ck
namespace Ck
open PySem L2
theorem w_bm0 {K : PySem.W.Frag} {T : String} {rr : V → List V → Hp → VK → Prop} {ta : TE} {σ : L2.St} {H : Hp} {Q : VK} : tBM0 K T rr ta σ H Q = ta σ H fun x H1 => tyV K T x H1 ∧ rr x [] H1 Q := rfl
end Ck
local macro_rules | `(tactic| walk_at "wp") => `(tactic| try simp only [Ck.w_var0, Ck.w_varS, Ck.w_c, Ck.w_op, Ck.w_un, Ck.w_i0, Ck.w_i, Ck.w_u, Ck.w_test, Ck.w_B, Ck.w_and, Ck.w_or, Ck.w_not, Ck.w_andV, Ck.w_notV, Ck.w_orV, Ck.w_max2, Ck.w_eqI, Ck.w_neI, Ck.w_neB, Ck.w_eqB, Ck.w_nil, Ck.w_cons, Ck.w_tup, Ck.w_lst, Ck.w_cb, Ck.w_call, Ck.w_asg, Ck.w_name, Ck.w_ret, Ck.w_drop, Ck.w_next, Ck.w_ifs, Ck.w_ifx, Ck.w_set0, Ck.w_setS, Ck.w_bm, Ck.w_sub, Ck.w_sl, L2.V.int.injEq, L2.V.bl.injEq, L2.V.ref.injEq, List.cons.injEq, List.append_nil, List.nil_append, List.cons_append, and_true, true_and, and_self, exists_eq_left', exists_eq_left, exists_eq', exists_eq, reduceCtorEq, false_and, exists_false, or_false, false_or, exists_const, Ck.w_intI, Ck.w_intB, Ck.w_absI, Ck.cx_K, forall_const, Ck.w_forR1, Ck.w_forR2, Ck.w_forL, Ck.w_forI, Ck.w_lcR1, Ck.w_lcL, Ck.w_lcK, Ck.w_yes, Ck.w_wipe0, Ck.w_wipeS, Ck.w_gnil, Ck.w_gcons, Ck.w_dnewT, Ck.w_dnewK, Ck.w_disp1, Ck.w_dput, Ck.w_dget, Ck.w_din, Ck.w_dnotin, Ck.w_bits, Ck.w_tru, Ck.w_part, Ck.w_bm0, Ck.w_ipI, Ck.w_pnone, Ck.w_fld, Ck.w_sfld, Ck.w_meth, Ck.w_make, Ck.w_chain, Ck.w_retN, Ck.w_rev, Ck.w_forT, Ck.w_forZ, Ck.w_forE, Ck.w_lcT, Ck.w_dcZ, Ck.w_dnewN, Ck.w_dniN, Ck.w_dgetN, Ck.w_dputN, eq_self, if_true, if_false, Option.isSome_some, decide_true, decide_false, Option.isSome_none, Bool.not_true, Bool.not_false, Bool.false_eq_true, List.map_cons, List.map_nil])

namespace Ck
open PySem L2
theorem g_clear {H : Hp} {Q : VK} {l : Addr} {xs : List V} (h : H l = some (.lst xs)) (q : Q .non (upd H l (.lst []))) : rClear (.ref l) [] H Q := ⟨l, xs, rfl, rfl, h, q⟩
theorem g_slL {K : PySem.W.Frag} {H : Hp} {Q : VK} {l : Addr} {xs : List V} {i j : Nat} (h : SqL K H l xs) (q : ∀ p ys, H p = none → (∀ y ∈ ys, y ∈ xs) → ys.length ≤ j → Q (.ref p) (upd H p (.lst ys))) : rSlL K (.ref l) (some ((i : Nat) : Int)) (some ((j : Nat) : Int)) H Q :=
  ⟨l, xs, rfl, h, fun p hp => by
    rw [cut_nat]
    exact q p _ hp (fun y hy => List.mem_of_mem_drop (List.mem_of_mem_take hy)) (by rw [List.length_take]; omega)⟩
theorem g_cat {H : Hp} {Q : VK} {l b : Addr} {xs ys : List V} (h : H l = some (.lst xs)) (h2 : H b = some (.lst ys)) (hl : xs.length + ys.length ≤ 16000000) (q : ∀ p, H p = none → Q (.ref p) (upd H p (.lst (xs ++ ys)))) : rCat (.ref l) (.ref b) H Q := ⟨l, b, xs, ys, rfl, rfl, h, h2, sz hl, q⟩
theorem pool_same {H H2 : Hp} {p : Addr} {o : HO} (hp : H p = none) (px : PoolX p (upd H p o) H2) : Same H H2 := fun b u e => by
  have bp : b ≠ p := ne_of_none e hp
  exact px.sx _ _ bp (by rw [upd_ne bp]; exact e)
theorem MAt.keep {G G' : Hp} {C m : Addr} {W : Wd} {t : Addr} {xs : List V} (k : ∀ b o, (∀ ys, o ≠ .lst ys) → G b = some o → G' b = some o) (h : MAt G C m W t xs) : MAt G' C m W t xs := ⟨by
  obtain ⟨dx, e⟩ := h.ob
  exact ⟨dx, k _ _ (fun ys z => by cases z) e⟩, k _ _ (fun ys z => by cases z) h.tu, h.np.keep fun b ys e => k _ _ (fun ys z => by cases z) e⟩
theorem PoolAt.put {H : Hp} {a p : Addr} {o : HO} (h : PoolAt H a) (n : p ≠ a) : PoolAt (upd H p o) a := by
  obtain ⟨c, r, k, q1, q2, q3⟩ := h
  exact ⟨c, r, k, q1, q2, by rw [upd_ne n.symm]; exact q3⟩
/-- the machines and the states so far -/
def MS (C : Addr) (G : Hp) (Wi : Nat → Wd) (ms ss : List V) (i : Nat) : Prop := ms.length = i ∧ ss.length = i ∧ ∀ j, j < i → ∃ (m t : Addr) (mxs : List V) (sa : Addr) (sts : List Nat), ms[j]? = some (.ref m) ∧ MAt G C m (Wi j) t mxs ∧ ss[j]? = some (.ref sa) ∧ G sa = some (.lst (valsN sts))
theorem MS.same {C : Addr} {G G' : Hp} {Wi : Nat → Wd} {ms ss : List V} {i : Nat} (s : Same G G') (h : MS C G Wi ms ss i) : MS C G' Wi ms ss i := ⟨h.1, h.2.1, fun j hj => by
  obtain ⟨m, t, mxs, sa, sts, h1, h2, h3, h4⟩ := h.2.2 j hj
  exact ⟨m, t, mxs, sa, sts, h1, h2.same s, h3, s _ _ h4⟩⟩
theorem MS.snoc {C : Addr} {G : Hp} {Wi : Nat → Wd} {ms ss : List V} {i : Nat} {m t : Addr} {mxs : List V} {sa : Addr} {sts : List Nat} (h : MS C G Wi ms ss i) (hm : MAt G C m (Wi i) t mxs) (hs : G sa = some (.lst (valsN sts))) : MS C G Wi (ms ++ [.ref m]) (ss ++ [.ref sa]) (i + 1) := ⟨by rw [List.length_append, h.1]; rfl, by rw [List.length_append, h.2.1]; rfl, fun j hj => by
  by_cases c : j < i
  · obtain ⟨m', t', mxs', sa', sts', h1, h2, h3, h4⟩ := h.2.2 j c
    exact ⟨m', t', mxs', sa', sts', by rw [List.getElem?_append_left (by rw [h.1]; exact c)]; exact h1, h2, by rw [List.getElem?_append_left (by rw [h.2.1]; exact c)]; exact h3, h4⟩
  · have e : j = i := by omega
    subst e
    exact ⟨m, t, mxs, sa, sts, by rw [← h.1, List.getElem?_append_right (Nat.le_refl _), Nat.sub_self]; rfl, hm, by rw [← h.2.1, List.getElem?_append_right (Nat.le_refl _), Nat.sub_self]; rfl, hs⟩⟩
section
variable {P : Program} {w : World} {K : PySem.W.Frag} {mg : Str → Option Value} {base : Heap} {f C : Addr} {fd : FuncData}
/-! ### law -/
abbrev s_law : Stmt := top 39
theorem sc_law : FnScope ["script", "worlds", "ask", "machines", "states", "own", "due", "handed", "size", "row", "at", "cell"] ["script"] (defScope s_law) := ⟨rfl, rfl, rfl, by decide +kernel, rfl, by decide +kernel, by decide +kernel⟩
def spLaw (K : PySem.W.Frag) : Sp := fun vs H Q _ => ∃ (a : Addr) (ns : List Int), vs = [.ref a] ∧ SqL K H a (ns.map V.int) ∧ ∀ H', Same H H' → Q (.bl true) H'
theorem ok_law_law (T_Machine : MT K mg C) (D_Machine_init : Ini P w K mg base 2 C ["self", "inputs", "outputs", "state_bits", "reset", "rows"] (spMake C)) (D_law_pool : Fn P w K mg base 1 "_law_pool" ["script", "place"] (spPool K)) (D_law_draw : Fn P w K mg base 1 "_law_draw" ["pool", "many"] spDraw) (D_law_world : Fn P w K mg base 5 "_law_world" ["pool", "at"] spWorld)
    (D_law_right : Fn P w K mg base 11 "_law_right" ["machine", "world", "states"] (spRightL C)) (F : Fun K "law" "law" s_law f fd) (Z : Bl mg) : FnOk P w K mg base CX0 12 f fd ["script"] (spLaw K) := by
  refine F.ok sc_law (fun vs H Q E h => ?_) (fun cdv A outer s H vs Q E hr h => ?_)
  · obtain ⟨a, ns, rfl, _⟩ := h
    rfl
  obtain ⟨a, ns, rfl, hS, q⟩ := h
  refine ⟨_, (pss_cons (ps_set (i := 1) sc_law.nd rfl (Or.inl rfl) (pe_lst (pa_cons (pe_call D_law_world.G (hr.mono (by omega)) (by rfl) D_law_world.m D_law_world.kp D_law_world.b .nil pass0 (pa_cons (pe_call D_law_pool.G (hr.mono (by omega)) (by rfl) D_law_pool.m D_law_pool.kp D_law_pool.b .nil pass0 (pa_cons (pv 0) (pa_cons pe_int pa_nil))) (pa_cons pe_int pa_nil))) (pa_cons (pe_call D_law_world.G (hr.mono (by omega)) (by rfl) D_law_world.m D_law_world.kp D_law_world.b .nil pass0 (pa_cons (pe_call D_law_pool.G (hr.mono (by omega)) (by rfl) D_law_pool.m D_law_pool.kp D_law_pool.b .nil pass0 (pa_cons (pv 0) (pa_cons pe_int pa_nil))) (pa_cons pe_int pa_nil))) pa_nil))))
  (pss_cons (ps_set (i := 2) sc_law.nd rfl (Or.inl rfl) (pe_call D_law_pool.G (hr.mono (by omega)) (by rfl) D_law_pool.m D_law_pool.kp D_law_pool.b .nil pass0 (pa_cons (pv 0) (pa_cons pe_int pa_nil))))
  (pss_cons (ps_set (i := 3) sc_law.nd rfl (Or.inl rfl) (pe_lst pa_nil))
  (pss_cons (ps_set (i := 4) sc_law.nd rfl (Or.inl rfl) (pe_lst pa_nil))
  (pss_cons (ps_for PassesOwn.never rfl (pik_list (K := K) rfl (pv 1)) (pgk_unl (K := K) (n := 2) rfl (by rfl) (pgs_cons (pg_name (i := 5) sc_law.nd rfl (Or.inl rfl)) (pgs_cons (pg_name (i := 6) sc_law.nd rfl (Or.inl rfl)) pgs_nil))) (pss_cons (ps_set (i := 7) sc_law.nd rfl (Or.inl rfl) (pe_callTy (callk_listL (K := K) rfl) (by rfl) Z.list (by decide +kernel) (pa_cons (pe_ix (ixk_list (K := K) rfl) (pv 5) pe_int (fun _ _ => rfl)) pa_nil)))
  (pss_cons (ps_expr (pe_bm PySem.F.plainAttrs_list PySem.F.slot_list_append PySem.F.type_list_append mt_append (pv 3) (pa_cons (pe_make D_Machine_init.mki D_Machine_init.G (hr.mono (by omega)) (by rfl) T_Machine.mgC D_Machine_init.b .nil pass0 (pa_cons (pe_ix (ixk_list (K := K) rfl) (pv 5) pe_int (fun _ _ => rfl)) (pa_cons (pe_ix (ixk_list (K := K) rfl) (pv 5) pe_int (fun _ _ => rfl)) (pa_cons (pe_ix (ixk_list (K := K) rfl) (pv 5) pe_int (fun _ _ => rfl)) (pa_cons (pe_ix (ixk_list (K := K) rfl) (pv 5) pe_int (fun _ _ => rfl)) (pa_cons (pv 7) pa_nil)))))) pa_nil)))
  (pss_cons (ps_expr (pe_bm0 PySem.F.plainAttrs_list PySem.F.slot_list_clear PySem.F.type_list_clear mt_clear (pv 7)))
  (pss_cons (ps_set (i := 8) sc_law.nd rfl (Or.inr rfl) (pe_op op_shl pe_int (pe_ix (ixk_list (K := K) rfl) (pv 5) pe_int (fun _ _ => rfl))))
  (pss_cons (ps_set (i := 9) sc_law.nd rfl (Or.inl rfl) (pe_lst (pa_cons (pe_ix (ixk_list (K := K) rfl) (pe_ix (ixk_list (K := K) rfl) (pv 6) pe_int (fun _ _ => rfl)) (pe_op op_sub (pe_callB (callk_lenL (K := K) rfl) (by rfl) Z.len (by decide +kernel) (pa_cons (pe_ix (ixk_list (K := K) rfl) (pv 6) pe_int (fun _ _ => rfl)) pa_nil)) pe_int) (fun _ _ => rfl)) (pa_cons (pe_call D_law_draw.G (hr.mono (by omega)) (by rfl) D_law_draw.m D_law_draw.kp D_law_draw.b .nil pass0 (pa_cons (pv 2) (pa_cons (pv 8) pa_nil))) (pa_cons (pe_call D_law_draw.G (hr.mono (by omega)) (by rfl) D_law_draw.m D_law_draw.kp D_law_draw.b .nil pass0 (pa_cons (pv 2) (pa_cons (pv 8) pa_nil))) pa_nil)))))
  (pss_one (ps_expr (pe_bm PySem.F.plainAttrs_list PySem.F.slot_list_append PySem.F.type_list_append mt_append (pv 4) (pa_cons (pe_op op_cat (pv 9) (pe_lc (own := [("cell", 11)]) (tt := tYes) rfl sc_law.nd (pik_list (K := K) rfl (pe_slice (slk_list (K := K) rfl) (pv 0) (po_some pe_int) (po_some pe_int))) (blkOk_by (N := ["script", "worlds", "ask", "machines", "states", "own", "due", "handed", "size", "row", "at", "cell"]) (sc := defScope s_law) (by decide +kernel)) (fun _ _ _ _ _ => (pg_name (i := 11) sc_law.nd rfl (Or.inl rfl))) (fun _ _ _ _ _ => pts_nil) (fun _ _ _ _ _ => (pe_op op_mod (pe_callTy call_intI (by rfl) Z.int (by decide +kernel) (pa_cons (pe_callB call_absI (by rfl) Z.abs (by decide +kernel) (pa_cons (pe_callTy call_intI (by rfl) Z.int (by decide +kernel) (pa_cons (pv 11) pa_nil)) pa_nil)) pa_nil)) (pv 8))))) pa_nil))))))))))
  (pss_cons (ps_for PassesOwn.never rfl (pik_list (K := K) rfl (pe_lst (pa_cons pe_int (pa_cons pe_int (pa_cons pe_int pa_nil))))) (pg_name (i := 10) sc_law.nd rfl (Or.inl rfl)) (pss_one (ps_if (pt_not (pt_val (pe_call D_law_right.G (hr.mono (by omega)) (by rfl) D_law_right.m D_law_right.kp D_law_right.b .nil pass0 (pa_cons (pe_ix (ixk_list (K := K) rfl) (pv 3) (pv 10) (fun _ _ => rfl)) (pa_cons (pe_ix (ixk_list (K := K) rfl) (pv 1) (pv 10) (fun _ _ => rfl)) (pa_cons (pe_ix (ixk_list (K := K) rfl) (pv 4) (pv 10) (fun _ _ => rfl)) pa_nil)))))) (pss_one (ps_ret pe_bl)) pss_nil)))
  (pss_one (ps_ret pe_bl)))))))), ?_⟩
  
  change tSeq _ _ _ [some (.ref a), none, none, none, none, none, none, none, none, none, none, none] _
  walk_at "st"
  refine ⟨a, ns, 0, rfl, hS, by decide, fun p1 c1 r1 hc1 hr1 hp1 => ?_⟩
  refine ⟨p1, 0, rfl, ⟨c1, r1, 0, hc1, hr1, upd_same⟩, fun w1 o1 d1 W1 rl1 cc1 wy1 n1 xs1 kvs1 H2 px1 hw10 hw1 wa1 => ?_⟩
  have s2 : Same H H2 := pool_same hp1 px1
  have f1 : ∀ b, upd H p1 (.lst [.int c1, .int r1, .int 0]) b = none → H b = none := fun b e => (upd_none e).2
  have nw1 : new H H2 w1 = some (.lst [.ref o1, .ref d1]) := by rw [new_of (f1 _ hw10)]; exact hw1
  replace wa1 := wa1.same (new_subP f1)
  refine ⟨a, ns, 1, rfl, s2.seq hS, by decide, fun p2 c2 r2 hc2 hr2 hp2 => ?_⟩
  refine ⟨p2, 1, rfl, ⟨c2, r2, 0, hc2, hr2, upd_same⟩, fun w2 o2 d2 W2 rl2 cc2 wy2 n2 xs2 kvs2 H4 px2 hw20 hw2 wa2 => ⟨szr rfl, fun wl hwl => ?_⟩⟩
  have s24 : Same H2 H4 := pool_same hp2 px2
  have f2 : ∀ b, upd H2 p2 (.lst [.int c2, .int r2, .int 0]) b = none → H b = none := fun b e => s2.free (upd_none e).2
  have nw2 : new H H4 w2 = some (.lst [.ref o2, .ref d2]) := by rw [new_of (f2 _ hw20)]; exact hw2
  replace wa2 := wa2.same (new_subP f2)
  have g24 := new_mono (H := H) s24
  replace wa1 := wa1.same g24
  replace nw1 := g24 _ _ nw1
  have s04 := s2.trans s24
  have wl0 : H wl = none := s04.free hwl
  have s45 := same_new hwl (.lst [.ref w1, .ref w2])
  have nwl : new H (upd H4 wl (.lst [.ref w1, .ref w2])) wl = some (.lst [.ref w1, .ref w2]) := by rw [new_of wl0, upd_same]
  generalize upd H4 wl (.lst [.ref w1, .ref w2]) = H5 at s45 nwl ⊢
  have g45 := new_mono (H := H) s45
  replace wa1 := wa1.same g45
  replace wa2 := wa2.same g45
  replace nw1 := g45 _ _ nw1
  replace nw2 := g45 _ _ nw2
  have s05 := s04.trans s45
  clear g24 g45 s45 s24 s04 s2 f1 f2 px1 px2 hw1 hw2 hw10 hw20 hwl hp1 hp2
  -- the two worlds by number
  obtain ⟨Wi, hWi⟩ : ∃ Wi : Nat → Wd, Wi = fun i => if i = 0 then W1 else W2 := ⟨_, rfl⟩
  have wf : ∀ (i : Nat) (x : V), ([.ref w1, .ref w2] : List V)[i]? = some x → ∃ (wa o d rl c wy n : Addr) (xs : List V) (kvs : List (Key × V)), x = .ref wa ∧ new H H5 wa = some (.lst [.ref o, .ref d]) ∧ WorldAt (new H H5) o d (Wi i) rl c wy n xs kvs := fun i x hx => by
    rcases i with _ | _ | i
    · obtain rfl := Option.some.inj hx
      rw [hWi]
      exact ⟨_, _, _, _, _, _, _, _, _, rfl, nw1, wa1⟩
    · obtain rfl := Option.some.inj hx
      rw [hWi]
      exact ⟨_, _, _, _, _, _, _, _, _, rfl, nw2, wa2⟩
    · simp at hx
  clear wa1 wa2 nw1 nw2 hWi
  walk_at "st"
  refine ⟨a, ns, 2, rfl, s05.seq hS, by decide, fun ak c3 r3 hc3 hr3 hak => ?_⟩
  have ak0 : H ak = none := s05.free hak
  walk_at "st"
  refine ⟨szr rfl, fun ml hml => ?_⟩
  obtain ⟨mak, hml5⟩ := upd_none hml
  have ml0 : H ml = none := s05.free hml5
  walk_at "st"
  refine ⟨szr rfl, fun sl hsl => ?_⟩
  obtain ⟨slml, hsl'⟩ := upd_none hsl
  obtain ⟨slak, hsl5⟩ := upd_none hsl'
  have sl0 : H sl = none := s05.free hsl5
  obtain ⟨Hm, hHm⟩ := opq (upd (upd (upd H ak (.lst [])) ml (.lst [])) sl (.lst []))
  have hmk : Hm ak = some (.lst []) := by rw [hHm, upd_ne slak.symm, upd_ne mak.symm, upd_same]
  have hmm : Hm ml = some (.lst []) := by rw [hHm, upd_ne slml.symm, upd_same]
  have hms : Hm sl = some (.lst []) := by rw [hHm, upd_same]
  have en : Same (new H H5) (new Hm (upd (upd (upd H5 ak (.lst [.int c3, .int r3, .int 0])) ml (.lst [])) sl (.lst []))) := by
    rw [new_upd hms, new_upd hmm, new_upd hmk, hHm]
    exact (n_enter hak).trans ((n_enter hml5).trans (n_enter hsl5))
  have s08 : Same H (upd (upd (upd H5 ak (.lst [.int c3, .int r3, .int 0])) ml (.lst [])) sl (.lst [])) := same_upd (same_upd (same_upd s05 ak0) ml0) sl0
  have pk8 : PoolAt (upd (upd (upd H5 ak (.lst [.int c3, .int r3, .int 0])) ml (.lst [])) sl (.lst [])) ak := ⟨c3, r3, 0, hc3, hr3, by rw [upd_ne slak.symm, upd_ne mak.symm, upd_same]⟩
  have ml8 : upd (upd (upd H5 ak (.lst [.int c3, .int r3, .int 0])) ml (.lst [])) sl (.lst []) ml = some (.lst []) := by rw [upd_ne slml.symm, upd_same]
  have sl8 : upd (upd (upd H5 ak (.lst [.int c3, .int r3, .int 0])) ml (.lst [])) sl (.lst []) sl = some (.lst []) := upd_same
  generalize upd (upd (upd H5 ak (.lst [.int c3, .int r3, .int 0])) ml (.lst [])) sl (.lst []) = H8 at en s08 pk8 ml8 sl8 ⊢
  have wf : ∀ (i : Nat) (x : V), ([.ref w1, .ref w2] : List V)[i]? = some x → ∃ (wa o d rl c wy n : Addr) (xs : List V) (kvs : List (Key × V)), x = .ref wa ∧ new Hm H8 wa = some (.lst [.ref o, .ref d]) ∧ WorldAt (new Hm H8) o d (Wi i) rl c wy n xs kvs := fun i x hx => by
    obtain ⟨wa, o, d, rl, c, wy, n, xs, kvs, h1, h2, h3⟩ := wf i x hx
    exact ⟨wa, o, d, rl, c, wy, n, xs, kvs, h1, en _ _ h2, h3.same en⟩
  replace nwl := en _ _ nwl
  have fr : ∀ {H' : Hp} {b : Addr}, Same H H' → H' ak ≠ none → H' ml ≠ none → H' sl ≠ none → H' b = none → Hm b = none := fun {H' b} sm e1 e2 e3 e => by
    rw [hHm, upd_ne (fun z => e3 (by rw [← z]; exact e)), upd_ne (fun z => e2 (by rw [← z]; exact e)), upd_ne (fun z => e1 (by rw [← z]; exact e))]
    exact sm.free e
  have hma : Hm ak ≠ none := fun z => by rw [hmk] at z; cases z
  clear hHm
  walk_at "st"
  
  obtain ⟨Pv, hP⟩ := opq (fun (i : Nat) (σ' : L2.St) (H' : Hp) => ∃ (a5 a6 a7 a8 a9 : Option V) (ms ss : List V), σ' = [some (.ref a), some (.ref wl), some (.ref ak), some (.ref ml), some (.ref sl), a5, a6, a7, a8, a9, none, none] ∧ Same H H' ∧ PoolAt H' ak ∧ H' ml = some (.lst ms) ∧ H' sl = some (.lst ss) ∧ Same (new Hm H8) (new Hm H') ∧ MS C (new Hm H') Wi ms ss i)
  refine f_L (SqL.of (new_same _ _ nwl)) Pv ?_ ?_ ?_ ?_
  · rw [hP]
    exact ⟨_, _, _, _, _, [], [], rfl, s08, pk8, ml8, sl8, Same.refl _, rfl, rfl, fun j hj => absurd hj (Nat.not_lt_zero _)⟩
  · intro i σ' H' hi h
    rw [hP] at h
    obtain ⟨_, _, _, _, _, _, _, _, _, _, _, _, sg, _⟩ := h
    exact SqL.of (new_same _ _ (sg _ _ nwl))
  · intro i x σ' H' hi h
    rw [hP] at h
    obtain ⟨a5, a6, a7, a8, a9, ms, ss, rfl, sH, pk, hml', hsl', sg, hMS⟩ := h
    have i2 : i < 2 := (List.getElem?_eq_some_iff.mp hi).1
    obtain ⟨wa, o, d, rl, c, wy, n, xs, kvs, rfl, hwa, hW⟩ := wf i x hi
    have hwa' := new_same _ _ (sg _ _ hwa)
    have hW' := hW.same (sg.trans new_same)
    have pkn := pool_some pk
    have mln : H' ml ≠ none := fun z => by rw [hml'] at z; cases z
    have sln : H' sl ≠ none := fun z => by rw [hsl'] at z; cases z
    generalize hWe : Wi i = W at hW hW'
    refine g_unl (SqL.of hwa') rfl ?_
    walk_at "wp"
    walk_at "st"
    refine k_ix (SqL.of hW'.own) (v := .ref rl) rfl ?_
    refine g_list (SqL.of hW'.rows) fun hd hhd => ?_
    have s1 := same_new hhd (.lst xs)
    have hd1 : upd H' hd (.lst xs) hd = some (.lst xs) := upd_same
    generalize upd H' hd (.lst xs) = H1 at s1 hd1 ⊢
    walk_at "st"
    refine ⟨k_tyL (s1 _ _ hml'), ?_⟩
    refine k_ix (SqL.of (s1 _ _ hW'.own)) (v := .int (W.ins : Nat)) rfl ?_
    refine k_ix (SqL.of (s1 _ _ hW'.own)) (v := .int (W.outs : Nat)) rfl ?_
    refine k_ix (SqL.of (s1 _ _ hW'.own)) (v := .int (W.bits : Nat)) rfl ?_
    refine k_ix (SqL.of (s1 _ _ hW'.own)) (v := .int (W.start : Nat)) rfl ?_
    intro mx dxa nmx ndx nex
    have s1b : Same H1 (upd (upd H1 dxa (.own mx)) mx (.ins C dxa [])) := same_upd (same_new ndx _) nmx
    refine ⟨mx, dxa, hd, W, xs, rfl, upd_same, s1b _ _ hd1, same_np (s1.trans s1b) hW'.np, fun t H3 sx ht0 hm3 => ⟨rfl, ?_⟩⟩
    have s13 : Same H1 H3 := fun b u e => sx _ _ (ne_of_none e nmx) (s1b _ _ e)
    have s03 := s1.trans s13
    have hdml : hd ≠ ml := fun z => by rw [z] at hhd; exact mln hhd
    have hdsl : hd ≠ sl := fun z => by rw [z] at hhd; exact sln hhd
    have hdak : hd ≠ ak := fun z => by rw [z] at hhd; exact pkn hhd
    have hd0 : H hd = none := sH.free hhd
    refine k_app (s03 _ _ hml') (by rw [hMS.1]; omega) ?_
    have hd4 : upd H3 ml (.lst (ms ++ [.ref mx])) hd = some (.lst xs) := by rw [upd_ne hdml]; exact s13 _ _ hd1
    walk_at "wp"
    walk_at "st"
    refine ⟨k_tyL hd4, g_clear hd4 ?_⟩
    have sg5 : Same (new Hm H') (new Hm (upd (upd H3 ml (.lst (ms ++ [.ref mx]))) hd (.lst []))) := fun b u e => by
      obtain ⟨e1, e2⟩ := new_get e
      rw [new_of e1, upd_ne (ne_of_none e2 hhd), upd_ne (fun z => by rw [z, hmm] at e1; cases e1)]
      exact s03 _ _ e2
    have sH5 : Same H (upd (upd H3 ml (.lst (ms ++ [.ref mx]))) hd (.lst [])) := same_upd (same_upd (sH.trans s03) ml0) hd0
    have pk5 : PoolAt (upd (upd H3 ml (.lst (ms ++ [.ref mx]))) hd (.lst [])) ak := by
      obtain ⟨c, r, k, q1, q2, q3⟩ := pk
      exact ⟨c, r, k, q1, q2, by rw [upd_ne hdak.symm, upd_ne mak.symm]; exact s03 _ _ q3⟩
    have ml5 : upd (upd H3 ml (.lst (ms ++ [.ref mx]))) hd (.lst []) ml = some (.lst (ms ++ [.ref mx])) := by rw [upd_ne hdml.symm, upd_same]
    have sl5 : upd (upd H3 ml (.lst (ms ++ [.ref mx]))) hd (.lst []) sl = some (.lst ss) := by rw [upd_ne hdsl.symm, upd_ne slml]; exact s03 _ _ hsl'
    have mx0 : H' mx = none := s1.free nmx
    obtain ⟨tmx, ht1⟩ := upd_none ht0
    have t0 : H' t = none := s1.free (upd_none ht1).2
    have m5 : MAt (new Hm (upd (upd H3 ml (.lst (ms ++ [.ref mx]))) hd (.lst []))) C mx W t xs := by
      have hW5 := hW.same (sg.trans sg5)
      obtain ⟨dx3, ob3⟩ := hm3.ob
      refine ⟨⟨dx3, ?_⟩, ?_, hW5.np⟩
      · rw [new_of (fr sH pkn mln sln mx0), upd_ne (ne_of ob3 (s13 _ _ hd1) (by intro z; cases z)), upd_ne (ne_of ob3 (s03 _ _ hml') (by intro z; cases z))]
        exact ob3
      · rw [new_of (fr sH pkn mln sln t0), upd_ne (ne_of hm3.tu (s13 _ _ hd1) (by intro z; cases z)), upd_ne (ne_of hm3.tu (s03 _ _ hml') (by intro z; cases z))]
        exact hm3.tu
    generalize upd (upd H3 ml (.lst (ms ++ [.ref mx]))) hd (.lst []) = H5 at sg5 sH5 pk5 ml5 sl5 m5 ⊢
    have hW5 := hW.same (sg.trans sg5)
    have hWn := hW5.same new_same
    have b8 := W.b8
    have b256 := W.b256
    walk_at "wp"
    walk_at "st"
    refine k_ix (SqL.of hWn.own) (v := .int (W.bits : Nat)) rfl ?_
    walk_at "wp"
    refine ⟨n_pow_shl (by omega), ?_⟩
    walk_at "wn"
    walk_at "st"
    have ocl := W.ord_len
    have on := W.order_pos
    refine k_ix (SqL.of hWn.due) (v := .ref c) rfl ?_
    refine k_ix (SqL.of hWn.due) (v := .ref c) rfl ?_
    refine g_len (SqL.of hWn.ord) ?_
    rw [valsN_len]
    walk_at "wp"
    obtain ⟨lst, hlst⟩ : ∃ y, W.ordC[W.ordC.length - 1]? = some y := ⟨_, List.getElem?_eq_getElem (by omega)⟩
    rw [show ((W.ordC.length : Nat) : Int) - 1 = ((W.ordC.length - 1 : Nat) : Int) by omega]
    refine k_ix (SqL.of hWn.ord) (valsN_at hlst) ?_
    refine p_draw (m := 2 ^ W.bits) pk5 (Nat.two_pow_pos _) (by omega) fun x1 H6 hx1 p6 => ?_
    walk_at "wp"
    refine p_draw (m := 2 ^ W.bits) p6.at' (Nat.two_pow_pos _) (by omega) fun x2 H7 hx2 p7 => ⟨szr rfl, fun rw_ hrw => ?_⟩
    have p57 := p6.trans p7
    have sH7 : Same H H7 := fun b u e => p57.sx _ _ (ne_of_none e ak0) (sH5 _ _ e)
    have sg7 := sg5.trans (nx hma p57)
    have ml7 := p57.sx _ _ mak ml5
    have sl7 := p57.sx _ _ slak sl5
    have m7 := m5.same (nx hma p57)
    have sr := same_new hrw (.lst [.int (lst : Nat), .int (x1 : Nat), .int (x2 : Nat)])
    have er : upd H7 rw_ (.lst [.int (lst : Nat), .int (x1 : Nat), .int (x2 : Nat)]) rw_ = some (.lst (valsN [lst, x1, x2])) := upd_same
    have pk9 := p57.at'.same sr
    generalize upd H7 rw_ (.lst [.int (lst : Nat), .int (x1 : Nat), .int (x2 : Nat)]) = H9 at sr er pk9 ⊢
    walk_at "wp"
    refine ⟨k_tyL (sr _ _ sl7), ?_⟩
    have sH9 := sH7.trans sr
    refine g_slL (i := 3) (j := 7) (sH9.seq hS) fun sp ys hsp hys ysl => ?_
    have s910 := same_new hsp (.lst ys)
    have hsp1 : upd H9 sp (.lst ys) sp = some (.lst ys) := upd_same
    generalize upd H9 sp (.lst ys) = H10 at s910 hsp1 ⊢
    obtain ⟨Pc, hPc⟩ := opq (fun (D : Addr) (j : Nat) (H11 : Hp) => ∃ ts : List Nat, H11 = upd H10 D (.lst (valsN ts)) ∧ ts.length = j)
    refine c_Lw (SqL.of hsp1) Pc (fun D hD => ?_) (fun D j H11 hD hj h11 => ?_) (fun D j y H11 hD hj h11 => ?_) (fun D H11 hD h11 => ?_)
    · rw [hPc]
      exact ⟨[], rfl, rfl⟩
    · rw [hPc] at h11
      obtain ⟨ts, rfl, _⟩ := h11
      exact SqL.of (same_new hD _ _ _ hsp1)
    · rw [hPc] at h11
      obtain ⟨ts, rfl, tl⟩ := h11
      have jl := (List.getElem?_eq_some_iff.mp hj).1
      obtain ⟨z, _, rfl⟩ := List.mem_map.mp (hys y (List.mem_of_getElem? hj))
      walk_at "wp"
      refine ⟨by have := Nat.two_pow_pos W.bits; omega, ?_⟩
      have z0 : (2 ^ W.bits : Nat) ≠ 0 := by have := Nat.two_pow_pos W.bits; omega
      obtain ⟨r, hr⟩ := Int.eq_ofNat_of_zero_le (Int.emod_nonneg (if z < 0 then -z else z) (show (((2 ^ W.bits : Nat)) : Int) ≠ 0 by omega))
      rw [hr]
      refine ⟨_, upd_same, szl (by rw [valsN_len]; omega), ?_⟩
      rw [hPc, upd_upd]
      exact ⟨ts ++ [r], by unfold valsN; rw [List.map_append]; rfl, by rw [List.length_append, tl]; rfl⟩
    · rw [hPc] at h11
      obtain ⟨ts, rfl, tl⟩ := h11
      have s11 := s910.trans (same_new hD (.lst (valsN ts)))
      refine g_cat (s11 _ _ er) upd_same (by rw [valsN_len, valsN_len, tl]; show 3 + _ ≤ _; omega) fun pw hpw => ?_
      have s12 := s11.trans (same_new hpw (.lst (valsN [lst, x1, x2] ++ valsN ts)))
      have ew : upd (upd H10 D (.lst (valsN ts))) pw (.lst (valsN [lst, x1, x2] ++ valsN ts)) pw = some (.lst (valsN ([lst, x1, x2] ++ ts))) := by
        rw [upd_same]
        unfold valsN
        rw [List.map_append]
      have pw9 : H9 pw = none := s11.free hpw
      have pw7 : H7 pw = none := sr.free pw9
      generalize upd (upd H10 D (.lst (valsN ts))) pw (.lst (valsN [lst, x1, x2] ++ valsN ts)) = H12 at s12 ew ⊢
      have sr12 := sr.trans s12
      refine k_app (sr12 _ _ sl7) (by rw [hMS.2.1]; omega) ?_
      rw [hP]
      have pk7 := pool_some p57.at'
      have pwm : Hm pw = none := fr sH7 pk7 (fun z => by rw [ml7] at z; cases z) (fun z => by rw [sl7] at z; cases z) pw7
      refine ⟨_, _, _, _, _, ms ++ [.ref mx], ss ++ [.ref pw], rfl, same_upd (sH7.trans sr12) sl0, (p57.at'.same sr12).put slak, by rw [upd_ne slml.symm]; exact sr12 _ _ ml7, upd_same, ?_, ?_⟩
      · rw [new_upd hms]
        exact sg.trans (sg7.trans (new_mono sr12))
      · rw [new_upd hms]
        refine (hMS.same (sg7.trans (new_mono sr12))).snoc (mxs := xs) (t := t) ?_ (sts := [lst, x1, x2] ++ ts) ?_
        · rw [hWe]
          exact m7.same (new_mono sr12)
        · rw [new_of pwm]
          exact ew
  · intro σ' H1 h
    rw [hP] at h
    obtain ⟨a5, a6, a7, a8, a9, ms, ss, rfl, sH, pk, hml', hsl', sg, hMS⟩ := h
    have hMS : MS C (new Hm H1) Wi ms ss 2 := hMS
    clear hP Pv
    walk_at "wp"
    walk_at "st"
    refine ⟨szr rfl, fun al hal => ?_⟩
    have s1 := same_new hal (.lst [.int 0, .int 1, .int 0])
    have hal1 : upd H1 al (.lst [.int 0, .int 1, .int 0]) al = some (.lst [.int 0, .int 1, .int 0]) := upd_same
    generalize upd H1 al (.lst [.int 0, .int 1, .int 0]) = H2 at s1 hal1 ⊢
    obtain ⟨Pv, hP⟩ := opq (fun (i : Nat) (σ' : L2.St) (H' : Hp) => ∃ (a10 : Option V), σ' = [some (.ref a), some (.ref wl), some (.ref ak), some (.ref ml), some (.ref sl), a5, a6, a7, a8, a9, a10, none] ∧ Same H2 H')
    refine f_L (SqL.of hal1) Pv ?_ ?_ ?_ ?_
    · rw [hP]
      exact ⟨_, rfl, Same.refl _⟩
    · intro i σ' H' hi h
      rw [hP] at h
      obtain ⟨_, _, s2⟩ := h
      exact SqL.of (s2 _ _ hal1)
    · intro i x σ' H' hi h
      rw [hP] at h
      obtain ⟨a10, rfl, s2⟩ := h
      obtain ⟨j, hj, rfl⟩ : ∃ j : Nat, j < 2 ∧ x = .int (j : Nat) := by
        rcases i with _ | _ | _ | i
        · exact ⟨0, by decide, (Option.some.inj hi).symm⟩
        · exact ⟨1, by decide, (Option.some.inj hi).symm⟩
        · exact ⟨0, by decide, (Option.some.inj hi).symm⟩
        · simp at hi
      have s12 := s1.trans s2
      obtain ⟨m, t, mxs, sa, sts, g1, g2, g3, g4⟩ := hMS.2.2 j hj
      obtain ⟨x, hx⟩ : ∃ x, ([.ref w1, .ref w2] : List V)[j]? = some x := ⟨_, List.getElem?_eq_getElem hj⟩
      obtain ⟨wa, o, d, rl, c, wy, n, xs, kvs, rfl, hwa, hW⟩ := wf j x hx
      have sgn := (sg.trans new_same).trans s12
      have g2' := g2.same (new_same.trans s12)
      walk_at "wp"
      refine k_ix (SqL.of (s12 _ _ hml')) (atI_nat g1) ?_
      refine k_ix (SqL.of (sgn _ _ nwl)) (atI_nat hx) ?_
      refine k_ix (SqL.of (s12 _ _ hsl')) (atI_nat g3) ?_
      refine ⟨m, wa, sa, Wi j, t, o, d, rl, c, wy, n, mxs, xs, kvs, sts, rfl, sgn _ _ hwa, hW.same sgn, g2', s12 _ _ (new_same _ _ g4), fun H3 s3 => ?_⟩
      walk_at "wp"
      rw [hP]
      exact ⟨_, rfl, s2.trans s3⟩
    · intro σ' H' h
      rw [hP] at h
      obtain ⟨a10, rfl, s2⟩ := h
      walk_at "wp"
      exact q H' (sH.trans (s1.trans s2))
end
end Ck
namespace Ck
open PySem L2
section
open PySem
theorem all_mk {l : PySem.W.OpenLaw} {w : World} {K : PySem.W.Frag} {h : Heap} {mg : Str → Option Value} {fa f1 f2 f3 f4 f5 f6 f7 f8 f9 f10 f11 f12 f13 f14 f15 f16 f17 f18 f19 f20 f21 f22 f23 f24 f25 f26 f27 f28 f29 C_Machine : Addr} (X : K.In h) (G : h.Ns mainGlobals mg) (hfa : mg "law" = some (.ref fa))
    {od1 an1 od2 an2 od3 an3 od4 an4 od5 an5 od6 an6 od7 an7 od8 an8 od9 an9 od10 an10 od11 an11 od12 an12 od13 an13 od14 an14 od15 an15 od16 an16 od17 an17 od18 an18 od19 an19 od20 an20 od21 an21 od22 an22 od23 an23 od24 an24 od25 an25 od26 an26 od27 an27 od28 an28 od29 an29 : Option Addr} {sl1 sl2 sl3 sl4 sl5 sl6 sl7 sl8 sl9 sl10 sl11 sl12 sl13 sl14 sl15 sl16 sl17 sl18 sl19 sl20 sl21 sl22 sl23 sl24 sl25 sl26 sl27 sl28 sl29 : Array (Option Value)} {oc1 kV1 dc1 pm1 cd1 ct1 oc2 kV2 dc2 pm2 cd2 ct2 oc3 kV3 dc3 pm3 cd3 ct3 oc4 kV4 dc4 pm4 cd4 ct4 oc5 kV5 dc5 pm5 cd5 ct5 oc6 kV6 dc6 pm6 cd6 ct6 oc7 kV7 dc7 pm7 cd7 ct7 oc8 kV8 dc8 pm8 cd8 ct8 oc9 kV9 dc9 pm9 cd9 ct9 oc10 kV10 dc10 pm10 cd10 ct10 oc11 kV11 dc11 pm11 cd11 ct11 oc12 kV12 dc12 pm12 cd12 ct12 oc13 kV13 dc13 pm13 cd13 ct13 oc14 kV14 dc14 pm14 cd14 ct14 oc15 kV15 dc15 pm15 cd15 ct15 oc16 kV16 dc16 pm16 cd16 ct16 oc17 kV17 dc17 pm17 cd17 ct17 oc18 kV18 dc18 pm18 cd18 ct18 oc19 kV19 dc19 pm19 cd19 ct19 oc20 kV20 dc20 pm20 cd20 ct20 oc21 kV21 dc21 pm21 cd21 ct21 oc22 kV22 dc22 pm22 cd22 ct22 oc23 kV23 dc23 pm23 cd23 ct23 oc24 kV24 dc24 pm24 cd24 ct24 oc25 kV25 dc25 pm25 cd25 ct25 oc26 kV26 dc26 pm26 cd26 ct26 oc27 kV27 dc27 pm27 cd27 ct27 oc28 kV28 dc28 pm28 cd28 ct28 oc29 kV29 dc29 pm29 cd29 ct29 : Value} {t_INPUT_LIMIT t_OUTPUT_LIMIT t_STATE_LIMIT t_JOINT_LIMIT : Tok}
    (aC_Machine : PySem.W.nsIn K mainGlobals "Machine" = some (some (.ref C_Machine)))
    (a1 : PySem.W.nsIn K mainGlobals "rows_of" = some (some (.ref f1))) (l1 : K.lookup f1 = some ⟨oc1, od1, .func (PySem.W.fnOf "rows_of" "rows_of" (defArgs s_rows_of) (defBody s_rows_of) (defScope s_rows_of) .none kV1 dc1 pm1 an1 cd1 ct1), sl1⟩) (c1 : PySem.W.codeIn K cd1 "rows_of" = true) (k1 : PySem.W.keepIn K (.ref f1) = true)
    (a2 : PySem.W.nsIn K mainGlobals "first_steps" = some (some (.ref f2))) (l2 : K.lookup f2 = some ⟨oc2, od2, .func (PySem.W.fnOf "first_steps" "first_steps" (defArgs s_first_steps) (defBody s_first_steps) (defScope s_first_steps) .none kV2 dc2 pm2 an2 cd2 ct2), sl2⟩) (c2 : PySem.W.codeIn K cd2 "first_steps" = true) (k2 : PySem.W.keepIn K (.ref f2) = true)
    (a3 : PySem.W.nsIn K mainGlobals "reached_states" = some (some (.ref f3))) (l3 : K.lookup f3 = some ⟨oc3, od3, .func (PySem.W.fnOf "reached_states" "reached_states" (defArgs s_reached_states) (defBody s_reached_states) (defScope s_reached_states) .none kV3 dc3 pm3 an3 cd3 ct3), sl3⟩) (c3 : PySem.W.codeIn K cd3 "reached_states" = true) (k3 : PySem.W.keepIn K (.ref f3) = true)
    (a4 : PySem.W.nsIn K mainGlobals "first_run" = some (some (.ref f4))) (l4 : K.lookup f4 = some ⟨oc4, od4, .func (PySem.W.fnOf "first_run" "first_run" (defArgs s_first_run) (defBody s_first_run) (defScope s_first_run) .none kV4 dc4 pm4 an4 cd4 ct4), sl4⟩) (c4 : PySem.W.codeIn K cd4 "first_run" = true) (k4 : PySem.W.keepIn K (.ref f4) = true)
    (a5 : PySem.W.nsIn K mainGlobals "check_counts" = some (some (.ref f5))) (l5 : K.lookup f5 = some ⟨oc5, od5, .func (PySem.W.fnOf "check_counts" "check_counts" (defArgs s_check_counts) (defBody s_check_counts) (defScope s_check_counts) .none kV5 dc5 pm5 an5 cd5 ct5), sl5⟩) (c5 : PySem.W.codeIn K cd5 "check_counts" = true) (k5 : PySem.W.keepIn K (.ref f5) = true)
    (a6 : PySem.W.nsIn K mainGlobals "numbered" = some (some (.ref f6))) (l6 : K.lookup f6 = some ⟨oc6, od6, .func (PySem.W.fnOf "numbered" "numbered" (defArgs s_numbered) (defBody s_numbered) (defScope s_numbered) .none kV6 dc6 pm6 an6 cd6 ct6), sl6⟩) (c6 : PySem.W.codeIn K cd6 "numbered" = true) (k6 : PySem.W.keepIn K (.ref f6) = true)
    (a7 : PySem.W.nsIn K mainGlobals "state_classes" = some (some (.ref f7))) (l7 : K.lookup f7 = some ⟨oc7, od7, .func (PySem.W.fnOf "state_classes" "state_classes" (defArgs s_state_classes) (defBody s_state_classes) (defScope s_state_classes) .none kV7 dc7 pm7 an7 cd7 ct7), sl7⟩) (c7 : PySem.W.codeIn K cd7 "state_classes" = true) (k7 : PySem.W.keepIn K (.ref f7) = true)
    (a8 : PySem.W.nsIn K mainGlobals "_law_pool" = some (some (.ref f8))) (l8 : K.lookup f8 = some ⟨oc8, od8, .func (PySem.W.fnOf "_law_pool" "_law_pool" (defArgs s_law_pool) (defBody s_law_pool) (defScope s_law_pool) .none kV8 dc8 pm8 an8 cd8 ct8), sl8⟩) (c8 : PySem.W.codeIn K cd8 "_law_pool" = true) (k8 : PySem.W.keepIn K (.ref f8) = true)
    (a9 : PySem.W.nsIn K mainGlobals "_law_draw" = some (some (.ref f9))) (l9 : K.lookup f9 = some ⟨oc9, od9, .func (PySem.W.fnOf "_law_draw" "_law_draw" (defArgs s_law_draw) (defBody s_law_draw) (defScope s_law_draw) .none kV9 dc9 pm9 an9 cd9 ct9), sl9⟩) (c9 : PySem.W.codeIn K cd9 "_law_draw" = true) (k9 : PySem.W.keepIn K (.ref f9) = true)
    (a10 : PySem.W.nsIn K mainGlobals "_law_pick" = some (some (.ref f10))) (l10 : K.lookup f10 = some ⟨oc10, od10, .func (PySem.W.fnOf "_law_pick" "_law_pick" (defArgs s_law_pick) (defBody s_law_pick) (defScope s_law_pick) .none kV10 dc10 pm10 an10 cd10 ct10), sl10⟩) (c10 : PySem.W.codeIn K cd10 "_law_pick" = true) (k10 : PySem.W.keepIn K (.ref f10) = true)
    (a11 : PySem.W.nsIn K mainGlobals "_law_whole" = some (some (.ref f11))) (l11 : K.lookup f11 = some ⟨oc11, od11, .func (PySem.W.fnOf "_law_whole" "_law_whole" (defArgs s_law_whole) (defBody s_law_whole) (defScope s_law_whole) .none kV11 dc11 pm11 an11 cd11 ct11), sl11⟩) (c11 : PySem.W.codeIn K cd11 "_law_whole" = true) (k11 : PySem.W.keepIn K (.ref f11) = true)
    (a12 : PySem.W.nsIn K mainGlobals "_law_same" = some (some (.ref f12))) (l12 : K.lookup f12 = some ⟨oc12, od12, .func (PySem.W.fnOf "_law_same" "_law_same" (defArgs s_law_same) (defBody s_law_same) (defScope s_law_same) .none kV12 dc12 pm12 an12 cd12 ct12), sl12⟩) (c12 : PySem.W.codeIn K cd12 "_law_same" = true) (k12 : PySem.W.keepIn K (.ref f12) = true)
    (a13 : PySem.W.nsIn K mainGlobals "_law_divisor" = some (some (.ref f13))) (l13 : K.lookup f13 = some ⟨oc13, od13, .func (PySem.W.fnOf "_law_divisor" "_law_divisor" (defArgs s_law_divisor) (defBody s_law_divisor) (defScope s_law_divisor) .none kV13 dc13 pm13 an13 cd13 ct13), sl13⟩) (c13 : PySem.W.codeIn K cd13 "_law_divisor" = true) (k13 : PySem.W.keepIn K (.ref f13) = true)
    (a14 : PySem.W.nsIn K mainGlobals "_law_meets_all" = some (some (.ref f14))) (l14 : K.lookup f14 = some ⟨oc14, od14, .func (PySem.W.fnOf "_law_meets_all" "_law_meets_all" (defArgs s_law_meets_all) (defBody s_law_meets_all) (defScope s_law_meets_all) .none kV14 dc14 pm14 an14 cd14 ct14), sl14⟩) (c14 : PySem.W.codeIn K cd14 "_law_meets_all" = true) (k14 : PySem.W.keepIn K (.ref f14) = true)
    (a15 : PySem.W.nsIn K mainGlobals "_law_rings" = some (some (.ref f15))) (l15 : K.lookup f15 = some ⟨oc15, od15, .func (PySem.W.fnOf "_law_rings" "_law_rings" (defArgs s_law_rings) (defBody s_law_rings) (defScope s_law_rings) .none kV15 dc15 pm15 an15 cd15 ct15), sl15⟩) (c15 : PySem.W.codeIn K cd15 "_law_rings" = true) (k15 : PySem.W.keepIn K (.ref f15) = true)
    (a16 : PySem.W.nsIn K mainGlobals "_law_pattern" = some (some (.ref f16))) (l16 : K.lookup f16 = some ⟨oc16, od16, .func (PySem.W.fnOf "_law_pattern" "_law_pattern" (defArgs s_law_pattern) (defBody s_law_pattern) (defScope s_law_pattern) .none kV16 dc16 pm16 an16 cd16 ct16), sl16⟩) (c16 : PySem.W.codeIn K cd16 "_law_pattern" = true) (k16 : PySem.W.keepIn K (.ref f16) = true)
    (a17 : PySem.W.nsIn K mainGlobals "_law_shows" = some (some (.ref f17))) (l17 : K.lookup f17 = some ⟨oc17, od17, .func (PySem.W.fnOf "_law_shows" "_law_shows" (defArgs s_law_shows) (defBody s_law_shows) (defScope s_law_shows) .none kV17 dc17 pm17 an17 cd17 ct17), sl17⟩) (c17 : PySem.W.codeIn K cd17 "_law_shows" = true) (k17 : PySem.W.keepIn K (.ref f17) = true)
    (a18 : PySem.W.nsIn K mainGlobals "_law_show" = some (some (.ref f18))) (l18 : K.lookup f18 = some ⟨oc18, od18, .func (PySem.W.fnOf "_law_show" "_law_show" (defArgs s_law_show) (defBody s_law_show) (defScope s_law_show) .none kV18 dc18 pm18 an18 cd18 ct18), sl18⟩) (c18 : PySem.W.codeIn K cd18 "_law_show" = true) (k18 : PySem.W.keepIn K (.ref f18) = true)
    (a19 : PySem.W.nsIn K mainGlobals "_law_moves" = some (some (.ref f19))) (l19 : K.lookup f19 = some ⟨oc19, od19, .func (PySem.W.fnOf "_law_moves" "_law_moves" (defArgs s_law_moves) (defBody s_law_moves) (defScope s_law_moves) .none kV19 dc19 pm19 an19 cd19 ct19), sl19⟩) (c19 : PySem.W.codeIn K cd19 "_law_moves" = true) (k19 : PySem.W.keepIn K (.ref f19) = true)
    (a20 : PySem.W.nsIn K mainGlobals "_law_walked" = some (some (.ref f20))) (l20 : K.lookup f20 = some ⟨oc20, od20, .func (PySem.W.fnOf "_law_walked" "_law_walked" (defArgs s_law_walked) (defBody s_law_walked) (defScope s_law_walked) .none kV20 dc20 pm20 an20 cd20 ct20), sl20⟩) (c20 : PySem.W.codeIn K cd20 "_law_walked" = true) (k20 : PySem.W.keepIn K (.ref f20) = true)
    (a21 : PySem.W.nsIn K mainGlobals "_law_shifted" = some (some (.ref f21))) (l21 : K.lookup f21 = some ⟨oc21, od21, .func (PySem.W.fnOf "_law_shifted" "_law_shifted" (defArgs s_law_shifted) (defBody s_law_shifted) (defScope s_law_shifted) .none kV21 dc21 pm21 an21 cd21 ct21), sl21⟩) (c21 : PySem.W.codeIn K cd21 "_law_shifted" = true) (k21 : PySem.W.keepIn K (.ref f21) = true)
    (a22 : PySem.W.nsIn K mainGlobals "_law_numbers" = some (some (.ref f22))) (l22 : K.lookup f22 = some ⟨oc22, od22, .func (PySem.W.fnOf "_law_numbers" "_law_numbers" (defArgs s_law_numbers) (defBody s_law_numbers) (defScope s_law_numbers) .none kV22 dc22 pm22 an22 cd22 ct22), sl22⟩) (c22 : PySem.W.codeIn K cd22 "_law_numbers" = true) (k22 : PySem.W.keepIn K (.ref f22) = true)
    (a23 : PySem.W.nsIn K mainGlobals "_law_rows" = some (some (.ref f23))) (l23 : K.lookup f23 = some ⟨oc23, od23, .func (PySem.W.fnOf "_law_rows" "_law_rows" (defArgs s_law_rows) (defBody s_law_rows) (defScope s_law_rows) .none kV23 dc23 pm23 an23 cd23 ct23), sl23⟩) (c23 : PySem.W.codeIn K cd23 "_law_rows" = true) (k23 : PySem.W.keepIn K (.ref f23) = true)
    (a24 : PySem.W.nsIn K mainGlobals "_law_world" = some (some (.ref f24))) (l24 : K.lookup f24 = some ⟨oc24, od24, .func (PySem.W.fnOf "_law_world" "_law_world" (defArgs s_law_world) (defBody s_law_world) (defScope s_law_world) .none kV24 dc24 pm24 an24 cd24 ct24), sl24⟩) (c24 : PySem.W.codeIn K cd24 "_law_world" = true) (k24 : PySem.W.keepIn K (.ref f24) = true)
    (a25 : PySem.W.nsIn K mainGlobals "_law_kept" = some (some (.ref f25))) (l25 : K.lookup f25 = some ⟨oc25, od25, .func (PySem.W.fnOf "_law_kept" "_law_kept" (defArgs s_law_kept) (defBody s_law_kept) (defScope s_law_kept) .none kV25 dc25 pm25 an25 cd25 ct25), sl25⟩) (c25 : PySem.W.codeIn K cd25 "_law_kept" = true) (k25 : PySem.W.keepIn K (.ref f25) = true)
    (a26 : PySem.W.nsIn K mainGlobals "_law_right" = some (some (.ref f26))) (l26 : K.lookup f26 = some ⟨oc26, od26, .func (PySem.W.fnOf "_law_right" "_law_right" (defArgs s_law_right) (defBody s_law_right) (defScope s_law_right) .none kV26 dc26 pm26 an26 cd26 ct26), sl26⟩) (c26 : PySem.W.codeIn K cd26 "_law_right" = true) (k26 : PySem.W.keepIn K (.ref f26) = true)
    (a27 : PySem.W.nsIn K mainGlobals "law" = some (some (.ref f27))) (l27 : K.lookup f27 = some ⟨oc27, od27, .func (PySem.W.fnOf "law" "law" (defArgs s_law) (defBody s_law) (defScope s_law) .none kV27 dc27 pm27 an27 cd27 ct27), sl27⟩) (c27 : PySem.W.codeIn K cd27 "law" = true) (k27 : PySem.W.keepIn K (.ref f27) = true)
    (a28 : PySem.W.findIn K (.ref C_Machine) "__init__" = some (some (.ref f28))) (i28 : PySem.W.isFn K (.ref f28) = true) (l28 : K.lookup f28 = some ⟨oc28, od28, .func (PySem.W.fnOf "__init__" "Machine.__init__" (defArgs s_Machine_init) (defBody s_Machine_init) (defScope s_Machine_init) .none kV28 dc28 pm28 an28 cd28 ct28), sl28⟩) (c28 : PySem.W.codeIn K cd28 "Machine.__init__" = true) (k28 : PySem.W.keepIn K (.ref f28) = true)
    (a29 : PySem.W.findIn K (.ref C_Machine) "has_right_rows" = some (some (.ref f29))) (i29 : PySem.W.isFn K (.ref f29) = true) (l29 : K.lookup f29 = some ⟨oc29, od29, .func (PySem.W.fnOf "has_right_rows" "Machine.has_right_rows" (defArgs s_Machine_has_right_rows) (defBody s_Machine_has_right_rows) (defScope s_Machine_has_right_rows) .none kV29 dc29 pm29 an29 cd29 ct29), sl29⟩) (c29 : PySem.W.codeIn K cd29 "Machine.has_right_rows" = true) (k29 : PySem.W.keepIn K (.ref f29) = true)
    (pg_Machine : PySem.W.plainGet K C_Machine Str.empty = true) (hd_Machine : PySem.W.hasDictIn K C_Machine = true) (po_Machine : PySem.W.plainOver K C_Machine = true) (sa_Machine : PySem.W.findIn K (.ref C_Machine) "__setattr__" = some (some (.builtin "object.__setattr__"))) (mk_Machine : PySem.W.makesIn K C_Machine = true) (kc_Machine : PySem.W.keepIn K (.ref C_Machine) = true)
    (n1_Machine : PySem.W.findIn K (.ref C_Machine) "inputs" = some none)
    (n2_Machine : PySem.W.findIn K (.ref C_Machine) "outputs" = some none)
    (n3_Machine : PySem.W.findIn K (.ref C_Machine) "state_bits" = some none)
    (n4_Machine : PySem.W.findIn K (.ref C_Machine) "reset" = some none)
    (n5_Machine : PySem.W.findIn K (.ref C_Machine) "rows" = some none)
    (g_INPUT_LIMIT : PySem.W.nsIn K mainGlobals "INPUT_LIMIT" = some (some (.int 4 t_INPUT_LIMIT)))
    (g_OUTPUT_LIMIT : PySem.W.nsIn K mainGlobals "OUTPUT_LIMIT" = some (some (.int 24 t_OUTPUT_LIMIT)))
    (g_STATE_LIMIT : PySem.W.nsIn K mainGlobals "STATE_LIMIT" = some (some (.int 8 t_STATE_LIMIT)))
    (g_JOINT_LIMIT : PySem.W.nsIn K mainGlobals "JOINT_LIMIT" = some (some (.int 12 t_JOINT_LIMIT)))
    (z1 : PySem.W.nsIn K mainGlobals "len" = some none)
    (z2 : PySem.W.nsIn K mainGlobals "range" = some none)
    (z3 : PySem.W.nsIn K mainGlobals "sum" = some none)
    (z4 : PySem.W.nsIn K mainGlobals "int" = some none)
    (z5 : PySem.W.nsIn K mainGlobals "abs" = some none)
    (z6 : PySem.W.nsIn K mainGlobals "sorted" = some none)
    (z7 : PySem.W.nsIn K mainGlobals "isinstance" = some none)
    (z8 : PySem.W.nsIn K mainGlobals "list" = some none)
    (z9 : PySem.W.nsIn K mainGlobals "bool" = some none)
    (z10 : PySem.W.nsIn K mainGlobals "str" = some none)
    (z11 : PySem.W.nsIn K mainGlobals "tuple" = some none)
    (z12 : PySem.W.nsIn K mainGlobals "max" = some none)
    (z13 : PySem.W.nsIn K mainGlobals "min" = some none)
    (z14 : PySem.W.nsIn K mainGlobals "zip" = some none)
    (z15 : PySem.W.nsIn K mainGlobals "enumerate" = some none)
    : ∃ fd : FuncData, (∀ (s : Shared) (v : Value), BindsTo s fd ⟨[v], []⟩ [("script", v)]) ∧ ∀ base : Heap, K.In base → base.Ns mainGlobals mg → FnOk l.prog w K mg base CX0 12 fa fd ["script"] (spLaw K) := by
  have e := hfa.symm.trans (PySem.W.mg_of X G a27)
  cases e
  have Z : Bl mg := ⟨PySem.W.mg_none_of X G z1, PySem.W.mg_none_of X G z2, PySem.W.mg_none_of X G z3, PySem.W.mg_none_of X G z4, PySem.W.mg_none_of X G z5, PySem.W.mg_none_of X G z6, PySem.W.mg_none_of X G z7, PySem.W.mg_none_of X G z8, PySem.W.mg_none_of X G z9, PySem.W.mg_none_of X G z10, PySem.W.mg_none_of X G z11, PySem.W.mg_none_of X G z12, PySem.W.mg_none_of X G z13, PySem.W.mg_none_of X G z14, PySem.W.mg_none_of X G z15⟩
  have F1 := fun_mk (st := s_rows_of) l1 c1 k1
  have b1 := F1.binds (ps := ["machine", "state"]) fun _ _ _ _ _ _ us hl => match us, hl with | [_, _], _ => rfl
  have m1 := PySem.W.mg_of X G a1
  have F2 := fun_mk (st := s_first_steps) l2 c2 k2
  have b2 := F2.binds (ps := ["machine"]) fun _ _ _ _ _ _ us hl => match us, hl with | [_], _ => rfl
  have m2 := PySem.W.mg_of X G a2
  have F3 := fun_mk (st := s_reached_states) l3 c3 k3
  have b3 := F3.binds (ps := ["machine"]) fun _ _ _ _ _ _ us hl => match us, hl with | [_], _ => rfl
  have m3 := PySem.W.mg_of X G a3
  have F4 := fun_mk (st := s_first_run) l4 c4 k4
  have b4 := F4.binds (ps := ["machine", "state"]) fun _ _ _ _ _ _ us hl => match us, hl with | [_, _], _ => rfl
  have m4 := PySem.W.mg_of X G a4
  have F5 := fun_mk (st := s_check_counts) l5 c5 k5
  have b5 := F5.binds (ps := ["inputs", "outputs", "state_bits"]) fun _ _ _ _ _ _ us hl => match us, hl with | [_, _, _], _ => rfl
  have m5 := PySem.W.mg_of X G a5
  have F6 := fun_mk (st := s_numbered) l6 c6 k6
  have b6 := F6.binds (ps := ["keys"]) fun _ _ _ _ _ _ us hl => match us, hl with | [_], _ => rfl
  have m6 := PySem.W.mg_of X G a6
  have F7 := fun_mk (st := s_state_classes) l7 c7 k7
  have b7 := F7.binds (ps := ["machine"]) fun _ _ _ _ _ _ us hl => match us, hl with | [_], _ => rfl
  have m7 := PySem.W.mg_of X G a7
  have F8 := fun_mk (st := s_law_pool) l8 c8 k8
  have b8 := F8.binds (ps := ["script", "place"]) fun _ _ _ _ _ _ us hl => match us, hl with | [_, _], _ => rfl
  have m8 := PySem.W.mg_of X G a8
  have F9 := fun_mk (st := s_law_draw) l9 c9 k9
  have b9 := F9.binds (ps := ["pool", "many"]) fun _ _ _ _ _ _ us hl => match us, hl with | [_, _], _ => rfl
  have m9 := PySem.W.mg_of X G a9
  have F10 := fun_mk (st := s_law_pick) l10 c10 k10
  have b10 := F10.binds (ps := ["pool", "row"]) fun _ _ _ _ _ _ us hl => match us, hl with | [_, _], _ => rfl
  have m10 := PySem.W.mg_of X G a10
  have F11 := fun_mk (st := s_law_whole) l11 c11 k11
  have b11 := F11.binds (ps := ["value"]) fun _ _ _ _ _ _ us hl => match us, hl with | [_], _ => rfl
  have m11 := PySem.W.mg_of X G a11
  have F12 := fun_mk (st := s_law_same) l12 c12 k12
  have b12 := F12.binds (ps := ["value", "due"]) fun _ _ _ _ _ _ us hl => match us, hl with | [_, _], _ => rfl
  have m12 := PySem.W.mg_of X G a12
  have F13 := fun_mk (st := s_law_divisor) l13 c13 k13
  have b13 := F13.binds (ps := ["pool", "length"]) fun _ _ _ _ _ _ us hl => match us, hl with | [_, _], _ => rfl
  have m13 := PySem.W.mg_of X G a13
  have F14 := fun_mk (st := s_law_meets_all) l14 c14 k14
  have b14 := F14.binds (ps := ["step", "length"]) fun _ _ _ _ _ _ us hl => match us, hl with | [_, _], _ => rfl
  have m14 := PySem.W.mg_of X G a14
  have F15 := fun_mk (st := s_law_rings) l15 c15 k15
  have b15 := F15.binds (ps := ["pool", "at"]) fun _ _ _ _ _ _ us hl => match us, hl with | [_, _], _ => rfl
  have m15 := PySem.W.mg_of X G a15
  have F16 := fun_mk (st := s_law_pattern) l16 c16 k16
  have b16 := F16.binds (ps := ["pool", "length", "full"]) fun _ _ _ _ _ _ us hl => match us, hl with | [_, _, _], _ => rfl
  have m16 := PySem.W.mg_of X G a16
  have F17 := fun_mk (st := s_law_shows) l17 c17 k17
  have b17 := F17.binds (ps := ["pool", "one", "two", "outputs"]) fun _ _ _ _ _ _ us hl => match us, hl with | [_, _, _, _], _ => rfl
  have m17 := PySem.W.mg_of X G a17
  have F18 := fun_mk (st := s_law_show) l18 c18 k18
  have b18 := F18.binds (ps := ["made", "p", "q"]) fun _ _ _ _ _ _ us hl => match us, hl with | [_, _, _], _ => rfl
  have m18 := PySem.W.mg_of X G a18
  have F19 := fun_mk (st := s_law_moves) l19 c19 k19
  have b19 := F19.binds (ps := ["pool", "world", "count"]) fun _ _ _ _ _ _ us hl => match us, hl with | [_, _, _], _ => rfl
  have m19 := PySem.W.mg_of X G a19
  have F20 := fun_mk (st := s_law_walked) l20 c20 k20
  have b20 := F20.binds (ps := ["after", "start"]) fun _ _ _ _ _ _ us hl => match us, hl with | [_, _], _ => rfl
  have m20 := PySem.W.mg_of X G a20
  have F21 := fun_mk (st := s_law_shifted) l21 c21 k21
  have b21 := F21.binds (ps := ["one", "two", "place", "p", "q"]) fun _ _ _ _ _ _ us hl => match us, hl with | [_, _, _, _, _], _ => rfl
  have m21 := PySem.W.mg_of X G a21
  have F22 := fun_mk (st := s_law_numbers) l22 c22 k22
  have b22 := F22.binds (ps := ["one", "two", "look", "order"]) fun _ _ _ _ _ _ us hl => match us, hl with | [_, _, _, _], _ => rfl
  have m22 := PySem.W.mg_of X G a22
  have F23 := fun_mk (st := s_law_rows) l23 c23 k23
  have b23 := F23.binds (ps := ["pool", "counts", "codes", "look", "after"]) fun _ _ _ _ _ _ us hl => match us, hl with | [_, _, _, _, _], _ => rfl
  have m23 := PySem.W.mg_of X G a23
  have F24 := fun_mk (st := s_law_world) l24 c24 k24
  have b24 := F24.binds (ps := ["pool", "at"]) fun _ _ _ _ _ _ us hl => match us, hl with | [_, _], _ => rfl
  have m24 := PySem.W.mg_of X G a24
  have F25 := fun_mk (st := s_law_kept) l25 c25 k25
  have b25 := F25.binds (ps := ["machine", "own"]) fun _ _ _ _ _ _ us hl => match us, hl with | [_, _], _ => rfl
  have m25 := PySem.W.mg_of X G a25
  have F26 := fun_mk (st := s_law_right) l26 c26 k26
  have b26 := F26.binds (ps := ["machine", "world", "states"]) fun _ _ _ _ _ _ us hl => match us, hl with | [_, _, _], _ => rfl
  have m26 := PySem.W.mg_of X G a26
  have F27 := fun_mk (st := s_law) l27 c27 k27
  have F28 := fun_mk (st := s_Machine_init) l28 c28 k28
  have b28 := F28.binds (ps := ["self", "inputs", "outputs", "state_bits", "reset", "rows"]) fun _ _ _ _ _ _ us hl => match us, hl with | [_, _, _, _, _, _], _ => rfl
  have F29 := fun_mk (st := s_Machine_has_right_rows) l29 c29 k29
  have b29 := F29.binds (ps := ["self"]) fun _ _ _ _ _ _ us hl => match us, hl with | [_], _ => rfl
  have T_Machine : MT K mg C_Machine := ⟨⟨pg_Machine, hd_Machine, po_Machine, sa_Machine⟩, n1_Machine, n2_Machine, n3_Machine, n4_Machine, n5_Machine, PySem.W.mg_of X G aC_Machine⟩
  have g_INPUT_LIMIT : ∃ t, mg "INPUT_LIMIT" = some (.int 4 t) := ⟨_, PySem.W.mg_of X G g_INPUT_LIMIT⟩
  have g_OUTPUT_LIMIT : ∃ t, mg "OUTPUT_LIMIT" = some (.int 24 t) := ⟨_, PySem.W.mg_of X G g_OUTPUT_LIMIT⟩
  have g_STATE_LIMIT : ∃ t, mg "STATE_LIMIT" = some (.int 8 t) := ⟨_, PySem.W.mg_of X G g_STATE_LIMIT⟩
  have g_JOINT_LIMIT : ∃ t, mg "JOINT_LIMIT" = some (.int 12 t) := ⟨_, PySem.W.mg_of X G g_JOINT_LIMIT⟩
  refine ⟨PySem.W.fnOf "law" "law" (defArgs s_law) (defBody s_law) (defScope s_law) .none kV27 dc27 pm27 an27 cd27 ct27, fun s v => .of_eq rfl, fun base _ _ => ?_⟩
  have D_rows_of : Fn l.prog w K mg base 1 "rows_of" ["machine", "state"] (spRowsOf C_Machine) := ⟨_, _, ok_rows_of T_Machine F1 Z, m1, k1, b1⟩
  have D_first_steps : Fn l.prog w K mg base 2 "first_steps" ["machine"] (spSteps C_Machine) := ⟨_, _, ok_first_steps T_Machine D_rows_of F2 Z, m2, k2, b2⟩
  have D_reached_states : Fn l.prog w K mg base 3 "reached_states" ["machine"] (spReached C_Machine) := ⟨_, _, ok_reached_states D_first_steps F3 Z, m3, k3, b3⟩
  have D_first_run : Fn l.prog w K mg base 3 "first_run" ["machine", "state"] (spFirst C_Machine) := ⟨_, _, ok_first_run D_first_steps F4 Z, m4, k4, b4⟩
  have D_check_counts : Fn l.prog w K mg base 1 "check_counts" ["inputs", "outputs", "state_bits"] spCounts := ⟨_, _, ok_check_counts g_INPUT_LIMIT g_OUTPUT_LIMIT g_STATE_LIMIT g_JOINT_LIMIT F5 Z, m5, k5, b5⟩
  have D_numbered : Fn l.prog w K mg base 1 "numbered" ["keys"] spNumbered := ⟨_, _, ok_numbered  F6 Z, m6, k6, b6⟩
  have D_state_classes : Fn l.prog w K mg base 4 "state_classes" ["machine"] (spClasses C_Machine) := ⟨_, _, ok_state_classes T_Machine D_reached_states D_numbered F7 Z, m7, k7, b7⟩
  have D_law_pool : Fn l.prog w K mg base 1 "_law_pool" ["script", "place"] (spPool K) := ⟨_, _, ok_law_pool  F8 Z, m8, k8, b8⟩
  have D_law_draw : Fn l.prog w K mg base 1 "_law_draw" ["pool", "many"] spDraw := ⟨_, _, ok_law_draw  F9 Z, m9, k9, b9⟩
  have D_law_pick : Fn l.prog w K mg base 2 "_law_pick" ["pool", "row"] spPick := ⟨_, _, ok_law_pick D_law_draw F10 Z, m10, k10, b10⟩
  have D_law_whole : Fn l.prog w K mg base 1 "_law_whole" ["value"] spWhole := ⟨_, _, ok_law_whole  F11 Z, m11, k11, b11⟩
  have D_law_same : Fn l.prog w K mg base 9 "_law_same" ["value", "due"] (spSame 8) := ⟨_, _, ok_law_same_all D_law_whole F12 m12 b12 Z 8, m12, k12, b12⟩
  have D_law_divisor : Fn l.prog w K mg base 2 "_law_divisor" ["pool", "length"] spDivisor := ⟨_, _, ok_law_divisor D_law_draw F13 Z, m13, k13, b13⟩
  have D_law_meets_all : Fn l.prog w K mg base 1 "_law_meets_all" ["step", "length"] spMeets := ⟨_, _, ok_law_meets_all  F14 Z, m14, k14, b14⟩
  have D_law_rings : Fn l.prog w K mg base 3 "_law_rings" ["pool", "at"] spRings := ⟨_, _, ok_law_rings D_law_draw D_law_pick D_law_divisor F15 Z, m15, k15, b15⟩
  have D_law_pattern : Fn l.prog w K mg base 3 "_law_pattern" ["pool", "length", "full"] spPattern := ⟨_, _, ok_law_pattern D_law_draw D_law_divisor F16 Z, m16, k16, b16⟩
  have D_law_shows : Fn l.prog w K mg base 4 "_law_shows" ["pool", "one", "two", "outputs"] spShows := ⟨_, _, ok_law_shows D_law_draw D_law_pattern F17 Z, m17, k17, b17⟩
  have D_law_show : Fn l.prog w K mg base 1 "_law_show" ["made", "p", "q"] spShow := ⟨_, _, ok_law_show  F18 Z, m18, k18, b18⟩
  have D_law_moves : Fn l.prog w K mg base 3 "_law_moves" ["pool", "world", "count"] spMoves := ⟨_, _, ok_law_moves D_law_draw D_law_pick D_law_meets_all F19 Z, m19, k19, b19⟩
  have D_law_walked : Fn l.prog w K mg base 1 "_law_walked" ["after", "start"] spWalked := ⟨_, _, ok_law_walked  F20 Z, m20, k20, b20⟩
  have D_law_shifted : Fn l.prog w K mg base 1 "_law_shifted" ["one", "two", "place", "p", "q"] spShifted := ⟨_, _, ok_law_shifted  F21 Z, m21, k21, b21⟩
  have D_law_numbers : Fn l.prog w K mg base 2 "_law_numbers" ["one", "two", "look", "order"] spNumbers := ⟨_, _, ok_law_numbers D_law_shifted F22 Z, m22, k22, b22⟩
  have D_law_rows : Fn l.prog w K mg base 2 "_law_rows" ["pool", "counts", "codes", "look", "after"] spRows := ⟨_, _, ok_law_rows D_law_draw F23 Z, m23, k23, b23⟩
  have D_law_world : Fn l.prog w K mg base 5 "_law_world" ["pool", "at"] spWorld := ⟨_, _, ok_law_world D_law_draw D_law_pick D_law_rings D_law_shows D_law_show D_law_moves D_law_shifted D_law_rows D_law_walked D_law_numbers F24 Z, m24, k24, b24⟩
  have D_law_kept : Fn l.prog w K mg base 10 "_law_kept" ["machine", "own"] (spKept C_Machine) := ⟨_, _, ok_law_kept T_Machine D_law_same F25 Z, m25, k25, b25⟩
  have D_law_right : Fn l.prog w K mg base 11 "_law_right" ["machine", "world", "states"] (spRightL C_Machine) := ⟨_, _, ok_law_right D_state_classes D_reached_states D_first_run D_law_same D_law_kept F26 Z, m26, k26, b26⟩
  have D_Machine_has_right_rows : Mth l.prog w K mg base 1 C_Machine "has_right_rows" ["self"] (spRightRows C_Machine) := ⟨_, _, ok_Machine_has_right_rows T_Machine F29 Z, ⟨a29, i29, k29⟩, b29⟩
  have D_Machine_init : Ini l.prog w K mg base 2 C_Machine ["self", "inputs", "outputs", "state_bits", "reset", "rows"] (spMake C_Machine) := ⟨_, _, ok_Machine_init T_Machine D_check_counts D_Machine_has_right_rows F28 Z, ⟨mk_Machine, a28, i28, kc_Machine⟩, b28⟩
  exact ok_law_law T_Machine D_Machine_init D_law_pool D_law_draw D_law_world D_law_right F27 Z
theorem walk {l : PySem.W.OpenLaw} {q : Program} {loose : List Str} {XP : (Str → Option Value) → Heap → Prop} {YP : World → Heap → Prop} {d : DefRec} {K : Params → PySem.W.Frag} (hn : l.most = some 63) (hdf : d.params.defaults = [])
    (hY : ∀ (w : World) (h : Heap), YP w h → (K w.params).In h)
    (F : ∀ (w : World) (mg : Str → Option Value) (fa : Addr) (h : Heap), (K w.params).In h → h.Ns mainGlobals mg → mg d.name = some (.ref fa) →
      ∃ fd : FuncData, (∀ (s : Shared) (u : Value), BindsTo s fd ⟨[u], []⟩ [("script", u)]) ∧ ∀ base : Heap, (K w.params).In base → base.Ns mainGlobals mg → FnOk l.prog w (K w.params) mg base CX0 12 fa fd ["script"] (spLaw (K w.params))) :
    PySem.W.WalkO q loose XP YP l.row.toRowW d [] (fun f vs => PySem.call f vs) :=
  L2.walk_of (n := 63) (k := 12) (x := "script") (CX := fun _ => CX0) (sp := fun w => spLaw (K w.params)) hn (by decide) hdf ⟨rfl, by decide, by decide⟩ hY F (fun _ _ a ns hl _ hS => ⟨a, ns, rfl, hS, fun _ _ => rfl⟩) fun _ _ _ _ _ z => z
end
end Ck
open PySem PySem.W PyProof.Rows
set_option maxRecDepth 100000 in
set_option maxHeartbeats 0 in
theorem PySem.Challenge.cw_chipmill_k13_classes_of_many_states_holds : PySem.Challenge.rw_chipmill_k13_classes_of_many_states.Holds := by
  w_on; o_law; k_head; (case hw => w_witness2)
  k_fill
  refine Ck.walk (l := PySem.Challenge.rw_chipmill_k13_classes_of_many_states) rfl rfl (fun w h Y => PySem.W.kIn_of Y) ?F
  case F =>
    intro w mg fa h KX G hmg
    refine' Ck.all_mk KX G hmg ?aC_Machine ?a1 ?l1 ?c1 ?k1 ?a2 ?l2 ?c2 ?k2 ?a3 ?l3 ?c3 ?k3 ?a4 ?l4 ?c4 ?k4 ?a5 ?l5 ?c5 ?k5 ?a6 ?l6 ?c6 ?k6 ?a7 ?l7 ?c7 ?k7 ?a8 ?l8 ?c8 ?k8 ?a9 ?l9 ?c9 ?k9 ?a10 ?l10 ?c10 ?k10 ?a11 ?l11 ?c11 ?k11 ?a12 ?l12 ?c12 ?k12 ?a13 ?l13 ?c13 ?k13 ?a14 ?l14 ?c14 ?k14 ?a15 ?l15 ?c15 ?k15 ?a16 ?l16 ?c16 ?k16 ?a17 ?l17 ?c17 ?k17 ?a18 ?l18 ?c18 ?k18 ?a19 ?l19 ?c19 ?k19 ?a20 ?l20 ?c20 ?k20 ?a21 ?l21 ?c21 ?k21 ?a22 ?l22 ?c22 ?k22 ?a23 ?l23 ?c23 ?k23 ?a24 ?l24 ?c24 ?k24 ?a25 ?l25 ?c25 ?k25 ?a26 ?l26 ?c26 ?k26 ?a27 ?l27 ?c27 ?k27 ?a28 ?i28 ?l28 ?c28 ?k28 ?a29 ?i29 ?l29 ?c29 ?k29 ?pg_Machine ?hd_Machine ?po_Machine ?sa_Machine ?mk_Machine ?kc_Machine ?n1_Machine ?n2_Machine ?n3_Machine ?n4_Machine ?n5_Machine ?g_INPUT_LIMIT ?g_OUTPUT_LIMIT ?g_STATE_LIMIT ?g_JOINT_LIMIT ?z1 ?z2 ?z3 ?z4 ?z5 ?z6 ?z7 ?z8 ?z9 ?z10 ?z11 ?z12 ?z13 ?z14 ?z15
    (case aC_Machine => k_is)
    (case a1 => k_is)
    (case l1 => k_is)
    (case c1 => k_is)
    (case k1 => k_is)
    (case a2 => k_is)
    (case l2 => k_is)
    (case c2 => k_is)
    (case k2 => k_is)
    (case a3 => k_is)
    (case l3 => k_is)
    (case c3 => k_is)
    (case k3 => k_is)
    (case a4 => k_is)
    (case l4 => k_is)
    (case c4 => k_is)
    (case k4 => k_is)
    (case a5 => k_is)
    (case l5 => k_is)
    (case c5 => k_is)
    (case k5 => k_is)
    (case a6 => k_is)
    (case l6 => k_is)
    (case c6 => k_is)
    (case k6 => k_is)
    (case a7 => k_is)
    (case l7 => k_is)
    (case c7 => k_is)
    (case k7 => k_is)
    (case a8 => k_is)
    (case l8 => k_is)
    (case c8 => k_is)
    (case k8 => k_is)
    (case a9 => k_is)
    (case l9 => k_is)
    (case c9 => k_is)
    (case k9 => k_is)
    (case a10 => k_is)
    (case l10 => k_is)
    (case c10 => k_is)
    (case k10 => k_is)
    (case a11 => k_is)
    (case l11 => k_is)
    (case c11 => k_is)
    (case k11 => k_is)
    (case a12 => k_is)
    (case l12 => k_is)
    (case c12 => k_is)
    (case k12 => k_is)
    (case a13 => k_is)
    (case l13 => k_is)
    (case c13 => k_is)
    (case k13 => k_is)
    (case a14 => k_is)
    (case l14 => k_is)
    (case c14 => k_is)
    (case k14 => k_is)
    (case a15 => k_is)
    (case l15 => k_is)
    (case c15 => k_is)
    (case k15 => k_is)
    (case a16 => k_is)
    (case l16 => k_is)
    (case c16 => k_is)
    (case k16 => k_is)
    (case a17 => k_is)
    (case l17 => k_is)
    (case c17 => k_is)
    (case k17 => k_is)
    (case a18 => k_is)
    (case l18 => k_is)
    (case c18 => k_is)
    (case k18 => k_is)
    (case a19 => k_is)
    (case l19 => k_is)
    (case c19 => k_is)
    (case k19 => k_is)
    (case a20 => k_is)
    (case l20 => k_is)
    (case c20 => k_is)
    (case k20 => k_is)
    (case a21 => k_is)
    (case l21 => k_is)
    (case c21 => k_is)
    (case k21 => k_is)
    (case a22 => k_is)
    (case l22 => k_is)
    (case c22 => k_is)
    (case k22 => k_is)
    (case a23 => k_is)
    (case l23 => k_is)
    (case c23 => k_is)
    (case k23 => k_is)
    (case a24 => k_is)
    (case l24 => k_is)
    (case c24 => k_is)
    (case k24 => k_is)
    (case a25 => k_is)
    (case l25 => k_is)
    (case c25 => k_is)
    (case k25 => k_is)
    (case a26 => k_is)
    (case l26 => k_is)
    (case c26 => k_is)
    (case k26 => k_is)
    (case a27 => k_is)
    (case l27 => k_is)
    (case c27 => k_is)
    (case k27 => k_is)
    (case a28 => k_is)
    (case i28 => k_is)
    (case l28 => k_is)
    (case c28 => k_is)
    (case k28 => k_is)
    (case a29 => k_is)
    (case i29 => k_is)
    (case l29 => k_is)
    (case c29 => k_is)
    (case k29 => k_is)
    (case pg_Machine => k_is)
    (case hd_Machine => k_is)
    (case po_Machine => k_is)
    (case sa_Machine => k_is)
    (case mk_Machine => k_is)
    (case kc_Machine => k_is)
    (case n1_Machine => k_is)
    (case n2_Machine => k_is)
    (case n3_Machine => k_is)
    (case n4_Machine => k_is)
    (case n5_Machine => k_is)
    (case g_INPUT_LIMIT => k_is)
    (case g_OUTPUT_LIMIT => k_is)
    (case g_STATE_LIMIT => k_is)
    (case g_JOINT_LIMIT => k_is)
    (case z1 => k_is)
    (case z2 => k_is)
    (case z3 => k_is)
    (case z4 => k_is)
    (case z5 => k_is)
    (case z6 => k_is)
    (case z7 => k_is)
    (case z8 => k_is)
    (case z9 => k_is)
    (case z10 => k_is)
    (case z11 => k_is)
    (case z12 => k_is)
    (case z13 => k_is)
    (case z14 => k_is)
    (case z15 => k_is)
