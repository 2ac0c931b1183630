import PyProof.Rows.All
import Wide.All
import OpenK.AllK
import Wide.FinOn
import HandS.Dict
import HandS.WordsDict
import HandS.WordsList
import HandS.ForMost
import HandS.ForExc
import HandS.Wide
import HandS.WideBits
import HandS.Defaults
import HandS.IsInst
import HandS.ExcIs
import HandS.Deep
import HandS.TupLe
import HandS.SortRule
import HandS.HotCalls
import HandS.SuiteRaise
import HandS.HeadHook4
import HandS.HeadEnd
import HandS.Head2
import HandS.Walk
import KE.DatumOrd
import PyProof.P3Eq
import PySem.Challenge.RW_midpile_k02_put_in_a_pile
set_option Elab.async false
set_option linter.all false
set_option maxRecDepth 100000
set_option maxHeartbeats 8000000
/-! The mirror of a pile, and its mathematics. -/
namespace Mp
open PySem L2

abbrev T := Int × Int
/-- an entry: where the tuple stands, what it holds -/
abbrev En := Addr × T
abbrev Kvs := List (Key × V)
abbrev Sx := List En × Kvs

def lt2 (a b : T) : Bool := if a.1 = b.1 then decide (a.2 < b.2) else decide (a.1 < b.1)
def ah (t : Bool) (a b : T) : Bool := if t then lt2 b a else lt2 a b

theorem lt2_iff (a b : T) : lt2 a b = true ↔ a.1 < b.1 ∨ (a.1 = b.1 ∧ a.2 < b.2) := by
  unfold lt2
  split
  · rw [decide_eq_true_iff]; omega
  · rw [decide_eq_true_iff]; omega
theorem lt2_no (a b : T) : lt2 a b = false ↔ b.1 < a.1 ∨ (a.1 = b.1 ∧ b.2 ≤ a.2) := by
  rw [← Bool.not_eq_true, lt2_iff]; omega
theorem lt2_irr (a : T) : lt2 a a = false := (lt2_no a a).mpr (.inr ⟨rfl, Int.le_refl _⟩)
theorem lt2_asym {a b : T} (h : lt2 a b = true) : lt2 b a = false := by rw [lt2_iff] at h; rw [lt2_no]; omega
theorem lt2_ntr {a b c : T} (h : lt2 a b = false) (g : lt2 b c = false) : lt2 a c = false := by
  rw [lt2_no] at *; omega
theorem lt2_tri {a b : T} (h : lt2 a b = false) (g : lt2 b a = false) : a = b := by
  rw [lt2_no] at *
  exact Prod.ext (by omega) (by omega)
theorem ah_irr (t : Bool) (a : T) : ah t a a = false := by cases t <;> exact lt2_irr a
theorem ah_asym {t : Bool} {a b : T} (h : ah t a b = true) : ah t b a = false := by cases t <;> exact lt2_asym h
theorem ah_ntr {t : Bool} {a b c : T} (h : ah t a b = false) (g : ah t b c = false) : ah t a c = false := by
  cases t
  · exact lt2_ntr (a := a) (b := b) (c := c) h g
  · exact lt2_ntr (a := c) (b := b) (c := a) g h
theorem ah_tri {t : Bool} {a b : T} (h : ah t a b = false) (g : ah t b a = false) : a = b := by
  cases t
  · exact lt2_tri h g
  · exact lt2_tri g h

/-! ### lists by place -/
theorem gs {α : Type} {l : List α} {i j : Nat} {a : α} (h : i < l.length) : (l.set i a)[j]? = if j = i then some a else l[j]? := by
  rw [List.getElem?_set]
  by_cases e : i = j
  · subst e; simp [h]
  · rw [if_neg e, if_neg (Ne.symm e)]
theorem lt_of_get {α : Type} {l : List α} {i : Nat} {a : α} (h : l[i]? = some a) : i < l.length := (List.getElem?_eq_some_iff.mp h).1
theorem get_of_lt {α : Type} {l : List α} {i : Nat} (h : i < l.length) : ∃ a, l[i]? = some a := ⟨l[i], List.getElem?_eq_getElem h⟩
theorem mem_iff_get {α : Type} {l : List α} {a : α} : a ∈ l ↔ ∃ i : Nat, l[i]? = some a := List.mem_iff_getElem?
/-- two places swapped -/
theorem swap_perm {α : Type} {l : List α} {k q : Nat} {x y : α} (hk : k < l.length) (hq : l[q]? = some y) (ne : q ≠ k) : ((l.set k y).set q x).Perm (l.set k x) := by
  have h2 : q < (l.set k x).length := by rw [List.length_set]; exact lt_of_get hq
  have h3 : q < l.length := lt_of_get hq
  have e1 : (l.set k y).set q x = ((l.set k x).set k y).set q x := by rw [List.set_set]
  have e2 : (l.set k x)[k]'(by rw [List.length_set]; exact hk) = x := by simp
  have e3 : (l.set k x)[q]'h2 = y := by
    rw [List.getElem_set_ne (Ne.symm ne)]
    exact (List.getElem?_eq_some_iff.mp hq).2
  rw [e1]
  have p := List.set_set_perm (as := l.set k x) (i := k) (j := q) (by rw [List.length_set]; exact hk) h2
  rw [e2, e3] at p
  exact p

/-! ### the dict's keys -/
theorem mem_putK {kvs : Kvs} {k j : Key} {v : V} : j ∈ (putK kvs k v).map (·.1) ↔ j = k ∨ j ∈ kvs.map (·.1) := by
  unfold putK
  split
  · rename_i h
    have e : (kvs.map fun kv => if kv.1 = k then (kv.1, v) else kv).map (·.1) = kvs.map (·.1) := by
      rw [List.map_map]
      refine List.map_congr_left fun p _ => ?_
      show (if p.1 = k then (p.1, v) else p).1 = p.1
      split <;> rfl
    rw [e]
    refine ⟨.inr, fun h2 => h2.elim (fun z => ?_) id⟩
    subst z
    obtain ⟨p, hp, q⟩ := List.any_eq_true.mp h
    exact List.mem_map.mpr ⟨p, hp, of_decide_eq_true q⟩
  · rw [List.map_append, List.mem_append]
    simp only [List.map_cons, List.map_nil, List.mem_singleton]
    exact ⟨fun z => z.elim .inr .inl, fun z => z.elim .inr .inl⟩
theorem nd_put {kvs : Kvs} {k : Key} {v : V} (h : (kvs.map (·.1)).Nodup) : ((putK kvs k v).map (·.1)).Nodup := by
  unfold putK
  split
  · have e : (kvs.map fun kv => if kv.1 = k then (kv.1, v) else kv).map (·.1) = kvs.map (·.1) := by
      rw [List.map_map]
      refine List.map_congr_left fun p _ => ?_
      show (if p.1 = k then (p.1, v) else p).1 = p.1
      split <;> rfl
    rw [e]; exact h
  · rename_i h2
    rw [List.map_append]
    refine nd_snoc h fun m => h2 ?_
    obtain ⟨p, hp, q⟩ := List.mem_map.mp m
    exact List.any_eq_true.mpr ⟨p, hp, decide_eq_true q⟩
theorem len_putK (kvs : Kvs) (k : Key) (v : V) : (putK kvs k v).length ≤ kvs.length + 1 := by
  unfold putK
  split
  · rw [List.length_map]; omega
  · rw [List.length_append]; simp
theorem valV_iff {kvs : Kvs} {k : Key} : (∃ v, valV kvs k = some v) ↔ k ∈ kvs.map (·.1) := by
  constructor
  · rintro ⟨v, h⟩; exact valV_in h
  · intro h
    cases e : valV kvs k with
    | some v => exact ⟨v, rfl⟩
    | none => exact absurd h (valV_not e)
theorem valV_none_iff {kvs : Kvs} {k : Key} : valV kvs k = none ↔ k ∉ kvs.map (·.1) := by
  rw [← valV_iff]
  cases valV kvs k with
  | none => simp
  | some v => simp
theorem valV_drop (kvs : Kvs) (k j : Key) : valV (dropK kvs k) j = if j = k then none else valV kvs j := by
  induction kvs with
  | nil => simp [dropK, valV]
  | cons p r ih =>
    by_cases e : p.1 = k
    · rw [dropK_pos e, ih]
      by_cases z : j = k
      · rw [if_pos z, if_pos z]
      · rw [if_neg z, if_neg z, valV_neg (fun q => z (q.symm.trans e))]
    · rw [dropK_neg e]
      by_cases z : p.1 = j
      · rw [valV_pos z, valV_pos z, if_neg fun q => e (z.trans q)]
      · rw [valV_neg z, valV_neg z, ih]
theorem mem_dropK {kvs : Kvs} {k j : Key} : j ∈ (dropK kvs k).map (·.1) ↔ j ≠ k ∧ j ∈ kvs.map (·.1) := by
  rw [← valV_iff, valV_drop]
  by_cases e : j = k
  · rw [if_pos e]; simp [e]
  · rw [if_neg e, valV_iff]; simp [e]

/-! ### where agrees with things -/
structure Wf (es : List En) (kvs : Kvs) : Prop where
  nd : (es.map (·.2.2)).Nodup
  kn : (kvs.map (·.1)).Nodup
  ix : ∀ (i : Nat) (e : En), es[i]? = some e → valV kvs (Sum.inl e.2.2) = some (V.int i)
  ky : ∀ key ∈ kvs.map (·.1), ∃ e ∈ es, key = (Sum.inl e.2.2 : Key)
/-- .. but for the place k, where x is due -/
structure WfH (es : List En) (kvs : Kvs) (k : Nat) (x : En) : Prop where
  lt : k < es.length
  nd : ((es.set k x).map (·.2.2)).Nodup
  kn : (kvs.map (·.1)).Nodup
  ix : ∀ (i : Nat) (e : En), i ≠ k → es[i]? = some e → valV kvs (Sum.inl e.2.2) = some (V.int i)
  ky : ∀ key ∈ kvs.map (·.1), ∃ e ∈ es.set k x, key = (Sum.inl e.2.2 : Key)

theorem nd_ne {es : List En} (h : (es.map (·.2.2)).Nodup) {i j : Nat} {a b : En} (ha : es[i]? = some a) (hb : es[j]? = some b) (ne : i ≠ j) : a.2.2 ≠ b.2.2 := fun e =>
  ne (nd_ix h (x := a.2.2) (by rw [List.getElem?_map, ha]; rfl) (by rw [List.getElem?_map, hb, e]; rfl))
theorem nd_map : ∀ {l : List Int}, l.Nodup → (l.map (Sum.inl : Int → Key)).Nodup
  | [], _ => List.nodup_nil
  | a :: r, h => by
    obtain ⟨h1, h2⟩ := List.nodup_cons.mp h
    rw [List.map_cons]
    refine List.nodup_cons.mpr ⟨fun m => ?_, nd_map h2⟩
    obtain ⟨z, hz, q⟩ := List.mem_map.mp m
    exact h1 (Sum.inl.inj q ▸ hz)
theorem Wf.len {es : List En} {kvs : Kvs} (w : Wf es kvs) : kvs.length = es.length := by
  have p : (kvs.map (·.1)).Perm (es.map fun e => (Sum.inl e.2.2 : Key)) := by
    refine (List.perm_ext_iff_of_nodup w.kn ?_).mpr fun key => ⟨fun m => ?_, fun m => ?_⟩
    · have e : (es.map fun e => (Sum.inl e.2.2 : Key)) = (es.map (·.2.2)).map Sum.inl := by rw [List.map_map]; rfl
      rw [e]
      exact nd_map w.nd
    · obtain ⟨e, he, q⟩ := w.ky key m
      exact List.mem_map.mpr ⟨e, he, q.symm⟩
    · obtain ⟨e, he, q⟩ := List.mem_map.mp m
      obtain ⟨i, hi⟩ := mem_iff_get.mp he
      rw [← q]
      exact valV_in (w.ix i e hi)
  have := p.length_eq
  simpa using this
theorem Wf.find {es : List En} {kvs : Kvs} (w : Wf es kvs) {c : Int} {v : V} (h : valV kvs (Sum.inl c) = some v) : ∃ (i : Nat) (e : En), es[i]? = some e ∧ e.2.2 = c ∧ v = V.int i := by
  obtain ⟨e, he, q⟩ := w.ky _ (valV_in h)
  obtain ⟨i, hi⟩ := mem_iff_get.mp he
  have q := Sum.inl.inj q
  have z := w.ix i e hi
  rw [← q, h] at z
  exact ⟨i, e, hi, q.symm, Option.some.inj z⟩
theorem Wf.none {es : List En} {kvs : Kvs} (w : Wf es kvs) {c : Int} : valV kvs (Sum.inl c) = none ↔ ∀ e ∈ es, e.2.2 ≠ c := by
  rw [valV_none_iff]
  constructor
  · intro h e he z
    obtain ⟨i, hi⟩ := mem_iff_get.mp he
    exact h (z ▸ valV_in (w.ix i e hi))
  · intro h m
    obtain ⟨e, he, q⟩ := w.ky _ m
    exact h e he (Sum.inl.inj q).symm
/-- the hole moves from k to q -/
theorem WfH.move {es : List En} {kvs : Kvs} {k q : Nat} {x y : En} (w : WfH es kvs k x) (hq : es[q]? = some y) (ne : q ≠ k) : WfH (es.set k y) (putK kvs (Sum.inl y.2.2) (V.int k)) q x := by
  have p := swap_perm (x := x) w.lt hq ne
  have hlt := lt_of_get hq
  have dy : ∀ (i : Nat) (e : En), i ≠ k → i ≠ q → es[i]? = some e → e.2.2 ≠ y.2.2 := fun i e h1 h2 he =>
    nd_ne w.nd (i := i) (j := q) (by rw [gs w.lt, if_neg h1]; exact he) (by rw [gs w.lt, if_neg ne]; exact hq) h2
  refine ⟨by rw [List.length_set]; exact hlt, (p.map _).nodup_iff.mpr w.nd, nd_put w.kn, fun i e hi he => ?_, fun key m => ?_⟩
  · rw [gs w.lt] at he
    rw [valV_put]
    by_cases z : i = k
    · rw [if_pos z] at he
      cases he
      rw [if_pos rfl, z]
    · rw [if_neg z] at he
      rw [if_neg (fun h => dy i e z hi he (Sum.inl.inj h))]
      exact w.ix i e z he
  · rcases mem_putK.mp m with z | z
    · refine ⟨y, p.mem_iff.mpr ?_, z⟩
      exact mem_iff_get.mpr ⟨q, by rw [gs w.lt, if_neg ne]; exact hq⟩
    · obtain ⟨e, he, h⟩ := w.ky key z
      exact ⟨e, p.mem_iff.mpr he, h⟩
/-- x is laid -/
theorem WfH.lay {es : List En} {kvs : Kvs} {k : Nat} {x : En} (w : WfH es kvs k x) : Wf (es.set k x) (putK kvs (Sum.inl x.2.2) (V.int k)) := by
  refine ⟨w.nd, nd_put w.kn, fun i e he => ?_, fun key m => ?_⟩
  · rw [valV_put]
    have he' := he
    rw [gs w.lt] at he
    by_cases z : i = k
    · rw [if_pos z] at he
      cases he
      rw [if_pos rfl, z]
    · rw [if_neg z] at he
      rw [if_neg (fun h => nd_ne w.nd he' (j := k) (b := x) (by rw [gs w.lt, if_pos rfl]) z (Sum.inl.inj h))]
      exact w.ix i e z he
  · rcases mem_putK.mp m with z | z
    · exact ⟨x, mem_iff_get.mpr ⟨k, by rw [gs w.lt, if_pos rfl]⟩, z⟩
    · exact w.ky key z
/-- every place may be looked at as a hole for what stands there -/
theorem Wf.hole {es : List En} {kvs : Kvs} {k : Nat} {x : En} (w : Wf es kvs) (h : es[k]? = some x) : WfH es kvs k x := by
  have e : es.set k x = es := by
    refine List.ext_getElem? fun j => ?_
    rw [gs (lt_of_get h)]
    by_cases z : j = k
    · rw [if_pos z, z, h]
    · rw [if_neg z]
  exact ⟨lt_of_get h, by rw [e]; exact w.nd, w.kn, fun i e _ he => w.ix i e he, fun key m => by rw [e]; exact w.ky key m⟩

/-! ### the form -/
def Form (t : Bool) (es : List En) : Prop := ∀ (j : Nat) (a b : En), 1 ≤ j → es[j]? = some a → es[(j - 1) / 2]? = some b → ah t a.2 b.2 = false
/-- but for the edges at k -/
def FormX (t : Bool) (es : List En) (k : Nat) : Prop := ∀ (j : Nat) (a b : En), 1 ≤ j → j ≠ k → (j - 1) / 2 ≠ k → es[j]? = some a → es[(j - 1) / 2]? = some b → ah t a.2 b.2 = false
/-- the things below k aren't ahead of the one above k -/
def FormG (t : Bool) (es : List En) (k : Nat) : Prop := ∀ (j : Nat) (a b : En), 1 ≤ k → 1 ≤ j → (j - 1) / 2 = k → es[j]? = some a → es[(k - 1) / 2]? = some b → ah t a.2 b.2 = false
/-- the things below k aren't ahead of it -/
def FormD (t : Bool) (es : List En) (k : Nat) : Prop := ∀ (j : Nat) (a b : En), 1 ≤ j → (j - 1) / 2 = k → es[j]? = some a → es[k]? = some b → ah t a.2 b.2 = false
/-- the thing at k isn't ahead of the one above it -/
def FormU (t : Bool) (es : List En) (k : Nat) : Prop := ∀ (a b : En), 1 ≤ k → es[k]? = some a → es[(k - 1) / 2]? = some b → ah t a.2 b.2 = false
theorem form_of {t : Bool} {es : List En} {k : Nat} (hx : FormX t es k) (hd : FormD t es k) (hu : FormU t es k) : Form t es := fun j a b h1 ha hb => by
  by_cases e : j = k
  · subst e; exact hu a b h1 ha hb
  · by_cases e2 : (j - 1) / 2 = k
    · exact hd j a b h1 e2 ha (by rw [e2] at hb; exact hb)
    · exact hx j a b h1 e e2 ha hb
theorem Form.x {t : Bool} {es : List En} (f : Form t es) (k : Nat) : FormX t es k := fun j a b h1 _ _ ha hb => f j a b h1 ha hb
/-- a thing laid at k, in place of another: what is left of the form -/
theorem Form.lay {t : Bool} {es : List En} (f : Form t es) {k : Nat} {x : En} (hk : k < es.length) : FormX t (es.set k x) k ∧ FormG t (es.set k x) k := by
  constructor
  · intro j a b h1 h2 h3 ha hb
    rw [gs hk, if_neg h2] at ha
    rw [gs hk, if_neg h3] at hb
    exact f j a b h1 ha hb
  · intro j a b h1 h2 h3 ha hb
    rw [gs hk, if_neg (by omega)] at ha
    rw [gs hk, if_neg (by omega)] at hb
    obtain ⟨c, hc⟩ := get_of_lt hk
    exact ah_ntr (f j a c h2 ha (by rw [h3]; exact hc)) (f k c b h1 hc hb)
theorem form_nil (t : Bool) : Form t [] := fun j a b _ ha _ => by simp at ha
/-- the first is ahead of all -/
theorem Form.top {t : Bool} {es : List En} (f : Form t es) {x : En} (hx : es[0]? = some x) : ∀ (j : Nat) (a : En), es[j]? = some a → ah t a.2 x.2 = false := by
  intro j
  induction j using Nat.strongRecOn with
  | ind j ih =>
    intro a ha
    by_cases e : j = 0
    · subst e
      rw [hx] at ha; cases ha
      exact ah_irr t _
    · obtain ⟨b, hb⟩ := get_of_lt (l := es) (i := (j - 1) / 2) (by have := lt_of_get ha; omega)
      exact ah_ntr (f j a b (by omega) ha hb) (ih ((j - 1) / 2) (by omega) b hb)

/-! ### changed places -/
/-- outside the places P nothing has changed -/
def Out (o es : List En) (P : List Nat) : Prop := ∀ (i : Nat) (a b : En), i ∉ P → o[i]? = some a → es[i]? = some b → a.2 = b.2
/-- how many places hold another thing -/
def df (a b : List En) : Nat := (a.zip b).countP fun p => decide (p.1.2 ≠ p.2.2)
theorem df_self (a : List En) : df a a = 0 := by
  induction a with
  | nil => rfl
  | cons x r ih => simp [df, List.zip_cons_cons, List.countP_cons] at *; exact ih
theorem df_cons (x y : En) (a b : List En) : df (x :: a) (y :: b) = df a b + (if x.2 = y.2 then 0 else 1) := by
  unfold df
  rw [List.zip_cons_cons, List.countP_cons]
  by_cases e : x.2 = y.2 <;> simp [e]
theorem count_lt_mem (P : List Nat) : ∀ n, (List.range n).countP (fun i => decide (i ∈ P)) ≤ P.length := by
  induction P with
  | nil => intro n; simp
  | cons p r ih =>
    intro n
    have h1 : ∀ n, (List.range n).countP (fun i => decide (i ∈ p :: r)) ≤ (List.range n).countP (fun i => decide (i ∈ r)) + (if p < n then 1 else 0) := by
      intro n
      induction n with
      | zero => simp
      | succ n ihn =>
        rw [List.range_succ, List.countP_append, List.countP_append]
        simp only [List.countP_cons, List.countP_nil, Nat.zero_add, List.mem_cons, decide_eq_true_eq]
        by_cases e : n = p
        · subst e
          rw [if_pos (Or.inl rfl), if_pos (Nat.lt_succ_self _)]
          rw [if_neg (Nat.lt_irrefl _)] at ihn
          simp only [List.mem_cons, Nat.add_zero] at ihn
          omega
        · by_cases m : n ∈ r
          · rw [if_pos (Or.inr m), if_pos m]
            by_cases z : p < n
            · rw [if_pos z] at ihn; rw [if_pos (by omega)]; simp only [List.mem_cons] at ihn; omega
            · rw [if_neg z] at ihn; simp only [List.mem_cons] at ihn; omega
          · rw [if_neg (by simp [e, m]), if_neg m]
            by_cases z : p < n
            · rw [if_pos z] at ihn; rw [if_pos (by omega)]; simp only [List.mem_cons] at ihn; omega
            · rw [if_neg z] at ihn; simp only [List.mem_cons] at ihn; omega
    have h2 := h1 n
    have h3 := ih n
    rw [List.length_cons]
    split at h2 <;> omega
theorem df_range : ∀ (a b : List En), df a b = (List.range (min a.length b.length)).countP fun i => decide ((a.getD i default).2 ≠ (b.getD i default).2)
  | [], b => by simp [df]
  | _ :: _, [] => by simp [df]
  | x :: a, y :: b => by
    rw [df_cons, df_range a b]
    have e : min (x :: a).length (y :: b).length = min a.length b.length + 1 := by simp [Nat.succ_min_succ]
    rw [e, List.range_succ_eq_map, List.countP_cons, List.countP_map]
    congr 1
    by_cases z : x.2 = y.2 <;> simp [z]
theorem df_le {o es : List En} {P : List Nat} (h : Out o es P) : df o es ≤ P.length := by
  rw [df_range]
  refine Nat.le_trans (List.countP_mono_left fun i hi hq => ?_) (count_lt_mem P (min o.length es.length))
  refine decide_eq_true (Classical.byContradiction fun hn => ?_)
  have hi := List.mem_range.mp hi
  obtain ⟨a, ha⟩ := get_of_lt (l := o) (i := i) (by omega)
  obtain ⟨b, hb⟩ := get_of_lt (l := es) (i := i) (by omega)
  have q := of_decide_eq_true hq
  rw [List.getD_eq_getElem?_getD, List.getD_eq_getElem?_getD, ha, hb] at q
  exact q (h i a b hn ha hb)

/-! ### figures in twos -/
def bl (n : Nat) : Nat := if n = 0 then 0 else Nat.log2 n + 1
theorem bl_mono {n m : Nat} (h : n ≤ m) : bl n ≤ bl m := by
  unfold bl
  by_cases e : n = 0
  · rw [if_pos e]; omega
  · rw [if_neg e, if_neg (by omega)]
    have : n.log2 ≤ m.log2 := (Nat.le_log2 (by omega)).mpr (Nat.le_trans (Nat.log2_self_le e) h)
    omega
theorem log2_half {k : Nat} (h : 1 ≤ k) : ((k - 1) / 2 + 1).log2 + 1 = (k + 1).log2 := by
  have e : (k - 1) / 2 + 1 = (k + 1) / 2 := by omega
  rw [e]
  conv => rhs; rw [Nat.log2_def]
  rw [if_pos (by omega)]
theorem log2_lt_bl {k n : Nat} (h : k < n) : (k + 1).log2 + 1 ≤ bl n := by
  have := bl_mono (n := k + 1) (m := n) h
  unfold bl at this ⊢
  rw [if_neg (by omega)] at this
  exact this
end Mp

/-! The mirror of a pile's deeds, and what it does. -/
namespace Mp
open PySem L2
def gE (l : List En) (i : Nat) : En := l.getD i (0, 0, 0)
theorem gE_some {l : List En} {i : Nat} (h : i < l.length) : l[i]? = some (gE l i) := by
  unfold gE
  rw [List.getD_eq_getElem?_getD, List.getElem?_eq_getElem h]
  rfl
theorem gE_of {l : List En} {i : Nat} {e : En} (h : l[i]? = some e) : gE l i = e := by
  unfold gE
  rw [List.getD_eq_getElem?_getD, h]
  rfl
theorem gE_mem {l : List En} {i : Nat} (h : i < l.length) : gE l i ∈ l := mem_iff_get.mpr ⟨i, gE_some h⟩
def layM (s : Sx) (k : Nat) (e : En) : Sx := (s.1.set k e, putK s.2 (Sum.inl e.2.2) (V.int k))
theorem layM_len (s : Sx) (k : Nat) (e : En) : (layM s k e).1.length = s.1.length := List.length_set
theorem layM_kv (s : Sx) (k : Nat) (e : En) : (layM s k e).2.length ≤ s.2.length + 1 := len_putK _ _ _
/-- the thing x rises from the place k: the state, the last place -/
def riseM (t : Bool) (x : En) (s : Sx) (k : Nat) : Sx × Nat :=
  if h : 0 < k ∧ ah t x.2 (gE s.1 ((k - 1) / 2)).2 = true then riseM t x (layM s k (gE s.1 ((k - 1) / 2))) ((k - 1) / 2) else (layM s k x, k)
termination_by k
decreasing_by omega
def pick (t : Bool) (l : List En) (k : Nat) : Nat := if 2 * k + 1 + 1 < l.length ∧ ah t (gE l (2 * k + 1 + 1)).2 (gE l (2 * k + 1)).2 = true then 2 * k + 1 + 1 else 2 * k + 1
theorem pick_lt {t : Bool} {l : List En} {k : Nat} (h : 2 * k + 1 < l.length) : pick t l k < l.length := by
  unfold pick
  split
  · rename_i c; exact c.1
  · exact h
theorem pick_gt (t : Bool) (l : List En) (k : Nat) : k < pick t l k ∧ (pick t l k - 1) / 2 = k ∧ 1 ≤ pick t l k := by
  unfold pick
  split <;> omega
/-- the thing x sinks from the place k -/
def sinkM (t : Bool) (x : En) (s : Sx) (k : Nat) : Sx :=
  if h : 2 * k + 1 < s.1.length ∧ ah t (gE s.1 (pick t s.1 k)).2 x.2 = true then sinkM t x (layM s k (gE s.1 (pick t s.1 k))) (pick t s.1 k) else layM s k x
termination_by s.1.length - k
decreasing_by
  have h1 := pick_lt (t := t) h.1
  have h2 := (pick_gt t s.1 k).1
  rw [layM_len]
  omega

/-! ### what a hole keeps -/
/-- the state with a hole at k for x; o: the list ahead of the deed; P: the places that may have changed -/
structure HoleU (t : Bool) (o : List En) (P : List Nat) (D : Nat) (b : List En) (s : Sx) (k : Nat) (x : En) : Prop where
  wf : WfH s.1 s.2 k x
  pm : (s.1.set k x).Perm b
  out : Out o (s.1.set k x) P
  cnt : P.length + (k + 1).log2 ≤ D
  inP : ∀ j, k = j → j ∈ P ∨ o.length ≤ j
  fx : FormX t (s.1.set k x) k
  fg : FormG t (s.1.set k x) k
theorem hole_get {es : List En} {k : Nat} {x : En} (h : k < es.length) (j : Nat) : (es.set k x)[j]? = if j = k then some x else es[j]? := gs h
theorem swap_get {es : List En} {k q : Nat} {x y : En} (hk : k < es.length) (hq : q < es.length) (j : Nat) : ((es.set k y).set q x)[j]? = if j = q then some x else if j = k then some y else es[j]? := by
  rw [gs (by rw [List.length_set]; exact hq), gs hk]
/-- one step up -/
theorem HoleU.up {t : Bool} {o b : List En} {P : List Nat} {D : Nat} {s : Sx} {k : Nat} {x : En} (h : HoleU t o P D b s k x) (k0 : 0 < k) (ha : ah t x.2 (gE s.1 ((k - 1) / 2)).2 = true) :
    HoleU t o ((k - 1) / 2 :: P) D b (layM s k (gE s.1 ((k - 1) / 2))) ((k - 1) / 2) x ∧ FormD t ((layM s k (gE s.1 ((k - 1) / 2))).1.set ((k - 1) / 2) x) ((k - 1) / 2) := by
  obtain ⟨wf, pm, out, cnt, inP, fx, fg⟩ := h
  have hk := wf.lt
  have hq : (k - 1) / 2 < s.1.length := by omega
  have hy := gE_some hq
  revert ha hy
  generalize gE s.1 ((k - 1) / 2) = y
  intro ha hy
  have ne : (k - 1) / 2 ≠ k := by omega
  have w2 := wf.move hy ne
  have p2 := (swap_perm (x := x) hk hy ne).trans pm
  have hk0 := hole_get (x := x) hk
  have hs0 := swap_get (x := x) (y := y) hk hq
  refine ⟨⟨w2, p2, ?_, ?_, ?_, ?_, ?_⟩, ?_⟩
  · intro i a c hi hoa hc
    have i1 : i ≠ (k - 1) / 2 := fun z => hi (z ▸ List.mem_cons_self)
    have i2 : i ∉ P := fun z => hi (List.mem_cons_of_mem _ z)
    have i3 : i ≠ k := fun z => by
      rcases inP i z.symm with z2 | z2
      · exact i2 z2
      · have := lt_of_get hoa; omega
    show a.2 = c.2
    have hc2 : ((s.1.set k y).set ((k - 1) / 2) x)[i]? = some c := hc
    rw [hs0, if_neg i1, if_neg i3] at hc2
    exact out i a c i2 hoa (by rw [hk0, if_neg i3]; exact hc2)
  · have := log2_half (k := k) (by omega)
    rw [List.length_cons]
    omega
  · intro j e; exact .inl (e ▸ List.mem_cons_self)
  · intro j a c h1 h2 h3 haj hc
    have haj : ((s.1.set k y).set ((k - 1) / 2) x)[j]? = some a := haj
    have hc : ((s.1.set k y).set ((k - 1) / 2) x)[(j - 1) / 2]? = some c := hc
    rw [hs0, if_neg h2] at haj
    rw [hs0, if_neg h3] at hc
    by_cases e1 : j = k
    · subst e1; exact absurd rfl h3
    · rw [if_neg e1] at haj
      by_cases e2 : (j - 1) / 2 = k
      · rw [if_pos e2] at hc
        cases hc
        exact fg j a y (by omega) h1 e2 (by rw [hk0, if_neg e1]; exact haj) (by rw [hk0, if_neg ne]; exact hy)
      · rw [if_neg e2] at hc
        exact fx j a c h1 e1 e2 (by rw [hk0, if_neg e1]; exact haj) (by rw [hk0, if_neg e2]; exact hc)
  · intro j a c h1 h2 h3 haj hc
    have haj : ((s.1.set k y).set ((k - 1) / 2) x)[j]? = some a := haj
    have hc : ((s.1.set k y).set ((k - 1) / 2) x)[((k - 1) / 2 - 1) / 2]? = some c := hc
    rw [hs0, if_neg (by omega)] at haj
    rw [hs0, if_neg (by omega), if_neg (by omega)] at hc
    have qp : ah t y.2 c.2 = false := fx ((k - 1) / 2) y c h1 ne (by omega) (by rw [hk0, if_neg ne]; exact hy) (by rw [hk0, if_neg (by omega)]; exact hc)
    by_cases e1 : j = k
    · rw [if_pos e1] at haj
      cases haj
      exact qp
    · rw [if_neg e1] at haj
      exact ah_ntr (fx j a y h2 e1 (by omega) (by rw [hk0, if_neg e1]; exact haj) (by rw [h3, hk0, if_neg ne]; exact hy)) qp
  · intro j a c h1 h2 haj hc
    have haj : ((s.1.set k y).set ((k - 1) / 2) x)[j]? = some a := haj
    have hc : ((s.1.set k y).set ((k - 1) / 2) x)[(k - 1) / 2]? = some c := hc
    rw [hs0, if_pos rfl] at hc
    cases hc
    rw [hs0, if_neg (by omega)] at haj
    by_cases e1 : j = k
    · rw [if_pos e1] at haj
      cases haj
      exact ah_asym ha
    · rw [if_neg e1] at haj
      exact ah_ntr (fx j a y h1 e1 (by omega) (by rw [hk0, if_neg e1]; exact haj) (by rw [h2, hk0, if_neg ne]; exact hy)) (ah_asym ha)
/-- what rise leaves -/
structure RiseR (t : Bool) (o b : List En) (D : Nat) (r : Sx × Nat) (x : En) (k0 : Nat) : Prop where
  wf : Wf r.1.1 r.1.2
  pm : r.1.1.Perm b
  at_ : r.1.1[r.2]? = some x
  fx : FormX t r.1.1 r.2
  fg : FormG t r.1.1 r.2
  fu : FormU t r.1.1 r.2
  ch : ∃ P, Out o r.1.1 P ∧ P.length + (r.2 + 1).log2 ≤ D ∧ (r.2 ∈ P ∨ o.length ≤ r.2)
  mv : r.2 = k0 ∨ FormD t r.1.1 r.2
  le : r.2 ≤ k0
theorem riseM_ok (t : Bool) (x : En) (o b : List En) (D : Nat) (k0 : Nat) : ∀ (k : Nat) (s : Sx) (P : List Nat), HoleU t o P D b s k x → k ≤ k0 → (k = k0 ∨ FormD t (s.1.set k x) k) → RiseR t o b D (riseM t x s k) x k0 := by
  intro k
  induction k using Nat.strongRecOn with
  | ind k ih =>
    intro s P h hle hm
    rw [riseM]
    by_cases c : 0 < k ∧ ah t x.2 (gE s.1 ((k - 1) / 2)).2 = true
    · rw [dif_pos c]
      obtain ⟨h2, h3⟩ := h.up c.1 c.2
      exact ih ((k - 1) / 2) (by omega) _ _ h2 (by omega) (.inr h3)
    · rw [dif_neg c]
      have hk := h.wf.lt
      refine ⟨h.wf.lay, h.pm, ?_, h.fx, h.fg, ?_, ⟨P, h.out, h.cnt, h.inP k rfl⟩, hm, hle⟩
      · show (s.1.set k x)[k]? = some x
        rw [gs hk, if_pos rfl]
      · intro a c2 h1 haj hc
        have haj : (s.1.set k x)[k]? = some a := haj
        have hc : (s.1.set k x)[(k - 1) / 2]? = some c2 := hc
        rw [gs hk, if_pos rfl] at haj
        cases haj
        rw [gs hk, if_neg (by omega)] at hc
        have e := gE_of hc
        cases q : ah t x.2 c2.2 with
        | false => rfl
        | true => exact absurd ⟨by omega, by rw [e]; exact q⟩ c
theorem riseM_len (t : Bool) (x : En) : ∀ (k : Nat) (s : Sx), (riseM t x s k).1.1.length = s.1.length ∧ (riseM t x s k).2 ≤ k ∧ (riseM t x s k).1.2.length ≤ s.2.length + k + 1 ∧
    valV (riseM t x s k).1.2 (Sum.inl x.2.2) = some (V.int (riseM t x s k).2) := by
  intro k
  induction k using Nat.strongRecOn with
  | ind k ih =>
    intro s
    rw [riseM]
    by_cases c : 0 < k ∧ ah t x.2 (gE s.1 ((k - 1) / 2)).2 = true
    · rw [dif_pos c]
      obtain ⟨h1, h2, h3, h4⟩ := ih ((k - 1) / 2) (by omega) (layM s k (gE s.1 ((k - 1) / 2)))
      have := layM_kv s k (gE s.1 ((k - 1) / 2))
      exact ⟨h1.trans (layM_len _ _ _), by omega, by omega, h4⟩
    · rw [dif_neg c]
      refine ⟨layM_len _ _ _, Nat.le_refl _, by have := layM_kv s k x; show (layM s k x).2.length ≤ _; omega, ?_⟩
      show valV (putK s.2 (Sum.inl x.2.2) (V.int k)) (Sum.inl x.2.2) = _
      rw [valV_put, if_pos rfl]
/-- with no step up -/
theorem riseM_stay {t : Bool} {x : En} {s : Sx} {k : Nat} (h : (riseM t x s k).2 = k) : (riseM t x s k).1 = layM s k x := by
  rw [riseM] at h ⊢
  by_cases c : 0 < k ∧ ah t x.2 (gE s.1 ((k - 1) / 2)).2 = true
  · rw [dif_pos c] at h
    have := (riseM_len t x ((k - 1) / 2) (layM s k (gE s.1 ((k - 1) / 2)))).2.1
    omega
  · rw [dif_neg c]

/-! ### down -/
structure HoleD (t : Bool) (o : List En) (P : List Nat) (k0 : Nat) (b : List En) (s : Sx) (k : Nat) (x : En) : Prop where
  wf : WfH s.1 s.2 k x
  pm : (s.1.set k x).Perm b
  out : Out o (s.1.set k x) P
  cnt : P.length ≤ (k + 1).log2 + 1 + k0
  inP : k ∈ P
  fx : FormX t (s.1.set k x) k
  fg : FormG t (s.1.set k x) k
  fu : FormU t (s.1.set k x) k
theorem HoleD.down {t : Bool} {o b : List En} {P : List Nat} {k0 : Nat} {s : Sx} {k : Nat} {x : En} (h : HoleD t o P k0 b s k x) (hc0 : 2 * k + 1 < s.1.length) (ha : ah t (gE s.1 (pick t s.1 k)).2 x.2 = true) :
    HoleD t o (pick t s.1 k :: P) k0 b (layM s k (gE s.1 (pick t s.1 k))) (pick t s.1 k) x := by
  obtain ⟨wf, pm, out, cnt, inP, fx, fg, fu⟩ := h
  have hk := wf.lt
  have hq := pick_lt (t := t) hc0
  obtain ⟨g1, g2, g3⟩ := pick_gt t s.1 k
  have hy := gE_some hq
  have best : ∀ (j : Nat) (a : En), 1 ≤ j → (j - 1) / 2 = k → s.1[j]? = some a → ah t a.2 (gE s.1 (pick t s.1 k)).2 = false := by
    intro j a h1 h2 haj
    have ej : j = 2 * k + 1 ∨ j = 2 * k + 1 + 1 := by omega
    unfold pick
    split
    · rename_i c
      rcases ej with ej | ej
      · subst ej; rw [gE_of haj] at c; exact ah_asym c.2
      · subst ej; rw [gE_of haj]; exact ah_irr t _
    · rename_i c
      rcases ej with ej | ej
      · subst ej; rw [gE_of haj]; exact ah_irr t _
      · subst ej
        have hl := lt_of_get haj
        cases q : ah t a.2 (gE s.1 (2 * k + 1)).2 with
        | false => rfl
        | true => exact absurd ⟨hl, by rw [gE_of haj]; exact q⟩ c
  revert ha hy best g1 g2 g3 hq
  generalize hQ : pick t s.1 k = q
  generalize hY : gE s.1 q = y
  intro ha hq g1 g2 g3 hy best
  have ne : q ≠ k := by omega
  have w2 := wf.move hy ne
  have p2 := (swap_perm (x := x) hk hy ne).trans pm
  have hk0 := hole_get (x := x) hk
  have hs0 := swap_get (x := x) (y := y) hk hq
  refine ⟨w2, p2, ?_, ?_, List.mem_cons_self, ?_, ?_, ?_⟩
  · intro i a c hi hoa hc
    have i1 : i ≠ q := fun z => hi (z ▸ List.mem_cons_self)
    have i2 : i ∉ P := fun z => hi (List.mem_cons_of_mem _ z)
    have i3 : i ≠ k := fun z => i2 (z ▸ inP)
    have hc2 : ((s.1.set k y).set q x)[i]? = some c := hc
    rw [hs0, if_neg i1, if_neg i3] at hc2
    exact out i a c i2 hoa (by rw [hk0, if_neg i3]; exact hc2)
  · have := log2_half (k := q) g3
    rw [g2] at this
    rw [List.length_cons]
    omega
  · intro j a c h1 h2 h3 haj hc
    have haj : ((s.1.set k y).set q x)[j]? = some a := haj
    have hc : ((s.1.set k y).set q x)[(j - 1) / 2]? = some c := hc
    rw [hs0, if_neg h2] at haj
    rw [hs0, if_neg h3] at hc
    by_cases e1 : j = k
    · rw [if_pos e1] at haj
      cases haj
      subst e1
      rw [if_neg (by omega)] at hc
      exact fg q y c h1 (by omega) g2 (by rw [hk0, if_neg ne]; exact hy) (by rw [hk0, if_neg (by omega)]; exact hc)
    · rw [if_neg e1] at haj
      by_cases e2 : (j - 1) / 2 = k
      · rw [if_pos e2] at hc
        cases hc
        exact best j a h1 e2 haj
      · rw [if_neg e2] at hc
        exact fx j a c h1 e1 e2 (by rw [hk0, if_neg e1]; exact haj) (by rw [hk0, if_neg e2]; exact hc)
  · intro j a c h1 h2 h3 haj hc
    have haj : ((s.1.set k y).set q x)[j]? = some a := haj
    have hc : ((s.1.set k y).set q x)[(q - 1) / 2]? = some c := hc
    rw [hs0, if_neg (by omega), if_neg (by omega)] at haj
    rw [g2, hs0, if_neg (by omega), if_pos rfl] at hc
    cases hc
    exact fx j a y h2 (by omega) (by omega) (by rw [hk0, if_neg (by omega)]; exact haj) (by rw [h3, hk0, if_neg ne]; exact hy)
  · intro a c h1 haj hc
    have haj : ((s.1.set k y).set q x)[q]? = some a := haj
    have hc : ((s.1.set k y).set q x)[(q - 1) / 2]? = some c := hc
    rw [hs0, if_pos rfl] at haj
    cases haj
    rw [g2, hs0, if_neg (by omega), if_pos rfl] at hc
    cases hc
    exact ah_asym ha
structure SinkR (t : Bool) (o b : List En) (D : Nat) (s : Sx) : Prop where
  wf : Wf s.1 s.2
  pm : s.1.Perm b
  fm : Form t s.1
  ch : ∃ P, Out o s.1 P ∧ P.length ≤ D
theorem sinkM_ok (t : Bool) (x : En) (o b : List En) (k0 D : Nat) : ∀ (n k : Nat) (s : Sx) (P : List Nat), s.1.length - k ≤ n → HoleD t o P k0 b s k x → bl s.1.length + k0 ≤ D → SinkR t o b D (sinkM t x s k) := by
  intro n
  induction n with
  | zero =>
    intro k s P hn h _
    have := h.wf.lt
    omega
  | succ n ih =>
    intro k s P hn h hD
    rw [sinkM]
    by_cases c : 2 * k + 1 < s.1.length ∧ ah t (gE s.1 (pick t s.1 k)).2 x.2 = true
    · rw [dif_pos c]
      have h2 := h.down c.1 c.2
      have g := pick_gt t s.1 k
      exact ih _ _ _ (by rw [layM_len]; omega) h2 (by rw [layM_len]; exact hD)
    · rw [dif_neg c]
      have hk := h.wf.lt
      refine ⟨h.wf.lay, h.pm, form_of h.fx ?_ h.fu, ⟨P, h.out, ?_⟩⟩
      · intro j a c2 h1 h2 haj hc
        have haj : (s.1.set k x)[j]? = some a := haj
        have hc : (s.1.set k x)[k]? = some c2 := hc
        rw [gs hk, if_pos rfl] at hc
        cases hc
        rw [gs hk, if_neg (by omega)] at haj
        have hj := lt_of_get haj
        have ha : ah t (gE s.1 (pick t s.1 k)).2 x.2 = false := by
          cases q : ah t (gE s.1 (pick t s.1 k)).2 x.2 with
          | false => rfl
          | true => exact absurd ⟨by omega, q⟩ c
        have ej : j = 2 * k + 1 ∨ j = 2 * k + 1 + 1 := by omega
        have best : ah t a.2 (gE s.1 (pick t s.1 k)).2 = false := by
          unfold pick
          split
          · rename_i c
            rcases ej with ej | ej
            · subst ej; rw [gE_of haj] at c; exact ah_asym c.2
            · subst ej; rw [gE_of haj]; exact ah_irr t _
          · rename_i c
            rcases ej with ej | ej
            · subst ej; rw [gE_of haj]; exact ah_irr t _
            · subst ej
              cases q : ah t a.2 (gE s.1 (2 * k + 1)).2 with
              | false => rfl
              | true => exact absurd ⟨hj, by rw [gE_of haj]; exact q⟩ c
        exact ah_ntr best ha
      · have := log2_lt_bl hk
        have := h.cnt
        omega
theorem sinkM_len (t : Bool) (x : En) : ∀ (n k : Nat) (s : Sx), s.1.length - k ≤ n → (sinkM t x s k).1.length = s.1.length := by
  intro n
  induction n with
  | zero =>
    intro k s hn
    rw [sinkM, dif_neg (by omega)]
    exact layM_len _ _ _
  | succ n ih =>
    intro k s hn
    rw [sinkM]
    by_cases c : 2 * k + 1 < s.1.length ∧ ah t (gE s.1 (pick t s.1 k)).2 x.2 = true
    · rw [dif_pos c]
      have g := pick_gt t s.1 k
      rw [ih _ _ (by rw [layM_len]; omega), layM_len]
    · rw [dif_neg c]
      exact layM_len _ _ _

/-! ### put and take -/
structure PileOk (t : Bool) (s : Sx) : Prop where
  wf : Wf s.1 s.2
  fm : Form t s.1
def putM (t : Bool) (s : Sx) (x : En) : Sx := (riseM t x (s.1 ++ [x], s.2) s.1.length).1
theorem putM_ok {t : Bool} {s : Sx} {x : En} (h : PileOk t s) (hx : ∀ e ∈ s.1, e.2.2 ≠ x.2.2) : PileOk t (putM t s x) ∧ (putM t s x).1.Perm (x :: s.1) ∧ df s.1 (putM t s x).1 ≤ bl s.1.length := by
  have hl : (s.1 ++ [x]).length = s.1.length + 1 := by simp
  have hlt : s.1.length < (s.1 ++ [x]).length := by omega
  have e0 : (s.1 ++ [x])[s.1.length]? = some x := by simp
  have e1 : (s.1 ++ [x]).set s.1.length x = s.1 ++ [x] := by
    refine List.ext_getElem? fun j => ?_
    rw [gs hlt]
    by_cases z : j = s.1.length
    · rw [if_pos z, z, e0]
    · rw [if_neg z]
  have g1 : ∀ j, j ≠ s.1.length → (s.1 ++ [x])[j]? = s.1[j]? := fun j hj => by
    by_cases q : j < s.1.length
    · rw [List.getElem?_append_left q]
    · rw [List.getElem?_eq_none (by omega), List.getElem?_eq_none (by omega)]
  have hole : HoleU t s.1 [] (s.1.length + 1).log2 (x :: s.1) (s.1 ++ [x], s.2) s.1.length x := by
    refine ⟨⟨hlt, ?_, h.wf.kn, fun i e hi he => ?_, fun key m => ?_⟩, ?_, ?_, by simp, fun j e => .inr (by omega), ?_, ?_⟩
    · show (((s.1 ++ [x]).set s.1.length x).map (·.2.2)).Nodup
      rw [e1, List.map_append]
      refine nd_snoc h.wf.nd fun m => ?_
      obtain ⟨e, he, q⟩ := List.mem_map.mp m
      exact hx e he q
    · have he : (s.1 ++ [x])[i]? = some e := he
      rw [g1 i hi] at he
      exact h.wf.ix i e he
    · obtain ⟨e, he, q⟩ := h.wf.ky key m
      refine ⟨e, ?_, q⟩
      show e ∈ (s.1 ++ [x]).set s.1.length x
      rw [e1]
      exact List.mem_append_left _ he
    · show ((s.1 ++ [x]).set s.1.length x).Perm (x :: s.1)
      rw [e1]
      exact List.perm_append_comm.trans (List.Perm.refl _)
    · intro i a c _ ha hc
      have hc : ((s.1 ++ [x]).set s.1.length x)[i]? = some c := hc
      have hi := lt_of_get ha
      rw [e1, g1 i (by omega), ha] at hc
      cases hc; rfl
    · intro j a c h1 h2 h3 ha hc
      have ha : ((s.1 ++ [x]).set s.1.length x)[j]? = some a := ha
      have hc : ((s.1 ++ [x]).set s.1.length x)[(j - 1) / 2]? = some c := hc
      rw [e1, g1 j h2] at ha
      rw [e1, g1 _ h3] at hc
      exact h.fm j a c h1 ha hc
    · intro j a c h1 h2 h3 ha hc
      have ha : ((s.1 ++ [x]).set s.1.length x)[j]? = some a := ha
      rw [e1, g1 j (by omega)] at ha
      have := lt_of_get ha
      omega
  have r := riseM_ok t x s.1 (x :: s.1) _ s.1.length s.1.length _ _ hole (Nat.le_refl _) (.inl rfl)
  have hD : FormD t (putM t s x).1 (riseM t x (s.1 ++ [x], s.2) s.1.length).2 := by
    rcases r.mv with q | q
    · intro j a c h1 h2 ha hc
      have hj := lt_of_get ha
      have el : (putM t s x).1.length = s.1.length + 1 := ((riseM_len t x s.1.length (s.1 ++ [x], s.2)).1).trans hl
      rw [q] at h2
      omega
    · exact q
  refine ⟨⟨r.wf, form_of r.fx hD r.fu⟩, r.pm, ?_⟩
  obtain ⟨P, hP, hn, _⟩ := r.ch
  have h1 := df_le hP
  by_cases z : s.1.length = 0
  · have : s.1 = [] := List.eq_nil_of_length_eq_zero z
    show df s.1 _ ≤ _
    rw [this]
    simp [df]
  · have h2 : (s.1.length + 1).log2 ≤ bl s.1.length := by
      unfold bl
      rw [if_neg z, ← log2_half (k := s.1.length) (by omega)]
      have : ((s.1.length - 1) / 2 + 1).log2 ≤ s.1.length.log2 := (Nat.le_log2 (by omega)).mpr (Nat.le_trans (Nat.log2_self_le (by omega)) (by omega))
      omega
    show df s.1 (riseM t x (s.1 ++ [x], s.2) s.1.length).1.1 ≤ _
    omega
/-- the thing at `at_` goes: the last one is laid in its place -/
def takeM (t : Bool) (s : Sx) (at_ : Nat) : Sx :=
  let c := (gE s.1 at_).2.2
  let last := gE s.1 (s.1.length - 1)
  let l := s.1.dropLast
  let d := dropK s.2 (Sum.inl c)
  if at_ < l.length then
    let r := riseM t last (layM (l, d) at_ last) at_
    sinkM t last r.1 r.2
  else (l, d)
theorem takeM_ok {t : Bool} {s : Sx} {k : Nat} {e : En} (h : PileOk t s) (he : s.1[k]? = some e) : PileOk t (takeM t s k) ∧ (e :: (takeM t s k).1).Perm s.1 ∧ df s.1 (takeM t s k).1 ≤ bl (s.1.length - 1) := by
  have hk := lt_of_get he
  have eg : gE s.1 k = e := gE_of he
  have hll : s.1.dropLast.length = s.1.length - 1 := List.length_dropLast
  have gl : ∀ j, j < s.1.length - 1 → s.1.dropLast[j]? = s.1[j]? := fun j hj => by
    rw [List.getElem?_dropLast, if_pos hj]
  have gd : ∀ j a, s.1.dropLast[j]? = some a → s.1[j]? = some a ∧ j < s.1.length - 1 := fun j a ha => by
    have := lt_of_get ha
    rw [gl j (by omega)] at ha
    exact ⟨ha, by omega⟩
  have hlast : s.1[s.1.length - 1]? = some (gE s.1 (s.1.length - 1)) := gE_some (by omega)
  have happ : s.1 = s.1.dropLast ++ [gE s.1 (s.1.length - 1)] := by
    refine List.ext_getElem? fun j => ?_
    by_cases q : j < s.1.length - 1
    · rw [List.getElem?_append_left (by omega), gl j q]
    · by_cases q2 : j = s.1.length - 1
      · rw [q2, hlast, List.getElem?_append_right (by omega), hll]
        simp
      · rw [List.getElem?_eq_none (by omega), List.getElem?_eq_none (by simp; omega)]
  unfold takeM
  rw [eg]
  show PileOk t (if k < s.1.dropLast.length then _ else _) ∧ _
  by_cases c : k < s.1.dropLast.length
  · rw [if_pos c]
    revert hlast happ
    generalize gE s.1 (s.1.length - 1) = x
    intro hlast happ
    have nek : k ≠ s.1.length - 1 := by omega
    have ndl : ∀ (i j : Nat) (a b : En), s.1[i]? = some a → s.1[j]? = some b → i ≠ j → a.2.2 ≠ b.2.2 := fun i j a b ha hb ne => nd_ne h.wf.nd ha hb ne
    -- the list with x laid in place of e is a rearrangement of s.1 without e
    have hpm : (e :: s.1.dropLast.set k x).Perm s.1 := by
      have q : s.1.dropLast[k]? = some e := by rw [gl k (by omega)]; exact he
      obtain ⟨hk2, e2⟩ := List.getElem?_eq_some_iff.mp q
      have q3 : (s.1.dropLast.set k x ++ [e]).Perm (s.1.dropLast ++ [x]) := by
        have hsw := swap_perm (l := s.1.dropLast ++ [x]) (k := k) (q := s.1.dropLast.length) (x := e) (y := x) (by simp; omega) (by simp) (by omega)
        have r1 : ((s.1.dropLast ++ [x]).set k x).set s.1.dropLast.length e = s.1.dropLast.set k x ++ [e] := by
          rw [List.set_append_left _ _ hk2, List.set_append_right _ _ (by simp)]
          simp
        have r2 : (s.1.dropLast ++ [x]).set k e = s.1.dropLast ++ [x] := by
          refine List.ext_getElem? fun j => ?_
          rw [gs (by simp; omega)]
          by_cases z : j = k
          · rw [if_pos z, z, List.getElem?_append_left hk2, q]
          · rw [if_neg z]
        rw [r1, r2] at hsw
        exact hsw
      have q4 : (e :: s.1.dropLast.set k x).Perm (s.1.dropLast.set k x ++ [e]) := (List.perm_append_comm (l₁ := [e]) (l₂ := s.1.dropLast.set k x))
      rw [happ] at *
      simp only [List.dropLast_concat] at *
      exact q4.trans q3
    have wfH : WfH s.1.dropLast (dropK s.2 (Sum.inl e.2.2)) k x := by
      have ndp : ((e :: s.1.dropLast.set k x).map (·.2.2)).Nodup := (hpm.map _).nodup_iff.mpr h.wf.nd
      refine ⟨c, (List.nodup_cons.mp ndp).2, nd_dropK h.wf.kn, fun i a hi ha => ?_, fun key m => ?_⟩
      · obtain ⟨ha2, _⟩ := gd i a ha
        rw [valV_drop, if_neg (fun z => ndl i k a e ha2 he hi (Sum.inl.inj z))]
        exact h.wf.ix i a ha2
      · obtain ⟨z1, z2⟩ := mem_dropK.mp m
        obtain ⟨a, ha, q⟩ := h.wf.ky key z2
        refine ⟨a, ?_, q⟩
        have : a ∈ e :: s.1.dropLast.set k x := hpm.mem_iff.mpr ha
        rcases List.mem_cons.mp this with r | r
        · subst r; exact absurd q z1
        · exact r
    have fdl : Form t s.1.dropLast := fun j a b h1 ha hb => h.fm j a b h1 (gd j a ha).1 (gd _ b hb).1
    have e3 : ∀ (l : List En) (d : Kvs), (layM (l, d) k x).1 = l.set k x := fun _ _ => rfl
    have wf2 : Wf (layM (s.1.dropLast, dropK s.2 (Sum.inl e.2.2)) k x).1 (layM (s.1.dropLast, dropK s.2 (Sum.inl e.2.2)) k x).2 := wfH.lay
    have hx2 : (layM (s.1.dropLast, dropK s.2 (Sum.inl e.2.2)) k x).1[k]? = some x := by rw [e3, gs c, if_pos rfl]
    have e4 : (layM (s.1.dropLast, dropK s.2 (Sum.inl e.2.2)) k x).1.set k x = s.1.dropLast.set k x := by rw [e3, List.set_set]
    obtain ⟨fx, fg⟩ := fdl.lay (x := x) c
    have out0 : Out s.1 (s.1.dropLast.set k x) [k] := fun i a b hi ha hb => by
      rw [gs c, if_neg (fun z => hi (by simp [z]))] at hb
      rw [(gd i b hb).1] at ha
      cases ha; rfl
    have hole : HoleU t s.1 [k] (1 + (k + 1).log2) (s.1.dropLast.set k x) (layM (s.1.dropLast, dropK s.2 (Sum.inl e.2.2)) k x) k x := by
      refine ⟨wf2.hole hx2, by rw [e4], by rw [e4]; exact out0, by simp, fun j z => .inl (by simp [z]), by rw [e4]; exact fx, by rw [e4]; exact fg⟩
    have r := riseM_ok t x s.1 _ _ k k _ _ hole (Nat.le_refl _) (.inl rfl)
    have rl := riseM_len t x k (layM (s.1.dropLast, dropK s.2 (Sum.inl e.2.2)) k x)
    have st := @riseM_stay t x (layM (s.1.dropLast, dropK s.2 (Sum.inl e.2.2)) k x) k
    revert r rl st
    generalize riseM t x (layM (s.1.dropLast, dropK s.2 (Sum.inl e.2.2)) k x) k = R
    intro r rl st
    have rlen : R.1.1.length = s.1.length - 1 := rl.1.trans ((layM_len _ _ _).trans hll)
    have e5 : R.1.1.set R.2 x = R.1.1 := by
      refine List.ext_getElem? fun j => ?_
      rw [gs (lt_of_get r.at_)]
      by_cases z : j = R.2
      · rw [if_pos z, z, r.at_]
      · rw [if_neg z]
    have fin : SinkR t s.1 (s.1.dropLast.set k x) (bl (s.1.length - 1)) (sinkM t x R.1 R.2) := by
      rcases r.mv with q | q
      · -- no step up
        have eR := st q
        have hD : HoleD t s.1 [k] 0 (s.1.dropLast.set k x) R.1 R.2 x := by
          refine ⟨r.wf.hole r.at_, by rw [e5]; exact r.pm, ?_, by simp, by rw [q]; simp, by rw [e5]; exact r.fx, by rw [e5]; exact r.fg, by rw [e5]; exact r.fu⟩
          rw [e5, eR]
          show Out s.1 ((layM (s.1.dropLast, dropK s.2 (Sum.inl e.2.2)) k x).1.set k x) [k]
          rw [e4]
          exact out0
        exact sinkM_ok t x s.1 _ 0 _ _ _ _ _ (Nat.le_refl _) hD (by rw [rlen]; exact Nat.le_refl _)
      · -- moved up: nothing sinks
        obtain ⟨P, hP, hn, _⟩ := r.ch
        have noSink : sinkM t x R.1 R.2 = layM R.1 R.2 x := by
          rw [sinkM]
          refine dif_neg fun ⟨c1, c2⟩ => ?_
          obtain ⟨g1, g2, g3⟩ := pick_gt t R.1.1 R.2
          have := q (pick t R.1.1 R.2) _ x g3 g2 (gE_some (pick_lt c1)) r.at_
          rw [this] at c2
          cases c2
        rw [noSink]
        have e6 : (layM R.1 R.2 x).1 = R.1.1 := e5
        refine ⟨?_, by rw [e6]; exact r.pm, by rw [e6]; exact form_of r.fx q r.fu, ⟨P, by rw [e6]; exact hP, ?_⟩⟩
        · exact (r.wf.hole r.at_).lay
        · have := log2_lt_bl (k := k) (n := s.1.length - 1) (by omega)
          omega
    refine ⟨⟨fin.wf, fin.fm⟩, (List.Perm.cons e fin.pm).trans hpm, ?_⟩
    obtain ⟨P, hP, hn⟩ := fin.ch
    exact Nat.le_trans (df_le hP) hn
  · rw [if_neg c]
    have ek : k = s.1.length - 1 := by omega
    have ee : gE s.1 (s.1.length - 1) = e := by rw [← ek]; exact eg
    rw [ee] at happ
    have hpm : (e :: s.1.dropLast).Perm s.1 := by
      conv => rhs; rw [happ]
      exact List.perm_append_comm (l₁ := [e]) (l₂ := s.1.dropLast)
    refine ⟨⟨⟨?_, nd_dropK h.wf.kn, fun i a ha => ?_, fun key m => ?_⟩, fun j a b h1 ha hb => h.fm j a b h1 (gd j a ha).1 (gd _ b hb).1⟩, hpm, ?_⟩
    · have ndp : ((e :: s.1.dropLast).map (·.2.2)).Nodup := (hpm.map _).nodup_iff.mpr h.wf.nd
      exact (List.nodup_cons.mp ndp).2
    · obtain ⟨ha2, hi⟩ := gd i a ha
      rw [valV_drop, if_neg (fun z => nd_ne h.wf.nd ha2 he (by omega) (Sum.inl.inj z))]
      exact h.wf.ix i a ha2
    · obtain ⟨z1, z2⟩ := mem_dropK.mp m
      obtain ⟨a, ha, q⟩ := h.wf.ky key z2
      refine ⟨a, ?_, q⟩
      have : a ∈ e :: s.1.dropLast := hpm.mem_iff.mpr ha
      rcases List.mem_cons.mp this with r | r
      · subst r; exact absurd q z1
      · exact r
    · have : Out s.1 s.1.dropLast [] := fun i a b _ ha hb => by
        rw [(gd i b hb).1] at ha
        cases ha; rfl
      exact Nat.le_trans (df_le this) (Nat.zero_le _)
end Mp

/-! Rules of our own over the hand layer. -/
namespace Mp
open PySem PySem.Spec PyProof.Rows L2

/-- a def that is called with all its arguments, in places -/
structure Fn (P : Program) (w : World) (K : PySem.W.Frag) (mg : Str → Option Value) (base : Heap) (k : Nat) (f : Addr) (ps : List Str) (sp : Sp) : Prop where
  ex : ∃ fd, FnOk P w K mg base (L2.CX P w) k f fd ps sp ∧ Binds K fd ps []
  kp : PySem.W.keepIn K (.ref f) = true
/-- nothing is let out -/
theorem nopass {X : Cx} {σ : L2.St} : PassesAt (L2.CX X.prog X.w) X σ E0 := fun _ H s e s' I c => (passL (X := X) (pins := []) (σ := σ) (H := H) (s := s)) |> fun _ => by
  obtain ⟨_, _, _, _, _, _, _, _, _, _, _, _, z⟩ := c
  exact z.elim
section
variable {X : Cx} {k j : Nat} {f C : Addr} {ps : List Str} {sp : Sp} {E : L2.St → XK} {x m : Str} {p pos apos : Pos} {e o : Expr} {es : List Expr} {ta : TE} {t : TA}
theorem pe_callF (F : Fn X.prog X.w X.K X.mg X.base k f ps sp) (hr : Room j X.A) (hm : X.mg x = some (.ref f)) (hx : ∀ σ, PassesAt (L2.CX X.prog X.w) X σ (E σ)) (ha : PA X (e :: es) t) (hk : k ≤ j := by decide) (hg : Gl X x := by rfl)
    (hdb : (x == ("__debug__" : Str)) = false := by decide) (he : starEach (e :: es) X.env = (false, eval e X.env) :: starEach es X.env := by rfl) (hpl : (backTo pos (starEach es X.env)).any (·.1) = false := by rfl) :
    PE X (.Call (.Name x p) (e :: es) [] pos) (tCallS sp E t) := by
  obtain ⟨fd, F1, hb⟩ := F.ex
  exact pe_callS F1 (hr.mono hk) hg hm F.kp hb hx ha hdb he hpl
/-- o.m(e, ..) whose exceptions are wished for at the slots -/
def tMethF (C : Addr) (m : Str) (sp : Sp) (E : L2.St → XK) (ta : TE) (t : TA) : TE := fun σ H Q => ta σ H fun x H1 => ∃ a dx fs, x = .ref a ∧ H1 a = some (.ins C dx fs) ∧ fs.lookup m = none ∧ t σ H1 fun vs H2 => sp (x :: vs) H2 Q (E σ)
theorem pe_methF {pl : Sem Bool} (he : PE X o ta) (c : Cls X.K C) (hm : Meth X.K C m f) (F : Fn X.prog X.w X.K X.mg X.base k f ps sp) (hr : Room j X.A) (hx : ∀ σ, PassesAt (L2.CX X.prog X.w) X σ (E σ)) (ha : PA X (e :: es) t) (hk : k ≤ j := by decide)
    (hst : starEach (e :: es) X.env = (false, eval e X.env) :: starEach es X.env := by rfl) (hpl : (backTo pos (starEach es X.env)).any (·.1) = false := by rfl)
    (ht : eval (.Call (.Attribute o m apos) (e :: es) [] pos) X.env = (do
      let ov ← eval o X.env
      standAt apos.atName
      let (f, first) ← holding [ov] (getMethod ov m pl)
      callWith pos f first (backTo pos (starEach (e :: es) X.env)) (backToKw pos (keywordEach [] X.env))) := by rfl) :
    PE X (.Call (.Attribute o m apos) (e :: es) [] pos) (tMethF C m sp E ta t) := by
  obtain ⟨fd, F1, hb⟩ := F.ex
  refine ⟨fun pins s σ H Q I h => ?_⟩
  refine PySem.W.methodCall_KW (pl := pl) (thn (he.run pins s σ H _ I h) fun u s1 ⟨x, H1, I1, rx, a, dx, fs, ex, ea, l, q⟩ => ?_) ht
  subst ex
  obtain rfl : u = Value.ref a := rx
  refine getmeth_ok I1 ea c hm l ?_
  refine PySem.W.callWith_K (first := [.ref a]) (h₀ := X.base) I.ok.mod.kin hm.kp (thn (ha.run pos pins s1 σ H1 _ I1 q) fun us s2 ⟨vs, H2, I2, r, q2⟩ => ⟨I2.kIn, ?_⟩) hst hpl
  exact run_fnS (us := .ref a :: us) (vs := .ref a :: vs) F1 (hr.mono hk) hb (hx σ) I2 (.cons rfl r) q2
theorem pe_methF0 {pl : Sem Bool} (he : PE X o ta) (c : Cls X.K C) (hm : Meth X.K C m f) (F : Fn X.prog X.w X.K X.mg X.base k f ps sp) (hr : Room j X.A) (hx : ∀ σ, PassesAt (L2.CX X.prog X.w) X σ (E σ)) (hk : k ≤ j := by decide)
    (ht : eval (.Call (.Attribute o m apos) [] [] pos) X.env = (do
      let ov ← eval o X.env
      standAt apos.atName
      let (f, first) ← holding [ov] (getMethod ov m pl)
      callWith pos f first (backTo pos (starEach [] X.env)) (backToKw pos (keywordEach [] X.env))) := by rfl) :
    PE X (.Call (.Attribute o m apos) [] [] pos) (tMethF C m sp E ta tNil) := by
  obtain ⟨fd, F1, hb⟩ := F.ex
  refine ⟨fun pins s σ H Q I h => ?_⟩
  refine PySem.W.methodCall_KW (pl := pl) (thn (he.run pins s σ H _ I h) fun u s1 ⟨x, H1, I1, rx, a, dx, fs, ex, ea, l, q⟩ => ?_) ht
  subst ex
  obtain rfl : u = Value.ref a := rx
  refine getmeth_ok I1 ea c hm l ?_
  exact PySem.W.callWith_K0 (first := [.ref a]) I1.kIn hm.kp (run_fnS (us := [.ref a]) (vs := [.ref a]) F1 (hr.mono hk) hb (hx σ) I1 (.cons rfl .nil) q)
end

/-! ### C(e, ..) -/
/-- a new object of the class C, made by its __init__ -/
def tMakeF (C : Addr) (sp : Sp) (E : XK) (t : TA) : TE := fun σ H Q => t σ H fun vs H1 => ∀ x dx, H1 x = none → H1 dx = none → dx ≠ x → sp (.ref x :: vs) (upd (upd H1 dx (.own x)) x (.ins C dx [])) (fun v H2 => v = .non ∧ Q (.ref x) H2) E
theorem nopass0 {X : Cx} : Passes (L2.CX X.prog X.w) X E0 := fun _ _ H s e s' I c => nopass (X := X) (σ := []) [] H s e s' (by exact absurd c (fun ⟨_, _, _, _, _, _, _, _, _, _, _, _, z⟩ => z.elim)) c
section
variable {X : Cx} {k j : Nat} {f C : Addr} {ps : List Str} {sp : Sp} {E : XK} {x : Str} {p pos : Pos} {e : Expr} {es : List Expr} {t : TA}
theorem pe_makeF0 (M : Mk X.K C f) (F : Fn X.prog X.w X.K X.mg X.base k f ps sp) (hr : Room j X.A) (hm : X.mg x = some (.ref C)) (hx : Passes (L2.CX X.prog X.w) X E) (hk : k + 1 ≤ j := by decide) (hg : Gl X x := by rfl) (hdb : (x == ("__debug__" : Str)) = false := by decide) :
    PE X (.Call (.Name x p) [] [] pos) (tMakeF C sp E tNil) := by
  obtain ⟨fd, F1, hb⟩ := F.ex
  exact pe_make0 M F1 (hr.mono hk) hg hm hb .nil hx hdb
theorem pe_makeF (M : Mk X.K C f) (F : Fn X.prog X.w X.K X.mg X.base k f ps sp) (hr : Room j X.A) (hm : X.mg x = some (.ref C)) (hx : Passes (L2.CX X.prog X.w) X E) (ha : PA X (e :: es) t) (hk : k + 1 ≤ j := by decide) (hg : Gl X x := by rfl) (hdb : (x == ("__debug__" : Str)) = false := by decide)
    (he : starEach (e :: es) X.env = (false, eval e X.env) :: starEach es X.env := by rfl) (hpl : (backTo pos (starEach es X.env)).any (·.1) = false := by rfl) :
    PE X (.Call (.Name x p) (e :: es) [] pos) (tMakeF C sp E t) := by
  obtain ⟨fd, F1, hb⟩ := F.ex
  have r := pe_make (p := p) (pos := pos) (E := E) M F1 (hr.mono hk) hg hm hb .nil hx ha hdb he hpl
  have et : tMake C sp [] E t = tMakeF C sp E t := by
    unfold tMake tMakeF
    simp only [List.append_nil]
  rw [et] at r
  exact r
end
theorem _root_.L2.Room.units65 {k : Nat} {A : Around} (r : Room k A) : A.units + 65 < cLine := by have := r.un; omega
/-! ### isinstance(e, (A, B, ..)) of the exception that a suite holds -/
def rIsET (K : PySem.W.Frag) (D a : Addr) : List V → Hp → VK → Prop := fun xs H Q => ∃ (tp : Addr) (cs : List V) (us : List Value) (b : Bool), xs = [.ref a, .ref tp] ∧ H tp = some (.tup cs) ∧ Paired ClsV cs us ∧ PySem.W.kitAny K (.ref D) us = some b ∧ Q (.bl b) H
theorem call_isET {X : Cx} {a D : Addr} {oe : Obj} {pn : List (Addr × Obj)} (C : ExcC X.K D) (hz : Zc (.ref D) none oe) (hf : ∃ vs, oe.data = .fields vs) : CallR (X.suite a ((a, oe) :: pn)) (.builtin "isinstance") (rIsET X.K D a) := by
  intro pins s σ H xs us Q I r h
  obtain ⟨tp, cs, ws, b, rfl, hT, k, e, q⟩ := h
  obtain ⟨u1, u2, rfl, r1, r2⟩ := vals2 r
  cases (show u1 = Value.ref a from r1)
  cases (show u2 = Value.ref tp from r2)
  obtain ⟨hget, _⟩ := I.pin (a, oe) (List.mem_append.mpr (.inl List.mem_cons_self))
  obtain ⟨vs, hv⟩ := hf
  have J : PySem.W.InstAt s.heap a oe D none := by
    obtain ⟨oc, od, oda, osl⟩ := oe
    obtain ⟨h1, h2⟩ := hz
    dsimp only at h1 h2 hv
    subst h1 h2 hv
    exact ⟨hget, rfl, rfl, trivial⟩
  obtain ⟨_, its, rv, o, h1, h2, n, h3⟩ := (show ObjOk X.prog X.w H s.heap tp (.tup cs) from I.hok tp _ hT)
  have e3 := ClsV.all k rv
  subst e3
  obtain ⟨oc, od, dt, sl⟩ := o
  simp only at h2 h3
  subst h2 h3
  exact PySem.W.kia_tup (PySem.W.handS_kitx_exc C.hg C.hk C.hs C.hd C.ha C.hn C.ht C.hm) I.kIn J h1 e (fun z => nomatch z) fun tk => ⟨.bl b, H, I.kept (t' := tk) fun _ _ z => z, rfl, q⟩

/-! .. whatever the class of the exception is: the reading says it -/
def rIsE2 (K : PySem.W.Frag) (a : Addr) (cls : Value) (d : Option Addr) : List V → Hp → VK → Prop := fun xs H Q => ∃ D, cls = .ref D ∧ d = none ∧ ExcC K D ∧ rIsE K D a xs H Q
def rIsET2 (K : PySem.W.Frag) (a : Addr) (cls : Value) (d : Option Addr) : List V → Hp → VK → Prop := fun xs H Q => ∃ D, cls = .ref D ∧ d = none ∧ ExcC K D ∧ rIsET K D a xs H Q
section
variable {X : Cx} {a : Addr} {cls : Value} {d : Option Addr} {oe : Obj} {pn : List (Addr × Obj)}
theorem call_isE2 (hz : Zc cls d oe) (hf : ∃ vs, oe.data = .fields vs) : CallR (X.suite a ((a, oe) :: pn)) (.builtin "isinstance") (rIsE2 X.K a cls d) := by
  intro pins s σ H xs us Q I r h
  obtain ⟨D, rfl, rfl, C, h⟩ := h
  exact call_isE C hz hf pins s σ H xs us Q I r h
theorem call_isET2 (hz : Zc cls d oe) (hf : ∃ vs, oe.data = .fields vs) : CallR (X.suite a ((a, oe) :: pn)) (.builtin "isinstance") (rIsET2 X.K a cls d) := by
  intro pins s σ H xs us Q I r h
  obtain ⟨D, rfl, rfl, C, h⟩ := h
  exact call_isET C hz hf pins s σ H xs us Q I r h
end

/-! ### classes as values -/
theorem pe_clsv {X : Cx} {x : Str} {C : Addr} {pos : Pos} (hm : X.mg x = some (.ref C)) (hg : Gl X x := by rfl) (hd : (x == ("__debug__" : Str)) = false := by decide) : PE X (.Name x pos) (tC (.ref C)) := pe_glob hg hm rfl hd
theorem pe_tyv {X : Cx} {x : Str} (n : String) {pos : Pos} (hm : X.mg x = none) (hv : bootBuiltins x = some (.type n) := by decide +kernel) (hg : Gl X x := by rfl) (hn : x ≠ "__name__" := by decide) (hd : (x == ("__debug__" : Str)) = false := by decide) : PE X (.Name x pos) (tC (.ty n)) := pe_bltn hg hm hv rfl hn hd

/-! ### readings -/
theorem cpow10 {j : Int} : CPow 10 j ↔ 0 ≤ j ∧ j ≤ 1000000 := by
  unfold CPow
  constructor
  · rintro ⟨h1, h2, _⟩; exact ⟨h1, h2⟩
  · rintro ⟨h1, h2⟩; exact ⟨h1, h2, by decide⟩
theorem rEq_int {i j : Int} {H : Hp} {Q : VK} : rEq (.int i) (.int j) H Q = Q (.bl (decide (i = j))) H := by
  unfold rEq
  rw [show decide (V.int i = V.int j) = decide (i = j) from by simp]
  simp [scal]
theorem rNe_int {i j : Int} {H : Hp} {Q : VK} : rNe (.int i) (.int j) H Q = Q (.bl (!decide (i = j))) H := by
  unfold rNe
  rw [show decide (V.int i = V.int j) = decide (i = j) from by simp]
  simp [scal]
theorem cdiv_iff {i j : Int} : CDiv i j ↔ 0 < j ∧ j < 1073741824 := Iff.rfl
theorem cpow_iff {i j : Int} : CPow i j ↔ 0 ≤ j ∧ j ≤ 1000000 ∧ i.natAbs < 18446744073709551616 := Iff.rfl
theorem get_lt {ns : List Int} {k : Int} (h0 : 0 ≤ k) (h : k < (ns.map V.int).length) : atI (ns.map V.int) k = some (V.int (ns.getD k.toNat 0)) := by
  rw [List.length_map] at h
  obtain ⟨n, rfl⟩ := Int.eq_ofNat_of_zero_le h0
  refine atI_nat ?_
  have hn : n < ns.length := by omega
  rw [List.getElem?_map, List.getElem?_eq_getElem hn]
  simp [List.getD_eq_getElem?_getD, List.getElem?_eq_getElem hn]
theorem bits_le {i : Int} {n : Nat} (h : i.natAbs < 2 ^ n) : Builtin.Int.intBits i ≤ n := PyProof.Rows.intBits_le h
theorem divp_small {i j : Int} {n : Nat} (hj : 0 < j) (h : i.natAbs < 2 ^ n) (hn : n ≤ 4000) : CDivP i j := divp_ok hj (Nat.le_trans (bits_le h) (by omega))
theorem mul_small {i j : Int} {n m : Nat} (h : i.natAbs < 2 ^ n) (g : j.natAbs < 2 ^ m) : (i * j).natAbs < 2 ^ (n + m) := by
  rw [Int.natAbs_mul, Nat.pow_add]
  exact Nat.mul_lt_mul'' h g

theorem abs250 {x : Int} (h0 : -10 ^ 70 ≤ x) (h1 : x ≤ 10 ^ 70) : x.natAbs < 2 ^ 250 := by omega
theorem same_new {H : Hp} {p : Addr} {o : HO} (h : H p = none) : Same H (upd H p o) := fun b u e => by rw [upd_ne (ne_of_none e h)]; exact e
theorem same_t {K : PySem.W.Frag} {H H' : Hp} {a : Addr} {xs : List V} (e : Same H H') (h : SqT K H a xs) : SqT K H' a xs := by
  rcases h with (h | ⟨o, h⟩) | h
  · exact .inl (.inl (e _ _ h))
  · exact .inl (.inr ⟨o, e _ _ h⟩)
  · exact .inr h

/-! ### isinstance of ints -/
theorem isi_of {K : PySem.W.Frag} {x : V} {n t : String} {r : Bool} {H : Hp} {Q : VK} (ht : ∀ u, TyX K H x u → u = .type t) (hx : TyX K H x (.type t)) (hk : kitB t n = some r) : rIsi K [x, .ty n] H Q ↔ Q (.bl r) H := by
  constructor
  · rintro ⟨x', c, t', u, b, e, k, ty, hb, q⟩
    simp only [List.cons.injEq, and_true] at e
    obtain ⟨rfl, rfl⟩ := e
    cases k
    have e2 := ht _ ty
    subst e2
    have := (kit_ty (K := K) hk).symm.trans hb
    rw [Option.some.inj this]
    exact q
  · intro q
    exact ⟨_, _, _, _, _, rfl, .ty _, hx, kit_ty hk, q⟩
theorem ty_int {K : PySem.W.Frag} {H : Hp} {i : Int} : ∀ u, TyX K H (.int i) u → u = .type "int" := fun u h => by
  cases h with
  | base h => cases h; rfl
theorem isi_int_int {K : PySem.W.Frag} {i : Int} {H : Hp} {Q : VK} : rIsi K [.int i, .ty "int"] H Q ↔ Q (.bl true) H := isi_of ty_int (.base (.int i)) (by decide +kernel)
theorem isi_int_bool {K : PySem.W.Frag} {i : Int} {H : Hp} {Q : VK} : rIsi K [.int i, .ty "bool"] H Q ↔ Q (.bl false) H := isi_of ty_int (.base (.int i)) (by decide +kernel)
theorem ty_bool {K : PySem.W.Frag} {H : Hp} {i : Bool} : ∀ u, TyX K H (.bl i) u → u = .type "bool" := fun u h => by
  cases h with
  | base h => cases h; rfl
theorem isi_bool_bool {K : PySem.W.Frag} {i : Bool} {H : Hp} {Q : VK} : rIsi K [.bl i, .ty "bool"] H Q ↔ Q (.bl true) H := isi_of ty_bool (.base (.bl i)) (by decide +kernel)

/-! ### the suite of a refusal: others = isinstance(e, (A, B, C, D)); return isinstance(e, X) and isinstance(e, ValueError) and not others -/
def tSuite4 (K : PySem.W.Frag) (i j : Nat) (y1 y2 y3 y4 D : Addr) : Addr → Value → Option Addr → TS := fun a cls d =>
  tSeq (tAsg (tCB (rIsET2 K a cls d) (tCons (tVar i) (tCons (tTup (tCons (tC (V.ref y1)) (tCons (tC (V.ref y2)) (tCons (tC (V.ref y3)) (tCons (tC (V.ref y4)) tNil))))) tNil))) (gName j))
    (tRet (tAndV (tCB (rIsE2 K a cls d) (tCons (tVar i) (tCons (tC (V.ref D)) tNil))) (tAndV (tCB (rIsE2 K a cls d) (tCons (tVar i) (tCons (tC (V.ty "ValueError")) tNil))) (tNotV (tVar j)))))
theorem suite_ok {K : PySem.W.Frag} {mid D y1 y2 y3 y4 : Addr} {i j : Nat} {σ : L2.St} {H : Hp} {Dd : Ends} (hm : PySem.W.exmOne K (.ref D) (.ref mid) = some true) (xe : ExcC K D) (kn : PySem.W.kitAny K (.ref D) [.ref y1, .ref y2, .ref y3, .ref y4] = some false)
    (ki : PySem.W.kitOne K (.ref D) (.ref D) = some true) (kv : PySem.W.kitOne K (.ref D) (.type "ValueError") = some true) (hi : i < σ.length) (hj : j < σ.length) (ne : i ≠ j) (q : ∀ H', Same H H' → Dd.rt (.bl true) H') :
    WE (wAs K (.ref mid) i (tSuite4 K i j y1 y2 y3 y4 D) (fun _ _ _ _ => False) Dd) σ (.ref D) none H := by
  refine ⟨true, hm, fun _ a na => ?_, fun z => nomatch z⟩
  have e1 : (σ.set i (some (V.ref a)))[i]? = some (some (V.ref a)) := by rw [List.getElem?_set_self hi]
  refine ⟨_, e1, by show 4 ≤ sizeLine; decide, fun p hp => ?_⟩
  have s1 : Same H (upd H p (.tup [V.ref y1, V.ref y2, V.ref y3, V.ref y4])) := fun b o e => by rw [upd_ne (ne_of_none e hp)]; exact e
  refine ⟨D, rfl, rfl, xe, p, _, _, false, rfl, upd_same, .cons (.own _) (.cons (.own _) (.cons (.own _) (.cons (.own _) .nil))), kn, ?_⟩
  have e2 : ((σ.set i (some (V.ref a))).set j (some (V.bl false)))[i]? = some (some (V.ref a)) := by rw [List.getElem?_set_ne (Ne.symm ne)]; exact e1
  have e3 : ((σ.set i (some (V.ref a))).set j (some (V.bl false)))[j]? = some (some (V.bl false)) := by rw [List.getElem?_set_self (by rw [List.length_set]; exact hj)]
  refine ⟨_, e2, D, rfl, rfl, xe, _, _, true, rfl, fun u r => r, ki, true, rfl, iteT ?_⟩
  refine ⟨_, e2, D, rfl, rfl, xe, _, _, true, rfl, fun u r => r, kv, true, rfl, iteT ?_⟩
  exact ⟨_, e3, false, rfl, q _ s1⟩

/-! ### what is left of a reading at a field, a dict, a method -/
def fldR (K : PySem.W.Frag) (f : Str) (x : V) (H : Hp) (Q : VK) : Prop := ∃ a C dx fs v, x = .ref a ∧ H a = some (.ins C dx fs) ∧ Cls K C ∧ NoAttr K C f ∧ fs.lookup f = some v ∧ Q v H
theorem fldR.mk {K : PySem.W.Frag} {f : Str} {a C dx : Addr} {fs : List (Str × V)} {v : V} {H : Hp} {Q : VK} (h : H a = some (.ins C dx fs)) (c : Cls K C) (n : NoAttr K C f) (l : fs.lookup f = some v) (q : Q v H) : fldR K f (.ref a) H Q := ⟨a, C, dx, fs, v, rfl, h, c, n, l, q⟩
theorem tFld_r {K : PySem.W.Frag} {ta : TE} {f : Str} {σ : L2.St} {H : Hp} {Q : VK} : tFld K ta f σ H Q = ta σ H fun x H1 => fldR K f x H1 Q := rfl
def setR (K : PySem.W.Frag) (f : Str) (x y : V) (H : Hp) (q : Hp → Prop) : Prop := ∃ a C dx fs, x = .ref a ∧ H a = some (.ins C dx fs) ∧ Cls K C ∧ NoAttr K C f ∧ fs.length < 1000 ∧ q (upd H a (.ins C dx (putF f y fs)))
theorem setR.mk {K : PySem.W.Frag} {f : Str} {a C dx : Addr} {fs : List (Str × V)} {y : V} {H : Hp} {q : Hp → Prop} (h : H a = some (.ins C dx fs)) (c : Cls K C) (n : NoAttr K C f) (l : fs.length < 1000) (k : q (upd H a (.ins C dx (putF f y fs)))) : setR K f (.ref a) y H q := ⟨a, C, dx, fs, rfl, h, c, n, l, k⟩
theorem sFld_r {K : PySem.W.Frag} {ta tv : TE} {f : Str} {D : Ends} {σ : L2.St} {H : Hp} : sFld K ta tv f D σ H = tv σ H fun y H1 => ta σ H1 fun x H2 => setR K f x y H2 (D.nx σ) := rfl
def augR (K : PySem.W.Frag) (f : Str) (x : V) (H : Hp) (tv : V → Hp → (V → Hp → Prop) → Prop) (q : Hp → Prop) : Prop := ∃ a C dx fs v, x = .ref a ∧ H a = some (.ins C dx fs) ∧ Cls K C ∧ NoAttr K C f ∧ fs.lookup f = some v ∧ tv v H fun z H3 => ∃ dx' fs', H3 a = some (.ins C dx' fs') ∧ fs'.length < 1000 ∧ q (upd H3 a (.ins C dx' (putF f z fs')))
theorem augR.mk {K : PySem.W.Frag} {f : Str} {a C dx : Addr} {fs : List (Str × V)} {v : V} {H : Hp} {tv : V → Hp → (V → Hp → Prop) → Prop} {q : Hp → Prop} (h : H a = some (.ins C dx fs)) (c : Cls K C) (n : NoAttr K C f) (l : fs.lookup f = some v) (k : tv v H fun z H3 => ∃ dx' fs', H3 a = some (.ins C dx' fs') ∧ fs'.length < 1000 ∧ q (upd H3 a (.ins C dx' (putF f z fs')))) : augR K f (.ref a) H tv q := ⟨a, C, dx, fs, v, rfl, h, c, n, l, k⟩
theorem sFldAug_r {K : PySem.W.Frag} {ta tv : TE} {rd : V → V → Hp → VK → Prop} {f : Str} {D : Ends} {σ : L2.St} {H : Hp} : sFldAug K ta tv rd f D σ H = ta σ H fun x H1 => augR K f x H1 (fun v H1 R => tv σ H1 fun y H2 => rd v y H2 R) (D.nx σ) := rfl
def dgR (x y : V) (H : Hp) (Q : VK) : Prop := ∃ a v, x = .ref a ∧ DGet H a y (some v) ∧ Q v H
theorem dgR.mk {a : Addr} {kvs : Kvs} {k : Int} {v : V} {H : Hp} {Q : VK} (h : H a = some (.dK kvs)) (e : valV kvs (Sum.inl k) = some v) (q : Q v H) : dgR (.ref a) (.int k) H Q := ⟨a, v, rfl, e ▸ DGet.k (k := Sum.inl k) h, q⟩
theorem tDGet_r {td ty : TE} {σ : L2.St} {H : Hp} {Q : VK} : tDGet td ty σ H Q = td σ H fun x H1 => ty σ H1 fun y H2 => dgR x y H2 Q := rfl
def diR (x y : V) (H : Hp) (q : Bool → Prop) : Prop := ∃ a o, x = .ref a ∧ DGet H a y o ∧ q o.isSome
theorem diR.mk {a : Addr} {kvs : Kvs} {k : Int} {H : Hp} {q : Bool → Prop} (h : H a = some (.dK kvs)) (k2 : q (valV kvs (Sum.inl k)).isSome) : diR (.ref a) (.int k) H q := ⟨a, _, rfl, DGet.k (k := Sum.inl k) h, k2⟩
theorem tDIn_r {td ty : TE} {σ : L2.St} {H : Hp} {Q : VK} : tDIn ty td σ H Q = ty σ H fun y H1 => td σ H1 fun x H2 => diR x y H2 fun b => Q (.bl b) H2 := rfl
theorem tDNotIn_r {td ty : TE} {σ : L2.St} {H : Hp} {Q : VK} : tDNotIn ty td σ H Q = ty σ H fun y H1 => td σ H1 fun x H2 => diR x y H2 fun b => Q (.bl (!b)) H2 := rfl
def dpR (x y v : V) (H : Hp) (q : Hp → Prop) : Prop := ∃ a H4, x = .ref a ∧ DPut H a y v H4 ∧ q H4
theorem dpR.mk {a : Addr} {kvs : Kvs} {k : Int} {v : V} {H : Hp} {q : Hp → Prop} (h : H a = some (.dK kvs)) (l : kvs.length < 16777216) (k2 : q (upd H a (.dK (putK kvs (Sum.inl k) v)))) : dpR (.ref a) (.int k) v H q := ⟨a, _, rfl, DPut.k (k := Sum.inl k) h (by rw [PySem.sizeLine_eq]; exact l), k2⟩
theorem sDPut_r {td ty tv : TE} {D : Ends} {σ : L2.St} {H : Hp} : sDPut td ty tv D σ H = tv σ H fun v H1 => td σ H1 fun x H2 => ty σ H2 fun y H3 => dpR x y v H3 (D.nx σ) := rfl
def popR (x : V) (H : Hp) (ty : Hp → (V → Hp → Prop) → Prop) (Q : VK) : Prop := ∃ a, x = .ref a ∧ IsD H a ∧ ty H fun y H2 => ∃ kvs k v, H2 a = some (.dK kvs) ∧ y = kV k ∧ valV kvs k = some v ∧ Q v (upd H2 a (.dK (dropK kvs k)))
theorem tDPop1_r {td ty : TE} {σ : L2.St} {H : Hp} {Q : VK} : tDPop1 td ty σ H Q = td σ H fun x H1 => popR x H1 (fun H R => ty σ H R) Q := rfl
def metR (C : Addr) (m : Str) (x : V) (H : Hp) (R : Prop) : Prop := ∃ a dx fs, x = .ref a ∧ H a = some (.ins C dx fs) ∧ fs.lookup m = none ∧ R
theorem metR.mk {C a dx : Addr} {fs : List (Str × V)} {m : Str} {H : Hp} {R : Prop} (h : H a = some (.ins C dx fs)) (l : fs.lookup m = none) (k : R) : metR C m (.ref a) H R := ⟨a, dx, fs, rfl, h, l, k⟩
theorem tMethF_r {C : Addr} {m : Str} {sp : Sp} {E : L2.St → XK} {ta : TE} {t : TA} {σ : L2.St} {H : Hp} {Q : VK} : tMethF C m sp E ta t σ H Q = ta σ H fun x H1 => metR C m x H1 (t σ H1 fun vs H2 => sp (x :: vs) H2 Q (E σ)) := rfl
theorem cxOf_K {CX : CXT} {P : Program} {w : World} {K : PySem.W.Frag} {mg : Str → Option Value} {base : Heap} {N : List Str} {q : Str} {sc : Scope} {f : Addr} {cd : Value} {A : Around} {o : List Env} {s : Shared} {H : Hp} {E : XK} : (cxOf CX P w K mg base N q sc f cd A o s H E).K = K := rfl
theorem ixL_mk {K : PySem.W.Frag} {p : Addr} {xs : List V} {i : Int} {v : V} {H : Hp} {Q : VK} (h : SqL K H p xs) (e : atI xs i = some v) (q : Q v H) : rIxL K (.ref p) (.int i) H Q := ⟨p, xs, i, v, rfl, rfl, h, e, q⟩
theorem ixT_mk {K : PySem.W.Frag} {p : Addr} {xs : List V} {i : Int} {v : V} {H : Hp} {Q : VK} (h : SqT K H p xs) (e : atI xs i = some v) (q : Q v H) : rIxT K (.ref p) (.int i) H Q := ⟨p, xs, i, v, rfl, rfl, h, e, q⟩
/-- the number, the coming of a thing -/
theorem ixT0 {K : PySem.W.Frag} {p : Addr} {n c : Int} {H : Hp} {Q : VK} (h : H p = some (.tup [.int n, .int c])) (q : Q (.int n) H) : rIxT K (.ref p) (.int 0) H Q := ixT_mk (SqT.of h) rfl q
theorem ixT1 {K : PySem.W.Frag} {p : Addr} {n c : Int} {H : Hp} {Q : VK} (h : H p = some (.tup [.int n, .int c])) (q : Q (.int c) H) : rIxT K (.ref p) (.int 1) H Q := ixT_mk (SqT.of h) rfl q

theorem ixN_of {n j : Nat} (hj : j < n) : ixN n (j : Int) = some j := by
  unfold ixN
  rw [if_pos (by omega), if_pos (by omega)]
  simp
theorem half_up {k : Nat} (h : 0 < k) : ((k : Int) - 1) / 2 = (((k - 1) / 2 : Nat) : Int) := by omega
/-- a while by its word and a number that falls, in steps -/
theorem while_mk {c : TT} {tb : TS} {D : Ends} {σ : L2.St} {H : Hp} (W : Nat → L2.St → Hp → Prop) (m : Nat) (h0 : W m σ H)
    (hs : ∀ m σ H, W m σ H → c σ H fun b H1 => if b = true then tb { D with nx := fun σ' H' => ∃ m', m' < m ∧ W m' σ' H', ct := fun σ' H' => ∃ m', m' < m ∧ W m' σ' H', bk := D.nx } σ H1 else D.nx σ H1)
    (mono : ∀ σ H Q Q', (∀ b H1, Q b H1 → Q' b H1) → c σ H Q → c σ H Q') : tWhile c tb D σ H := by
  refine ⟨W, ⟨m, h0⟩, fun m σ H w => ?_⟩
  refine mono σ H _ _ (fun b H1 q => ?_) (hs m σ H w)
  cases b with
  | true => exact ⟨_, fun σ' H' h => h, q⟩
  | false => exact q

/-! ### things as data: == of tuples of two ints, of lists of them -/
def tV (t : T) : HO := .tup [.int t.1, .int t.2]
def tD (t : T) : PyData := .tuple [.int t.1, .int t.2]
def lD (l : List T) : PyData := .list (l.map tD)
theorem eqv_tD (a b : T) : PyData.eqv (tD a) (tD b) = decide (a = b) := by
  show PyData.eqv (.tuple [.int a.1, .int a.2]) (.tuple [.int b.1, .int b.2]) = _
  simp only [PyData.eqv, PyData.eqvAll, Bool.and_true]
  by_cases e : a = b
  · subst e; simp
  · rw [decide_eq_false e]
    cases h : (a.1 == b.1 && a.2 == b.2) with
    | false => rfl
    | true =>
      rw [Bool.and_eq_true, beq_iff_eq, beq_iff_eq] at h
      exact absurd (Prod.ext h.1 h.2) e
theorem eqvAll_tD : ∀ a b : List T, PyData.eqvAll (a.map tD) (b.map tD) = decide (a = b)
  | [], [] => by simp [PyData.eqvAll]
  | [], _ :: _ => by simp [PyData.eqvAll]
  | _ :: _, [] => by simp [PyData.eqvAll]
  | x :: a, y :: b => by
    rw [List.map_cons, List.map_cons]
    simp only [PyData.eqvAll]
    rw [eqv_tD, eqvAll_tD a b]
    by_cases e : x = y
    · by_cases e2 : a = b <;> simp [e, e2]
    · simp [e]
theorem eqv_lD (a b : List T) : PyData.eqv (lD a) (lD b) = decide (a = b) := by
  unfold lD
  simp only [PyData.eqv]
  exact eqvAll_tD a b
theorem lay_tD (a : T) : PyData.canLay0 (tD a) = true := by
  show PyData.canLay0 (.tuple [.int a.1, .int a.2]) = true
  simp [PyData.canLay0, PyData.canLayAll0]
theorem depth_tD (a : T) : PyData.depth (tD a) ≤ 3 := by
  show PyData.depth (.tuple [.int a.1, .int a.2]) ≤ 3
  simp [PyData.depth, PyData.depthAll]
theorem shaped_tD (a : T) : SeqAt.shaped (tD a) = true := by
  unfold SeqAt.shaped
  rw [lay_tD, Bool.true_and, decide_eq_true_iff]
  have := depth_tD a
  omega
theorem lay_lD : ∀ l : List T, PyData.canLayAll0 (l.map tD) = true
  | [] => by simp [PyData.canLayAll0]
  | x :: l => by
    rw [List.map_cons]
    simp only [PyData.canLayAll0]
    rw [lay_tD, lay_lD l]
    rfl
theorem depthAll_lD : ∀ l : List T, PyData.depthAll (l.map tD) ≤ 3
  | [] => by simp [PyData.depthAll]
  | x :: l => by
    rw [List.map_cons]
    have h1 := depth_tD x
    have h2 := depthAll_lD l
    simp only [PyData.depthAll]
    omega
theorem shaped_lD (l : List T) : SeqAt.shaped (lD l) = true := by
  unfold SeqAt.shaped lD
  have h1 : PyData.canLay0 (.list (l.map tD)) = true := by
    simp only [PyData.canLay0]
    exact lay_lD l
  have h2 : PyData.depth (.list (l.map tD)) ≤ 64 := by
    have := depthAll_lD l
    simp only [PyData.depth]
    omega
  rw [h1, Bool.true_and, decide_eq_true_iff]
  exact h2
theorem dp_t {K : PySem.W.Frag} {H : Hp} {p : Addr} {t : T} (h : H p = some (tV t)) : Dp K H (.ref p) (tD t) := .tup (SqT.of h) (.cons (.int _) (.cons (.int _) .nil))
theorem dpAll_l {K : PySem.W.Frag} {H : Hp} : ∀ {es : List En}, (∀ e ∈ es, H e.1 = some (tV e.2)) → DpAll K H (es.map fun e => V.ref e.1) ((es.map (·.2)).map tD)
  | [], _ => .nil
  | e :: es, h => .cons (dp_t (h e List.mem_cons_self)) (dpAll_l fun x hx => h x (List.mem_cons_of_mem _ hx))
theorem dp_l {K : PySem.W.Frag} {H : Hp} {a : Addr} {es : List En} (h : SqL K H a (es.map fun e => V.ref e.1)) (ht : ∀ e ∈ es, H e.1 = some (tV e.2)) : Dp K H (.ref a) (lD (es.map (·.2))) := .lst h (dpAll_l ht)
theorem dp_nil {K : PySem.W.Frag} {H : Hp} {a : Addr} (h : SqL K H a []) : Dp K H (.ref a) (lD []) := .lst h .nil
theorem eqD_l {K : PySem.W.Frag} {H : Hp} {x y : V} {l1 l2 : List T} {Q : VK} (hx : Dp K H x (lD l1)) (hy : Dp K H y (lD l2)) (q : Q (.bl (decide (l1 = l2))) H) : rEqD K x y H Q := ⟨_, _, hx, hy, shaped_lD _, shaped_lD _, by rw [eqv_lD]; exact q⟩
theorem neD_l {K : PySem.W.Frag} {H : Hp} {x y : V} {l1 l2 : List T} {Q : VK} (hx : Dp K H x (lD l1)) (hy : Dp K H y (lD l2)) (q : Q (.bl (!decide (l1 = l2))) H) : rNeD K x y H Q := ⟨_, _, hx, hy, shaped_lD _, shaped_lD _, by rw [eqv_lD]; exact q⟩
theorem eqD_t {K : PySem.W.Frag} {H : Hp} {x y : V} {a b : T} {Q : VK} (hx : Dp K H x (tD a)) (hy : Dp K H y (tD b)) (q : Q (.bl (decide (a = b))) H) : rEqD K x y H Q := ⟨_, _, hx, hy, shaped_tD _, shaped_tD _, by rw [eqv_tD]; exact q⟩
theorem neD_t {K : PySem.W.Frag} {H : Hp} {x y : V} {a b : T} {Q : VK} (hx : Dp K H x (tD a)) (hy : Dp K H y (tD b)) (q : Q (.bl (!decide (a = b))) H) : rNeD K x y H Q := ⟨_, _, hx, hy, shaped_tD _, shaped_tD _, by rw [eqv_tD]; exact q⟩

/-! ### facts of the top -/
open He in
/-- more facts, by names -/
inductive Fb where
  | kit (x y : Str) (b : Bool)
  | kitT (x : Str) (n : String) (b : Bool)
  | kitL (x : Str) (ys : List Str) (b : Bool)
  | inh (x y m : Str)
  | exc (x : Str)
  | ins (x : Str)
def clsB (K : PySem.W.Frag) (D : Addr) : Bool := decide (PySem.W.findIn K (.ref D) "__class__" = some (some (.builtin "object.__class__"))) && (decide (PySem.W.specialIn K (.builtin "object.__class__") "__get__" = some (some (.builtin "getset_descriptor.__get__"))) &&
  (decide (PySem.W.takesIn K (.builtin "object.__class__") = some true) && decide (PySem.W.mroIn K D (.type "object") = some true)))
def excB (K : PySem.W.Frag) (D : Addr) : Bool := decide (PySem.W.findIn K (.ref D) "__getattribute__" = some (some (.builtin "BaseException.__getattribute__"))) && (decide (PySem.W.findIn K (.ref D) "__getattr__" = some none) &&
  (decide (PySem.W.subIn K (.ref D) (.type "BaseException") = some true) && (PySem.W.hasDictIn K D && clsB K D)))
open He in
def Fb.ok (K : PySem.W.Frag) : Fb → Bool
  | .kit x y b => decide (PySem.W.kitOne K (.ref (ga K x)) (.ref (ga K y)) = some b)
  | .kitT x n b => decide (PySem.W.kitOne K (.ref (ga K x)) (.type n) = some b)
  | .kitL x ys b => decide (PySem.W.kitAny K (.ref (ga K x)) (ys.map fun y => Value.ref (ga K y)) = some b)
  | .inh x y m => decide (ma K (ga K x) m = ma K (ga K y) m)
  | .exc x => excB K (ga K x)
  | .ins x => clsB K (ga K x)
theorem ba2 {a b : Bool} (h : (a && b) = true) : a = true ∧ b = true := Bool.and_eq_true_iff.mp h
structure InsC (K : PySem.W.Frag) (D : Addr) : Prop where
  ha : PySem.W.findIn K (.ref D) "__class__" = some (some (.builtin "object.__class__"))
  hn : PySem.W.specialIn K (.builtin "object.__class__") "__get__" = some (some (.builtin "getset_descriptor.__get__"))
  ht : PySem.W.takesIn K (.builtin "object.__class__") = some true
  hm : PySem.W.mroIn K D (.type "object") = some true
theorem clsB_ok {K : PySem.W.Frag} {D : Addr} (h : clsB K D = true) : InsC K D := by
  obtain ⟨h1, h⟩ := ba2 h
  obtain ⟨h2, h⟩ := ba2 h
  obtain ⟨h3, h4⟩ := ba2 h
  exact ⟨of_decide_eq_true h1, of_decide_eq_true h2, of_decide_eq_true h3, of_decide_eq_true h4⟩
theorem excB_ok {K : PySem.W.Frag} {D : Addr} (h : excB K D = true) : ExcC K D := by
  obtain ⟨h1, h⟩ := ba2 h
  obtain ⟨h2, h⟩ := ba2 h
  obtain ⟨h3, h⟩ := ba2 h
  obtain ⟨h4, h5⟩ := ba2 h
  have c := clsB_ok h5
  exact ⟨of_decide_eq_true h1, of_decide_eq_true h2, of_decide_eq_true h3, h4, c.ha, c.hn, c.ht, c.hm⟩
theorem TyOf.of {K : PySem.W.Frag} {H : Hp} {a C dx : Addr} {fs : List (Str × V)} (c : InsC K C) (cl : Cls K C) (e : H a = some (.ins C dx fs)) : TyOf K H (.ref a) (.ref C) := .ins e cl c.ha c.hn c.ht c.hm

open He in
abbrev AlM : Type := AlD × Bool
open He in
def obsM (fa : List Fa) (fn : List DefD) (fb : List Fb) (K : PySem.W.Frag) : AlM := (obsD fa fn K, fb.all fun f => f.ok K)
open He in
def valM (fn : List DefD) : AlM := (valD fn, true)
open He in
def SaysM (fa : List Fa) (fn : List DefD) (fb : List Fb) (K : PySem.W.Frag) : Prop := obsM fa fn fb K = valM fn
open He in
def obsMG (n : Nat) (fa : List Fa) (fn : List DefD) (fb : List Fb) (g : Addr → Option Obj) : AlM := obsM fa fn fb (frG g (asD g n))
open He in
def hookM (n : Nat) (fa : List Fa) (fn : List DefD) (fb : List Fb) : PySem.W.Hook where
  α := AlM
  obs := fun s => obsMG n fa fn fb s.heap.get?
  val := fun _ => valM fn
  says := fun _ h => ∃ K : PySem.W.Frag, K.In h ∧ SaysM fa fn fb K
  of := fun _ _ e => ⟨_, frG_in, e⟩
  keeps := fun _ _ _ ⟨K, hK, c⟩ k => ⟨K, PySem.W.Frag.In.keeps hK k, c⟩
open He in
theorem obsMG_eq {n : Nat} {fa : List Fa} {fn : List DefD} {fb : List Fb} {g : Addr → Option Obj} {s : Shared} (h : ∀ a, g a = s.heap.get? a) : obsMG n fa fn fb g = (hookM n fa fn fb).obs s := by
  have e : g = s.heap.get? := funext h
  rw [e] <;> rfl
section
open He
variable {fa : List Fa} {fn : List DefD} {fb : List Fb} {K : PySem.W.Frag}
theorem SaysM.d (c : SaysM fa fn fb K) : SaysD fa fn K := congrArg (fun z : AlM => z.1) c
theorem SaysM.more (c : SaysM fa fn fb K) (i : Nat) {f : Fb} (h : fb[i]? = some f := by rfl) : f.ok K = true := by
  have e : (fb.all fun f => f.ok K) = true := congrArg (fun z : AlM => z.2) c
  exact List.all_eq_true.mp e f (List.mem_of_getElem? h)
/-- a class's method that another class has by inheritance -/
theorem inh_ok {x y m : Str} (c : (Fa.meth x m).ok K = true) (e : (Fb.inh x y m).ok K = true) : Meth K (ga K x) m (ma K (ga K y) m) := by
  have e2 : ma K (ga K x) m = ma K (ga K y) m := of_decide_eq_true e
  have r := meth_ok c
  rw [e2] at r
  exact r
end
/-- a def of the text by its datum -/
abbrev FnP (K : PySem.W.Frag) (x qual : Str) (st : Stmt) (f : Addr) (fd : FuncData) : Prop := FunD K x qual (defArgs st) (defBody st) (defScope st) [] [] f fd
section
variable {P : Program} {w : World} {K : PySem.W.Frag} {mg : Str → Option Value} {base : Heap}
/-- THE RULE for a def without defaults that lets nothing out of its own -/
theorem fn_ok {x qual : Str} {st : Stmt} {f : Addr} {fd : FuncData} {N ps : List Str} {k : Nat} {sp : Sp} (F : FnP K x qual st f fd) (S : FnScope N ps (defScope st)) (len : ∀ vs H Q E, sp vs H Q E → vs.length = ps.length)
    (hb : ∀ (kV doc pm : Value) (an : Option Addr) (cdv ct : Value) (us : List Value), us.length = ps.length → bindArgs (PySem.W.fnOf x qual (defArgs st) (defBody st) (defScope st) .none kV doc pm an cdv ct) ⟨us, []⟩ = pure (ps.zip us))
    (hbody : ∀ (cdv : Value) (A : Around) (outer : List Env) (s : Shared) (H : Hp) (vs : List V) (Q : VK) (E : XK), Room k (A.deeper (envOfC qual (defScope st) s.heap.objs.size f cdv)) → sp vs H Q E →
      ∃ t, PSs (cxOf (L2.CX P w) P w K mg base N qual (defScope st) f cdv A outer s H E).nox (defBody st) t ∧ t { nx := fun _ H' => Q .non H', rt := Q } (start N vs) H) : Fn P w K mg base (k + 1) f ps sp :=
  ⟨⟨fd, F.ok S len fun cdv A outer s H vs Q E hr hsp => by
    obtain ⟨t, h, q⟩ := hbody cdv A outer s H vs Q E hr hsp
    exact ⟨t, h.nox, q⟩, F.bindsN hb⟩, F.kp⟩
/-- the law's own def -/
theorem fn_ok0 {x qual : Str} {st : Stmt} {f : Addr} {fd : FuncData} {N ps : List Str} {k : Nat} {sp : Sp} (F : FnP K x qual st f fd) (S : FnScope N ps (defScope st)) (len : ∀ vs H Q E, sp vs H Q E → vs.length = ps.length)
    (hbody : ∀ (cdv : Value) (A : Around) (outer : List Env) (s : Shared) (H : Hp) (vs : List V) (Q : VK) (E : XK), Room k (A.deeper (envOfC qual (defScope st) s.heap.objs.size f cdv)) → sp vs H Q E →
      ∃ t, PSs (cxOf CX0 P w K mg base N qual (defScope st) f cdv A outer s H E).nox (defBody st) t ∧ t { nx := fun _ H' => Q .non H', rt := Q } (start N vs) H) : FnOk P w K mg base CX0 (k + 1) f fd ps sp :=
  F.ok S len fun cdv A outer s H vs Q E hr hsp => by
    obtain ⟨t, h, q⟩ := hbody cdv A outer s H vs Q E hr hsp
    exact ⟨t, h.nox, q⟩
/-- .. that may raise -/
theorem fn_okX {x qual : Str} {st : Stmt} {f : Addr} {fd : FuncData} {N ps : List Str} {k : Nat} {sp : Sp} (F : FnP K x qual st f fd) (S : FnScope N ps (defScope st)) (len : ∀ vs H Q E, sp vs H Q E → vs.length = ps.length)
    (hb : ∀ (kV doc pm : Value) (an : Option Addr) (cdv ct : Value) (us : List Value), us.length = ps.length → bindArgs (PySem.W.fnOf x qual (defArgs st) (defBody st) (defScope st) .none kV doc pm an cdv ct) ⟨us, []⟩ = pure (ps.zip us))
    (hbody : ∀ (cdv : Value) (A : Around) (outer : List Env) (s : Shared) (H : Hp) (vs : List V) (Q : VK) (E : XK), Room k (A.deeper (envOfC qual (defScope st) s.heap.objs.size f cdv)) → sp vs H Q E →
      ∃ t, PSs (cxOf (L2.CX P w) P w K mg base N qual (defScope st) f cdv A outer s H E) (defBody st) t ∧ t { nx := fun _ H' => Q .non H', rt := Q } (start N vs) H) : Fn P w K mg base (k + 1) f ps sp :=
  ⟨⟨fd, F.ok S len hbody, F.bindsN hb⟩, F.kp⟩
end
end Mp

/-! sorted of things, isinstance of things, lists of ints. -/
namespace Mp
open PySem PySem.Spec PyProof.Rows L2
abbrev rf (es : List En) : List V := es.map fun e => V.ref e.1
abbrev vl (es : List En) : List T := es.map (·.2)
def Tup (H : Hp) (es : List En) : Prop := ∀ e ∈ es, H e.1 = some (tV e.2)
def kH (H : Hp) : V → Int × Int
  | .ref a => match H a with
    | some (.tup [.int x, .int y]) => (x, y)
    | _ => (0, 0)
  | _ => (0, 0)
theorem kH_of {H : Hp} {e : En} (h : H e.1 = some (tV e.2)) : kH H (.ref e.1) = e.2 := by
  unfold kH
  simp only [h, tV]
def bk (H : Hp) : V → En
  | .ref a => (a, kH H (.ref a))
  | _ => (0, (0, 0))
theorem bk_rf {H : Hp} {es : List En} (h : Tup H es) : (rf es).map (bk H) = es := by
  rw [List.map_map]
  conv => rhs; rw [← List.map_id es]
  refine List.map_congr_left fun e he => ?_
  show (e.1, kH H (.ref e.1)) = e
  rw [kH_of (h e he)]
theorem rf_perm {H : Hp} {es : List En} {ys : List V} (h : Tup H es) (p : ys.Perm (rf es)) : ∃ zs : List En, ys = rf zs ∧ zs.Perm es ∧ Tup H zs := by
  have p2 := p.map (bk H)
  rw [bk_rf h] at p2
  refine ⟨ys.map (bk H), ?_, p2, fun e he => h e (p2.mem_iff.mp he)⟩
  show ys = (ys.map (bk H)).map fun e => V.ref e.1
  rw [List.map_map]
  conv => lhs; rw [← List.map_id ys]
  refine List.map_congr_left fun y hy => ?_
  obtain ⟨e, he, q⟩ := List.mem_map.mp (p.mem_iff.mp hy)
  subst q
  rfl
def Asc (l : List T) : Prop := l.Pairwise fun x y => lt2 y x = false
theorem sorted_mk {K : PySem.W.Frag} {H : Hp} {a : Addr} {es : List En} {Q : VK} (h : SqL K H a (rf es)) (ht : Tup H es)
    (q : ∀ (zs : List En) (p : Addr), zs.Perm es → Tup H zs → Asc (vl zs) → H p = none → Q (.ref p) (upd H p (.lst (rf zs)))) : rSortedPO K [.ref a] H Q := by
  refine ⟨a, rf es, kH H, rfl, h, fun x hx => ?_, fun ys p hs hb hp => ?_⟩
  · obtain ⟨e, he, q⟩ := List.mem_map.mp hx
    subst q
    refine ⟨e.1, rfl, ?_⟩
    rw [kH_of (ht e he)]
    exact ht e he
  · obtain ⟨zs, rfl, pz, tz⟩ := rf_perm ht hb.perm
    refine q zs p pz tz ?_ hp
    have hs : (zs.map fun e => V.ref e.1).Pairwise fun x y => SrtO.lexB (kH H y) (kH H x) = false := hs
    rw [List.pairwise_map] at hs
    show (zs.map (·.2)).Pairwise _
    rw [List.pairwise_map]
    refine List.Pairwise.imp_of_mem (fun {x y} hx hy r => ?_) hs
    rw [kH_of (tz x hx), kH_of (tz y hy)] at r
    exact r
theorem asc_eq {l m : List T} (hl : Asc l) (hm : Asc m) (p : l.Perm m) : l = m :=
  List.Perm.eq_of_pairwise (le := fun x y => lt2 y x = false) (fun a b _ _ h1 h2 => lt2_tri h2 h1) hl hm p

/-! ### isinstance -/
theorem isi_mk {K : PySem.W.Frag} {x : V} {n t : String} {r : Bool} {H : Hp} {Q : VK} (hx : TyX K H x (.type t)) (hk : kitB t n = some r) (q : Q (.bl r) H) : rIsi K [x, .ty n] H Q := ⟨_, _, _, _, _, rfl, .ty _, hx, kit_ty hk, q⟩
theorem isi_tup {K : PySem.W.Frag} {a : Addr} {xs : List V} {H : Hp} {Q : VK} (h : H a = some (.tup xs)) (q : Q (.bl true) H) : rIsi K [.ref a, .ty "tuple"] H Q := isi_mk (.base (.tup h)) (by decide +kernel) q
theorem isi_lst {K : PySem.W.Frag} {a : Addr} {xs : List V} {H : Hp} {Q : VK} (h : H a = some (.lst xs)) (q : Q (.bl true) H) : rIsi K [.ref a, .ty "list"] H Q := isi_mk (.base (.lst h)) (by decide +kernel) q

/-! ### lists of ints against [] -/
theorem lay_ints : ∀ l : List Int, PyData.canLayAll0 (l.map PyData.int) = true
  | [] => by simp [PyData.canLayAll0]
  | x :: l => by
    rw [List.map_cons]
    simp only [PyData.canLayAll0, PyData.canLay0]
    rw [lay_ints l]
    rfl
theorem depth_ints : ∀ l : List Int, PyData.depthAll (l.map PyData.int) ≤ 1
  | [] => by simp [PyData.depthAll]
  | x :: l => by
    rw [List.map_cons]
    have h2 := depth_ints l
    simp only [PyData.depthAll, PyData.depth]
    omega
theorem shaped_ints (l : List Int) : SeqAt.shaped (.list (l.map PyData.int)) = true := by
  unfold SeqAt.shaped
  have h1 : PyData.canLay0 (.list (l.map PyData.int)) = true := by
    simp only [PyData.canLay0]
    exact lay_ints l
  have h2 : PyData.depth (.list (l.map PyData.int)) ≤ 64 := by
    have := depth_ints l
    simp only [PyData.depth]
    omega
  rw [h1, Bool.true_and, decide_eq_true_iff]
  exact h2
theorem dp_ints {K : PySem.W.Frag} {H : Hp} {a : Addr} {l : List Int} (h : SqL K H a (l.map V.int)) : Dp K H (.ref a) (.list (l.map PyData.int)) := by
  refine .lst h ?_
  induction l generalizing a with
  | nil => exact .nil
  | cons x l ih => exact .cons (.int x) (all l)
where
  all {K : PySem.W.Frag} {H : Hp} : ∀ l : List Int, DpAll K H (l.map V.int) (l.map PyData.int)
    | [] => .nil
    | x :: l => .cons (.int x) (all l)
theorem eqv_ints_nil (l : List Int) : PyData.eqv (.list (l.map PyData.int)) (.list []) = decide (l = []) := by
  cases l with
  | nil => simp [PyData.eqv, PyData.eqvAll]
  | cons x l => simp [PyData.eqv, PyData.eqvAll]
theorem shaped_nil : SeqAt.shaped (.list []) = true := shaped_ints []
theorem neD_ints_nil {K : PySem.W.Frag} {H : Hp} {a b : Addr} {l : List Int} {Q : VK} (h : SqL K H a (l.map V.int)) (h2 : SqL K H b []) (q : Q (.bl (!decide (l = []))) H) : rNeD K (.ref a) (.ref b) H Q :=
  ⟨_, _, dp_ints h, .lst h2 .nil, shaped_ints l, shaped_nil, by rw [eqv_ints_nil]; exact q⟩
theorem eqD_ints_nil {K : PySem.W.Frag} {H : Hp} {a b : Addr} {l : List Int} {Q : VK} (h : SqL K H a (l.map V.int)) (h2 : SqL K H b []) (q : Q (.bl (decide (l = []))) H) : rEqD K (.ref a) (.ref b) H Q :=
  ⟨_, _, dp_ints h, .lst h2 .nil, shaped_ints l, shaped_nil, by rw [eqv_ints_nil]; exact q⟩
theorem dp_rf {K : PySem.W.Frag} {H : Hp} {a : Addr} {es : List En} (h : H a = some (.lst (rf es))) (ht : Tup H es) : Dp K H (.ref a) (lD (vl es)) := dp_l (SqL.of h) ht

/-! ### frames -/
theorem sql_same {K : PySem.W.Frag} {H H' : Hp} {a : Addr} {xs : List V} (e : Same H H') (h : SqL K H a xs) : SqL K H' a xs := by
  rcases h with (h | ⟨o, h⟩) | h
  · exact .inl (.inl (e _ _ h))
  · exact .inl (.inr ⟨o, e _ _ h⟩)
  · exact .inr h

/-- nothing but what stands at P has changed -/
def Fr (P : List Addr) (H H' : Hp) : Prop := ∀ b o, H b = some o → b ∉ P → H' b = some o
theorem none_back {H H' : Hp} {a : Addr} (s : Same H H') (h : H' a = none) : H a = none := by
  cases e : H a with
  | none => rfl
  | some o => rw [s _ _ e] at h; cases h
theorem Fr.refl (P : List Addr) (H : Hp) : Fr P H H := fun _ _ e _ => e
theorem Fr.trans {P : List Addr} {H H1 H2 : Hp} (x : Fr P H H1) (y : Fr P H1 H2) : Fr P H H2 := fun b o e h => y b o (x b o e h) h
theorem Fr.mono {P P' : List Addr} {H H' : Hp} (x : Fr P H H') (h : ∀ b ∈ P, b ∈ P') : Fr P' H H' := fun b o e n => x b o e fun z => n (h b z)
theorem Fr.of_same {P : List Addr} {H H' : Hp} (x : Same H H') : Fr P H H' := fun b o e _ => x b o e
theorem fr_upd {P : List Addr} {H : Hp} {a : Addr} {o : HO} (h : a ∈ P) : Fr P H (upd H a o) := fun b u e n => by
  rw [upd_ne (fun z => n (by rw [z]; exact h))]
  exact e
theorem fr_new {P : List Addr} {H : Hp} {a : Addr} {o : HO} (h : H a = none) : Fr P H (upd H a o) := Fr.of_same (same_new h)
/-- a list of the start, by what has changed since -/
theorem sql_fr {K : PySem.W.Frag} {P : List Addr} {H H' : Hp} {a : Addr} {xs : List V} (n : ∀ b ∈ P, H b = none) (e : Fr P H H') (h : SqL K H a xs) : SqL K H' a xs := by
  rcases h with (h | ⟨o, h⟩) | h
  · exact .inl (.inl (e _ _ h fun z => by rw [n _ z] at h; cases h))
  · exact .inl (.inr ⟨o, e _ _ h fun z => by rw [n _ z] at h; cases h⟩)
  · exact .inr h
theorem Tup.fr {P : List Addr} {H H' : Hp} {es : List En} (h : Tup H es) (f : Fr P H H') (hP : ∀ e ∈ es, e.1 ∉ P) : Tup H' es := fun e he => f _ _ (h e he) (hP e he)
theorem Tup.same {H H' : Hp} {es : List En} (h : Tup H es) (f : Same H H') : Tup H' es := fun e he => f _ _ (h e he)
end Mp
namespace Mp
open PySem PySem.Spec PyProof.Rows L2
theorem cut_ints (ns : List Int) (lo hi : Option Int) : ∃ cs : List Int, cutV (ns.map V.int) lo hi = cs.map V.int ∧ cs.length ≤ ns.length := by
  unfold cutV
  refine ⟨(ns.drop (HT.sIx (ns.map V.int).length 0 lo)).take (HT.sIx (ns.map V.int).length (ns.map V.int).length hi - HT.sIx (ns.map V.int).length 0 lo), ?_, ?_⟩
  · rw [List.map_take, List.map_drop]
  · rw [List.length_take, List.length_drop]
    omega
theorem seqIx {i n : Nat} (h : i < n) : seqIndex? (i : Int) n = some i := by
  unfold seqIndex?
  have h1 : ¬ ((i : Int) < 0) := by omega
  have h2 : (decide ((0 : Int) ≤ (i : Int)) && decide ((i : Int) < (n : Int))) = true := by
    rw [Bool.and_eq_true, decide_eq_true_iff, decide_eq_true_iff]
    omega
  simp only [if_neg h1, h2, if_true, Int.toNat_natCast]
theorem map_erase {α β : Type} (f : α → β) : ∀ (l : List α) (i : Nat), (l.map f).eraseIdx i = (l.eraseIdx i).map f
  | [], i => by simp
  | x :: l, 0 => by simp
  | x :: l, i + 1 => by rw [List.map_cons, List.eraseIdx_cons_succ, List.eraseIdx_cons_succ, List.map_cons, map_erase f l i]
/-- places apart, both ways -/
theorem nod2 {l : List Addr} (h : l.Nodup) : l.Pairwise fun a b => ¬ a = b ∧ ¬ b = a := List.Pairwise.imp (fun z => ⟨z, fun e => z e.symm⟩) h
theorem rf_snoc (es : List En) (x : En) : rf es ++ [V.ref x.1] = rf (es ++ [x]) := by
  show es.map (fun e => V.ref e.1) ++ [V.ref x.1] = (es ++ [x]).map fun e => V.ref e.1
  rw [List.map_append]
  rfl
theorem perm_erase {α : Type} {l : List α} {i : Nat} {x : α} (h : l[i]? = some x) : l.Perm (x :: l.eraseIdx i) := by
  induction l generalizing i with
  | nil => simp at h
  | cons y l ih =>
    cases i with
    | zero =>
      simp at h
      subst h
      exact List.Perm.refl _
    | succ i =>
      simp at h
      rw [List.eraseIdx_cons_succ]
      exact ((ih h).cons y).trans (List.Perm.swap x y _)
/-! ### loops, with the iterable read first -/
def foR (J : It) (g : TG) (tb : TS) (D : Ends) (σ : L2.St) (H1 : Hp) : Prop := ∃ W : Nat → Nat → L2.St → Hp → Prop, (∃ m, W 0 m σ H1) ∧ ∀ i m σ H, W i m σ H →
  (J.stop i H ∧ D.nx σ H) ∨ (J.go i H ∧ ∃ N : L2.St → Hp → Prop, (∀ σ' H', N σ' H' → ∃ m', m' < m ∧ W (i + 1) m' σ' H') ∧ ∀ x H', J.yld i H x H' → g x σ H' fun σ2 H2 => tb { D with nx := N, ct := N, bk := D.nx } σ2 H2)
def enR (K : PySem.W.Frag) (vs : List V) (H : Hp) (g : TG) (tb : TS) (D : Ends) (σ : L2.St) : Prop := ∃ a xs, vs = [.ref a] ∧ SqL K H a xs ∧ foR (Ite K a) g tb D σ H
def ziR (K : PySem.W.Frag) (vs : List V) (H : Hp) (g : TG) (tb : TS) (D : Ends) (σ : L2.St) : Prop := ∃ a b xs ys, vs = [.ref a, .ref b] ∧ SqL K H a xs ∧ SqL K H b ys ∧ foR (Itz K a b) g tb D σ H
def liR (K : PySem.W.Frag) (x : V) (H : Hp) (g : TG) (tb : TS) (D : Ends) (σ : L2.St) : Prop := ∃ a, x = .ref a ∧ (∃ xs, SqL K H a xs) ∧ foR (Itl K a) g tb D σ H
def r1R (vs : List V) (H : Hp) (g : TG) (tb : TS) (D : Ends) (σ : L2.St) : Prop := ∃ j : Int, vs = [.int j] ∧ -(2 ^ 62) ≤ j ∧ j < 2 ^ 62 ∧ foR (Itr 0 j.toNat) g tb D σ H
theorem tFor_enum {K : PySem.W.Frag} {ta : TA} {g : TG} {tb : TS} {D : Ends} {σ : L2.St} {H : Hp} : tFor (iEnum K ta) g tb D σ H = ta σ H fun vs H1 => enR K vs H1 g tb D σ := rfl
theorem tFor_zip {K : PySem.W.Frag} {ta : TA} {g : TG} {tb : TS} {D : Ends} {σ : L2.St} {H : Hp} : tFor (iZip K ta) g tb D σ H = ta σ H fun vs H1 => ziR K vs H1 g tb D σ := rfl
theorem tFor_list {K : PySem.W.Frag} {tl : TE} {g : TG} {tb : TS} {D : Ends} {σ : L2.St} {H : Hp} : tFor (iList K tl) g tb D σ H = tl σ H fun x H1 => liR K x H1 g tb D σ := rfl
theorem tFor_r1 {ta : TA} {g : TG} {tb : TS} {D : Ends} {σ : L2.St} {H : Hp} : tFor (iRng1 ta) g tb D σ H = ta σ H fun vs H1 => r1R vs H1 g tb D σ := rfl
theorem enR.mk {K : PySem.W.Frag} {a : Addr} {xs : List V} {H : Hp} {g : TG} {tb : TS} {D : Ends} {σ : L2.St} (h : SqL K H a xs) (Pv : Nat → L2.St → Hp → Prop) (h0 : Pv 0 σ H) (hl : ∀ i σ H, i ≤ xs.length → Pv i σ H → SqL K H a xs)
    (hs : ∀ i x σ H Tt, i < xs.length → xs[i]? = some x → Pv i σ H → H Tt = none → g (.ref Tt) σ (upd H Tt (.tup [.int (i : Nat), x])) fun σ2 H2 => tb { D with nx := Pv (i + 1), ct := Pv (i + 1), bk := D.nx } σ2 H2) (hd : ∀ σ H, Pv xs.length σ H → D.nx σ H) : enR K [.ref a] H g tb D σ :=
  ⟨a, xs, rfl, h, for_it (walk_enum (xs := xs)) Pv h0 hl (fun i v σ H4 H5 hi p ⟨Tt, x1, x2, e, hT, e5, e1, e2⟩ => by
    subst e e5
    cases e1
    exact hs i x2 σ H4 Tt hi e2 p hT) hd⟩
theorem liR.mk {K : PySem.W.Frag} {a : Addr} {xs : List V} {H : Hp} {g : TG} {tb : TS} {D : Ends} {σ : L2.St} (h : SqL K H a xs) (Pv : Nat → L2.St → Hp → Prop) (h0 : Pv 0 σ H) (hl : ∀ i σ H, i ≤ xs.length → Pv i σ H → SqL K H a xs)
    (hs : ∀ i x σ H, xs[i]? = some x → Pv i σ H → g x σ H fun σ2 H2 => tb { D with nx := Pv (i + 1), ct := Pv (i + 1), bk := D.nx } σ2 H2) (hd : ∀ σ H, Pv xs.length σ H → D.nx σ H) : liR K (.ref a) H g tb D σ :=
  ⟨a, rfl, ⟨xs, h⟩, for_list (xs := xs) Pv h0 hl hs hd⟩
theorem r1R.mk {n : Nat} {H : Hp} {g : TG} {tb : TS} {D : Ends} {σ : L2.St} (hn : n < 1000000) (Pv : Nat → L2.St → Hp → Prop) (h0 : Pv 0 σ H)
    (hs : ∀ i σ H, i < n → Pv i σ H → g (.int (i : Nat)) σ H fun σ2 H2 => tb { D with nx := Pv (i + 1), ct := Pv (i + 1), bk := D.nx } σ2 H2) (hd : ∀ σ H, Pv n σ H → D.nx σ H) : r1R [.int (n : Int)] H g tb D σ :=
  ⟨n, rfl, by omega, by omega, for_range (lo := 0) Pv h0 (fun i σ H hi p => by
    rw [Int.zero_add]
    exact hs i σ H hi p) hd⟩
/-- the two names of an enumerate -/
theorem gTup2 {K : PySem.W.Frag} {n i j : Nat} {Tt : Addr} {x y : V} {H : Hp} {σ : L2.St} {Q : L2.St → Hp → Prop} (h : H Tt = some (.tup [x, y])) (hn : n = 2) (q : Q ((σ.set i (some x)).set j (some y)) H) : gTup K n (gCons (gName i) (gCons (gName j) gNil)) (.ref Tt) σ H Q :=
  ⟨Tt, _, rfl, SqT.of h, hn.symm, _, _, rfl, _, _, rfl, rfl, q⟩
theorem bits_bl (n : Nat) : Builtin.Int.intBits ((n : Nat) : Int) = bl n := by
  unfold Builtin.Int.intBits bl
  rw [Int.natAbs_natCast]
  by_cases e : n = 0
  · subst e
    rfl
  · rw [if_neg e, if_neg]
    simp
    omega
theorem rNe_bl {i j : Bool} {H : Hp} {Q : VK} : rNe (.bl i) (.bl j) H Q = Q (.bl (!decide (i = j))) H := by
  unfold rNe
  rw [show decide (V.bl i = V.bl j) = decide (i = j) from by simp]
  simp [scal]
end Mp

/-! min, max of a list of things. -/
namespace Mp
open PySem PySem.Spec PyProof.Rows L2
theorem dlt_eq (a b : T) : (PySem.W.DatumOrd.lt a b) = lt2 a b := rfl
theorem toD_t (a : T) : PySem.W.Datum.toD a = tD a := rfl
theorem minF_ok : ∀ (es : List T) (x : T), (es.foldl (fun a y => if lt2 y a = true then y else a) x ∈ x :: es) ∧ ∀ y ∈ x :: es, lt2 y (es.foldl (fun a y => if lt2 y a = true then y else a) x) = false := by
  intro es
  induction es with
  | nil =>
    intro x
    exact ⟨List.mem_cons_self, fun y hy => by rw [List.mem_singleton.mp hy]; exact lt2_irr x⟩
  | cons z es ih =>
    intro x
    rw [List.foldl_cons]
    by_cases c : lt2 z x = true
    · rw [if_pos c]
      obtain ⟨h1, h2⟩ := ih z
      refine ⟨List.mem_cons_of_mem _ h1, fun y hy => ?_⟩
      rcases List.mem_cons.mp hy with rfl | hy
      · exact lt2_ntr (lt2_asym c) (h2 z List.mem_cons_self)
      · exact h2 y hy
    · rw [if_neg c]
      obtain ⟨h1, h2⟩ := ih x
      refine ⟨?_, fun y hy => ?_⟩
      · rcases List.mem_cons.mp h1 with e | e
        · rw [e]; exact List.mem_cons_self
        · exact List.mem_cons_of_mem _ (List.mem_cons_of_mem _ e)
      · rcases List.mem_cons.mp hy with rfl | hy
        · exact h2 y List.mem_cons_self
        · rcases List.mem_cons.mp hy with rfl | hy
          · exact lt2_ntr (by simpa using c) (h2 x List.mem_cons_self)
          · exact h2 y (List.mem_cons_of_mem _ hy)
theorem maxF_ok : ∀ (es : List T) (x : T), (es.foldl (fun a y => if lt2 a y = true then y else a) x ∈ x :: es) ∧ ∀ y ∈ x :: es, lt2 (es.foldl (fun a y => if lt2 a y = true then y else a) x) y = false := by
  intro es
  induction es with
  | nil =>
    intro x
    exact ⟨List.mem_cons_self, fun y hy => by rw [List.mem_singleton.mp hy]; exact lt2_irr x⟩
  | cons z es ih =>
    intro x
    rw [List.foldl_cons]
    by_cases c : lt2 x z = true
    · rw [if_pos c]
      obtain ⟨h1, h2⟩ := ih z
      refine ⟨List.mem_cons_of_mem _ h1, fun y hy => ?_⟩
      rcases List.mem_cons.mp hy with rfl | hy
      · exact lt2_ntr (h2 z List.mem_cons_self) (lt2_asym c)
      · exact h2 y hy
    · rw [if_neg c]
      obtain ⟨h1, h2⟩ := ih x
      refine ⟨?_, fun y hy => ?_⟩
      · rcases List.mem_cons.mp h1 with e | e
        · rw [e]; exact List.mem_cons_self
        · exact List.mem_cons_of_mem _ (List.mem_cons_of_mem _ e)
      · rcases List.mem_cons.mp hy with rfl | hy
        · exact h2 y List.mem_cons_self
        · rcases List.mem_cons.mp hy with rfl | hy
          · exact lt2_ntr (h2 x List.mem_cons_self) (by simpa using c)
          · exact h2 y (List.mem_cons_of_mem _ hy)
def rMinT (K : PySem.W.Frag) : List V → Hp → VK → Prop := fun vs H Q => ∃ (a : Addr) (es : List En), vs = [.ref a] ∧ SqL K H a (rf es) ∧ Tup H es ∧ es ≠ [] ∧ ∀ e ∈ es, (∀ y ∈ es, lt2 y.2 e.2 = false) → Q (.ref e.1) H
def rMaxT (K : PySem.W.Frag) : List V → Hp → VK → Prop := fun vs H Q => ∃ (a : Addr) (es : List En), vs = [.ref a] ∧ SqL K H a (rf es) ∧ Tup H es ∧ es ≠ [] ∧ ∀ e ∈ es, (∀ y ∈ es, lt2 e.2 y.2 = false) → Q (.ref e.1) H
section
variable {X : Cx}
theorem vals_at {vs : List V} {us : List Value} (r : Vals vs us) : ∀ {i : Nat} {u : Value}, us[i]? = some u → ∃ v, vs[i]? = some v ∧ RelV v u := by
  induction r with
  | nil => intro i u h; simp at h
  | cons h r ih =>
    intro i u e
    cases i with
    | zero =>
      simp at e
      subst e
      exact ⟨_, rfl, h⟩
    | succ i =>
      simp at e
      obtain ⟨v, h1, h2⟩ := ih e
      exact ⟨v, by simpa using h1, h2⟩
theorem cr_minT (hc : X.calm = true) (hu : X.A.units + 64 < cLine) : CallR X (.builtin "min") (rMinT X.K) := by
  intro pins s σ H vs us Q I r h
  obtain ⟨a, es, rfl, hs, ht, hne, q⟩ := h
  obtain ⟨its, rv, hl, _⟩ := I.list hs
  rw [Vals.ref1 r]
  cases es with
  | nil => exact absurd rfl hne
  | cons x es =>
    obtain ⟨as, ra⟩ := Dp.readsAll I ((vl (x :: es)).map tD) (rf (x :: es)) its (dpAll_l ht) rv
    refine PySem.W.min_list_datum (x := x.2) (xs := vl es) (I.ok.hd hc) hl.isList ⟨as, ra⟩ (Nat.lt_of_le_of_lt (by rw [Nat.add_assoc]; exact Nat.add_le_add_left (by decide) _) hu) fun i v h' tk hi hv hk => ?_
    obtain ⟨y, hy, ry⟩ := vals_at rv (i := i) (u := v) (by simpa using hi)
    obtain ⟨e, he, ey⟩ := List.mem_map.mp (mem_iff_get.mpr ⟨i, hy⟩)
    subst ey
    obtain ⟨as1, r1⟩ := Dp.reads I (tD e.2) (V.ref e.1) v (dp_t (ht e he)) ry
    obtain ⟨as2, r2⟩ := hv
    have eq := ((Reads.keeps hk r1).unique _ _ r2).1
    have e3 : e.2 = PySem.W.minOf x.2 (vl es) := by
      have z : tD e.2 = tD (PySem.W.minOf x.2 (vl es)) := eq
      have z2 := eqv_tD e.2 (PySem.W.minOf x.2 (vl es))
      rw [z, eqv_tD, decide_eq_true rfl] at z2
      exact of_decide_eq_true z2.symm
    obtain ⟨_, m2⟩ := minF_ok (vl es) x.2
    refine ⟨V.ref e.1, H, I.kept hk, ry, q e he fun y hy => ?_⟩
    rw [e3]
    exact m2 y.2 (by
      rcases List.mem_cons.mp hy with rfl | z
      · exact List.mem_cons_self
      · exact List.mem_cons_of_mem _ (List.mem_map.mpr ⟨y, z, rfl⟩))
theorem cr_maxT (hc : X.calm = true) (hu : X.A.units + 64 < cLine) : CallR X (.builtin "max") (rMaxT X.K) := by
  intro pins s σ H vs us Q I r h
  obtain ⟨a, es, rfl, hs, ht, hne, q⟩ := h
  obtain ⟨its, rv, hl, _⟩ := I.list hs
  rw [Vals.ref1 r]
  cases es with
  | nil => exact absurd rfl hne
  | cons x es =>
    obtain ⟨as, ra⟩ := Dp.readsAll I ((vl (x :: es)).map tD) (rf (x :: es)) its (dpAll_l ht) rv
    refine PySem.W.max_list_datum (x := x.2) (xs := vl es) (I.ok.hd hc) hl.isList ⟨as, ra⟩ (Nat.lt_of_le_of_lt (by rw [Nat.add_assoc]; exact Nat.add_le_add_left (by decide) _) hu) fun i v h' tk hi hv hk => ?_
    obtain ⟨y, hy, ry⟩ := vals_at rv (i := i) (u := v) (by simpa using hi)
    obtain ⟨e, he, ey⟩ := List.mem_map.mp (mem_iff_get.mpr ⟨i, hy⟩)
    subst ey
    obtain ⟨as1, r1⟩ := Dp.reads I (tD e.2) (V.ref e.1) v (dp_t (ht e he)) ry
    obtain ⟨as2, r2⟩ := hv
    have eq := ((Reads.keeps hk r1).unique _ _ r2).1
    have e3 : e.2 = PySem.W.maxOf x.2 (vl es) := by
      have z : tD e.2 = tD (PySem.W.maxOf x.2 (vl es)) := eq
      have z2 := eqv_tD e.2 (PySem.W.maxOf x.2 (vl es))
      rw [z, eqv_tD, decide_eq_true rfl] at z2
      exact of_decide_eq_true z2.symm
    obtain ⟨_, m2⟩ := maxF_ok (vl es) x.2
    refine ⟨V.ref e.1, H, I.kept hk, ry, q e he fun y hy => ?_⟩
    rw [e3]
    exact m2 y.2 (by
      rcases List.mem_cons.mp hy with rfl | z
      · exact List.mem_cons_self
      · exact List.mem_cons_of_mem _ (List.mem_map.mpr ⟨y, z, rfl⟩))
end
end Mp

/-! ### places, scopes and facts of the top -/
namespace Mp
open PySem PySem.Spec PyProof.Rows L2
def topAt (i : Nat) : Stmt := PySem.Challenge.pw_midpile_k02_put_in_a_pile.main.body.getD i (.Pass ⟨0, 0, 0, 0⟩)
abbrev s_Pile___init__ : Stmt := inClass (topAt 9) 0
abbrev N_Pile___init__ : List Str := ["self"]
abbrev P_Pile___init__ : List Str := ["self"]
theorem sc_Pile___init__ : FnScope N_Pile___init__ P_Pile___init__ (defScope s_Pile___init__) := ⟨rfl, rfl, rfl, by decide +kernel, rfl, by decide +kernel, by decide +kernel⟩
def d_Pile___init__ : He.DefD := ⟨("Pile", some "__init__"), "__init__", "Pile.__init__", defArgs s_Pile___init__, defBody s_Pile___init__, defScope s_Pile___init__, [], []⟩
abbrev s_Pile_ahead : Stmt := inClass (topAt 9) 1
abbrev N_Pile_ahead : List Str := ["self", "one", "other"]
abbrev P_Pile_ahead : List Str := ["self", "one", "other"]
theorem sc_Pile_ahead : FnScope N_Pile_ahead P_Pile_ahead (defScope s_Pile_ahead) := ⟨rfl, rfl, rfl, by decide +kernel, rfl, by decide +kernel, by decide +kernel⟩
def d_Pile_ahead : He.DefD := ⟨("Pile", some "ahead"), "ahead", "Pile.ahead", defArgs s_Pile_ahead, defBody s_Pile_ahead, defScope s_Pile_ahead, [], []⟩
abbrev s_Pile_many : Stmt := inClass (topAt 9) 2
abbrev N_Pile_many : List Str := ["self"]
abbrev P_Pile_many : List Str := ["self"]
theorem sc_Pile_many : FnScope N_Pile_many P_Pile_many (defScope s_Pile_many) := ⟨rfl, rfl, rfl, by decide +kernel, rfl, by decide +kernel, by decide +kernel⟩
def d_Pile_many : He.DefD := ⟨("Pile", some "many"), "many", "Pile.many", defArgs s_Pile_many, defBody s_Pile_many, defScope s_Pile_many, [], []⟩
abbrev s_Pile_told : Stmt := inClass (topAt 9) 3
abbrev N_Pile_told : List Str := ["self"]
abbrev P_Pile_told : List Str := ["self"]
theorem sc_Pile_told : FnScope N_Pile_told P_Pile_told (defScope s_Pile_told) := ⟨rfl, rfl, rfl, by decide +kernel, rfl, by decide +kernel, by decide +kernel⟩
def d_Pile_told : He.DefD := ⟨("Pile", some "told"), "told", "Pile.told", defArgs s_Pile_told, defBody s_Pile_told, defScope s_Pile_told, [], []⟩
abbrev s_Pile_weight : Stmt := inClass (topAt 9) 4
abbrev N_Pile_weight : List Str := ["self"]
abbrev P_Pile_weight : List Str := ["self"]
theorem sc_Pile_weight : FnScope N_Pile_weight P_Pile_weight (defScope s_Pile_weight) := ⟨rfl, rfl, rfl, by decide +kernel, rfl, by decide +kernel, by decide +kernel⟩
def d_Pile_weight : He.DefD := ⟨("Pile", some "weight"), "weight", "Pile.weight", defArgs s_Pile_weight, defBody s_Pile_weight, defScope s_Pile_weight, [], []⟩
abbrev s_Pile_top : Stmt := inClass (topAt 9) 5
abbrev N_Pile_top : List Str := ["self"]
abbrev P_Pile_top : List Str := ["self"]
theorem sc_Pile_top : FnScope N_Pile_top P_Pile_top (defScope s_Pile_top) := ⟨rfl, rfl, rfl, by decide +kernel, rfl, by decide +kernel, by decide +kernel⟩
def d_Pile_top : He.DefD := ⟨("Pile", some "top"), "top", "Pile.top", defArgs s_Pile_top, defBody s_Pile_top, defScope s_Pile_top, [], []⟩
abbrev s_Pile_lay : Stmt := inClass (topAt 9) 6
abbrev N_Pile_lay : List Str := ["self", "at", "thing"]
abbrev P_Pile_lay : List Str := ["self", "at", "thing"]
theorem sc_Pile_lay : FnScope N_Pile_lay P_Pile_lay (defScope s_Pile_lay) := ⟨rfl, rfl, rfl, by decide +kernel, rfl, by decide +kernel, by decide +kernel⟩
def d_Pile_lay : He.DefD := ⟨("Pile", some "lay"), "lay", "Pile.lay", defArgs s_Pile_lay, defBody s_Pile_lay, defScope s_Pile_lay, [], []⟩
abbrev s_Pile_rise : Stmt := inClass (topAt 9) 7
abbrev N_Pile_rise : List Str := ["self", "at", "thing"]
abbrev P_Pile_rise : List Str := ["self", "at"]
theorem sc_Pile_rise : FnScope N_Pile_rise P_Pile_rise (defScope s_Pile_rise) := ⟨rfl, rfl, rfl, by decide +kernel, rfl, by decide +kernel, by decide +kernel⟩
def d_Pile_rise : He.DefD := ⟨("Pile", some "rise"), "rise", "Pile.rise", defArgs s_Pile_rise, defBody s_Pile_rise, defScope s_Pile_rise, [], []⟩
abbrev s_Pile_put : Stmt := inClass (topAt 9) 9
abbrev N_Pile_put : List Str := ["self", "thing"]
abbrev P_Pile_put : List Str := ["self", "thing"]
theorem sc_Pile_put : FnScope N_Pile_put P_Pile_put (defScope s_Pile_put) := ⟨rfl, rfl, rfl, by decide +kernel, rfl, by decide +kernel, by decide +kernel⟩
def d_Pile_put : He.DefD := ⟨("Pile", some "put"), "put", "Pile.put", defArgs s_Pile_put, defBody s_Pile_put, defScope s_Pile_put, [], []⟩
abbrev s_Turned_ahead : Stmt := inClass (topAt 10) 0
abbrev N_Turned_ahead : List Str := ["self", "one", "other"]
abbrev P_Turned_ahead : List Str := ["self", "one", "other"]
theorem sc_Turned_ahead : FnScope N_Turned_ahead P_Turned_ahead (defScope s_Turned_ahead) := ⟨rfl, rfl, rfl, by decide +kernel, rfl, by decide +kernel, by decide +kernel⟩
def d_Turned_ahead : He.DefD := ⟨("Turned", some "ahead"), "ahead", "Turned.ahead", defArgs s_Turned_ahead, defBody s_Turned_ahead, defScope s_Turned_ahead, [], []⟩
abbrev s_law_at : Stmt := topAt 12
abbrev N_law_at : List Str := ["_law_script", "_law_k"]
abbrev P_law_at : List Str := ["_law_script", "_law_k"]
theorem sc_law_at : FnScope N_law_at P_law_at (defScope s_law_at) := ⟨rfl, rfl, rfl, by decide +kernel, rfl, by decide +kernel, by decide +kernel⟩
def d_law_at : He.DefD := ⟨("_law_at", none), "_law_at", "_law_at", defArgs s_law_at, defBody s_law_at, defScope s_law_at, [], []⟩
abbrev s_law_is : Stmt := topAt 13
abbrev N_law_is : List Str := ["_law_found", "_law_due"]
abbrev P_law_is : List Str := ["_law_found", "_law_due"]
theorem sc_law_is : FnScope N_law_is P_law_is (defScope s_law_is) := ⟨rfl, rfl, rfl, by decide +kernel, rfl, by decide +kernel, by decide +kernel⟩
def d_law_is : He.DefD := ⟨("_law_is", none), "_law_is", "_law_is", defArgs s_law_is, defBody s_law_is, defScope s_law_is, [], []⟩
abbrev s_law_number : Stmt := topAt 14
abbrev N_law_number : List Str := ["_law_load", "_law_rest"]
abbrev P_law_number : List Str := ["_law_load"]
theorem sc_law_number : FnScope N_law_number P_law_number (defScope s_law_number) := ⟨rfl, rfl, rfl, by decide +kernel, rfl, by decide +kernel, by decide +kernel⟩
def d_law_number : He.DefD := ⟨("_law_number", none), "_law_number", "_law_number", defArgs s_law_number, defBody s_law_number, defScope s_law_number, [], []⟩
abbrev s_law_thing : Stmt := topAt 15
abbrev N_law_thing : List Str := ["_law_found"]
abbrev P_law_thing : List Str := ["_law_found"]
theorem sc_law_thing : FnScope N_law_thing P_law_thing (defScope s_law_thing) := ⟨rfl, rfl, rfl, by decide +kernel, rfl, by decide +kernel, by decide +kernel⟩
def d_law_thing : He.DefD := ⟨("_law_thing", none), "_law_thing", "_law_thing", defArgs s_law_thing, defBody s_law_thing, defScope s_law_thing, [], []⟩
abbrev s_law_ahead : Stmt := topAt 16
abbrev N_law_ahead : List Str := ["_law_one", "_law_other", "_law_turned"]
abbrev P_law_ahead : List Str := ["_law_one", "_law_other", "_law_turned"]
theorem sc_law_ahead : FnScope N_law_ahead P_law_ahead (defScope s_law_ahead) := ⟨rfl, rfl, rfl, by decide +kernel, rfl, by decide +kernel, by decide +kernel⟩
def d_law_ahead : He.DefD := ⟨("_law_ahead", none), "_law_ahead", "_law_ahead", defArgs s_law_ahead, defBody s_law_ahead, defScope s_law_ahead, [], []⟩
abbrev s_law_form : Stmt := topAt 17
abbrev N_law_form : List Str := ["_law_told", "_law_turned", "_law_k"]
abbrev P_law_form : List Str := ["_law_told", "_law_turned"]
theorem sc_law_form : FnScope N_law_form P_law_form (defScope s_law_form) := ⟨rfl, rfl, rfl, by decide +kernel, rfl, by decide +kernel, by decide +kernel⟩
def d_law_form : He.DefD := ⟨("_law_form", none), "_law_form", "_law_form", defArgs s_law_form, defBody s_law_form, defScope s_law_form, [], []⟩
abbrev s_law_empty : Stmt := topAt 18
abbrev N_law_empty : List Str := ["_law_pile", "e", "_law_others"]
abbrev P_law_empty : List Str := ["_law_pile"]
theorem sc_law_empty : FnScope N_law_empty P_law_empty (defScope s_law_empty) := ⟨rfl, rfl, rfl, by decide +kernel, rfl, by decide +kernel, by decide +kernel⟩
def d_law_empty : He.DefD := ⟨("_law_empty", none), "_law_empty", "_law_empty", defArgs s_law_empty, defBody s_law_empty, defScope s_law_empty, [], []⟩
abbrev s_law_twice : Stmt := topAt 19
abbrev N_law_twice : List Str := ["_law_pile", "_law_thing_here", "e", "_law_others"]
abbrev P_law_twice : List Str := ["_law_pile", "_law_thing_here"]
theorem sc_law_twice : FnScope N_law_twice P_law_twice (defScope s_law_twice) := ⟨rfl, rfl, rfl, by decide +kernel, rfl, by decide +kernel, by decide +kernel⟩
def d_law_twice : He.DefD := ⟨("_law_twice", none), "_law_twice", "_law_twice", defArgs s_law_twice, defBody s_law_twice, defScope s_law_twice, [], []⟩
abbrev s_law_order : Stmt := topAt 20
abbrev N_law_order : List Str := ["_law_pile", "_law_one", "_law_other", "_law_turned", "_law_found"]
abbrev P_law_order : List Str := ["_law_pile", "_law_one", "_law_other", "_law_turned"]
theorem sc_law_order : FnScope N_law_order P_law_order (defScope s_law_order) := ⟨rfl, rfl, rfl, by decide +kernel, rfl, by decide +kernel, by decide +kernel⟩
def d_law_order : He.DefD := ⟨("_law_order", none), "_law_order", "_law_order", defArgs s_law_order, defBody s_law_order, defScope s_law_order, [], []⟩
abbrev s_law_look : Stmt := topAt 21
abbrev N_law_look : List Str := ["_law_pile", "_law_kept", "_law_turned", "_law_flip", "_law_best", "_law_told", "_law_copied", "_law_found", "_law_one"]
abbrev P_law_look : List Str := ["_law_pile", "_law_kept", "_law_turned", "_law_flip"]
theorem sc_law_look : FnScope N_law_look P_law_look (defScope s_law_look) := ⟨rfl, rfl, rfl, by decide +kernel, rfl, by decide +kernel, by decide +kernel⟩
def d_law_look : He.DefD := ⟨("_law_look", none), "_law_look", "_law_look", defArgs s_law_look, defBody s_law_look, defScope s_law_look, [], []⟩
abbrev s_law : Stmt := topAt 22
abbrev N_law : List Str := ["_law_script", "_law_turned", "_law_pile", "_law_base", "_law_step", "_law_kept", "_law_cell", "_law_thing_here", "_law_other"]
abbrev P_law : List Str := ["_law_script"]
theorem sc_law : FnScope N_law P_law (defScope s_law) := ⟨rfl, rfl, rfl, by decide +kernel, rfl, by decide +kernel, by decide +kernel⟩
def d_law : He.DefD := ⟨("law", none), "law", "law", defArgs s_law, defBody s_law, defScope s_law, [], []⟩
def fa : List He.Fa := [.glo "MidError", .glo "NoShare", .glo "NoThing", .glo "Empty", .glo "Twice", .glo "NoWidth", .glo "Pile", .glo "Turned", .glo "_law_at", .glo "_law_is", .glo "_law_number", .glo "_law_thing", .glo "_law_ahead", .glo "_law_form", .glo "_law_empty", .glo "_law_twice", .glo "_law_order", .glo "_law_look", .glo "law", .free "len", .free "list", .free "isinstance", .free "int", .free "bool", .free "tuple", .free "range", .free "ValueError", .free "min", .free "max", .free "sorted", .free "sum", .exc "MidError", .exc "NoShare", .exm "NoShare" "MidError" true, .exm "NoShare" "NoShare" true, .exc "NoThing", .exm "NoThing" "MidError" true, .exm "NoThing" "NoThing" true, .exc "Empty", .exm "Empty" "MidError" true, .exm "Empty" "Empty" true, .exc "Twice", .exm "Twice" "MidError" true, .exm "Twice" "Twice" true, .exc "NoWidth", .exm "NoWidth" "MidError" true, .exm "NoWidth" "NoWidth" true, .cls "Pile", .noat "Pile" "things", .noat "Pile" "where", .noat "Pile" "heavy", .mkr "Pile", .meth "Pile" "ahead", .meth "Pile" "many", .meth "Pile" "told", .meth "Pile" "weight", .meth "Pile" "top", .meth "Pile" "lay", .meth "Pile" "rise", .meth "Pile" "put", .cls "Turned", .noat "Turned" "things", .noat "Turned" "where", .noat "Turned" "heavy", .mkr "Turned", .meth "Turned" "ahead", .meth "Turned" "many", .meth "Turned" "told", .meth "Turned" "weight", .meth "Turned" "top", .meth "Turned" "lay", .meth "Turned" "rise", .meth "Turned" "put"]
def fb : List Fb := [.exc "NoShare", .kit "NoShare" "NoShare" true, .kitT "NoShare" "ValueError" true, .exc "NoThing", .kit "NoThing" "NoThing" true, .kitT "NoThing" "ValueError" true, .exc "Empty", .kit "Empty" "Empty" true, .kitT "Empty" "ValueError" true, .kitL "Empty" ["NoShare", "NoThing", "NoWidth", "Twice"] false, .exc "Twice", .kit "Twice" "Twice" true, .kitT "Twice" "ValueError" true, .kitL "Twice" ["NoShare", "NoThing", "NoWidth", "Empty"] false, .exc "NoWidth", .kit "NoWidth" "NoWidth" true, .kitT "NoWidth" "ValueError" true, .ins "Pile", .ins "Turned", .inh "Turned" "Pile" "many", .inh "Turned" "Pile" "told", .inh "Turned" "Pile" "weight", .inh "Turned" "Pile" "top", .inh "Turned" "Pile" "lay", .inh "Turned" "Pile" "rise", .inh "Turned" "Pile" "put", .inh "Turned" "Pile" "__init__", .kit "Turned" "Pile" true, .kit "Pile" "Pile" true]
def fn : List He.DefD := [d_Pile___init__, d_Pile_ahead, d_Pile_many, d_Pile_told, d_Pile_weight, d_Pile_top, d_Pile_lay, d_Pile_rise, d_Pile_put, d_Turned_ahead, d_law_at, d_law_is, d_law_number, d_law_thing, d_law_ahead, d_law_form, d_law_empty, d_law_twice, d_law_order, d_law_look, d_law]
/-- what the top has written -/
structure Tx (K : PySem.W.Frag) (mg : Str → Option Value) : Prop where
  g_MidError : mg "MidError" = some (.ref (He.ga K "MidError"))
  g_NoShare : mg "NoShare" = some (.ref (He.ga K "NoShare"))
  g_NoThing : mg "NoThing" = some (.ref (He.ga K "NoThing"))
  g_Empty : mg "Empty" = some (.ref (He.ga K "Empty"))
  g_Twice : mg "Twice" = some (.ref (He.ga K "Twice"))
  g_NoWidth : mg "NoWidth" = some (.ref (He.ga K "NoWidth"))
  g_Pile : mg "Pile" = some (.ref (He.ga K "Pile"))
  g_Turned : mg "Turned" = some (.ref (He.ga K "Turned"))
  g__law_at : mg "_law_at" = some (.ref (He.ga K "_law_at"))
  g__law_is : mg "_law_is" = some (.ref (He.ga K "_law_is"))
  g__law_number : mg "_law_number" = some (.ref (He.ga K "_law_number"))
  g__law_thing : mg "_law_thing" = some (.ref (He.ga K "_law_thing"))
  g__law_ahead : mg "_law_ahead" = some (.ref (He.ga K "_law_ahead"))
  g__law_form : mg "_law_form" = some (.ref (He.ga K "_law_form"))
  g__law_empty : mg "_law_empty" = some (.ref (He.ga K "_law_empty"))
  g__law_twice : mg "_law_twice" = some (.ref (He.ga K "_law_twice"))
  g__law_order : mg "_law_order" = some (.ref (He.ga K "_law_order"))
  g__law_look : mg "_law_look" = some (.ref (He.ga K "_law_look"))
  g_law : mg "law" = some (.ref (He.ga K "law"))
  z_len : mg "len" = none
  z_list : mg "list" = none
  z_isinstance : mg "isinstance" = none
  z_int : mg "int" = none
  z_bool : mg "bool" = none
  z_tuple : mg "tuple" = none
  z_range : mg "range" = none
  z_ValueError : mg "ValueError" = none
  z_min : mg "min" = none
  z_max : mg "max" = none
  z_sorted : mg "sorted" = none
  z_sum : mg "sum" = none
  xc_MidError : PySem.W.excIn K (He.ga K "MidError") He.veBase "ValueError.__new__" = true ∧ PySem.W.keepIn K (.ref (He.ga K "MidError")) = true ∧ PySem.W.subIn K (.ref (He.ga K "MidError")) (.type "BaseException") = some true ∧ PySem.W.typeIn K (.ref (He.ga K "MidError")) = some (.type "type")
  xc_NoShare : PySem.W.excIn K (He.ga K "NoShare") He.veBase "ValueError.__new__" = true ∧ PySem.W.keepIn K (.ref (He.ga K "NoShare")) = true ∧ PySem.W.subIn K (.ref (He.ga K "NoShare")) (.type "BaseException") = some true ∧ PySem.W.typeIn K (.ref (He.ga K "NoShare")) = some (.type "type")
  em_NoShare : PySem.W.exmOne K (.ref (He.ga K "NoShare")) (.ref (He.ga K "MidError")) = some true
  es_NoShare : PySem.W.exmOne K (.ref (He.ga K "NoShare")) (.ref (He.ga K "NoShare")) = some true
  xc_NoThing : PySem.W.excIn K (He.ga K "NoThing") He.veBase "ValueError.__new__" = true ∧ PySem.W.keepIn K (.ref (He.ga K "NoThing")) = true ∧ PySem.W.subIn K (.ref (He.ga K "NoThing")) (.type "BaseException") = some true ∧ PySem.W.typeIn K (.ref (He.ga K "NoThing")) = some (.type "type")
  em_NoThing : PySem.W.exmOne K (.ref (He.ga K "NoThing")) (.ref (He.ga K "MidError")) = some true
  es_NoThing : PySem.W.exmOne K (.ref (He.ga K "NoThing")) (.ref (He.ga K "NoThing")) = some true
  xc_Empty : PySem.W.excIn K (He.ga K "Empty") He.veBase "ValueError.__new__" = true ∧ PySem.W.keepIn K (.ref (He.ga K "Empty")) = true ∧ PySem.W.subIn K (.ref (He.ga K "Empty")) (.type "BaseException") = some true ∧ PySem.W.typeIn K (.ref (He.ga K "Empty")) = some (.type "type")
  em_Empty : PySem.W.exmOne K (.ref (He.ga K "Empty")) (.ref (He.ga K "MidError")) = some true
  es_Empty : PySem.W.exmOne K (.ref (He.ga K "Empty")) (.ref (He.ga K "Empty")) = some true
  xc_Twice : PySem.W.excIn K (He.ga K "Twice") He.veBase "ValueError.__new__" = true ∧ PySem.W.keepIn K (.ref (He.ga K "Twice")) = true ∧ PySem.W.subIn K (.ref (He.ga K "Twice")) (.type "BaseException") = some true ∧ PySem.W.typeIn K (.ref (He.ga K "Twice")) = some (.type "type")
  em_Twice : PySem.W.exmOne K (.ref (He.ga K "Twice")) (.ref (He.ga K "MidError")) = some true
  es_Twice : PySem.W.exmOne K (.ref (He.ga K "Twice")) (.ref (He.ga K "Twice")) = some true
  xc_NoWidth : PySem.W.excIn K (He.ga K "NoWidth") He.veBase "ValueError.__new__" = true ∧ PySem.W.keepIn K (.ref (He.ga K "NoWidth")) = true ∧ PySem.W.subIn K (.ref (He.ga K "NoWidth")) (.type "BaseException") = some true ∧ PySem.W.typeIn K (.ref (He.ga K "NoWidth")) = some (.type "type")
  em_NoWidth : PySem.W.exmOne K (.ref (He.ga K "NoWidth")) (.ref (He.ga K "MidError")) = some true
  es_NoWidth : PySem.W.exmOne K (.ref (He.ga K "NoWidth")) (.ref (He.ga K "NoWidth")) = some true
  cl_Pile : Cls K (He.ga K "Pile")
  na_Pile_things : NoAttr K (He.ga K "Pile") "things"
  na_Pile_where : NoAttr K (He.ga K "Pile") "where"
  na_Pile_heavy : NoAttr K (He.ga K "Pile") "heavy"
  mk_Pile : Mk K (He.ga K "Pile") (He.ma K (He.ga K "Pile") "__init__")
  m_Pile_ahead : Meth K (He.ga K "Pile") "ahead" (He.ma K (He.ga K "Pile") "ahead")
  m_Pile_many : Meth K (He.ga K "Pile") "many" (He.ma K (He.ga K "Pile") "many")
  m_Pile_told : Meth K (He.ga K "Pile") "told" (He.ma K (He.ga K "Pile") "told")
  m_Pile_weight : Meth K (He.ga K "Pile") "weight" (He.ma K (He.ga K "Pile") "weight")
  m_Pile_top : Meth K (He.ga K "Pile") "top" (He.ma K (He.ga K "Pile") "top")
  m_Pile_lay : Meth K (He.ga K "Pile") "lay" (He.ma K (He.ga K "Pile") "lay")
  m_Pile_rise : Meth K (He.ga K "Pile") "rise" (He.ma K (He.ga K "Pile") "rise")
  m_Pile_put : Meth K (He.ga K "Pile") "put" (He.ma K (He.ga K "Pile") "put")
  cl_Turned : Cls K (He.ga K "Turned")
  na_Turned_things : NoAttr K (He.ga K "Turned") "things"
  na_Turned_where : NoAttr K (He.ga K "Turned") "where"
  na_Turned_heavy : NoAttr K (He.ga K "Turned") "heavy"
  mk_Turned : Mk K (He.ga K "Turned") (He.ma K (He.ga K "Turned") "__init__")
  m_Turned_ahead : Meth K (He.ga K "Turned") "ahead" (He.ma K (He.ga K "Turned") "ahead")
  mh_Turned_many : Meth K (He.ga K "Turned") "many" (He.ma K (He.ga K "Turned") "many")
  mh_Turned_told : Meth K (He.ga K "Turned") "told" (He.ma K (He.ga K "Turned") "told")
  mh_Turned_weight : Meth K (He.ga K "Turned") "weight" (He.ma K (He.ga K "Turned") "weight")
  mh_Turned_top : Meth K (He.ga K "Turned") "top" (He.ma K (He.ga K "Turned") "top")
  mh_Turned_lay : Meth K (He.ga K "Turned") "lay" (He.ma K (He.ga K "Turned") "lay")
  mh_Turned_rise : Meth K (He.ga K "Turned") "rise" (He.ma K (He.ga K "Turned") "rise")
  mh_Turned_put : Meth K (He.ga K "Turned") "put" (He.ma K (He.ga K "Turned") "put")
  xe_NoShare : ExcC K (He.ga K "NoShare")
  ki_NoShare : PySem.W.kitOne K (.ref (He.ga K "NoShare")) (.ref (He.ga K "NoShare")) = some true
  kv_NoShare : PySem.W.kitOne K (.ref (He.ga K "NoShare")) (.type "ValueError") = some true
  xe_NoThing : ExcC K (He.ga K "NoThing")
  ki_NoThing : PySem.W.kitOne K (.ref (He.ga K "NoThing")) (.ref (He.ga K "NoThing")) = some true
  kv_NoThing : PySem.W.kitOne K (.ref (He.ga K "NoThing")) (.type "ValueError") = some true
  xe_Empty : ExcC K (He.ga K "Empty")
  ki_Empty : PySem.W.kitOne K (.ref (He.ga K "Empty")) (.ref (He.ga K "Empty")) = some true
  kv_Empty : PySem.W.kitOne K (.ref (He.ga K "Empty")) (.type "ValueError") = some true
  kn_Empty : PySem.W.kitAny K (.ref (He.ga K "Empty")) ((["NoShare", "NoThing", "NoWidth", "Twice"] : List Str).map fun y => Value.ref (He.ga K y)) = some false
  xe_Twice : ExcC K (He.ga K "Twice")
  ki_Twice : PySem.W.kitOne K (.ref (He.ga K "Twice")) (.ref (He.ga K "Twice")) = some true
  kv_Twice : PySem.W.kitOne K (.ref (He.ga K "Twice")) (.type "ValueError") = some true
  kn_Twice : PySem.W.kitAny K (.ref (He.ga K "Twice")) ((["NoShare", "NoThing", "NoWidth", "Empty"] : List Str).map fun y => Value.ref (He.ga K y)) = some false
  xe_NoWidth : ExcC K (He.ga K "NoWidth")
  ki_NoWidth : PySem.W.kitOne K (.ref (He.ga K "NoWidth")) (.ref (He.ga K "NoWidth")) = some true
  kv_NoWidth : PySem.W.kitOne K (.ref (He.ga K "NoWidth")) (.type "ValueError") = some true
  ic_Pile : InsC K (He.ga K "Pile")
  ic_Turned : InsC K (He.ga K "Turned")
  in_Turned_many : He.ma K (He.ga K "Turned") "many" = He.ma K (He.ga K "Pile") "many"
  in_Turned_told : He.ma K (He.ga K "Turned") "told" = He.ma K (He.ga K "Pile") "told"
  in_Turned_weight : He.ma K (He.ga K "Turned") "weight" = He.ma K (He.ga K "Pile") "weight"
  in_Turned_top : He.ma K (He.ga K "Turned") "top" = He.ma K (He.ga K "Pile") "top"
  in_Turned_lay : He.ma K (He.ga K "Turned") "lay" = He.ma K (He.ga K "Pile") "lay"
  in_Turned_rise : He.ma K (He.ga K "Turned") "rise" = He.ma K (He.ga K "Pile") "rise"
  in_Turned_put : He.ma K (He.ga K "Turned") "put" = He.ma K (He.ga K "Pile") "put"
  in_Turned_init : He.ma K (He.ga K "Turned") "__init__" = He.ma K (He.ga K "Pile") "__init__"
  ki_Turned_Pile : PySem.W.kitOne K (.ref (He.ga K "Turned")) (.ref (He.ga K "Pile")) = some true
  ki_Pile_Pile : PySem.W.kitOne K (.ref (He.ga K "Pile")) (.ref (He.ga K "Pile")) = some true
theorem tx_of {K : PySem.W.Frag} {h : Heap} {mg : Str → Option Value} (X : K.In h) (G : h.Ns mainGlobals mg) (c : SaysM fa fn fb K) : Tx K mg :=
  { g_MidError := He.glo_ok X G (c.d.fact 0 (f := .glo "MidError") rfl),
    g_NoShare := He.glo_ok X G (c.d.fact 1 (f := .glo "NoShare") rfl),
    g_NoThing := He.glo_ok X G (c.d.fact 2 (f := .glo "NoThing") rfl),
    g_Empty := He.glo_ok X G (c.d.fact 3 (f := .glo "Empty") rfl),
    g_Twice := He.glo_ok X G (c.d.fact 4 (f := .glo "Twice") rfl),
    g_NoWidth := He.glo_ok X G (c.d.fact 5 (f := .glo "NoWidth") rfl),
    g_Pile := He.glo_ok X G (c.d.fact 6 (f := .glo "Pile") rfl),
    g_Turned := He.glo_ok X G (c.d.fact 7 (f := .glo "Turned") rfl),
    g__law_at := He.glo_ok X G (c.d.fact 8 (f := .glo "_law_at") rfl),
    g__law_is := He.glo_ok X G (c.d.fact 9 (f := .glo "_law_is") rfl),
    g__law_number := He.glo_ok X G (c.d.fact 10 (f := .glo "_law_number") rfl),
    g__law_thing := He.glo_ok X G (c.d.fact 11 (f := .glo "_law_thing") rfl),
    g__law_ahead := He.glo_ok X G (c.d.fact 12 (f := .glo "_law_ahead") rfl),
    g__law_form := He.glo_ok X G (c.d.fact 13 (f := .glo "_law_form") rfl),
    g__law_empty := He.glo_ok X G (c.d.fact 14 (f := .glo "_law_empty") rfl),
    g__law_twice := He.glo_ok X G (c.d.fact 15 (f := .glo "_law_twice") rfl),
    g__law_order := He.glo_ok X G (c.d.fact 16 (f := .glo "_law_order") rfl),
    g__law_look := He.glo_ok X G (c.d.fact 17 (f := .glo "_law_look") rfl),
    g_law := He.glo_ok X G (c.d.fact 18 (f := .glo "law") rfl),
    z_len := He.free_ok X G (c.d.fact 19 (f := .free "len") rfl),
    z_list := He.free_ok X G (c.d.fact 20 (f := .free "list") rfl),
    z_isinstance := He.free_ok X G (c.d.fact 21 (f := .free "isinstance") rfl),
    z_int := He.free_ok X G (c.d.fact 22 (f := .free "int") rfl),
    z_bool := He.free_ok X G (c.d.fact 23 (f := .free "bool") rfl),
    z_tuple := He.free_ok X G (c.d.fact 24 (f := .free "tuple") rfl),
    z_range := He.free_ok X G (c.d.fact 25 (f := .free "range") rfl),
    z_ValueError := He.free_ok X G (c.d.fact 26 (f := .free "ValueError") rfl),
    z_min := He.free_ok X G (c.d.fact 27 (f := .free "min") rfl),
    z_max := He.free_ok X G (c.d.fact 28 (f := .free "max") rfl),
    z_sorted := He.free_ok X G (c.d.fact 29 (f := .free "sorted") rfl),
    z_sum := He.free_ok X G (c.d.fact 30 (f := .free "sum") rfl),
    xc_MidError := He.exc_ok (c.d.fact 31 (f := .exc "MidError") rfl),
    xc_NoShare := He.exc_ok (c.d.fact 32 (f := .exc "NoShare") rfl),
    em_NoShare := He.exm_ok (c.d.fact 33 (f := .exm "NoShare" "MidError" true) rfl),
    es_NoShare := He.exm_ok (c.d.fact 34 (f := .exm "NoShare" "NoShare" true) rfl),
    xc_NoThing := He.exc_ok (c.d.fact 35 (f := .exc "NoThing") rfl),
    em_NoThing := He.exm_ok (c.d.fact 36 (f := .exm "NoThing" "MidError" true) rfl),
    es_NoThing := He.exm_ok (c.d.fact 37 (f := .exm "NoThing" "NoThing" true) rfl),
    xc_Empty := He.exc_ok (c.d.fact 38 (f := .exc "Empty") rfl),
    em_Empty := He.exm_ok (c.d.fact 39 (f := .exm "Empty" "MidError" true) rfl),
    es_Empty := He.exm_ok (c.d.fact 40 (f := .exm "Empty" "Empty" true) rfl),
    xc_Twice := He.exc_ok (c.d.fact 41 (f := .exc "Twice") rfl),
    em_Twice := He.exm_ok (c.d.fact 42 (f := .exm "Twice" "MidError" true) rfl),
    es_Twice := He.exm_ok (c.d.fact 43 (f := .exm "Twice" "Twice" true) rfl),
    xc_NoWidth := He.exc_ok (c.d.fact 44 (f := .exc "NoWidth") rfl),
    em_NoWidth := He.exm_ok (c.d.fact 45 (f := .exm "NoWidth" "MidError" true) rfl),
    es_NoWidth := He.exm_ok (c.d.fact 46 (f := .exm "NoWidth" "NoWidth" true) rfl),
    cl_Pile := He.cls_ok (c.d.fact 47 (f := .cls "Pile") rfl),
    na_Pile_things := He.noat_ok (c.d.fact 48 (f := .noat "Pile" "things") rfl),
    na_Pile_where := He.noat_ok (c.d.fact 49 (f := .noat "Pile" "where") rfl),
    na_Pile_heavy := He.noat_ok (c.d.fact 50 (f := .noat "Pile" "heavy") rfl),
    mk_Pile := He.mkr_ok (c.d.fact 51 (f := .mkr "Pile") rfl),
    m_Pile_ahead := He.meth_ok (c.d.fact 52 (f := .meth "Pile" "ahead") rfl),
    m_Pile_many := He.meth_ok (c.d.fact 53 (f := .meth "Pile" "many") rfl),
    m_Pile_told := He.meth_ok (c.d.fact 54 (f := .meth "Pile" "told") rfl),
    m_Pile_weight := He.meth_ok (c.d.fact 55 (f := .meth "Pile" "weight") rfl),
    m_Pile_top := He.meth_ok (c.d.fact 56 (f := .meth "Pile" "top") rfl),
    m_Pile_lay := He.meth_ok (c.d.fact 57 (f := .meth "Pile" "lay") rfl),
    m_Pile_rise := He.meth_ok (c.d.fact 58 (f := .meth "Pile" "rise") rfl),
    m_Pile_put := He.meth_ok (c.d.fact 59 (f := .meth "Pile" "put") rfl),
    cl_Turned := He.cls_ok (c.d.fact 60 (f := .cls "Turned") rfl),
    na_Turned_things := He.noat_ok (c.d.fact 61 (f := .noat "Turned" "things") rfl),
    na_Turned_where := He.noat_ok (c.d.fact 62 (f := .noat "Turned" "where") rfl),
    na_Turned_heavy := He.noat_ok (c.d.fact 63 (f := .noat "Turned" "heavy") rfl),
    mk_Turned := He.mkr_ok (c.d.fact 64 (f := .mkr "Turned") rfl),
    m_Turned_ahead := He.meth_ok (c.d.fact 65 (f := .meth "Turned" "ahead") rfl),
    mh_Turned_many := He.meth_ok (c.d.fact 66 (f := .meth "Turned" "many") rfl),
    mh_Turned_told := He.meth_ok (c.d.fact 67 (f := .meth "Turned" "told") rfl),
    mh_Turned_weight := He.meth_ok (c.d.fact 68 (f := .meth "Turned" "weight") rfl),
    mh_Turned_top := He.meth_ok (c.d.fact 69 (f := .meth "Turned" "top") rfl),
    mh_Turned_lay := He.meth_ok (c.d.fact 70 (f := .meth "Turned" "lay") rfl),
    mh_Turned_rise := He.meth_ok (c.d.fact 71 (f := .meth "Turned" "rise") rfl),
    mh_Turned_put := He.meth_ok (c.d.fact 72 (f := .meth "Turned" "put") rfl),
    xe_NoShare := excB_ok (c.more 0 (f := .exc "NoShare") rfl),
    ki_NoShare := of_decide_eq_true (c.more 1 (f := .kit "NoShare" "NoShare" true) rfl),
    kv_NoShare := of_decide_eq_true (c.more 2 (f := .kitT "NoShare" "ValueError" true) rfl),
    xe_NoThing := excB_ok (c.more 3 (f := .exc "NoThing") rfl),
    ki_NoThing := of_decide_eq_true (c.more 4 (f := .kit "NoThing" "NoThing" true) rfl),
    kv_NoThing := of_decide_eq_true (c.more 5 (f := .kitT "NoThing" "ValueError" true) rfl),
    xe_Empty := excB_ok (c.more 6 (f := .exc "Empty") rfl),
    ki_Empty := of_decide_eq_true (c.more 7 (f := .kit "Empty" "Empty" true) rfl),
    kv_Empty := of_decide_eq_true (c.more 8 (f := .kitT "Empty" "ValueError" true) rfl),
    kn_Empty := of_decide_eq_true (c.more 9 (f := .kitL "Empty" ["NoShare", "NoThing", "NoWidth", "Twice"] false) rfl),
    xe_Twice := excB_ok (c.more 10 (f := .exc "Twice") rfl),
    ki_Twice := of_decide_eq_true (c.more 11 (f := .kit "Twice" "Twice" true) rfl),
    kv_Twice := of_decide_eq_true (c.more 12 (f := .kitT "Twice" "ValueError" true) rfl),
    kn_Twice := of_decide_eq_true (c.more 13 (f := .kitL "Twice" ["NoShare", "NoThing", "NoWidth", "Empty"] false) rfl),
    xe_NoWidth := excB_ok (c.more 14 (f := .exc "NoWidth") rfl),
    ki_NoWidth := of_decide_eq_true (c.more 15 (f := .kit "NoWidth" "NoWidth" true) rfl),
    kv_NoWidth := of_decide_eq_true (c.more 16 (f := .kitT "NoWidth" "ValueError" true) rfl),
    ic_Pile := clsB_ok (c.more 17 (f := .ins "Pile") rfl),
    ic_Turned := clsB_ok (c.more 18 (f := .ins "Turned") rfl),
    in_Turned_many := of_decide_eq_true (c.more 19 (f := .inh "Turned" "Pile" "many") rfl),
    in_Turned_told := of_decide_eq_true (c.more 20 (f := .inh "Turned" "Pile" "told") rfl),
    in_Turned_weight := of_decide_eq_true (c.more 21 (f := .inh "Turned" "Pile" "weight") rfl),
    in_Turned_top := of_decide_eq_true (c.more 22 (f := .inh "Turned" "Pile" "top") rfl),
    in_Turned_lay := of_decide_eq_true (c.more 23 (f := .inh "Turned" "Pile" "lay") rfl),
    in_Turned_rise := of_decide_eq_true (c.more 24 (f := .inh "Turned" "Pile" "rise") rfl),
    in_Turned_put := of_decide_eq_true (c.more 25 (f := .inh "Turned" "Pile" "put") rfl),
    in_Turned_init := of_decide_eq_true (c.more 26 (f := .inh "Turned" "Pile" "__init__") rfl),
    ki_Turned_Pile := of_decide_eq_true (c.more 27 (f := .kit "Turned" "Pile" true) rfl),
    ki_Pile_Pile := of_decide_eq_true (c.more 28 (f := .kit "Pile" "Pile" true) rfl) }
theorem bind_of : True := trivial
end Mp


namespace Mp
open PySem PySem.Spec PyProof.Rows L2
abbrev Rw : PySem.W.OpenRow := PySem.W.OpenLaw.row PySem.Challenge.rw_midpile_k02_put_in_a_pile
abbrev hk : PySem.W.Hook := hookM 5 fa fn fb
def obH (s : PySem.W.SharedT) : AlM := obsMG 5 fa fn fb (HandSHeadRun.getT s)
theorem obH_eq (s : PySem.W.SharedT) : obH s = hk.obs s.abs := obsMG_eq (HandSHeadRun.getT_eq s)
def looseP0 : List Str := ["_wall", "MidError", "NoShare", "NoThing", "Empty", "Twice", "NoWidth", "Pile", "Turned", "_law_at", "_law_is", "_law_number", "_law_thing", "_law_ahead", "_law_form", "_law_empty", "_law_twice", "_law_order", "_law_look"]
def looseN : List Str := looseP0
theorem runH (w : World) : HandSHeadRun.RunEq Rw (PySem.W.view Rw.prog [22]) hk obH 4000 looseN w := by
  intro os
  kernel_rfl
end Mp


namespace Mp
open PySem PySem.Spec PyProof.Rows L2
local macro_rules | `(tactic| walk_at "rd") => `(tactic| try simp only [tSeq, tAsg, gName, tVar, tC, tOp, rI0, rI, tTest, tB, tIfS, tNext, tBreak, tCont, tRet, tRetN, tDrop, tCons, tNil, tCallS, tCB, tAnd, tOr, tNot, tAndV, tOrV, tNotV, tUn, rU, tIf, tChain, gCons, gNil, gSub, tFld_r, sFld_r, sFldAug_r, tDGet_r, tDIn_r, tDNotIn_r, sDPut_r, tDPop1_r, tMethF_r, tMakeF, tBits, tSl, tPart, tDNewK, cxOf_K, tBM, tBM0, tTup, tLst, List.length_cons, List.length_nil, Nat.reduceAdd, Nat.zero_add, PySem.sizeLine_eq, Nat.reduceLeDiff,
  List.getElem?_cons_zero, List.getElem?_cons_succ, Option.some.injEq, exists_eq_left', List.set_cons_zero, List.set_cons_succ, exists_eq_left, V.int.injEq, V.bl.injEq, V.ref.injEq, List.cons.injEq, and_true, true_and, and_assoc, exists_and_left, decide_eq_true_eq,
  rEq_int, rNe_int, cdiv_iff, cpow10, Int.reduceLT, Int.reduceLE, Int.reduceToNat, Int.reducePow, Int.reduceNeg, Int.reduceSub, Int.reduceAdd, Int.reduceMul, Nat.reducePow, Nat.reduceLT, Bool.not_eq_true', Bool.false_eq_true, if_true, if_false, not_true_eq_false, not_false_eq_true, ite_not, Bool.not_true, Bool.not_false, reduceCtorEq, ipI, tAug, isi_int_int, isi_int_bool, isi_bool_bool, Bool.true_eq_false, reduceIte])
local macro_rules | `(tactic| walk_at "fo") => `(tactic| try simp only [tFor_enum, tFor_zip, tFor_list, tFor_r1])

/-! ### what a pile looks like between two calls -/
structure PA where
  p : Addr
  dx : Addr
  l : Addr
  d : Addr
def pC (K : PySem.W.Frag) (t : Bool) : Addr := if t then He.ga K "Turned" else He.ga K "Pile"
def pAh (K : PySem.W.Frag) (t : Bool) : Addr := if t then He.ma K (He.ga K "Turned") "ahead" else He.ma K (He.ga K "Pile") "ahead"
def pf (l d : Addr) (hv : Int) : List (Str × V) := [("things", .ref l), ("where", .ref d), ("heavy", .int hv)]
theorem ne_tw : ("where" == ("things" : Str)) = false := by decide +kernel
theorem ne_ht : ("heavy" == ("things" : Str)) = false := by decide +kernel
theorem ne_hw : ("heavy" == ("where" : Str)) = false := by decide +kernel
theorem lk_eq {k : Str} {v : V} {r : List (Str × V)} : List.lookup k ((k, v) :: r) = some v := by simp [List.lookup]
theorem lk_ne {k g : Str} {v : V} {r : List (Str × V)} (h : (k == g) = false) : List.lookup k ((g, v) :: r) = List.lookup k r := by simp [List.lookup, h]
theorem pf_things (l d : Addr) (hv : Int) : (pf l d hv).lookup ("things" : Str) = some (.ref l) := lk_eq
theorem pf_where (l d : Addr) (hv : Int) : (pf l d hv).lookup ("where" : Str) = some (.ref d) := (lk_ne ne_tw).trans lk_eq
theorem pf_heavy (l d : Addr) (hv : Int) : (pf l d hv).lookup ("heavy" : Str) = some (.int hv) := (lk_ne ne_ht).trans ((lk_ne ne_hw).trans lk_eq)
theorem pf_no (l d : Addr) (hv : Int) {m : Str} (h1 : (m == ("things" : Str)) = false) (h2 : (m == ("where" : Str)) = false) (h3 : (m == ("heavy" : Str)) = false) : (pf l d hv).lookup m = none := (lk_ne h1).trans ((lk_ne h2).trans ((lk_ne h3).trans rfl))
theorem putF_eq {f : Str} {v x : V} {r : List (Str × V)} : putF f v ((f, x) :: r) = (f, v) :: r := if_pos rfl
theorem putF_ne {f g : Str} {v x : V} {r : List (Str × V)} (h : (f == g) = false) : putF f v ((g, x) :: r) = (g, x) :: putF f v r := if_neg fun e => by
  rw [e] at h
  simp at h
theorem pf_put (l d : Addr) (hv z : Int) : putF "heavy" (.int z) (pf l d hv) = pf l d z := (putF_ne ne_ht).trans (congrArg _ ((putF_ne ne_hw).trans (congrArg _ putF_eq)))
theorem pf_new (l d : Addr) : putF "heavy" (.int 0) (putF "where" (.ref d) (putF "things" (.ref l) [])) = pf l d 0 := by
  have e1 : putF "things" (.ref l) [] = [(("things" : Str), V.ref l)] := rfl
  have e2 : putF "where" (.ref d) [(("things" : Str), V.ref l)] = [(("things" : Str), V.ref l), ("where", .ref d)] := (putF_ne ne_tw).trans rfl
  rw [e1, e2]
  exact (putF_ne ne_ht).trans (congrArg _ ((putF_ne ne_hw).trans rfl))
/-- the heap bears the mirror's state -/
structure PRaw (K : PySem.W.Frag) (t : Bool) (a : PA) (H : Hp) (s : Sx) (hv : Int) : Prop where
  ob : H a.p = some (.ins (pC K t) a.dx (pf a.l a.d hv))
  li : H a.l = some (.lst (s.1.map fun e => V.ref e.1))
  di : H a.d = some (.dK s.2)
  tu : ∀ e ∈ s.1, H e.1 = some (tV e.2)
theorem PRaw.npl {K : PySem.W.Frag} {t : Bool} {a : PA} {H : Hp} {s : Sx} {hv : Int} (R : PRaw K t a H s hv) : a.p ≠ a.l := ne_of R.ob R.li (fun z => by cases z)
theorem PRaw.npd {K : PySem.W.Frag} {t : Bool} {a : PA} {H : Hp} {s : Sx} {hv : Int} (R : PRaw K t a H s hv) : a.p ≠ a.d := ne_of R.ob R.di (fun z => by cases z)
theorem PRaw.nld {K : PySem.W.Frag} {t : Bool} {a : PA} {H : Hp} {s : Sx} {hv : Int} (R : PRaw K t a H s hv) : a.l ≠ a.d := ne_of R.li R.di (fun z => by cases z)
/-- what a deed of the pile at a leaves as it was -/
def FrP (a : PA) (H H' : Hp) : Prop := ∀ b o, H b = some o → b ≠ a.p → b ≠ a.l → b ≠ a.d → H' b = some o
theorem FrP.refl (a : PA) (H : Hp) : FrP a H H := fun _ _ e _ _ _ => e
theorem FrP.trans {a : PA} {H H1 H2 : Hp} (x : FrP a H H1) (y : FrP a H1 H2) : FrP a H H2 := fun b o e h1 h2 h3 => y b o (x b o e h1 h2 h3) h1 h2 h3
/-- a tuple stays -/
theorem PRaw.tup {K : PySem.W.Frag} {t : Bool} {a : PA} {H H' : Hp} {s : Sx} {hv : Int} (R : PRaw K t a H s hv) (f : FrP a H H') {b : Addr} {xs : List V} (h : H b = some (.tup xs)) : H' b = some (.tup xs) :=
  f b _ h (ne_of h R.ob fun z => by cases z) (ne_of h R.li fun z => by cases z) (ne_of h R.di fun z => by cases z)
theorem PRaw.same {K : PySem.W.Frag} {t : Bool} {a : PA} {H H' : Hp} {s : Sx} {hv : Int} (R : PRaw K t a H s hv) (f : Same H H') : PRaw K t a H' s hv := ⟨f _ _ R.ob, f _ _ R.li, f _ _ R.di, fun e he => f _ _ (R.tu e he)⟩
/-- the class's facts, of both kinds of pile -/
structure PT (K : PySem.W.Frag) (t : Bool) : Prop where
  cl : Cls K (pC K t)
  nt : NoAttr K (pC K t) "things"
  nw : NoAttr K (pC K t) "where"
  nh : NoAttr K (pC K t) "heavy"
  m_ahead : Meth K (pC K t) "ahead" (pAh K t)
  m_many : Meth K (pC K t) "many" (He.ma K (He.ga K "Pile") "many")
  m_told : Meth K (pC K t) "told" (He.ma K (He.ga K "Pile") "told")
  m_weight : Meth K (pC K t) "weight" (He.ma K (He.ga K "Pile") "weight")
  m_top : Meth K (pC K t) "top" (He.ma K (He.ga K "Pile") "top")
  m_lay : Meth K (pC K t) "lay" (He.ma K (He.ga K "Pile") "lay")
  m_rise : Meth K (pC K t) "rise" (He.ma K (He.ga K "Pile") "rise")
  m_put : Meth K (pC K t) "put" (He.ma K (He.ga K "Pile") "put")

theorem inh_at {K : PySem.W.Frag} {m : Str} (r : Meth K (He.ga K "Turned") m (He.ma K (He.ga K "Turned") m)) (e : He.ma K (He.ga K "Turned") m = He.ma K (He.ga K "Pile") m) : Meth K (He.ga K "Turned") m (He.ma K (He.ga K "Pile") m) := by
  rw [e] at r
  exact r
theorem pt_of {K : PySem.W.Frag} {mg : Str → Option Value} (T : Tx K mg) (t : Bool) : PT K t := by
  cases t
  · exact { cl := T.cl_Pile, nt := T.na_Pile_things, nw := T.na_Pile_where, nh := T.na_Pile_heavy, m_ahead := T.m_Pile_ahead, m_many := T.m_Pile_many, m_told := T.m_Pile_told, m_weight := T.m_Pile_weight, m_top := T.m_Pile_top, m_lay := T.m_Pile_lay, m_rise := T.m_Pile_rise, m_put := T.m_Pile_put }
  · exact { cl := T.cl_Turned, nt := T.na_Turned_things, nw := T.na_Turned_where, nh := T.na_Turned_heavy, m_ahead := T.m_Turned_ahead, m_many := inh_at T.mh_Turned_many T.in_Turned_many, m_told := inh_at T.mh_Turned_told T.in_Turned_told, m_weight := inh_at T.mh_Turned_weight T.in_Turned_weight, m_top := inh_at T.mh_Turned_top T.in_Turned_top, m_lay := inh_at T.mh_Turned_lay T.in_Turned_lay, m_rise := inh_at T.mh_Turned_rise T.in_Turned_rise, m_put := inh_at T.mh_Turned_put T.in_Turned_put }

/-! ### the promises -/
def spPInit (K : PySem.W.Frag) (t : Bool) : Sp := fun vs H Q _ => ∃ (p dx : Addr), vs = [.ref p] ∧ H p = some (.ins (pC K t) dx []) ∧
  ∀ (l d : Addr) (H' : Hp), H l = none → H d = none → PRaw K t ⟨p, dx, l, d⟩ H' ([], []) 0 → (∀ b o, H b = some o → b ≠ p → H' b = some o) → Q .non H'
def spAhead (t : Bool) : Sp := fun vs H Q _ => ∃ (z : V) (x y : En), vs = [z, .ref x.1, .ref y.1] ∧ H x.1 = some (tV x.2) ∧ H y.1 = some (tV y.2) ∧ Q (.bl (ah t x.2 y.2)) H
def spMany (K : PySem.W.Frag) (t : Bool) : Sp := fun vs H Q _ => ∃ (a : PA) (s : Sx) (hv : Int), vs = [.ref a.p] ∧ PRaw K t a H s hv ∧ Q (.int (s.1.length : Int)) H
def spTold (K : PySem.W.Frag) (t : Bool) : Sp := fun vs H Q _ => ∃ (a : PA) (s : Sx) (hv : Int), vs = [.ref a.p] ∧ PRaw K t a H s hv ∧ ∀ q, H q = none → Q (.ref q) (upd H q (.lst (s.1.map fun e => V.ref e.1)))
def spWeight (K : PySem.W.Frag) (t : Bool) : Sp := fun vs H Q _ => ∃ (a : PA) (s : Sx) (hv : Int), vs = [.ref a.p] ∧ PRaw K t a H s hv ∧ Q (.int hv) H
def spTop (K : PySem.W.Frag) (t : Bool) : Sp := fun vs H Q E => ∃ (a : PA) (s : Sx) (hv : Int), vs = [.ref a.p] ∧ PRaw K t a H s hv ∧ (s.1 = [] → ∀ H', Same H H' → E (.ref (He.ga K "Empty")) none H') ∧
  ∀ e, s.1[0]? = some e → ∀ H', Same H H' → Q (.ref e.1) H'
def spLay (K : PySem.W.Frag) (t : Bool) : Sp := fun vs H Q _ => ∃ (a : PA) (s : Sx) (hv : Int) (k : Nat) (x : En), vs = [.ref a.p, .int (k : Int), .ref x.1] ∧ PRaw K t a H s hv ∧ k < s.1.length ∧ s.2.length < 1000000 ∧ H x.1 = some (tV x.2) ∧
  ∀ H', PRaw K t a H' (layM s k x) hv → FrP a H H' → Q .non H'
def spRise (K : PySem.W.Frag) (t : Bool) : Sp := fun vs H Q _ => ∃ (a : PA) (s : Sx) (hv : Int) (k : Nat), vs = [.ref a.p, .int (k : Int)] ∧ PRaw K t a H s hv ∧ k < s.1.length ∧ s.2.length + k < 1000000 ∧
  ∀ H', PRaw K t a H' (riseM t (gE s.1 k) s k).1 hv → FrP a H H' → Q .non H'
def spSink (K : PySem.W.Frag) (t : Bool) : Sp := fun vs H Q _ => ∃ (a : PA) (s : Sx) (hv : Int) (k : Nat), vs = [.ref a.p, .int (k : Int)] ∧ PRaw K t a H s hv ∧ k < s.1.length ∧ s.2.length + s.1.length < 1000000 ∧
  ∀ H', PRaw K t a H' (sinkM t (gE s.1 k) s k) hv → FrP a H H' → Q .non H'
def spPut (K : PySem.W.Frag) (t : Bool) : Sp := fun vs H Q E => ∃ (a : PA) (s : Sx) (hv : Int) (x : En), vs = [.ref a.p, .ref x.1] ∧ PRaw K t a H s hv ∧ H x.1 = some (tV x.2) ∧ s.1.length + s.2.length < 900000 ∧
  (∀ v, valV s.2 (Sum.inl x.2.2) = some v → E (.ref (He.ga K "Twice")) none H) ∧
  (valV s.2 (Sum.inl x.2.2) = none → ∀ H', PRaw K t a H' (putM t s x) (hv + x.2.1) → FrP a H H' → Q .non H')
def spTake (K : PySem.W.Frag) (t : Bool) : Sp := fun vs H Q E => ∃ (a : PA) (s : Sx) (hv c : Int), vs = [.ref a.p, .int c] ∧ PRaw K t a H s hv ∧ 2 * s.1.length + s.2.length < 900000 ∧
  (valV s.2 (Sum.inl c) = none → E (.ref (He.ga K "NoThing")) none H) ∧
  (∀ v, valV s.2 (Sum.inl c) = some v → ∃ k : Nat, v = .int (k : Int) ∧ k < s.1.length ∧ ∃ m : Nat, m = k ∧ (gE s.1 k).2.2 = c ∧ ∀ H', PRaw K t a H' (takeM t s k) (hv - (gE s.1 k).2.1) → FrP a H H' → Q (.ref (gE s.1 k).1) H')
section
variable {P : Program} {w : World} {K : PySem.W.Frag} {mg : Str → Option Value} {base : Heap}
theorem ok_Pile___init__ (T : Tx K mg) (t : Bool) {fd : FuncData} (F : FnP K "__init__" "Pile.__init__" s_Pile___init__ (He.ma K (He.ga K "Pile") "__init__") fd) : Fn P w K mg base 1 (He.ma K (He.ga K "Pile") "__init__") P_Pile___init__ (spPInit K t) := by
  have Pt := pt_of T t
  refine fn_ok F sc_Pile___init__ (fun vs H Q E h => ?_) (fun _ _ _ _ _ _ us hl => match us, hl with | [_], _ => rfl) (fun cdv A outer s0 H vs Q E hr h => ?_)
  · obtain ⟨p, dx, rfl, _⟩ := h
    rfl
  · obtain ⟨p, dx, rfl, hp, hQ⟩ := h
    refine ⟨_, (pss_cons (ps_fld (pv 0) (pe_lst pa_nil) rfl)
    (pss_cons (ps_fld (pv 0) pe_dnewK rfl)
    (pss_one (ps_fld (pv 0) pe_int rfl)))), ?_⟩
    rw [show start N_Pile___init__ [V.ref p] = [some (V.ref p)] from rfl]
    walk_at "rd"
    intro l hl
    have npl : p ≠ l := ne_of_none hp hl
    refine setR.mk (by rw [upd_ne npl]; exact hp) Pt.cl Pt.nt (by show 0 < 1000; decide) ?_
    walk_at "rd"
    intro d hd
    have npd : p ≠ d := fun e => by rw [← e, upd_same] at hd; cases hd
    have nld : l ≠ d := fun e => by rw [← e, upd_ne npl.symm, upd_same] at hd; cases hd
    have hd0 : H d = none := by rw [upd_ne npd.symm, upd_ne nld.symm] at hd; exact hd
    refine setR.mk (by rw [upd_ne npd]; exact upd_same) Pt.cl Pt.nw (by show 1 < 1000; decide) ?_
    walk_at "rd"
    refine setR.mk upd_same Pt.cl Pt.nh (by show 2 < 1000; decide) ?_
    walk_at "rd"
    refine hQ l d _ hl hd0 ⟨Eq.trans upd_same (congrArg (fun z => some (HO.ins (pC K t) dx z)) (pf_new l d)), ?_, ?_, fun e he => by cases he⟩ fun b o e hb => ?_
    · show _ = _
      rw [upd_ne npl.symm, upd_ne npl.symm, upd_ne nld, upd_ne npl.symm, upd_same]
      rfl
    · show _ = _
      rw [upd_ne npd.symm, upd_ne npd.symm, upd_same]
    · rw [upd_ne hb, upd_ne hb, upd_ne (ne_of_none e hd0), upd_ne hb, upd_ne (ne_of_none e hl)]
      exact e

theorem lex_ah (x y : T) : HT.lexLt [x.1, x.2] [y.1, y.2] = lt2 x y := by
  unfold lt2
  rw [HT.lexLt_cons, HT.lexLt_cons, HT.lexLt_nil_nil]
  by_cases e : x.1 = y.1
  · rw [if_pos e, if_pos e]
    by_cases e2 : x.2 = y.2
    · rw [if_pos e2, e2]
      simp
    · rw [if_neg e2]
  · rw [if_neg e, if_neg e]
theorem ok_Pile_ahead (T : Tx K mg) {fd : FuncData} (F : FnP K "ahead" "Pile.ahead" s_Pile_ahead (He.ma K (He.ga K "Pile") "ahead") fd) : Fn P w K mg base 1 (He.ma K (He.ga K "Pile") "ahead") P_Pile_ahead (spAhead false) := by
  refine fn_ok F sc_Pile_ahead (fun vs H Q E h => ?_) (fun _ _ _ _ _ _ us hl => match us, hl with | [_, _, _], _ => rfl) (fun cdv A outer s0 H vs Q E hr h => ?_)
  · obtain ⟨z, x, y, rfl, _⟩ := h
    rfl
  · obtain ⟨z, x, y, rfl, hx, hy, hQ⟩ := h
    have hu0 := hr.units0
    refine ⟨_, (pss_one (ps_ret (pe_cmpR (op_ltT hu0) (pv 1) (pv 2) (nomark _)))), ?_⟩
    rw [show start N_Pile_ahead [z, V.ref x.1, V.ref y.1] = [some (z), some (V.ref x.1), some (V.ref y.1)] from rfl]
    walk_at "rd"
    refine ⟨_, _, [x.2.1, x.2.2], [y.2.1, y.2.2], rfl, rfl, SqT.of hx, SqT.of hy, ?_⟩
    rw [lex_ah]
    exact hQ
theorem ok_Turned_ahead (T : Tx K mg) {fd : FuncData} (F : FnP K "ahead" "Turned.ahead" s_Turned_ahead (He.ma K (He.ga K "Turned") "ahead") fd) : Fn P w K mg base 1 (He.ma K (He.ga K "Turned") "ahead") P_Turned_ahead (spAhead true) := by
  refine fn_ok F sc_Turned_ahead (fun vs H Q E h => ?_) (fun _ _ _ _ _ _ us hl => match us, hl with | [_, _, _], _ => rfl) (fun cdv A outer s0 H vs Q E hr h => ?_)
  · obtain ⟨z, x, y, rfl, _⟩ := h
    rfl
  · obtain ⟨z, x, y, rfl, hx, hy, hQ⟩ := h
    have hu0 := hr.units0
    refine ⟨_, (pss_one (ps_ret (pe_cmpR (op_ltT hu0) (pv 2) (pv 1) (nomark _)))), ?_⟩
    rw [show start N_Turned_ahead [z, V.ref x.1, V.ref y.1] = [some (z), some (V.ref x.1), some (V.ref y.1)] from rfl]
    walk_at "rd"
    refine ⟨_, _, [y.2.1, y.2.2], [x.2.1, x.2.2], rfl, rfl, SqT.of hy, SqT.of hx, ?_⟩
    rw [lex_ah]
    exact hQ
theorem ok_Pile_many (T : Tx K mg) (t : Bool) {fd : FuncData} (F : FnP K "many" "Pile.many" s_Pile_many (He.ma K (He.ga K "Pile") "many") fd) : Fn P w K mg base 1 (He.ma K (He.ga K "Pile") "many") P_Pile_many (spMany K t) := by
  have Pt := pt_of T t
  refine fn_ok F sc_Pile_many (fun vs H Q E h => ?_) (fun _ _ _ _ _ _ us hl => match us, hl with | [_], _ => rfl) (fun cdv A outer s0 H vs Q E hr h => ?_)
  · obtain ⟨a, s, hv, rfl, _⟩ := h
    rfl
  · obtain ⟨a, s, hv, rfl, R, hQ⟩ := h
    refine ⟨_, (pss_one (ps_ret (pe_callB call_len_seq rfl T.z_len PySem.boot_len (pa_cons (pe_fld (pv 0) rfl) pa_nil)))), ?_⟩
    rw [show start N_Pile_many [V.ref a.p] = [some (V.ref a.p)] from rfl]
    walk_at "rd"
    refine fldR.mk R.ob Pt.cl Pt.nt (pf_things _ _ _) ?_
    walk_at "rd"
    refine ⟨_, .inl (SqL.of R.li), ?_⟩
    rw [List.length_map]
    exact hQ

theorem ok_Pile_told (T : Tx K mg) (t : Bool) {fd : FuncData} (F : FnP K "told" "Pile.told" s_Pile_told (He.ma K (He.ga K "Pile") "told") fd) : Fn P w K mg base 1 (He.ma K (He.ga K "Pile") "told") P_Pile_told (spTold K t) := by
  have Pt := pt_of T t
  refine fn_ok F sc_Pile_told (fun vs H Q E h => ?_) (fun _ _ _ _ _ _ us hl => match us, hl with | [_], _ => rfl) (fun cdv A outer s0 H vs Q E hr h => ?_)
  · obtain ⟨a, s, hv, rfl, _⟩ := h
    rfl
  · obtain ⟨a, s, hv, rfl, R, hQ⟩ := h
    refine ⟨_, (pss_one (ps_ret (pe_callTy call_list_of rfl T.z_list (by decide +kernel) (pa_cons (pe_fld (pv 0) rfl) pa_nil)))), ?_⟩
    rw [show start N_Pile_told [V.ref a.p] = [some (V.ref a.p)] from rfl]
    walk_at "rd"
    refine fldR.mk R.ob Pt.cl Pt.nt (pf_things _ _ _) ?_
    walk_at "rd"
    exact ⟨_, .inl (SqL.of R.li), hQ⟩

theorem ok_Pile_weight (T : Tx K mg) (t : Bool) {fd : FuncData} (F : FnP K "weight" "Pile.weight" s_Pile_weight (He.ma K (He.ga K "Pile") "weight") fd) : Fn P w K mg base 1 (He.ma K (He.ga K "Pile") "weight") P_Pile_weight (spWeight K t) := by
  have Pt := pt_of T t
  refine fn_ok F sc_Pile_weight (fun vs H Q E h => ?_) (fun _ _ _ _ _ _ us hl => match us, hl with | [_], _ => rfl) (fun cdv A outer s0 H vs Q E hr h => ?_)
  · obtain ⟨a, s, hv, rfl, _⟩ := h
    rfl
  · obtain ⟨a, s, hv, rfl, R, hQ⟩ := h
    refine ⟨_, (pss_one (ps_ret (pe_fld (pv 0) rfl))), ?_⟩
    rw [show start N_Pile_weight [V.ref a.p] = [some (V.ref a.p)] from rfl]
    walk_at "rd"
    exact fldR.mk R.ob Pt.cl Pt.nh (pf_heavy _ _ _) hQ

theorem ok_Pile_top (T : Tx K mg) (t : Bool) {fd : FuncData} (F : FnP K "top" "Pile.top" s_Pile_top (He.ma K (He.ga K "Pile") "top") fd) : Fn P w K mg base 1 (He.ma K (He.ga K "Pile") "top") P_Pile_top (spTop K t) := by
  have Pt := pt_of T t
  refine fn_okX F sc_Pile_top (fun vs H Q E h => ?_) (fun _ _ _ _ _ _ us hl => match us, hl with | [_], _ => rfl) (fun cdv A outer s0 H vs Q E hr h => ?_)
  · obtain ⟨a, s, hv, rfl, _⟩ := h
    rfl
  · obtain ⟨a, s, hv, rfl, R, hE, hQ⟩ := h
    have hu64 := hr.units
    refine ⟨_, (pss_cons (ps_if (pt_cmpR (op_eqD hu64) (pe_fld (pv 0) rfl) (pe_lst pa_nil) (nomark _)) (pss_one (ps_raise rfl (takes_of rfl rfl rfl rfl) (pmk_own PySem.F.excBase_ValueError T.xc_Empty.1 T.g_Empty T.xc_Empty.2.1 (raises_own T.xc_Empty.2.2.1 T.xc_Empty.2.2.2) rfl))) pss_nil)
    (pss_one (ps_ret (pe_ix ix_list (pe_fld (pv 0) rfl) pe_int (fun _ _ => rfl))))), ?_⟩
    rw [show start N_Pile_top [V.ref a.p] = [some (V.ref a.p)] from rfl]
    walk_at "rd"
    refine fldR.mk R.ob Pt.cl Pt.nt (pf_things _ _ _) ?_
    intro q hq
    have s1 := same_new (o := .lst []) hq
    have R1 := R.same s1
    refine eqD_l (l2 := []) (dp_l (SqL.of R1.li) R1.tu) (dp_nil (SqL.of upd_same)) ?_
    refine ⟨_, rfl, ?_⟩
    by_cases c : s.1.map (·.2) = []
    · have c2 : s.1 = [] := List.map_eq_nil_iff.mp c
      rw [decide_eq_true c]
      exact iteT (hE c2 _ s1)
    · rw [decide_eq_false c]
      refine iteF ?_
      have c2 : 0 < s.1.length := by
        cases hs : s.1 with
        | nil => rw [hs] at c; exact absurd rfl c
        | cons _ _ => exact Nat.succ_pos _
      obtain ⟨e, he⟩ := get_of_lt c2
      refine fldR.mk R1.ob Pt.cl Pt.nt (pf_things _ _ _) ?_
      refine ixL_mk (SqL.of R1.li) (at_of (j := 0) rfl (by rw [List.getElem?_map, he]; rfl)) ?_
      exact hQ e he _ s1

theorem ok_Pile_lay (T : Tx K mg) (t : Bool) {fd : FuncData} (F : FnP K "lay" "Pile.lay" s_Pile_lay (He.ma K (He.ga K "Pile") "lay") fd) : Fn P w K mg base 1 (He.ma K (He.ga K "Pile") "lay") P_Pile_lay (spLay K t) := by
  have Pt := pt_of T t
  refine fn_ok F sc_Pile_lay (fun vs H Q E h => ?_) (fun _ _ _ _ _ _ us hl => match us, hl with | [_, _, _], _ => rfl) (fun cdv A outer s0 H vs Q E hr h => ?_)
  · obtain ⟨a, s, hv, k, x, rfl, _⟩ := h
    rfl
  · obtain ⟨a, s, hv, k, x, rfl, R, hk, hl, hx, hQ⟩ := h
    have hu := hu_of hr
    refine ⟨_, (pss_cons (ps_asg (pv 2) (pg_sub (pe_fld (pv 0) rfl) (pv 1) set_list))
    (pss_one (ps_dput hu (pe_fld (pv 0) rfl) (pe_ix ix_tup (pv 2) pe_int (fun _ _ => rfl)) (pv 1) rfl))), ?_⟩
    rw [show start N_Pile_lay [V.ref a.p, V.int (k : Int), V.ref x.1] = [some (V.ref a.p), some (V.int (k : Int)), some (V.ref x.1)] from rfl]
    walk_at "rd"
    refine fldR.mk R.ob Pt.cl Pt.nt (pf_things _ _ _) ?_
    refine ⟨a.l, _, _, k, rfl, rfl, R.li, ixN_of (by rw [List.length_map]; exact hk), ?_⟩
    have ob1 : (upd H a.l (.lst ((s.1.map fun e => V.ref e.1).set k (V.ref x.1)))) a.p = some (.ins (pC K t) a.dx (pf a.l a.d hv)) := by rw [upd_ne R.npl]; exact R.ob
    have di1 : (upd H a.l (.lst ((s.1.map fun e => V.ref e.1).set k (V.ref x.1)))) a.d = some (.dK s.2) := by rw [upd_ne R.nld.symm]; exact R.di
    have nxl : x.1 ≠ a.l := ne_of hx R.li fun z => by cases z
    refine fldR.mk ob1 Pt.cl Pt.nw (pf_where _ _ _) ?_
    refine ixT1 (n := x.2.1) (c := x.2.2) (by rw [upd_ne nxl]; exact hx) ?_
    refine dpR.mk di1 (by omega) ?_
    have fr : FrP a H (upd (upd H a.l (.lst ((s.1.map fun e => V.ref e.1).set k (V.ref x.1)))) a.d (.dK (putK s.2 (Sum.inl x.2.2) (.int (k : Int))))) := fun b o e h1 h2 h3 => by rw [upd_ne h3, upd_ne h2]; exact e
    refine hQ _ ⟨by rw [upd_ne R.npd]; exact ob1, ?_, upd_same, fun e he => ?_⟩ fr
    · show _ = some (HO.lst ((s.1.set k x).map fun e => V.ref e.1))
      rw [upd_ne R.nld, upd_same, List.map_set]
    · have he : e ∈ s.1.set k x := he
      rcases List.mem_or_eq_of_mem_set he with z | z
      · exact R.tup fr (R.tu e z)
      · subst z; exact R.tup fr hx

/-- between two turns of rise: m the place -/
def RiseW (K : PySem.W.Frag) (t : Bool) (a : PA) (hv : Int) (x : En) (H : Hp) (z : Sx) : Nat → L2.St → Hp → Prop := fun m σ H1 =>
  ∃ (s1 : Sx), σ = [some (.ref a.p), some (.int (m : Int)), some (.ref x.1)] ∧ PRaw K t a H1 s1 hv ∧ H1 x.1 = some (tV x.2) ∧ m < s1.1.length ∧ s1.2.length + m < 1000000 ∧ FrP a H H1 ∧ (riseM t x s1 m).1 = z
theorem ok_Pile_rise (T : Tx K mg) (t : Bool) (F_ahead : Fn P w K mg base 1 (pAh K t) P_Pile_ahead (spAhead t)) (F_lay : Fn P w K mg base 1 (He.ma K (He.ga K "Pile") "lay") P_Pile_lay (spLay K t)) {fd : FuncData} (F : FnP K "rise" "Pile.rise" s_Pile_rise (He.ma K (He.ga K "Pile") "rise") fd) : Fn P w K mg base 2 (He.ma K (He.ga K "Pile") "rise") P_Pile_rise (spRise K t) := by
  have Pt := pt_of T t
  refine fn_ok F sc_Pile_rise (fun vs H Q E h => ?_) (fun _ _ _ _ _ _ us hl => match us, hl with | [_, _], _ => rfl) (fun cdv A outer s0 H vs Q E hr h => ?_)
  · obtain ⟨a, s, hv, k, rfl, _⟩ := h
    rfl
  · obtain ⟨a, s, hv, k, rfl, R, hk, hl, hQ⟩ := h
    refine ⟨_, (pss_cons (ps_set (i := 2) sc_Pile_rise.nd rfl (Or.inl rfl) (pe_ix ix_list (pe_fld (pv 0) rfl) (pv 1) (fun _ _ => rfl)))
    (pss_cons (ps_while PassesOwn.never (PW.pt (pw_and (pt_cmpR op_gt (pv 1) pe_int (nomark _)) (pw_and1 (pt_val (pe_methF (pv 0) Pt.cl Pt.m_ahead F_ahead hr (fun _ => nopass) (pa_cons (pv 2) (pa_cons (pe_ix ix_list (pe_fld (pv 0) rfl) (pe_op op_fdiv (pe_op op_sub (pv 1) pe_int) pe_int) (fun _ _ => rfl)) pa_nil))))))) (pss_cons (ps_expr (pe_methF (pv 0) Pt.cl Pt.m_lay F_lay hr (fun _ => nopass) (pa_cons (pv 1) (pa_cons (pe_ix ix_list (pe_fld (pv 0) rfl) (pe_op op_fdiv (pe_op op_sub (pv 1) pe_int) pe_int) (fun _ _ => rfl)) pa_nil))))
    (pss_one (ps_set (i := 1) sc_Pile_rise.nd rfl (Or.inl rfl) (pe_op op_fdiv (pe_op op_sub (pv 1) pe_int) pe_int)))))
    (pss_one (ps_expr (pe_methF (pv 0) Pt.cl Pt.m_lay F_lay hr (fun _ => nopass) (pa_cons (pv 1) (pa_cons (pv 2) pa_nil))))))), ?_⟩
    rw [show start N_Pile_rise [V.ref a.p, V.int (k : Int)] = [some (V.ref a.p), some (V.int (k : Int)), none] from rfl]
    walk_at "rd"
    refine fldR.mk R.ob Pt.cl Pt.nt (pf_things _ _ _) ?_
    refine ixL_mk (SqL.of R.li) (at_of (j := k) rfl (by rw [List.getElem?_map, gE_some hk]; rfl)) ?_
    have hx : gE s.1 k ∈ s.1 := gE_mem hk
    have hx := R.tu _ hx
    revert hx hQ
    generalize gE s.1 k = x
    intro hQ hx
    refine ⟨RiseW K t a hv x H (riseM t x s k).1, ⟨k, s, rfl, R, hx, hk, hl, FrP.refl a H, rfl⟩, ?_⟩
    rintro m σ H1 ⟨s1, rfl, R1, hx1, hk1, hl1, fr1, e1⟩
    -- what is done where the loop ends
    have last : ¬ (0 < m ∧ ah t x.2 (gE s1.1 ((m - 1) / 2)).2 = true) → metR (pC K t) "lay" (V.ref a.p) H1 (spLay K t [V.ref a.p, V.int (m : Int), V.ref x.1] H1 (fun _ H' => Q V.non H') E0) := fun c => by
      refine metR.mk R1.ob (pf_no _ _ _ (by decide +kernel) (by decide +kernel) (by decide +kernel)) ?_
      refine ⟨a, s1, hv, m, x, rfl, R1, hk1, by omega, hx1, fun H2 R2 f2 => ?_⟩
      refine hQ H2 ?_ (fr1.trans f2)
      rw [← e1, riseM, dif_neg c]
      exact R2
    walk_at "rd"
    by_cases c1 : (0 : Int) < (m : Int)
    · rw [if_pos c1]
      have c1' : 0 < m := by omega
      have hp : (m - 1) / 2 < s1.1.length := by omega
      refine metR.mk R1.ob (pf_no _ _ _ (by decide +kernel) (by decide +kernel) (by decide +kernel)) ?_
      refine fldR.mk R1.ob Pt.cl Pt.nt (pf_things _ _ _) ?_
      refine ixL_mk (SqL.of R1.li) (at_of (j := (m - 1) / 2) (half_up c1') (by rw [List.getElem?_map, gE_some hp]; rfl)) ?_
      have hy := R1.tu _ (gE_mem hp)
      refine ⟨_, x, gE s1.1 ((m - 1) / 2), rfl, hx1, hy, ?_⟩
      refine ⟨_, rfl, ?_⟩
      by_cases c2 : ah t x.2 (gE s1.1 ((m - 1) / 2)).2 = true
      · rw [c2]
        refine iteT ?_
        refine ⟨fun σ' H' => ∃ m', m' < m ∧ RiseW K t a hv x H (riseM t x s k).1 m' σ' H', fun σ' H' h => h, ?_⟩
        walk_at "rd"
        refine metR.mk R1.ob (pf_no _ _ _ (by decide +kernel) (by decide +kernel) (by decide +kernel)) ?_
        refine fldR.mk R1.ob Pt.cl Pt.nt (pf_things _ _ _) ?_
        refine ixL_mk (SqL.of R1.li) (at_of (j := (m - 1) / 2) (half_up c1') (by rw [List.getElem?_map, gE_some hp]; rfl)) ?_
        refine ⟨a, s1, hv, m, gE s1.1 ((m - 1) / 2), rfl, R1, hk1, by omega, hy, fun H2 R2 f2 => ?_⟩
        have := layM_kv s1 m (gE s1.1 ((m - 1) / 2))
        refine ⟨(m - 1) / 2, by omega, layM s1 m (gE s1.1 ((m - 1) / 2)), by rw [half_up c1'], R2, R1.tup f2 hx1, by rw [layM_len]; exact hp, by omega, fr1.trans f2, ?_⟩
        rw [← e1]
        conv => rhs; rw [riseM, dif_pos ⟨c1', c2⟩]
      · have c2' : ah t x.2 (gE s1.1 ((m - 1) / 2)).2 = false := by simpa using c2
        rw [c2']
        refine iteF ?_
        exact last fun h => c2 h.2
    · rw [if_neg c1]
      exact last fun h => c1 (by omega)

theorem ok_Pile_put (T : Tx K mg) (t : Bool) (F_rise : Fn P w K mg base 2 (He.ma K (He.ga K "Pile") "rise") P_Pile_rise (spRise K t)) {fd : FuncData} (F : FnP K "put" "Pile.put" s_Pile_put (He.ma K (He.ga K "Pile") "put") fd) : Fn P w K mg base 3 (He.ma K (He.ga K "Pile") "put") P_Pile_put (spPut K t) := by
  have Pt := pt_of T t
  refine fn_okX F sc_Pile_put (fun vs H Q E h => ?_) (fun _ _ _ _ _ _ us hl => match us, hl with | [_, _], _ => rfl) (fun cdv A outer s0 H vs Q E hr h => ?_)
  · obtain ⟨a, s, hv, x, rfl, _⟩ := h
    rfl
  · obtain ⟨a, s, hv, x, rfl, R, hx, hl, hE, hQ⟩ := h
    have hu := hu_of hr
    refine ⟨_, (pss_cons (ps_if (pt_cmp (pc_din hu (pe_ix ix_tup (pv 1) pe_int (fun _ _ => rfl)) (pe_fld (pv 0) rfl))) (pss_one (ps_raise rfl (takes_of rfl rfl rfl rfl) (pmk_own PySem.F.excBase_ValueError T.xc_Twice.1 T.g_Twice T.xc_Twice.2.1 (raises_own T.xc_Twice.2.2.1 T.xc_Twice.2.2.2) rfl))) pss_nil)
    (pss_cons (ps_expr (pe_bm PySem.F.plainAttrs_list PySem.F.slot_list_append PySem.F.type_list_append mt_append (pe_fld (pv 0) rfl) (pa_cons (pv 1) pa_nil)))
    (pss_cons (ps_fldaug (pv 0) (pe_ix ix_tup (pv 1) pe_int (fun _ _ => rfl)) in_add)
    (pss_one (ps_expr (pe_methF (pv 0) Pt.cl Pt.m_rise F_rise hr (fun _ => nopass) (pa_cons (pe_op op_sub (pe_callB call_len_seq rfl T.z_len PySem.boot_len (pa_cons (pe_fld (pv 0) rfl) pa_nil)) pe_int) pa_nil))))))), ?_⟩
    rw [show start N_Pile_put [V.ref a.p, V.ref x.1] = [some (V.ref a.p), some (V.ref x.1)] from rfl]
    walk_at "rd"
    refine ixT1 hx ?_
    refine fldR.mk R.ob Pt.cl Pt.nw (pf_where _ _ _) ?_
    refine diR.mk R.di ?_
    cases hv0 : valV s.2 (Sum.inl x.2.2 : Key) with
    | some v => exact iteT (hE v hv0)
    | none =>
      refine iteF ?_
      refine fldR.mk R.ob Pt.cl Pt.nt (pf_things _ _ _) ?_
      refine ⟨.inl ⟨rfl, _, SqL.of R.li⟩, a.l, _, _, rfl, rfl, R.li, by rw [List.length_map, PySem.sizeLine_eq]; omega, ?_⟩
      have nxl : x.1 ≠ a.l := ne_of hx R.li fun z => by cases z
      have nxp : x.1 ≠ a.p := ne_of hx R.ob fun z => by cases z
      have e1 : (s.1.map fun e => V.ref e.1) ++ [V.ref x.1] = (s.1 ++ [x]).map fun e => V.ref e.1 := by rw [List.map_append]; rfl
      rw [e1]
      have f1 : FrP a H (upd H a.l (.lst ((s.1 ++ [x]).map fun e => V.ref e.1))) := fun b o e h1 h2 h3 => by rw [upd_ne h2]; exact e
      have ob1 : (upd H a.l (.lst ((s.1 ++ [x]).map fun e => V.ref e.1))) a.p = some (.ins (pC K t) a.dx (pf a.l a.d hv)) := by rw [upd_ne R.npl]; exact R.ob
      walk_at "rd"
      refine augR.mk ob1 Pt.cl Pt.nh (pf_heavy _ _ _) ?_
      refine ixT0 (n := x.2.1) (c := x.2.2) (by rw [upd_ne nxl]; exact hx) ?_
      refine ⟨hv, x.2.1, rfl, rfl, a.dx, _, ob1, by show 3 < 1000; decide, ?_⟩
      rw [pf_put]
      have R2 : PRaw K t a (upd (upd H a.l (.lst ((s.1 ++ [x]).map fun e => V.ref e.1))) a.p (.ins (pC K t) a.dx (pf a.l a.d (hv + x.2.1)))) (s.1 ++ [x], s.2) (hv + x.2.1) := by
        refine ⟨upd_same, ?_, ?_, fun e he => ?_⟩
        · rw [upd_ne R.npl.symm]; exact upd_same
        · rw [upd_ne R.npd.symm, upd_ne R.nld.symm]; exact R.di
        · rcases List.mem_append.mp he with z | z
          · have q := R.tu e z
            rw [upd_ne (ne_of q R.ob fun z => by cases z), upd_ne (ne_of q R.li fun z => by cases z)]
            exact q
          · have z : e = x := List.mem_singleton.mp z
            rw [z, upd_ne nxp, upd_ne nxl]
            exact hx
      have f2 : FrP a H (upd (upd H a.l (.lst ((s.1 ++ [x]).map fun e => V.ref e.1))) a.p (.ins (pC K t) a.dx (pf a.l a.d (hv + x.2.1)))) := fun b o e h1 h2 h3 => by rw [upd_ne h1]; exact f1 b o e h1 h2 h3
      revert R2 f2
      generalize (upd (upd H a.l (.lst ((s.1 ++ [x]).map fun e => V.ref e.1))) a.p (.ins (pC K t) a.dx (pf a.l a.d (hv + x.2.1)))) = H2
      intro R2 f2
      have noR : (pf a.l a.d (hv + x.2.1)).lookup ("rise" : Str) = none := pf_no _ _ _ (by decide +kernel) (by decide +kernel) (by decide +kernel)
      walk_at "rd"
      refine metR.mk R2.ob noR ?_
      refine fldR.mk R2.ob Pt.cl Pt.nt (pf_things _ _ _) ?_
      refine ⟨a.l, rfl, _, .inl (SqL.of R2.li), ?_⟩
      have el : ((((s.1 ++ [x]).map fun e => V.ref e.1).length : Nat) : Int) - 1 = ((s.1.length : Nat) : Int) := by simp
      rw [el]
      refine ⟨a, _, _, s.1.length, rfl, R2, by simp, by show s.2.length + s.1.length < 1000000; omega, fun H3 R3 f3 => ?_⟩
      have eg : gE (s.1 ++ [x]) s.1.length = x := gE_of (by simp)
      rw [eg] at R3
      exact hQ hv0 H3 R3 (f2.trans f3)

/-- between two turns of sink: m: the length less the place -/
def SinkW (K : PySem.W.Frag) (t : Bool) (a : PA) (hv : Int) (x : En) (H : Hp) (z : Sx) : Nat → L2.St → Hp → Prop := fun m σ H1 =>
  ∃ (k1 : Nat) (s1 : Sx) (v : Option V), σ = [some (.ref a.p), some (.int (k1 : Int)), some (.ref x.1), v] ∧ m = s1.1.length - k1 ∧ PRaw K t a H1 s1 hv ∧ H1 x.1 = some (tV x.2) ∧ k1 < s1.1.length ∧ s1.2.length + (s1.1.length - k1) < 1000000 ∧ FrP a H H1 ∧ sinkM t x s1 k1 = z


end
end Mp

namespace Mp
open PySem PySem.Spec PyProof.Rows L2
local macro_rules | `(tactic| walk_at "rd") => `(tactic| try simp only [tSeq, tAsg, gName, tVar, tC, tOp, rI0, rI, tTest, tB, tIfS, tNext, tBreak, tCont, tRet, tRetN, tDrop, tCons, tNil, tCallS, tCB, tAnd, tOr, tNot, tAndV, tOrV, tNotV, tUn, rU, tIf, tChain, gCons, gNil, gSub, tFld_r, sFld_r, sFldAug_r, tDGet_r, tDIn_r, tDNotIn_r, sDPut_r, tDPop1_r, tMethF_r, tMakeF, tBits, tSl, tPart, tDNewK, cxOf_K, tBM, tBM0, tTup, tLst, List.length_cons, List.length_nil, Nat.reduceAdd, Nat.zero_add, PySem.sizeLine_eq, Nat.reduceLeDiff,
  List.getElem?_cons_zero, List.getElem?_cons_succ, Option.some.injEq, exists_eq_left', List.set_cons_zero, List.set_cons_succ, exists_eq_left, V.int.injEq, V.bl.injEq, V.ref.injEq, List.cons.injEq, and_true, true_and, and_assoc, exists_and_left, decide_eq_true_eq,
  rEq_int, rNe_int, cdiv_iff, cpow10, Int.reduceLT, Int.reduceLE, Int.reduceToNat, Int.reducePow, Int.reduceNeg, Int.reduceSub, Int.reduceAdd, Int.reduceMul, Nat.reducePow, Nat.reduceLT, Bool.not_eq_true', Bool.false_eq_true, if_true, if_false, not_true_eq_false, not_false_eq_true, ite_not, Bool.not_true, Bool.not_false, reduceCtorEq, ipI, tAug, isi_int_int, isi_int_bool, isi_bool_bool, Bool.true_eq_false, reduceIte])
local macro_rules | `(tactic| walk_at "fo") => `(tactic| try simp only [tFor_enum, tFor_zip, tFor_list, tFor_r1])

/-! ### the deeds of a pile, at a pile in its form -/
def wt (es : List En) : Int := (es.map (·.2.1)).sum
theorem sum_perm {a b : List Int} (p : a.Perm b) : a.sum = b.sum := by
  induction p with
  | nil => rfl
  | cons x _ ih => rw [List.sum_cons, List.sum_cons, ih]
  | swap x y l =>
    rw [List.sum_cons, List.sum_cons, List.sum_cons, List.sum_cons]
    omega
  | trans _ _ h1 h2 => exact h1.trans h2
theorem wt_perm {a b : List En} (p : a.Perm b) : wt a = wt b := sum_perm (p.map _)
theorem wt_cons (x : En) (es : List En) : wt (x :: es) = x.2.1 + wt es := rfl
structure PAt (K : PySem.W.Frag) (t : Bool) (a : PA) (H : Hp) (s : Sx) : Prop where
  raw : PRaw K t a H s (wt s.1)
  ok : PileOk t s
theorem PAt.same {K : PySem.W.Frag} {t : Bool} {a : PA} {H H' : Hp} {s : Sx} (R : PAt K t a H s) (f : Same H H') : PAt K t a H' s := ⟨R.raw.same f, R.ok⟩
theorem PAt.tup {K : PySem.W.Frag} {t : Bool} {a : PA} {H : Hp} {s : Sx} (R : PAt K t a H s) : Tup H s.1 := R.raw.tu
theorem FrP.fr {a : PA} {H H' : Hp} (f : FrP a H H') {P : List Addr} (h1 : a.p ∈ P) (h2 : a.l ∈ P) (h3 : a.d ∈ P) : Fr P H H' := fun b o e n => f b o e (fun z => n (z ▸ h1)) (fun z => n (z ▸ h2)) (fun z => n (z ▸ h3))
/-- what stands at P is no tuple -/
def NoTup (H : Hp) (P : List Addr) : Prop := ∀ b ∈ P, ∀ xs, H b ≠ some (.tup xs)
theorem NoTup.mono {H : Hp} {P P' : List Addr} (n : NoTup H P) (h : ∀ b ∈ P', b ∈ P) : NoTup H P' := fun b hb => n b (h b hb)
theorem tup_fr {P : List Addr} {H H' : Hp} {b : Addr} {xs : List V} (f : Fr P H H') (n : NoTup H P) (h : H b = some (.tup xs)) : H' b = some (.tup xs) := f b _ h fun z => n b z xs h
theorem Tup.fr2 {P : List Addr} {H H' : Hp} {es : List En} (h : Tup H es) (f : Fr P H H') (n : NoTup H P) : Tup H' es := fun e he => tup_fr f n (h e he)
theorem PAt.fr {K : PySem.W.Frag} {t : Bool} {a : PA} {P : List Addr} {H H' : Hp} {s : Sx} (R : PAt K t a H s) (f : Fr P H H') (n : NoTup H P) (h1 : a.p ∉ P) (h2 : a.l ∉ P) (h3 : a.d ∉ P) : PAt K t a H' s :=
  ⟨⟨f _ _ R.raw.ob h1, f _ _ R.raw.li h2, f _ _ R.raw.di h3, R.tup.fr2 f n⟩, R.ok⟩
theorem hPut {K : PySem.W.Frag} {t : Bool} {a : PA} {H : Hp} {s : Sx} {x : En} {Q : VK} {E : XK} (R : PAt K t a H s) (hx : H x.1 = some (tV x.2)) (hl : s.1.length < 250000)
    (hE : (∃ e ∈ s.1, e.2.2 = x.2.2) → E (.ref (He.ga K "Twice")) none H)
    (hQ : (∀ e ∈ s.1, e.2.2 ≠ x.2.2) → ∀ s' H', PAt K t a H' s' → s'.1.Perm (x :: s.1) → df s.1 s'.1 ≤ bl s.1.length → FrP a H H' → Q .non H') : spPut K t [.ref a.p, .ref x.1] H Q E := by
  have hw := R.ok.wf.len
  refine ⟨a, s, _, x, rfl, R.raw, hx, by omega, fun v hv => ?_, fun hv H' R' f => ?_⟩
  · obtain ⟨i, e, he, hc, _⟩ := R.ok.wf.find hv
    exact hE ⟨e, mem_iff_get.mpr ⟨i, he⟩, hc⟩
  · have hn := R.ok.wf.none.mp hv
    obtain ⟨k1, k2, k3⟩ := putM_ok R.ok hn
    refine hQ hn _ H' ⟨?_, k1⟩ k2 k3 f
    rw [wt_perm k2, wt_cons, Int.add_comm]
    exact R'
theorem hTake {K : PySem.W.Frag} {t : Bool} {a : PA} {H : Hp} {s : Sx} {c : Int} {Q : VK} {E : XK} (R : PAt K t a H s) (hl : s.1.length < 250000)
    (hE : (∀ e ∈ s.1, e.2.2 ≠ c) → E (.ref (He.ga K "NoThing")) none H)
    (hQ : ∀ e ∈ s.1, e.2.2 = c → ∀ s' H', PAt K t a H' s' → (e :: s'.1).Perm s.1 → df s.1 s'.1 ≤ bl (s.1.length - 1) → FrP a H H' → Q (.ref e.1) H') : spTake K t [.ref a.p, .int c] H Q E := by
  have hw := R.ok.wf.len
  refine ⟨a, s, _, c, rfl, R.raw, by omega, fun hv => hE (R.ok.wf.none.mp hv), fun v hv => ?_⟩
  obtain ⟨i, e, he, hc, rfl⟩ := R.ok.wf.find hv
  have ee : gE s.1 i = e := gE_of he
  refine ⟨i, rfl, lt_of_get he, i, rfl, by rw [ee]; exact hc, fun H' R' f => ?_⟩
  rw [ee] at R' ⊢
  obtain ⟨k1, k2, k3⟩ := takeM_ok R.ok he
  refine hQ e (mem_iff_get.mpr ⟨i, he⟩) hc _ H' ⟨?_, k1⟩ k2 k3 f
  have : wt (takeM t s i).1 = wt s.1 - e.2.1 := by
    have := wt_perm k2
    rw [wt_cons] at this
    omega
  rw [this]
  exact R'
theorem hTop {K : PySem.W.Frag} {t : Bool} {a : PA} {H : Hp} {s : Sx} {Q : VK} {E : XK} (R : PAt K t a H s)
    (hE : s.1 = [] → ∀ H', Same H H' → E (.ref (He.ga K "Empty")) none H')
    (hQ : ∀ e, s.1[0]? = some e → (∀ x ∈ s.1, ah t x.2 e.2 = false) → ∀ H', Same H H' → Q (.ref e.1) H') : spTop K t [.ref a.p] H Q E :=
  ⟨a, s, _, rfl, R.raw, hE, fun e he => hQ e he fun x hx => by
    obtain ⟨i, hi⟩ := mem_iff_get.mp hx
    exact R.ok.fm.top he i x hi⟩
theorem hMany {K : PySem.W.Frag} {t : Bool} {a : PA} {H : Hp} {s : Sx} {Q : VK} {E : XK} (R : PAt K t a H s) (q : Q (.int (s.1.length : Int)) H) : spMany K t [.ref a.p] H Q E := ⟨a, s, _, rfl, R.raw, q⟩
theorem hWeight {K : PySem.W.Frag} {t : Bool} {a : PA} {H : Hp} {s : Sx} {Q : VK} {E : XK} (R : PAt K t a H s) (q : Q (.int (wt s.1)) H) : spWeight K t [.ref a.p] H Q E := ⟨a, s, _, rfl, R.raw, q⟩
theorem hTold {K : PySem.W.Frag} {t : Bool} {a : PA} {H : Hp} {s : Sx} {Q : VK} {E : XK} (R : PAt K t a H s) (q : ∀ p, H p = none → Q (.ref p) (upd H p (.lst (rf s.1)))) : spTold K t [.ref a.p] H Q E := ⟨a, s, _, rfl, R.raw, q⟩
theorem pat_nil {K : PySem.W.Frag} {t : Bool} {a : PA} {H : Hp} (R : PRaw K t a H ([], []) 0) : PAt K t a H ([], []) := ⟨R, ⟨⟨List.nodup_nil, List.nodup_nil, fun i e h => by simp at h, fun k h => by cases h⟩, form_nil t⟩⟩
/-- a class that is made: places of the object, its dict, the list, the where -/
theorem hMade {K : PySem.W.Frag} {t : Bool} {p dx : Addr} {H : Hp} {Q : VK} {E : XK} (hp : H p = none) (hdx : H dx = none) (ne : dx ≠ p)
    (q : ∀ (l d : Addr) H', H l = none → H d = none → PAt K t ⟨p, dx, l, d⟩ H' ([], []) → Same H H' → Q .non H') : spPInit K t [.ref p] (upd (upd H dx (.own p)) p (.ins (pC K t) dx [])) Q E := by
  refine ⟨p, dx, rfl, upd_same, fun l d H' hl hd R f => ?_⟩
  have hl0 : H l = none := by
    by_cases e1 : l = p
    · rw [e1]; exact hp
    by_cases e2 : l = dx
    · rw [e2]; exact hdx
    rw [upd_ne e1, upd_ne e2] at hl
    exact hl
  have hd0 : H d = none := by
    by_cases e1 : d = p
    · rw [e1]; exact hp
    by_cases e2 : d = dx
    · rw [e2]; exact hdx
    rw [upd_ne e1, upd_ne e2] at hd
    exact hd
  refine q l d H' hl0 hd0 (pat_nil R) fun b o e => ?_
  have n1 : b ≠ p := fun z => by rw [z, hp] at e; cases e
  have n2 : b ≠ dx := fun z => by rw [z, hdx] at e; cases e
  exact f b o (by rw [upd_ne n1, upd_ne n2]; exact e) n1
end Mp

namespace Mp
open PySem PySem.Spec PyProof.Rows L2
local macro_rules | `(tactic| walk_at "rd") => `(tactic| try simp only [tSeq, tAsg, gName, tVar, tC, tOp, rI0, rI, tTest, tB, tIfS, tNext, tBreak, tCont, tRet, tRetN, tDrop, tCons, tNil, tCallS, tCB, tAnd, tOr, tNot, tAndV, tOrV, tNotV, tUn, rU, tIf, tChain, gCons, gNil, gSub, tFld_r, sFld_r, sFldAug_r, tDGet_r, tDIn_r, tDNotIn_r, sDPut_r, tDPop1_r, tMethF_r, tMakeF, tBits, tSl, tPart, tDNewK, cxOf_K, tBM, tBM0, tTup, tLst, List.length_cons, List.length_nil, Nat.reduceAdd, Nat.zero_add, PySem.sizeLine_eq, Nat.reduceLeDiff,
  List.getElem?_cons_zero, List.getElem?_cons_succ, Option.some.injEq, exists_eq_left', List.set_cons_zero, List.set_cons_succ, exists_eq_left, V.int.injEq, V.bl.injEq, V.ref.injEq, List.cons.injEq, and_true, true_and, and_assoc, exists_and_left, decide_eq_true_eq,
  rEq_int, rNe_int, cdiv_iff, cpow10, Int.reduceLT, Int.reduceLE, Int.reduceToNat, Int.reducePow, Int.reduceNeg, Int.reduceSub, Int.reduceAdd, Int.reduceMul, Nat.reducePow, Nat.reduceLT, Bool.not_eq_true', Bool.false_eq_true, if_true, if_false, not_true_eq_false, not_false_eq_true, ite_not, Bool.not_true, Bool.not_false, reduceCtorEq, ipI, tAug, isi_int_int, isi_int_bool, isi_bool_bool, Bool.true_eq_false, reduceIte])
local macro_rules | `(tactic| walk_at "fo") => `(tactic| try simp only [tFor_enum, tFor_zip, tFor_list, tFor_r1])

/-! ### a cell of the script -/
def spAt (K : PySem.W.Frag) (a : Addr) (ns : List Int) : Sp := fun vs H Q _ => ∃ k : Int, vs = [.ref a, .int k] ∧ 0 ≤ k ∧ SqL K H a (ns.map V.int) ∧ Q (.int (ns.getD k.toNat 0)) H
section
variable {P : Program} {w : World} {K : PySem.W.Frag} {mg : Str → Option Value} {base : Heap}
theorem ok_law_at (T : Tx K mg) (a : Addr) (ns : List Int) {fd : FuncData} (F : FnP K "_law_at" "_law_at" s_law_at (He.ga K "_law_at") fd) : Fn P w K mg base 1 (He.ga K "_law_at") P_law_at (spAt K a ns) := by
  refine fn_ok F sc_law_at (fun vs H Q E h => ?_) (fun _ _ _ _ _ _ us hl => match us, hl with | [_, _], _ => rfl) (fun cdv A outer s H vs Q E hr h => ?_)
  · obtain ⟨k, rfl, _⟩ := h
    rfl
  · obtain ⟨k, rfl, hk, hS, hQ⟩ := h
    refine ⟨_, (pss_cons (ps_if (pt_cmpR op_lt (pv 1) (pe_callB call_len_seq rfl T.z_len PySem.boot_len (pa_cons (pv 0) pa_nil)) (nomark _)) (pss_one (ps_ret (pe_ix ix_list (pv 0) (pv 1) (fun _ _ => rfl)))) pss_nil)
    (pss_one (ps_ret pe_int))), ?_⟩
    rw [show start N_law_at [V.ref a, V.int k] = [some (V.ref a), some (V.int k)] from rfl]
    walk_at "rd"
    refine ⟨_, .inl hS, ?_⟩
    by_cases c : k < ((ns.map V.int).length : Int)
    · rw [if_pos c]
      exact ⟨a, _, _, _, rfl, rfl, hS, get_lt hk c, hQ⟩
    · rw [if_neg c]
      rw [List.length_map] at c
      have e : ns.getD k.toNat 0 = 0 := by rw [List.getD_eq_getElem?_getD, List.getElem?_eq_none (by omega)]; rfl
      rw [e] at hQ
      exact hQ
end

def spIs : Sp := fun vs H Q _ => ∃ i j : Int, vs = [.int i, .int j] ∧ Q (.bl (decide (i = j))) H
def numM (c : Int) : Int := if c % 4 = 0 then c / 4 % 7 - 3 else if c % 4 = 1 then c / 4 % 2001 - 1000 else if c % 4 = 2 then c / 4 % (10 ^ 20 + 1) - 5 * 10 ^ 19 else c / 4 % (2 * 10 ^ 60 - 1) - (10 ^ 60 - 1)
theorem numM_le (c : Int) : -10 ^ 60 < numM c ∧ numM c < 10 ^ 60 := by
  unfold numM
  split
  · omega
  · split
    · omega
    · split <;> omega
def spNum : Sp := fun vs H Q _ => ∃ c : Int, vs = [.int c] ∧ Q (.int (numM c)) H
def spThing : Sp := fun vs H Q _ => ∃ x : En, vs = [.ref x.1] ∧ H x.1 = some (tV x.2) ∧ Q (.bl true) H
def spAhd : Sp := fun vs H Q _ => ∃ (t : Bool) (x y : En), vs = [.ref x.1, .ref y.1, .bl t] ∧ H x.1 = some (tV x.2) ∧ H y.1 = some (tV y.2) ∧ Q (.bl (ah t x.2 y.2)) H
def spForm : Sp := fun vs H Q _ => ∃ (t : Bool) (l : Addr) (es : List En), vs = [.ref l, .bl t] ∧ H l = some (.lst (rf es)) ∧ Tup H es ∧ Form t es ∧ es.length < 1000000 ∧ Q (.bl true) H
def spEmpty (K : PySem.W.Frag) (t : Bool) : Sp := fun vs H Q _ => ∃ (a : PA) (s : Sx), vs = [.ref a.p] ∧ PAt K t a H s ∧ s.1 = [] ∧ ∀ H', Same H H' → Q (.bl true) H'
def spNoThing (K : PySem.W.Frag) (t : Bool) : Sp := fun vs H Q _ => ∃ (a : PA) (s : Sx) (c : Int), vs = [.ref a.p, .int c] ∧ PAt K t a H s ∧ s.1.length < 250000 ∧ (∀ e ∈ s.1, e.2.2 ≠ c) ∧ ∀ H', Same H H' → Q (.bl true) H'
def spTwice (K : PySem.W.Frag) (t : Bool) : Sp := fun vs H Q _ => ∃ (a : PA) (s : Sx) (x : En), vs = [.ref a.p, .ref x.1] ∧ PAt K t a H s ∧ s.1.length < 250000 ∧ H x.1 = some (tV x.2) ∧ (∃ e ∈ s.1, e.2.2 = x.2.2) ∧ ∀ H', Same H H' → Q (.bl true) H'
section
variable {P : Program} {w : World} {K : PySem.W.Frag} {mg : Str → Option Value} {base : Heap}
theorem ok_law_is (T : Tx K mg) {fd : FuncData} (F : FnP K "_law_is" "_law_is" s_law_is (He.ga K "_law_is") fd) : Fn P w K mg base 1 (He.ga K "_law_is") P_law_is spIs := by
  refine fn_ok F sc_law_is (fun vs H Q E h => ?_) (fun _ _ _ _ _ _ us hl => match us, hl with | [_, _], _ => rfl) (fun cdv A outer s H vs Q E hr h => ?_)
  · obtain ⟨i, j, rfl, _⟩ := h
    rfl
  · obtain ⟨i, j, rfl, hQ⟩ := h
    refine ⟨_, (pss_one (ps_ret (pe_and (pe_callB call_isi rfl T.z_isinstance (by decide +kernel) (pa_cons (pv 0) (pa_cons (pe_tyv "int" T.z_int) pa_nil))) (pe_and (pe_not (pe_callB call_isi rfl T.z_isinstance (by decide +kernel) (pa_cons (pv 0) (pa_cons (pe_tyv "bool" T.z_bool) pa_nil)))) (pe_one (pe_cmpR op_eq (pv 0) (pv 1) (nomark _))))))), ?_⟩
    rw [show start N_law_is [V.int i, V.int j] = [some (V.int i), some (V.int j)] from rfl]
    walk_at "rd"
    exact hQ

theorem ok_law_number (T : Tx K mg) {fd : FuncData} (F : FnP K "_law_number" "_law_number" s_law_number (He.ga K "_law_number") fd) : Fn P w K mg base 1 (He.ga K "_law_number") P_law_number spNum := by
  refine fn_ok F sc_law_number (fun vs H Q E h => ?_) (fun _ _ _ _ _ _ us hl => match us, hl with | [_], _ => rfl) (fun cdv A outer s H vs Q E hr h => ?_)
  · obtain ⟨c, rfl, _⟩ := h
    rfl
  · obtain ⟨c, rfl, hQ⟩ := h
    refine ⟨_, (pss_cons (ps_set (i := 1) sc_law_number.nd rfl (Or.inl rfl) (pe_op op_fdiv (pv 0) pe_int))
    (pss_cons (ps_if (pt_cmpR op_eq (pe_op op_mod (pv 0) pe_int) pe_int (nomark _)) (pss_one (ps_ret (pe_op op_sub (pe_op op_mod (pv 1) pe_int) pe_int))) pss_nil)
    (pss_cons (ps_if (pt_cmpR op_eq (pe_op op_mod (pv 0) pe_int) pe_int (nomark _)) (pss_one (ps_ret (pe_op op_sub (pe_op op_mod (pv 1) pe_int) pe_int))) pss_nil)
    (pss_cons (ps_if (pt_cmpR op_eq (pe_op op_mod (pv 0) pe_int) pe_int (nomark _)) (pss_one (ps_ret (pe_op op_sub (pe_op op_mod (pv 1) (pe_op op_add (pe_op op_pow pe_int pe_int) pe_int)) (pe_op op_mul pe_int (pe_op op_pow pe_int pe_int))))) pss_nil)
    (pss_one (ps_ret (pe_op op_sub (pe_op op_mod (pv 1) (pe_op op_sub (pe_op op_mul pe_int (pe_op op_pow pe_int pe_int)) pe_int)) (pe_op op_sub (pe_op op_pow pe_int pe_int) pe_int)))))))), ?_⟩
    rw [show start N_law_number [V.int c] = [some (V.int c), none] from rfl]
    walk_at "rd"
    unfold numM at hQ
    by_cases c1 : c % 4 = 0
    · rw [if_pos c1] at hQ ⊢; exact hQ
    rw [if_neg c1] at hQ ⊢
    by_cases c2 : c % 4 = 1
    · rw [if_pos c2] at hQ ⊢; exact hQ
    rw [if_neg c2] at hQ ⊢
    by_cases c3 : c % 4 = 2
    · rw [if_pos c3] at hQ ⊢; exact ⟨.inl ⟨by decide, by decide⟩, hQ⟩
    rw [if_neg c3] at hQ ⊢
    exact ⟨.inl ⟨by decide, by decide⟩, hQ⟩

theorem ok_law_thing (T : Tx K mg) (F_law_is : Fn P w K mg base 1 (He.ga K "_law_is") P_law_is spIs) {fd : FuncData} (F : FnP K "_law_thing" "_law_thing" s_law_thing (He.ga K "_law_thing") fd) : Fn P w K mg base 2 (He.ga K "_law_thing") P_law_thing spThing := by
  refine fn_ok F sc_law_thing (fun vs H Q E h => ?_) (fun _ _ _ _ _ _ us hl => match us, hl with | [_], _ => rfl) (fun cdv A outer s H vs Q E hr h => ?_)
  · obtain ⟨x, rfl, _⟩ := h
    rfl
  · obtain ⟨x, rfl, hx, hQ⟩ := h
    refine ⟨_, (pss_cons (ps_if (PW.pt (pw_or (pt_not (pt_val (pe_callB call_isi rfl T.z_isinstance (by decide +kernel) (pa_cons (pv 0) (pa_cons (pe_tyv "tuple" T.z_tuple) pa_nil))))) (pw_or1 (pt_cmpR op_ne (pe_callB call_len_seq rfl T.z_len PySem.boot_len (pa_cons (pv 0) pa_nil)) pe_int (nomark _))))) (pss_one (ps_ret pe_bl)) pss_nil)
    (pss_one (ps_ret (pe_and (pe_callF F_law_is hr T.g__law_is (fun _ => nopass) (pa_cons (pe_ix ix_tup (pv 0) pe_int (fun _ _ => rfl)) (pa_cons (pe_ix ix_tup (pv 0) pe_int (fun _ _ => rfl)) pa_nil))) (pe_one (pe_callF F_law_is hr T.g__law_is (fun _ => nopass) (pa_cons (pe_ix ix_tup (pv 0) pe_int (fun _ _ => rfl)) (pa_cons (pe_ix ix_tup (pv 0) pe_int (fun _ _ => rfl)) pa_nil)))))))), ?_⟩
    rw [show start N_law_thing [V.ref x.1] = [some (V.ref x.1)] from rfl]
    walk_at "rd"
    refine isi_tup hx ?_
    walk_at "rd"
    refine ⟨_, .inr (SqT.of hx), (if_neg (by simp)).mpr ?_⟩
    refine ixT0 hx (ixT0 hx ⟨_, _, rfl, true, by simp, iteT ?_⟩)
    refine ixT1 hx (ixT1 hx ⟨_, _, rfl, ?_⟩)
    rw [decide_eq_true rfl]
    exact hQ

theorem ok_law_ahead (T : Tx K mg) {fd : FuncData} (F : FnP K "_law_ahead" "_law_ahead" s_law_ahead (He.ga K "_law_ahead") fd) : Fn P w K mg base 1 (He.ga K "_law_ahead") P_law_ahead spAhd := by
  refine fn_ok F sc_law_ahead (fun vs H Q E h => ?_) (fun _ _ _ _ _ _ us hl => match us, hl with | [_, _, _], _ => rfl) (fun cdv A outer s0 H vs Q E hr h => ?_)
  · obtain ⟨t, x, y, rfl, _⟩ := h
    rfl
  · obtain ⟨t, x, y, rfl, hx, hy, hQ⟩ := h
    have hu0 := hr.units0
    refine ⟨_, (pss_cons (ps_if (pt_val (pv 2)) (pss_one (ps_ret (pe_cmpR (op_ltT hu0) (pv 1) (pv 0) (nomark _)))) pss_nil)
    (pss_one (ps_ret (pe_cmpR (op_ltT hu0) (pv 0) (pv 1) (nomark _))))), ?_⟩
    rw [show start N_law_ahead [V.ref x.1, V.ref y.1, V.bl t] = [some (V.ref x.1), some (V.ref y.1), some (V.bl t)] from rfl]
    walk_at "rd"
    cases t with
    | true =>
      refine iteT ⟨_, _, [y.2.1, y.2.2], [x.2.1, x.2.2], rfl, rfl, SqT.of hy, SqT.of hx, ?_⟩
      rw [lex_ah]
      exact hQ
    | false =>
      refine iteF ⟨_, _, [x.2.1, x.2.2], [y.2.1, y.2.2], rfl, rfl, SqT.of hx, SqT.of hy, ?_⟩
      rw [lex_ah]
      exact hQ

theorem ok_law_form (T : Tx K mg) (F_law_thing : Fn P w K mg base 2 (He.ga K "_law_thing") P_law_thing spThing) (F_law_ahead : Fn P w K mg base 1 (He.ga K "_law_ahead") P_law_ahead spAhd) {fd : FuncData} (F : FnP K "_law_form" "_law_form" s_law_form (He.ga K "_law_form") fd) : Fn P w K mg base 3 (He.ga K "_law_form") P_law_form spForm := by
  refine fn_ok F sc_law_form (fun vs H Q E h => ?_) (fun _ _ _ _ _ _ us hl => match us, hl with | [_, _], _ => rfl) (fun cdv A outer s0 H vs Q E hr h => ?_)
  · obtain ⟨t, l, es, rfl, _⟩ := h
    rfl
  · obtain ⟨t, l, es, rfl, hl, ht, hf, hlen, hQ⟩ := h
    refine ⟨_, (pss_cons (ps_if (pt_not (pt_val (pe_callB call_isi rfl T.z_isinstance (by decide +kernel) (pa_cons (pv 0) (pa_cons (pe_tyv "list" T.z_list) pa_nil))))) (pss_one (ps_ret pe_bl)) pss_nil)
    (pss_cons (ps_for PassesOwn.never rfl (pi_range1 rfl T.z_range (pa_cons (pe_callB call_len_seq rfl T.z_len PySem.boot_len (pa_cons (pv 0) pa_nil)) pa_nil)) (pg_name (i := 2) sc_law_form.nd rfl (Or.inl rfl))
    (pss_cons (ps_if (pt_not (pt_val (pe_callF F_law_thing hr T.g__law_thing (fun _ => nopass) (pa_cons (pe_ix ix_list (pv 0) (pv 2) (fun _ _ => rfl)) pa_nil)))) (pss_one (ps_ret pe_bl)) pss_nil)
    (pss_one (ps_if (PW.pt (pw_and (pt_cmpR op_gt (pv 2) pe_int (nomark _)) (pw_and1 (pt_val (pe_callF F_law_ahead hr T.g__law_ahead (fun _ => nopass) (pa_cons (pe_ix ix_list (pv 0) (pv 2) (fun _ _ => rfl)) (pa_cons (pe_ix ix_list (pv 0) (pe_op op_fdiv (pe_op op_sub (pv 2) pe_int) pe_int) (fun _ _ => rfl)) (pa_cons (pv 1) pa_nil)))))))) (pss_one (ps_ret pe_bl)) pss_nil))))
    (pss_one (ps_ret pe_bl)))), ?_⟩
    rw [show start N_law_form [V.ref l, V.bl t] = [some (V.ref l), some (V.bl t), none] from rfl]
    walk_at "rd"
    refine isi_lst hl ⟨true, rfl, (if_neg (by decide)).mpr ?_⟩
    have lg : ∀ i, i < es.length → atI (rf es) (i : Int) = some (V.ref (gE es i).1) := fun i hi => at_of (j := i) rfl (by rw [List.getElem?_map, gE_some hi]; rfl)
    refine ⟨_, rfl, l, rfl, _, .inl (SqL.of hl), _, rfl, ?_, ?_, for_range (lo := 0) (fun i σ H' => H' = H ∧ ∃ v, σ = [some (V.ref l), some (V.bl t), v]) ⟨rfl, none, rfl⟩ ?_ ?_⟩
    · omega
    · rw [List.length_map]
      have := hlen
      omega
    · rintro i σ H' hi ⟨rfl, v, rfl⟩
      walk_at "rd"
      have hi : i < es.length := by rw [List.length_map] at hi; omega
      rw [Int.zero_add]
      refine ixL_mk (SqL.of hl) (lg i hi) ⟨gE es i, rfl, ht _ (gE_mem hi), true, rfl, (if_neg (by decide)).mpr ?_⟩
      refine ite2 (fun c => ?_) (fun c => ⟨rfl, _, rfl⟩)
      have c1 : 0 < i := by omega
      have hp : (i - 1) / 2 < es.length := by omega
      refine ixL_mk (SqL.of hl) (lg i hi) (ixL_mk (SqL.of hl) (at_of (j := (i - 1) / 2) (half_up c1) (by rw [List.getElem?_map, gE_some hp]; rfl)) ?_)
      refine ⟨t, gE es i, gE es ((i - 1) / 2), rfl, ht _ (gE_mem hi), ht _ (gE_mem hp), _, rfl, ?_⟩
      rw [hf i _ _ c1 (gE_some hi) (gE_some hp)]
      exact iteF ⟨rfl, _, rfl⟩
    · rintro σ H' ⟨rfl, v, rfl⟩
      exact hQ

theorem ok_law_empty (T : Tx K mg) (t : Bool) (F_top : Fn P w K mg base 1 (He.ma K (He.ga K "Pile") "top") P_Pile_top (spTop K t)) {fd : FuncData} (F : FnP K "_law_empty" "_law_empty" s_law_empty (He.ga K "_law_empty") fd) : Fn P w K mg base 2 (He.ga K "_law_empty") P_law_empty (spEmpty K t) := by
  have Pt := pt_of T t
  refine fn_ok F sc_law_empty (fun vs H Q E h => ?_) (fun _ _ _ _ _ _ us hl => match us, hl with | [_], _ => rfl) (fun cdv A outer s0 H vs Q E hr h => ?_)
  · obtain ⟨a, s, rfl, _⟩ := h
    rfl
  · obtain ⟨a, s, rfl, R, hs, hQ⟩ := h
    refine ⟨_, (pss_cons (ps_try_as (i := 1) (Wout := fun _ _ _ _ => False) rfl rfl sc_law_empty.nd rfl rfl ⟨rfl, by decide, Or.inl T.g_MidError⟩ takes0
      (fun W pn xe tk _ => (pss_one (ps_expr (pe_methF0 (pv 0) Pt.cl Pt.m_top F_top hr (fun σ => passAt tk σ)))))
      (fun a oe cls d pn hz hf => (pss_cons (ps_set (i := 2) sc_law_empty.nd rfl (Or.inl rfl) (pe_callB (call_isET2 hz hf) rfl T.z_isinstance (by decide +kernel) (pa_cons (pv 1) (pa_cons (pe_tup (pa_cons (pe_clsv T.g_NoShare) (pa_cons (pe_clsv T.g_NoThing) (pa_cons (pe_clsv T.g_NoWidth) (pa_cons (pe_clsv T.g_Twice) pa_nil))))) pa_nil))))
    (pss_one (ps_ret (pe_and (pe_callB (call_isE2 hz hf) rfl T.z_isinstance (by decide +kernel) (pa_cons (pv 1) (pa_cons (pe_clsv T.g_Empty) pa_nil))) (pe_and (pe_callB (call_isE2 hz hf) rfl T.z_isinstance (by decide +kernel) (pa_cons (pv 1) (pa_cons (pe_tyv "ValueError" T.z_ValueError) pa_nil))) (pe_one (pe_not (pv 2))))))))))
    (pss_one (ps_ret pe_bl))), ?_⟩
    rw [show start N_law_empty [V.ref a.p] = [some (V.ref a.p), none, none] from rfl]
    walk_at "rd"
    exact metR.mk R.raw.ob (pf_no _ _ _ (by decide +kernel) (by decide +kernel) (by decide +kernel)) (hTop R (fun _ H1 s1 => suite_ok T.em_Empty T.xe_Empty T.kn_Empty T.ki_Empty T.kv_Empty (by show 1 < 3; decide) (by show 2 < 3; decide) (by decide) fun H2 s2 => hQ H2 fun b o e => s2 b o (s1 b o e)) fun e he => by rw [hs] at he; cases he)


theorem ok_law_twice (T : Tx K mg) (t : Bool) (F_put : Fn P w K mg base 3 (He.ma K (He.ga K "Pile") "put") P_Pile_put (spPut K t)) {fd : FuncData} (F : FnP K "_law_twice" "_law_twice" s_law_twice (He.ga K "_law_twice") fd) : Fn P w K mg base 4 (He.ga K "_law_twice") P_law_twice (spTwice K t) := by
  have Pt := pt_of T t
  refine fn_ok F sc_law_twice (fun vs H Q E h => ?_) (fun _ _ _ _ _ _ us hl => match us, hl with | [_, _], _ => rfl) (fun cdv A outer s0 H vs Q E hr h => ?_)
  · obtain ⟨a, s, x, rfl, _⟩ := h
    rfl
  · obtain ⟨a, s, x, rfl, R, hl, hx, hs, hQ⟩ := h
    refine ⟨_, (pss_cons (ps_try_as (i := 2) (Wout := fun _ _ _ _ => False) rfl rfl sc_law_twice.nd rfl rfl ⟨rfl, by decide, Or.inl T.g_MidError⟩ takes0
      (fun W pn xe tk _ => (pss_one (ps_expr (pe_methF (pv 0) Pt.cl Pt.m_put F_put hr (fun σ => passAt tk σ) (pa_cons (pv 1) pa_nil)))))
      (fun a oe cls d pn hz hf => (pss_cons (ps_set (i := 3) sc_law_twice.nd rfl (Or.inl rfl) (pe_callB (call_isET2 hz hf) rfl T.z_isinstance (by decide +kernel) (pa_cons (pv 2) (pa_cons (pe_tup (pa_cons (pe_clsv T.g_NoShare) (pa_cons (pe_clsv T.g_NoThing) (pa_cons (pe_clsv T.g_NoWidth) (pa_cons (pe_clsv T.g_Empty) pa_nil))))) pa_nil))))
    (pss_one (ps_ret (pe_and (pe_callB (call_isE2 hz hf) rfl T.z_isinstance (by decide +kernel) (pa_cons (pv 2) (pa_cons (pe_clsv T.g_Twice) pa_nil))) (pe_and (pe_callB (call_isE2 hz hf) rfl T.z_isinstance (by decide +kernel) (pa_cons (pv 2) (pa_cons (pe_tyv "ValueError" T.z_ValueError) pa_nil))) (pe_one (pe_not (pv 3))))))))))
    (pss_one (ps_ret pe_bl))), ?_⟩
    rw [show start N_law_twice [V.ref a.p, V.ref x.1] = [some (V.ref a.p), some (V.ref x.1), none, none] from rfl]
    walk_at "rd"
    obtain ⟨e, he, hc⟩ := hs
    exact metR.mk R.raw.ob (pf_no _ _ _ (by decide +kernel) (by decide +kernel) (by decide +kernel)) (hPut R hx hl (fun _ => suite_ok T.em_Twice T.xe_Twice T.kn_Twice T.ki_Twice T.kv_Twice (by show 2 < 4; decide) (by show 3 < 4; decide) (by decide) hQ) fun hn => absurd hc (hn e he))

end
end Mp

namespace Mp
open PySem PySem.Spec PyProof.Rows L2
local macro_rules | `(tactic| walk_at "rd") => `(tactic| try simp only [tSeq, tAsg, gName, tVar, tC, tOp, rI0, rI, tTest, tB, tIfS, tNext, tBreak, tCont, tRet, tRetN, tDrop, tCons, tNil, tCallS, tCB, tAnd, tOr, tNot, tAndV, tOrV, tNotV, tUn, rU, tIf, tChain, gCons, gNil, gSub, tFld_r, sFld_r, sFldAug_r, tDGet_r, tDIn_r, tDNotIn_r, sDPut_r, tDPop1_r, tMethF_r, tMakeF, tBits, tSl, tPart, tDNewK, cxOf_K, tBM, tBM0, tTup, tLst, List.length_cons, List.length_nil, Nat.reduceAdd, Nat.zero_add, PySem.sizeLine_eq, Nat.reduceLeDiff,
  List.getElem?_cons_zero, List.getElem?_cons_succ, Option.some.injEq, exists_eq_left', List.set_cons_zero, List.set_cons_succ, exists_eq_left, V.int.injEq, V.bl.injEq, V.ref.injEq, List.cons.injEq, and_true, true_and, and_assoc, exists_and_left, decide_eq_true_eq,
  rEq_int, rNe_int, cdiv_iff, cpow10, Int.reduceLT, Int.reduceLE, Int.reduceToNat, Int.reducePow, Int.reduceNeg, Int.reduceSub, Int.reduceAdd, Int.reduceMul, Nat.reducePow, Nat.reduceLT, Bool.not_eq_true', Bool.false_eq_true, if_true, if_false, not_true_eq_false, not_false_eq_true, ite_not, Bool.not_true, Bool.not_false, reduceCtorEq, ipI, tAug, isi_int_int, isi_int_bool, isi_bool_bool, Bool.true_eq_false, reduceIte])
local macro_rules | `(tactic| walk_at "fo") => `(tactic| try simp only [tFor_enum, tFor_zip, tFor_list, tFor_r1])

/-- pile and kept agree -/
structure StK (K : PySem.W.Frag) (t : Bool) (a : PA) (kl : Addr) (H : Hp) (s : Sx) (ke : List En) : Prop where
  pat : PAt K t a H s
  hk : H kl = some (.lst (rf ke))
  kt : Tup H ke
  kp : (vl ke).Perm (vl s.1)
  di : [a.p, a.l, a.d, kl].Nodup
section
variable {K : PySem.W.Frag} {t : Bool} {a : PA} {kl : Addr} {H H' : Hp} {s : Sx} {ke : List En}
theorem StK.len (S : StK K t a kl H s ke) : ke.length = s.1.length := by
  have := S.kp.length_eq
  simpa using this
theorem StK.has (S : StK K t a kl H s ke) {c : Int} : (∃ e ∈ s.1, e.2.2 = c) ↔ c ∈ ke.map (·.2.2) := by
  constructor
  · rintro ⟨e, he, rfl⟩
    have : e.2 ∈ vl ke := S.kp.mem_iff.mpr (List.mem_map.mpr ⟨e, he, rfl⟩)
    obtain ⟨g, hg, q⟩ := List.mem_map.mp this
    exact List.mem_map.mpr ⟨g, hg, by rw [q]⟩
  · intro h
    obtain ⟨g, hg, q⟩ := List.mem_map.mp h
    have : g.2 ∈ vl s.1 := S.kp.mem_iff.mp (List.mem_map.mpr ⟨g, hg, rfl⟩)
    obtain ⟨e, he, q2⟩ := List.mem_map.mp this
    exact ⟨e, he, by rw [q2]; exact q⟩
/-- the thing of the pile that a kept one is -/
theorem StK.of (S : StK K t a kl H s ke) {e f : En} (he : e ∈ ke) (hf : f ∈ s.1) (hc : f.2.2 = e.2.2) : f.2 = e.2 := by
  have : e.2 ∈ vl s.1 := S.kp.mem_iff.mp (List.mem_map.mpr ⟨e, he, rfl⟩)
  obtain ⟨g, hg, q⟩ := List.mem_map.mp this
  obtain ⟨i, hi⟩ := mem_iff_get.mp hf
  obtain ⟨j, hj⟩ := mem_iff_get.mp hg
  by_cases ne : i = j
  · subst ne
    rw [hi] at hj
    cases hj
    exact q
  · exact absurd (hc.trans (by rw [← q])) (nd_ne S.pat.ok.wf.nd hi hj ne)
abbrev PK4 (a : PA) (kl : Addr) : List Addr := [a.p, a.l, a.d, kl]
theorem StK.notup (S : StK K t a kl H s ke) : NoTup H (PK4 a kl) := by
  intro b hb xs
  simp only [PK4, List.mem_cons, List.not_mem_nil, or_false] at hb
  rcases hb with rfl | rfl | rfl | rfl
  · rw [S.pat.raw.ob]; simp
  · rw [S.pat.raw.li]; simp
  · rw [S.pat.raw.di]; simp
  · rw [S.hk]; simp
theorem StK.fr (S : StK K t a kl H s ke) {P : List Addr} (f : Fr P H H') (h : ∀ b ∈ PK4 a kl, b ∉ P) (n : NoTup H P) : StK K t a kl H' s ke := by
  have h1 := h a.p (by simp)
  have h2 := h a.l (by simp)
  have h3 := h a.d (by simp)
  have h4 := h kl (by simp)
  exact ⟨S.pat.fr f n h1 h2 h3, f _ _ S.hk h4, S.kt.fr2 f n, S.kp, S.di⟩
theorem notup_nil (H : Hp) : NoTup H [] := fun _ h => by cases h
theorem StK.same (S : StK K t a kl H s ke) (f : Same H H') : StK K t a kl H' s ke := S.fr (P := []) (Fr.of_same f) (fun _ _ => by simp) (notup_nil H)
theorem StK.alive (S : StK K t a kl H s ke) {z : Addr} (hz : H z = none) : z ∉ PK4 a kl := by
  have n1 := ne_of_none S.pat.raw.ob hz
  have n2 := ne_of_none S.pat.raw.li hz
  have n3 := ne_of_none S.pat.raw.di hz
  have n4 := ne_of_none S.hk hz
  simp [n1.symm, n2.symm, n3.symm, n4.symm]
theorem StK.ndc (S : StK K t a kl H s ke) : (ke.map (·.2.2)).Nodup := by
  have p : (ke.map (·.2.2)).Perm (s.1.map (·.2.2)) := by
    have z := S.kp.map (·.2)
    simp only [vl, List.map_map] at z
    exact z
  exact p.nodup_iff.mpr S.pat.ok.wf.nd
/-- a thing put in, and its like kept -/
theorem StK.put {s' : Sx} {x y : En} {H1 H2 : Hp} (S : StK K t a kl H s ke) (R : PAt K t a H1 s') (p : s'.1.Perm (x :: s.1)) (f : FrP a H H1) (f2 : Fr [kl] H1 H2) (hk2 : H2 kl = some (.lst (rf (ke ++ [y])))) (hy : H2 y.1 = some (tV y.2)) (e : y.2 = x.2) : StK K t a kl H2 s' (ke ++ [y]) ∧ Fr (PK4 a kl) H H2 := by
  have d := nod2 S.di
  simp only [List.pairwise_cons, List.mem_cons, List.not_mem_nil, or_false, false_or, forall_eq_or_imp, forall_eq, and_true, List.Pairwise.nil, false_imp_iff, implies_true, forall_const] at d
  have f1 : Fr [a.p, a.l, a.d] H H1 := f.fr (by simp) (by simp) (by simp)
  have hk1 := f1 _ _ S.hk (by first | (simp [d]; done) | grind)
  have n3 : NoTup H1 [kl] := fun b hb xs => by
    have hb : b = kl := by simpa using hb
    rw [hb, hk1]; simp
  have ft : Fr (PK4 a kl) H H2 := (f1.mono (by simp)).trans (f2.mono (by simp))
  refine ⟨⟨R.fr f2 n3 (by first | (simp [d]; done) | grind) (by first | (simp [d]; done) | grind) (by first | (simp [d]; done) | grind), hk2, ?_, ?_, S.di⟩, ft⟩
  · intro z hz
    rcases List.mem_append.mp hz with q | q
    · exact tup_fr ft S.notup (S.kt z q)
    · rw [List.mem_singleton.mp q]; exact hy
  · have p2 : (vl s'.1).Perm (x.2 :: vl s.1) := p.map _
    refine List.Perm.trans ?_ p2.symm
    rw [vl, List.map_append, ← e]
    exact (List.perm_append_comm (l₂ := [y.2])).trans (List.Perm.cons _ S.kp)
/-- a kept one popped, and its like taken -/
theorem StK.take {s' : Sx} {f : En} {i : Nat} {H1 H2 : Hp} (S : StK K t a kl H s ke) (hi : i < ke.length) (f0 : Fr [kl] H H1) (hk1 : H1 kl = some (.lst (rf (ke.eraseIdx i)))) (R : PAt K t a H2 s') (p : (f :: s'.1).Perm s.1) (f1 : FrP a H1 H2) (ev : f.2 = (gE ke i).2) : StK K t a kl H2 s' (ke.eraseIdx i) ∧ Fr (PK4 a kl) H H2 := by
  have d := nod2 S.di
  simp only [List.pairwise_cons, List.mem_cons, List.not_mem_nil, or_false, false_or, forall_eq_or_imp, forall_eq, and_true, List.Pairwise.nil, false_imp_iff, implies_true, forall_const] at d
  have f2 : Fr [a.p, a.l, a.d] H1 H2 := f1.fr (by simp) (by simp) (by simp)
  have ft : Fr (PK4 a kl) H H2 := (f0.mono (by simp)).trans (f2.mono (by simp))
  have pe : ke.Perm (gE ke i :: ke.eraseIdx i) := perm_erase (gE_some hi)
  refine ⟨⟨R, f2 _ _ hk1 (by first | (simp [d]; done) | grind), ?_, ?_, S.di⟩, ft⟩
  · intro e he
    exact tup_fr ft S.notup (S.kt e (List.mem_of_mem_eraseIdx he))
  · have q1 : (vl (f :: s'.1)).Perm (vl s.1) := p.map _
    have q2 : (vl ke).Perm ((gE ke i).2 :: vl (ke.eraseIdx i)) := pe.map _
    have q3 := (q1.trans (S.kp.symm.trans q2))
    have q4 : vl (f :: s'.1) = (gE ke i).2 :: vl s'.1 := by rw [vl, List.map_cons, ev]
    rw [q4] at q3
    exact (List.Perm.cons_inv q3).symm
theorem stk_new {H1 : Hp} (R : PAt K t a H1 ([], [])) (h : H1 kl = none) : StK K t a kl (upd H1 kl (.lst [])) ([], []) [] := by
  have n1 := ne_of_none R.raw.ob h
  have n2 := ne_of_none R.raw.li h
  have n3 := ne_of_none R.raw.di h
  have npl := R.raw.npl
  have npd := R.raw.npd
  have nld := R.raw.nld
  exact ⟨R.same (same_new h), upd_same, (fun e he => by cases he), List.Perm.refl _, by simp [npl, npd, nld, n1, n2, n3]⟩
theorem ite_join {c : Prop} [Decidable c] {A : Prop} {R : Hp → Prop} {H : Hp} (h1 : c → (∀ H2, Same H H2 → R H2) → A) (h2 : ∀ H2, Same H H2 → R H2) : if c then A else R H := by
  split
  · rename_i h
    exact h1 h h2
  · exact h2 H fun _ _ e => e
end

def spOrder (K : PySem.W.Frag) (t : Bool) : Sp := fun vs H Q _ => ∃ (a : PA) (s : Sx) (x y : En), vs = [.ref a.p, .ref x.1, .ref y.1, .bl t] ∧ PAt K t a H s ∧ H x.1 = some (tV x.2) ∧ H y.1 = some (tV y.2) ∧ Q (.bl true) H
def spLLook (K : PySem.W.Frag) (t : Bool) : Sp := fun vs H Q _ => ∃ (a : PA) (kl : Addr) (s : Sx) (ke : List En) (fl : Bool), vs = [.ref a.p, .ref kl, .bl t, .bl fl] ∧ StK K t a kl H s ke ∧ ke ≠ [] ∧ ke.length < 1000 ∧ ∀ H', Same H H' → Q (.bl true) H'
section
variable {P : Program} {w : World} {K : PySem.W.Frag} {mg : Str → Option Value} {base : Heap}
theorem ok_law_order (T : Tx K mg) (t : Bool) (F_ahead : Fn P w K mg base 1 (pAh K t) P_Pile_ahead (spAhead t)) (F_law_ahead : Fn P w K mg base 1 (He.ga K "_law_ahead") P_law_ahead spAhd) {fd : FuncData} (F : FnP K "_law_order" "_law_order" s_law_order (He.ga K "_law_order") fd) : Fn P w K mg base 2 (He.ga K "_law_order") P_law_order (spOrder K t) := by
  have Pt := pt_of T t
  refine fn_ok F sc_law_order (fun vs H Q E h => ?_) (fun _ _ _ _ _ _ us hl => match us, hl with | [_, _, _, _], _ => rfl) (fun cdv A outer s0 H vs Q E hr h => ?_)
  · obtain ⟨a, s, x, y, rfl, _⟩ := h
    rfl
  · obtain ⟨a, s, x, y, rfl, R, hx, hy, hQ⟩ := h
    refine ⟨_, (pss_cons (ps_set (i := 4) sc_law_order.nd rfl (Or.inl rfl) (pe_methF (pv 0) Pt.cl Pt.m_ahead F_ahead hr (fun _ => nopass) (pa_cons (pv 1) (pa_cons (pv 2) pa_nil))))
    (pss_cons (ps_if (PW.pt (pw_or (pt_not (pt_val (pe_callB call_isi rfl T.z_isinstance (by decide +kernel) (pa_cons (pv 4) (pa_cons (pe_tyv "bool" T.z_bool) pa_nil))))) (pw_or1 (pt_cmpR op_ne (pv 4) (pe_callF F_law_ahead hr T.g__law_ahead (fun _ => nopass) (pa_cons (pv 1) (pa_cons (pv 2) (pa_cons (pv 3) pa_nil)))) (nomark _))))) (pss_one (ps_ret pe_bl)) pss_nil)
    (pss_one (ps_ret (pe_cmpR op_is_bl (pe_methF (pv 0) Pt.cl Pt.m_ahead F_ahead hr (fun _ => nopass) (pa_cons (pv 1) (pa_cons (pv 1) pa_nil))) pe_bl (nomark _)))))), ?_⟩
    rw [show start N_law_order [V.ref a.p, V.ref x.1, V.ref y.1, V.bl t] = [some (V.ref a.p), some (V.ref x.1), some (V.ref y.1), some (V.bl t), none] from rfl]
    walk_at "rd"
    have noX : ∀ m : Str, (m == ("things" : Str)) = false → (m == ("where" : Str)) = false → (m == ("heavy" : Str)) = false → (pf a.l a.d (wt s.1)).lookup m = none := fun m h1 h2 h3 => pf_no _ _ _ h1 h2 h3
    refine metR.mk R.raw.ob (noX _ (by decide +kernel) (by decide +kernel) (by decide +kernel)) ⟨_, x, y, rfl, hx, hy, ?_⟩
    refine isi_mk (.base (.bl _)) (by decide +kernel) ⟨true, rfl, (if_neg (by decide)).mpr ⟨t, x, y, rfl, hx, hy, ?_⟩⟩
    show rNe _ _ _ _
    rw [rNe_bl, decide_eq_true rfl]
    refine ⟨_, rfl, (if_neg (by decide)).mpr (metR.mk R.raw.ob (noX _ (by decide +kernel) (by decide +kernel) (by decide +kernel)) ⟨_, x, x, rfl, hx, hx, _, rfl, ?_⟩)⟩
    rw [ah_irr, decide_eq_true rfl]
    exact hQ
theorem ok_law_look (T : Tx K mg) (t : Bool) (F_told : Fn P w K mg base 1 (He.ma K (He.ga K "Pile") "told") P_Pile_told (spTold K t)) (F_many : Fn P w K mg base 1 (He.ma K (He.ga K "Pile") "many") P_Pile_many (spMany K t)) (F_weight : Fn P w K mg base 1 (He.ma K (He.ga K "Pile") "weight") P_Pile_weight (spWeight K t)) (F_top : Fn P w K mg base 1 (He.ma K (He.ga K "Pile") "top") P_Pile_top (spTop K t))
    (F_law_is : Fn P w K mg base 1 (He.ga K "_law_is") P_law_is spIs) (F_law_form : Fn P w K mg base 3 (He.ga K "_law_form") P_law_form spForm) (F_law_thing : Fn P w K mg base 2 (He.ga K "_law_thing") P_law_thing spThing) {fd : FuncData} (F : FnP K "_law_look" "_law_look" s_law_look (He.ga K "_law_look") fd) : Fn P w K mg base 4 (He.ga K "_law_look") P_law_look (spLLook K t) := by
  have Pt := pt_of T t
  refine fn_ok F sc_law_look (fun vs H Q E h => ?_) (fun _ _ _ _ _ _ us hl => match us, hl with | [_, _, _, _], _ => rfl) (fun cdv A outer s0 H vs Q E hr h => ?_)
  · obtain ⟨a, kl, s, ke, fl, rfl, _⟩ := h
    rfl
  · obtain ⟨a, kl, s, ke, fl, rfl, S, hne, hlen, hQ⟩ := h
    have hu64 := hr.units
    have noX : ∀ m : Str, (m == ("things" : Str)) = false → (m == ("where" : Str)) = false → (m == ("heavy" : Str)) = false → (pf a.l a.d (wt s.1)).lookup m = none := fun m h1 h2 h3 => pf_no _ _ _ h1 h2 h3
    have hkl := S.len
    have hw : wt s.1 = (ke.map fun e => e.2.1).sum := by
      have z := S.kp.map (·.1)
      have z2 := sum_perm z
      simp only [vl, List.map_map] at z2
      exact z2.symm
    have hp0 : 0 < s.1.length := by
      have := List.length_pos_iff.mpr hne
      omega
    obtain ⟨tl, htl, key⟩ : ∃ tl : TS, PSs (cxOf (L2.CX P w) P w K mg base N_law_look "_law_look" (defScope s_law_look) (He.ga K "_law_look") cdv A outer s0 H E).nox ((defBody s_law_look).drop 3) tl ∧ ∀ (b : En), b.2 = (gE s.1 0).2 → H b.1 = some (tV b.2) → ∀ H1, Same H H1 →
        tl { nx := fun _ H' => Q .non H', rt := Q } [some (V.ref a.p), some (V.ref kl), some (V.bl t), some (V.bl fl), some (V.ref b.1), none, none, none, none] H1 := by
      refine ⟨_, (pss_cons (ps_set (i := 5) sc_law_look.nd rfl (Or.inl rfl) (pe_methF0 (pv 0) Pt.cl Pt.m_told F_told hr (fun _ => nopass)))
    (pss_cons (ps_if (PW.pt (pw_or (pt_not (pt_val (pe_callF F_law_form hr T.g__law_form (fun _ => nopass) (pa_cons (pv 5) (pa_cons (pv 2) pa_nil))))) (pw_or (pt_cmpR (op_neD hu64) (pe_callB cr_sortedPO rfl T.z_sorted (by decide +kernel) (pa_cons (pv 5) pa_nil)) (pe_callB cr_sortedPO rfl T.z_sorted (by decide +kernel) (pa_cons (pv 1) pa_nil)) (nomark _)) (pw_or1 (pt_cmpR (op_neD hu64) (pe_ix ix_list (pv 5) pe_int (fun _ _ => rfl)) (pv 4) (nomark _)))))) (pss_one (ps_ret pe_bl)) pss_nil)
    (pss_cons (ps_set (i := 6) sc_law_look.nd rfl (Or.inl rfl) (pe_callTy call_list_of rfl T.z_list (by decide +kernel) (pa_cons (pv 5) pa_nil)))
    (pss_cons (ps_expr (pe_bm0 PySem.F.plainAttrs_list PySem.F.slot_list_clear PySem.F.type_list_clear mt_clear (pv 5)))
    (pss_cons (ps_if (PW.pt (pw_or (pt_not (pt_val (pe_callF F_law_is hr T.g__law_is (fun _ => nopass) (pa_cons (pe_methF0 (pv 0) Pt.cl Pt.m_many F_many hr (fun _ => nopass)) (pa_cons (pe_callB call_len_seq rfl T.z_len PySem.boot_len (pa_cons (pv 1) pa_nil)) pa_nil))))) (pw_or1 (pt_not (pt_val (pe_callF F_law_is hr T.g__law_is (fun _ => nopass) (pa_cons (pe_methF0 (pv 0) Pt.cl Pt.m_weight F_weight hr (fun _ => nopass)) (pa_cons (pe_callB (cr_sum rfl) rfl T.z_sum (by decide +kernel) (pa_cons (pe_lc (own := [("_law_one", 8)]) (g := gName 8) (tt := tYes) (by rfl) sc_law_look.nd (pi_list (pv 1)) (blkOk_by (own := [("_law_one", 8)]) (N := N_law_look) (sc := defScope s_law_look) (by decide +kernel)) (fun _ _ _ _ _ => pg_name (i := 8) sc_law_look.nd rfl (Or.inl rfl)) (fun _ _ _ _ _ => pts_nil) (fun _ _ _ _ _ => (pe_ix (r := rIxT K) ix_tup (pv 8) pe_int (fun _ _ => rfl)))) pa_nil)) pa_nil)))))))) (pss_one (ps_ret pe_bl)) pss_nil)
    (pss_cons (ps_set (i := 7) sc_law_look.nd rfl (Or.inl rfl) (pe_methF0 (pv 0) Pt.cl Pt.m_top F_top hr (fun _ => nopass)))
    (pss_one (ps_ret (pe_and (pe_callF F_law_thing hr T.g__law_thing (fun _ => nopass) (pa_cons (pv 7) pa_nil)) (pe_and (pe_cmpR (op_eqD hu64) (pv 7) (pv 4) (nomark _)) (pe_one (pe_cmpR (op_eqD hu64) (pe_methF0 (pv 0) Pt.cl Pt.m_told F_told hr (fun _ => nopass)) (pv 6) (nomark _))))))))))))), fun b hb hbt H1 s1 => ?_⟩
      have S1 := S.same s1
      walk_at "rd"
      refine metR.mk S1.pat.raw.ob (noX _ (by decide +kernel) (by decide +kernel) (by decide +kernel)) (hTold S1.pat fun t1 h1 => ?_)
      have s2 := same_new (o := .lst (rf s.1)) h1
      have g2 : (upd H1 t1 (.lst (rf s.1))) t1 = some (.lst (rf s.1)) := upd_same
      have h10 := none_back s1 h1
      have S2 := S1.same s2
      have s02 : Same H (upd H1 t1 (.lst (rf s.1))) := fun b o e => s2 _ _ (s1 _ _ e)
      refine ⟨t, t1, s.1, rfl, upd_same, S2.pat.tup, S2.pat.ok.fm, by omega, true, rfl, (if_neg (by decide)).mpr ?_⟩
      revert g2 S2 s02
      generalize upd H1 t1 (.lst (rf s.1)) = H2
      intro g2 S2 s02
      refine sorted_mk (SqL.of g2) S2.pat.tup fun zs p pz tz az hp => ?_
      have s3 : Same H2 (upd H2 p (.lst (rf zs))) := same_new hp
      have g3 : (upd H2 p (.lst (rf zs))) p = some (.lst (rf zs)) := upd_same
      revert s3 g3
      generalize upd H2 p (.lst (rf zs)) = H3
      intro s3 g3
      have S3 := S2.same s3
      refine sorted_mk (SqL.of S3.hk) S3.kt fun ys p' py ty ay hp' => ?_
      have s4 : Same H3 (upd H3 p' (.lst (rf ys))) := same_new hp'
      have g4 : (upd H3 p' (.lst (rf ys))) p' = some (.lst (rf ys)) := upd_same
      revert s4 g4
      generalize upd H3 p' (.lst (rf ys)) = H4
      intro s4 g4
      have S4 := S3.same s4
      refine neD_l (dp_rf (s4 _ _ g3) ((tz.same s3).same s4)) (dp_rf g4 (ty.same s4)) ?_
      rw [decide_eq_true (asc_eq az ay ((pz.map _).trans (S.kp.symm.trans (py.map _).symm)))]
      have s24 : Same H2 H4 := fun b o e => s4 _ _ (s3 _ _ e)
      have s04 : Same H H4 := fun b o e => s24 _ _ (s02 _ _ e)
      have ht0 := S4.pat.tup _ (gE_mem hp0)
      refine ⟨_, rfl, (if_neg (by decide)).mpr (ixL_mk (SqL.of (s24 _ _ g2)) (at_of (j := 0) rfl (by rw [List.getElem?_map, gE_some hp0]; rfl)) ?_)⟩
      refine neD_t (dp_t ht0) (dp_t (s04 _ _ hbt)) ?_
      rw [hb, decide_eq_true rfl]
      refine ⟨_, rfl, (if_neg (by decide)).mpr ⟨t1, rfl, _, .inl (SqL.of (s24 _ _ g2)), fun cp hcp => ?_⟩⟩
      have s5 : Same H4 (upd H4 cp (.lst (rf s.1))) := same_new hcp
      have g5 : (upd H4 cp (.lst (rf s.1))) cp = some (.lst (rf s.1)) := upd_same
      have n1 : t1 ≠ cp := fun e => by rw [← e, s24 _ _ g2] at hcp; cases hcp
      have gt5 := s5 _ _ (s24 _ _ g2)
      refine ⟨.inl ⟨rfl, _, SqL.of gt5⟩, t1, _, rfl, rfl, gt5, ?_⟩
      have s6 : Same H (upd (upd H4 cp (.lst (rf s.1))) t1 (.lst [])) := fun b o e => by
        rw [upd_ne (fun z => by rw [z, h10] at e; cases e)]
        exact s5 _ _ (s04 _ _ e)
      have g6 : (upd (upd H4 cp (.lst (rf s.1))) t1 (.lst [])) cp = some (.lst (rf s.1)) := by rw [upd_ne n1.symm]; exact g5
      revert s6 g6
      generalize upd (upd H4 cp (.lst (rf s.1))) t1 (.lst []) = H6
      intro s6 g6
      have S6 := S.same s6
      refine metR.mk S6.pat.raw.ob (noX _ (by decide +kernel) (by decide +kernel) (by decide +kernel)) (hMany S6.pat ?_)
      refine ⟨_, .inl (SqL.of S6.hk), _, _, rfl, true, by simp [hkl], (if_neg (by decide)).mpr ?_⟩
      refine metR.mk S6.pat.raw.ob (noX _ (by decide +kernel) (by decide +kernel) (by decide +kernel)) (hWeight S6.pat ?_)
      refine ⟨V.ref kl, rfl, kl, rfl, ⟨_, SqL.of S6.hk⟩, fun D hD => lc_list (xs := rf ke) (fun i H' => H' = upd H6 D (.lst (((ke.take i).map fun e => e.2.1).map V.int))) (by simp) (fun i H' _ e => ?_) (fun i x H' hx e => ?_) (fun H' e => ?_)⟩
      · rw [e]
        exact SqL.of (by rw [upd_ne (ne_of_none S6.hk hD)]; exact S6.hk)
      · subst e
        walk_at "rd"
        have hi : i < ke.length := by simpa using lt_of_get hx
        have ex : x = V.ref (gE ke i).1 := by rw [List.getElem?_map, gE_some hi] at hx; exact (Option.some.inj hx).symm
        have tup6 : ∀ o, (upd H6 D o) (gE ke i).1 = some (tV (gE ke i).2) := fun o => by
          have z := S6.kt _ (gE_mem hi)
          rw [upd_ne (ne_of_none z hD)]
          exact z
        subst ex
        refine ⟨rfl, ?_⟩
        simp only [tYes, if_true]
        refine ⟨_, rfl, ixT0 (n := (gE ke i).2.1) (c := (gE ke i).2.2) (tup6 _) ⟨_, upd_same, ?_, ?_⟩⟩
        · rw [List.length_map, List.length_map, List.length_take]; omega
        · rw [upd_upd, List.take_add_one, gE_some hi]
          simp
      · have e6 : H' = upd H6 D (.lst ((ke.map fun e => e.2.1).map V.int)) := by
          rw [e, List.length_map, List.take_length]
        have s7 : Same H6 H' := by rw [e6]; exact same_new hD
        have g7 : H' D = some (.lst ((ke.map fun e => e.2.1).map V.int)) := by rw [e6]; exact upd_same
        clear e e6
        have S7 := S6.same s7
        walk_at "rd"
        refine ⟨D, _, rfl, SqL.of g7, ⟨_, _, rfl, true, by rw [hw, decide_eq_true rfl], (if_neg (by decide)).mpr ?_⟩⟩
        refine metR.mk S7.pat.raw.ob (noX _ (by decide +kernel) (by decide +kernel) (by decide +kernel)) (hTop S7.pat (fun z => by rw [z] at hp0; cases hp0) fun e he _ H8 s8 => ?_)
        have ee : e = gE s.1 0 := by
          rw [gE_some hp0] at he
          exact (Option.some.inj he).symm
        subst ee
        have S8 := S7.same s8
        have ht8 := S8.pat.tup _ (gE_mem hp0)
        have s68 : Same H6 H8 := fun b o e => s8 _ _ (s7 _ _ e)
        refine ⟨gE s.1 0, rfl, ht8, true, rfl, iteT ?_⟩
        refine eqD_t (dp_t ht8) (dp_t (s68 _ _ (s6 _ _ hbt))) ?_
        rw [hb, decide_eq_true rfl]
        refine ⟨true, rfl, iteT (metR.mk S8.pat.raw.ob (noX _ (by decide +kernel) (by decide +kernel) (by decide +kernel)) (hTold S8.pat fun t9 h9 => ?_))⟩
        have s9 := same_new (o := .lst (rf s.1)) h9
        refine eqD_l (dp_rf upd_same (S8.pat.tup.same s9)) (dp_rf (s9 _ _ (s68 _ _ g6)) (S8.pat.tup.same s9)) ?_
        rw [decide_eq_true rfl]
        exact hQ _ fun b o e => s9 _ _ (s68 _ _ (s6 _ _ e))
    refine ⟨_, (pss_cons (ps_set (i := 4) sc_law_look.nd rfl (Or.inl rfl) (pe_callB (cr_minT rfl hu64) rfl T.z_min (by decide +kernel) (pa_cons (pv 1) pa_nil)))
    (pss_cons (ps_if (pt_val (pv 2)) (pss_one (ps_set (i := 4) sc_law_look.nd rfl (Or.inl rfl) (pe_callB (cr_maxT rfl hu64) rfl T.z_max (by decide +kernel) (pa_cons (pv 1) pa_nil)))) pss_nil)
    (pss_cons (ps_if (PW.pt (pw_and (pt_val (pv 3)) (pw_and1 (pt_cmpR (op_neD hu64) (pe_methF0 (pv 0) Pt.cl Pt.m_top F_top hr (fun _ => nopass)) (pv 4) (nomark _))))) (pss_one (ps_ret pe_bl)) pss_nil)
    htl))), ?_⟩
    rw [show start N_law_look [V.ref a.p, V.ref kl, V.bl t, V.bl fl] = [some (V.ref a.p), some (V.ref kl), some (V.bl t), some (V.bl fl), none, none, none, none, none] from rfl]
    walk_at "rd"
    have best : ∀ e ∈ ke, (∀ y ∈ ke, ah t y.2 e.2 = false) → e.2 = (gE s.1 0).2 := fun e he h => by
      have m1 : (gE s.1 0).2 ∈ vl ke := S.kp.mem_iff.mpr (List.mem_map.mpr ⟨_, gE_mem hp0, rfl⟩)
      obtain ⟨y, hy, ey⟩ := List.mem_map.mp m1
      have h1 := h y hy
      rw [ey] at h1
      have m2 : e.2 ∈ vl s.1 := S.kp.mem_iff.mp (List.mem_map.mpr ⟨e, he, rfl⟩)
      obtain ⟨z, hz, ez⟩ := List.mem_map.mp m2
      obtain ⟨i, hi⟩ := mem_iff_get.mp hz
      have h2 := S.pat.ok.fm.top (gE_some hp0) i z hi
      rw [ez] at h2
      exact ah_tri h2 h1
    have rest : ∀ (b : En), b ∈ ke → b.2 = (gE s.1 0).2 → if fl = true then
        metR (pC K t) "top" (V.ref a.p) H (spTop K t [V.ref a.p] H (fun x H1 => rNeD K x (V.ref b.1) H1 fun x H' => ∃ k, x = V.bl k ∧ if k = true then Q (V.bl false) H' else tl { nx := fun x H' => Q V.non H', rt := Q } [some (V.ref a.p), some (V.ref kl), some (V.bl t), some (V.bl fl), some (V.ref b.1), none, none, none, none] H') E0)
        else tl { nx := fun x H' => Q V.non H', rt := Q } [some (V.ref a.p), some (V.ref kl), some (V.bl t), some (V.bl fl), some (V.ref b.1), none, none, none, none] H := fun b hbm hb => by
      have hbt := S.kt b hbm
      refine ite2 (fun _ => ?_) (fun _ => key b hb hbt H fun _ _ e => e)
      refine metR.mk S.pat.raw.ob (noX _ (by decide +kernel) (by decide +kernel) (by decide +kernel)) (hTop S.pat (fun z => by rw [z] at hp0; cases hp0) fun e he _ H8 s8 => ?_)
      have ee : e = gE s.1 0 := by
        rw [gE_some hp0] at he
        exact (Option.some.inj he).symm
      subst ee
      refine neD_t (dp_t (s8 _ _ (S.pat.tup _ (gE_mem hp0)))) (dp_t (s8 _ _ hbt)) ?_
      rw [hb, decide_eq_true rfl]
      exact ⟨_, rfl, (if_neg (by decide)).mpr (key b hb hbt H8 s8)⟩
    refine ⟨kl, ke, rfl, SqL.of S.hk, S.kt, hne, fun e he hmin => ?_⟩
    cases t with
    | false => exact iteF (rest e he (best e he fun y hy => hmin y hy))
    | true => exact iteT ⟨kl, ke, rfl, SqL.of S.hk, S.kt, hne, fun e he hmax => rest e he (best e he fun y hy => hmax y hy)⟩
end
end Mp

namespace Mp
open PySem PySem.Spec PyProof.Rows L2
local macro_rules | `(tactic| walk_at "rd") => `(tactic| try simp only [tSeq, tAsg, gName, tVar, tC, tOp, rI0, rI, tTest, tB, tIfS, tNext, tBreak, tCont, tRet, tRetN, tDrop, tCons, tNil, tCallS, tCB, tAnd, tOr, tNot, tAndV, tOrV, tNotV, tUn, rU, tIf, tChain, gCons, gNil, gSub, tFld_r, sFld_r, sFldAug_r, tDGet_r, tDIn_r, tDNotIn_r, sDPut_r, tDPop1_r, tMethF_r, tMakeF, tBits, tSl, tPart, tDNewK, cxOf_K, tBM, tBM0, tTup, tLst, List.length_cons, List.length_nil, Nat.reduceAdd, Nat.zero_add, PySem.sizeLine_eq, Nat.reduceLeDiff,
  List.getElem?_cons_zero, List.getElem?_cons_succ, Option.some.injEq, exists_eq_left', List.set_cons_zero, List.set_cons_succ, exists_eq_left, V.int.injEq, V.bl.injEq, V.ref.injEq, List.cons.injEq, and_true, true_and, and_assoc, exists_and_left, decide_eq_true_eq,
  rEq_int, rNe_int, cdiv_iff, cpow10, Int.reduceLT, Int.reduceLE, Int.reduceToNat, Int.reducePow, Int.reduceNeg, Int.reduceSub, Int.reduceAdd, Int.reduceMul, Nat.reducePow, Nat.reduceLT, Bool.not_eq_true', Bool.false_eq_true, if_true, if_false, not_true_eq_false, not_false_eq_true, ite_not, Bool.not_true, Bool.not_false, reduceCtorEq, ipI, tAug, isi_int_int, isi_int_bool, isi_bool_bool, Bool.true_eq_false, reduceIte])
local macro_rules | `(tactic| walk_at "fo") => `(tactic| try simp only [tFor_enum, tFor_zip, tFor_list, tFor_r1])

def spLaw (K : PySem.W.Frag) : Sp := fun vs H Q _ => ∃ (a : Addr) (ns : List Int), vs = [.ref a] ∧ SqL K H a (ns.map V.int) ∧ ns.length ≤ 63 ∧ ∀ H', Q (.bl true) H'
def LW (K : PySem.W.Frag) (t : Bool) (sa : Addr) (a : PA) (bs st : Int) (kl sl : Addr) (cs : List Int) (i : Nat) (σ : L2.St) (H' : Hp) : Prop :=
  ∃ (s : Sx) (ke : List En) (v6 v7 v8 : Option V), σ = [some (V.ref sa), some (V.bl t), some (V.ref a.p), some (V.int bs), some (V.int st), some (V.ref kl), v6, v7, v8] ∧ StK K t a kl H' s ke ∧ ke.length = i ∧ (∀ c ∈ ke.map (·.2.2), ∃ j : Nat, j < i ∧ c = bs + st * (j : Int)) ∧ H' sl = some (.lst (cs.map V.int)) ∧ sl ∉ PK4 a kl
section
variable {P : Program} {w : World} {K : PySem.W.Frag} {mg : Str → Option Value} {base : Heap}
theorem ok_law (T : Tx K mg) (F_law_at0 : ∀ a ns, Fn P w K mg base 1 (He.ga K "_law_at") P_law_at (spAt K a ns)) (F_init0 : ∀ t, Fn P w K mg base 1 (He.ma K (He.ga K "Pile") "__init__") P_Pile___init__ (spPInit K t)) (F_put0 : ∀ t, Fn P w K mg base 3 (He.ma K (He.ga K "Pile") "put") P_Pile_put (spPut K t)) (F_told0 : ∀ t, Fn P w K mg base 1 (He.ma K (He.ga K "Pile") "told") P_Pile_told (spTold K t))
    (F_many0 : ∀ t, Fn P w K mg base 1 (He.ma K (He.ga K "Pile") "many") P_Pile_many (spMany K t)) (F_weight0 : ∀ t, Fn P w K mg base 1 (He.ma K (He.ga K "Pile") "weight") P_Pile_weight (spWeight K t)) (F_law_is : Fn P w K mg base 1 (He.ga K "_law_is") P_law_is spIs) (F_law_number : Fn P w K mg base 1 (He.ga K "_law_number") P_law_number spNum)
    (F_law_empty0 : ∀ t, Fn P w K mg base 2 (He.ga K "_law_empty") P_law_empty (spEmpty K t)) (F_law_twice0 : ∀ t, Fn P w K mg base 4 (He.ga K "_law_twice") P_law_twice (spTwice K t)) (F_law_look0 : ∀ t, Fn P w K mg base 4 (He.ga K "_law_look") P_law_look (spLLook K t)) (F_law_order0 : ∀ t, Fn P w K mg base 2 (He.ga K "_law_order") P_law_order (spOrder K t))
    {fd : FuncData} (F : FnP K "law" "law" s_law (He.ga K "law") fd) : FnOk P w K mg base CX0 6 (He.ga K "law") fd P_law (spLaw K) := by
  refine fn_ok0 F sc_law (fun vs H Q E h => ?_) (fun cdv A outer s0 H vs Q E hr h => ?_)
  · obtain ⟨a, ns, rfl, _⟩ := h
    rfl
  · obtain ⟨sa, ns, rfl, hS, hlen, hQ⟩ := h
    have hu64 := hr.units
    have F_law_at := F_law_at0 sa ns
    have F_Pile_init := F_init0 false
    have F_Turned_init := F_init0 true
    have mkT := T.mk_Turned
    rw [T.in_Turned_init] at mkT
    obtain ⟨t, et⟩ : ∃ t : Bool, t = decide (ns.getD 0 0 % 2 = 1) := ⟨_, rfl⟩
    have Pt := pt_of T t
    have F_put := F_put0 t
    have F_told := F_told0 t
    have F_many := F_many0 t
    have F_weight := F_weight0 t
    have F_law_empty := F_law_empty0 t
    have F_law_twice := F_law_twice0 t
    have F_law_look := F_law_look0 t
    have F_law_order := F_law_order0 t
    have at0 : ∀ {H1 : Hp} {q : V → Hp → Prop} {E : XK}, Same H H1 → q (.int (ns.getD 0 0)) H1 → spAt K sa ns [V.ref sa, V.int 0] H1 q E := fun s1 q => ⟨0, rfl, by decide, sql_same s1 hS, q⟩
    have at1 : ∀ {H1 : Hp} {q : V → Hp → Prop} {E : XK}, Same H H1 → q (.int (ns.getD 1 0)) H1 → spAt K sa ns [V.ref sa, V.int 1] H1 q E := fun s1 q => ⟨1, rfl, by decide, sql_same s1 hS, q⟩
    have noX : ∀ (a : PA) (z : Int) (m : Str), (m == ("things" : Str)) = false → (m == ("where" : Str)) = false → (m == ("heavy" : Str)) = false → (pf a.l a.d z).lookup m = none := fun a z m h1 h2 h3 => pf_no _ _ _ h1 h2 h3
    obtain ⟨tl, htl, key⟩ : ∃ tl : TS, PSs (cxOf CX0 P w K mg base N_law "law" (defScope s_law) (He.ga K "law") cdv A outer s0 H E).nox ((defBody s_law).drop 9) tl ∧ ∀ (a : PA) (bs st : Int) (H1 : Hp), PAt K t a H1 ([], []) → Same H H1 → H a.p = none → H a.l = none → H a.d = none → st ≠ 0 →
        tl { nx := fun _ H' => Q .non H', rt := Q } [some (V.ref sa), some (V.bl t), some (V.ref a.p), some (V.int bs), some (V.int st), none, none, none, none] H1 := by
      refine ⟨_, (pss_cons (ps_set (i := 5) sc_law.nd rfl (Or.inl rfl) (pe_lst pa_nil))
    (pss_cons (ps_for PassesOwn.never rfl (pi_list (pe_slice sl_list (pv 0) (po_some pe_int) (po_some pe_int))) (pg_name (i := 6) sc_law.nd rfl (Or.inl rfl))
    (pss_cons (ps_set (i := 7) sc_law.nd rfl (Or.inl rfl) (pe_tup (pa_cons (pe_callF F_law_number hr T.g__law_number (fun _ => nopass) (pa_cons (pe_op op_fdiv (pv 6) pe_int) pa_nil)) (pa_cons (pe_op op_add (pv 3) (pe_op op_mul (pv 4) (pe_callB call_len_seq rfl T.z_len PySem.boot_len (pa_cons (pv 5) pa_nil)))) pa_nil))))
    (pss_cons (ps_expr (pe_methF (pv 2) Pt.cl Pt.m_put F_put hr (fun _ => nopass) (pa_cons (pv 7) pa_nil)))
    (pss_cons (ps_expr (pe_bm PySem.F.plainAttrs_list PySem.F.slot_list_append PySem.F.type_list_append mt_append (pv 5) (pa_cons (pv 7) pa_nil)))
    (pss_cons (ps_set (i := 8) sc_law.nd rfl (Or.inl rfl) (pe_ix ix_list (pv 5) (pe_op op_mod (pe_op op_fdiv (pv 6) pe_int) (pe_callB call_len_seq rfl T.z_len PySem.boot_len (pa_cons (pv 5) pa_nil))) (fun _ _ => rfl)))
    (pss_cons (ps_if (PW.pt (pw_and (pt_cmpR op_eq (pe_op op_mod (pv 6) pe_int) pe_int (nomark _)) (pw_and1 (pt_not (pt_val (pe_callF F_law_twice hr T.g__law_twice (fun _ => nopass) (pa_cons (pv 2) (pa_cons (pe_tup (pa_cons (pe_callF F_law_number hr T.g__law_number (fun _ => nopass) (pa_cons (pe_op op_fdiv (pv 6) pe_int) pa_nil)) (pa_cons (pe_ix ix_tup (pv 8) pe_int (fun _ _ => rfl)) pa_nil))) pa_nil)))))))) (pss_one (ps_ret pe_bl)) pss_nil)
    (pss_cons (ps_if (pt_not (pt_val (pe_callF F_law_look hr T.g__law_look (fun _ => nopass) (pa_cons (pv 2) (pa_cons (pv 5) (pa_cons (pv 1) (pa_cons (pe_cmpR op_eq (pe_op op_mod (pv 6) pe_int) pe_int (nomark _)) pa_nil))))))) (pss_one (ps_ret pe_bl)) pss_nil)
    (pss_one (ps_if (PW.pt (pw_or (pt_not (pt_val (pe_callF F_law_order hr T.g__law_order (fun _ => nopass) (pa_cons (pv 2) (pa_cons (pv 7) (pa_cons (pv 8) (pa_cons (pv 1) pa_nil))))))) (pw_or1 (pt_not (pt_val (pe_callF F_law_order hr T.g__law_order (fun _ => nopass) (pa_cons (pv 2) (pa_cons (pv 8) (pa_cons (pv 7) (pa_cons (pv 1) pa_nil)))))))))) (pss_one (ps_ret pe_bl)) pss_nil)))))))))
    (pss_one (ps_ret pe_bl)))), fun a bs st H1 R1 s1 hp hl hd hst => ?_⟩
      walk_at "rd"
      intro kl hkl
      have S2 := stk_new R1 hkl
      have s2 : Same H (upd H1 kl (.lst [])) := fun b o e => same_new hkl _ _ (s1 _ _ e)
      revert S2 s2
      generalize upd H1 kl (.lst []) = H2
      intro S2 s2
      obtain ⟨cs, ecs, hcs⟩ := cut_ints ns (some 2) (some 402)
      walk_at "fo"
      walk_at "rd"
      refine ⟨sa, _, rfl, sql_same s2 hS, fun sl hsl => ?_⟩
      rw [ecs]
      have s3 := same_new (o := .lst (cs.map V.int)) hsl
      refine liR.mk (xs := cs.map V.int) (SqL.of upd_same) (LW K t sa a bs st kl sl cs) ⟨([], []), [], none, none, none, rfl, S2.same s3, rfl, fun c hc => by simp at hc, upd_same, S2.alive hsl⟩ ?_ ?_ ?_
      · rintro i σ H4 hi ⟨s, ke, v6, v7, v8, rfl, S4, h1, h2, h3, h4⟩
        exact SqL.of h3
      · rintro i x2 σ H4 e2 ⟨s, ke, v6, v7, v8, rfl, S4, h1, h2, h3, h4⟩
        have hi := lt_of_get e2
        rw [List.length_map] at hi
        obtain ⟨c, hc⟩ : ∃ c, x2 = V.int c := by
          rw [List.getElem?_map] at e2
          cases q : cs[i]? with
          | none => rw [q] at e2; cases e2
          | some c => rw [q] at e2; exact ⟨c, (Option.some.inj e2).symm⟩
        subst hc
        walk_at "rd"
        have hcl : i < 63 := by omega
        have hkl := S4.len
        have d := nod2 S4.di
        simp only [List.pairwise_cons, List.mem_cons, List.not_mem_nil, or_false, false_or, forall_eq_or_imp, forall_eq, and_true, List.Pairwise.nil, false_imp_iff, implies_true, forall_const] at d
        have cne : ∀ j : Nat, j < i → bs + st * (i : Int) ≠ bs + st * (j : Int) := fun j hj e => by
          have z : st * ((i : Int) - (j : Int)) = 0 := by rw [Int.mul_sub]; omega
          rcases Int.mul_eq_zero.mp z with z | z <;> omega
        refine ⟨_, rfl, _, .inl (SqL.of S4.hk), .inr ⟨by omega, by rw [List.length_map]; omega⟩, fun p hp => ?_⟩
        rw [List.length_map, h1]
        have s5 := same_new (o := .tup [V.int (numM (c / 6)), V.int (bs + st * (i : Int))]) hp
        have S5 := S4.same s5
        have hm : ¬ ∃ e ∈ s.1, e.2.2 = bs + st * (i : Int) := fun h => by
          obtain ⟨j, hj, e⟩ := h2 _ (S4.has.mp h)
          exact cne j hj e
        refine metR.mk S5.pat.raw.ob (noX _ _ _ (by decide +kernel) (by decide +kernel) (by decide +kernel)) ?_
        refine hPut (x := (p, (numM (c / 6), bs + st * (i : Int)))) S5.pat upd_same (by omega) (fun h => absurd h hm) fun _ s' H6 R6 p6 _ f6 => ?_
        have f6' : Fr [a.p, a.l, a.d] _ H6 := f6.fr (by simp) (by simp) (by simp)
        have hk6 := f6' _ _ S5.hk (by first | (simp [d]; done) | grind)
        refine ⟨.inl ⟨rfl, _, SqL.of hk6⟩, kl, _, _, rfl, rfl, hk6, by rw [List.length_map, PySem.sizeLine_eq]; omega, ?_⟩
        rw [show rf ke ++ [V.ref p] = rf (ke ++ [(p, (numM (c / 6), bs + st * (i : Int)))]) from rf_snoc ke (p, (numM (c / 6), bs + st * (i : Int)))]
        have ft6 : Fr (PK4 a kl) H4 H6 := (Fr.of_same s5).trans (f6'.mono (by simp))
        have hx6 : H6 p = some (tV (numM (c / 6), bs + st * (i : Int))) := tup_fr f6' (S5.notup.mono (by simp)) upd_same
        have nkp : p ≠ kl := fun e => by rw [e, S4.hk] at hp; cases hp
        obtain ⟨S7, f7⟩ := S5.put (x := (p, (numM (c / 6), bs + st * (i : Int)))) (y := (p, (numM (c / 6), bs + st * (i : Int)))) (H2 := upd H6 kl (.lst (rf (ke ++ [(p, (numM (c / 6), bs + st * (i : Int)))])))) R6 p6 f6 (fr_upd (by simp)) upd_same (by rw [upd_ne nkp]; exact hx6) rfl
        have ft7 : Fr (PK4 a kl) H4 (upd H6 kl (.lst (rf (ke ++ [(p, (numM (c / 6), bs + st * (i : Int)))])))) := (Fr.of_same s5).trans f7
        have hx7 : (upd H6 kl (.lst (rf (ke ++ [(p, (numM (c / 6), bs + st * (i : Int)))])))) p = some (tV (numM (c / 6), bs + st * (i : Int))) := by rw [upd_ne nkp]; exact hx6
        revert S7 ft7 hx7
        generalize upd H6 kl (.lst (rf (ke ++ [(p, (numM (c / 6), bs + st * (i : Int)))]))) = H7
        intro S7 ft7 hx7
        have hkn := S7.len
        have l7 : (ke ++ [(p, (numM (c / 6), bs + st * (i : Int)))]).length = i + 1 := by simp [h1]
        revert S7 l7
        have hc2 : ∀ z ∈ (ke ++ [(p, (numM (c / 6), bs + st * (i : Int)))]).map (·.2.2), ∃ j : Nat, j < i + 1 ∧ z = bs + st * (j : Int) := fun z hz => by
          simp only [List.map_append, List.mem_append, List.map_cons, List.map_nil, List.mem_singleton] at hz
          rcases hz with hz | hz
          · obtain ⟨j, hj, e⟩ := h2 _ hz
            exact ⟨j, by omega, e⟩
          · exact ⟨i, by omega, hz⟩
        revert hc2 hkn
        generalize ke ++ [(p, (numM (c / 6), bs + st * (i : Int)))] = kn
        intro hkn hc2 S7 l7
        refine ⟨_, .inl (SqL.of S7.hk), by rw [List.length_map]; omega, ?_⟩
        rw [List.length_map]
        obtain ⟨m, hm, em⟩ : ∃ m : Nat, m < kn.length ∧ c / 6 % (kn.length : Int) = (m : Int) := ⟨(c / 6 % (kn.length : Int)).toNat, by have := Int.emod_lt_of_pos (c / 6) (b := (kn.length : Int)) (by omega); have := Int.emod_nonneg (c / 6) (b := (kn.length : Int)) (by omega); omega, by have := Int.emod_nonneg (c / 6) (b := (kn.length : Int)) (by omega); omega⟩
        rw [em]
        refine ixL_mk (SqL.of S7.hk) (at_of (j := m) rfl (show (rf kn)[m]? = some (V.ref (gE kn m).1) by rw [List.getElem?_map, gE_some hm]; rfl)) ?_
        have hom := gE_mem hm
        have hot := S7.kt _ hom
        have last : ∀ H8, Same H7 H8 → spLLook K t [V.ref a.p, V.ref kl, V.bl t, V.bl (decide (c % 2 = 1))] H8 (fun x H1 => ∃ c_1, x = V.bl c_1 ∧ if c_1 = false then Q (V.bl false) H1 else
            spOrder K t [V.ref a.p, V.ref p, V.ref (gE kn m).1, V.bl t] H1 (fun x H1 => ∃ c_1, x = V.bl c_1 ∧ if c_1 = false then Q (V.bl false) H1 else
              spOrder K t [V.ref a.p, V.ref (gE kn m).1, V.ref p, V.bl t] H1 (fun x H1 => ∃ c_1, x = V.bl c_1 ∧ if c_1 = false then Q (V.bl false) H1 else
                LW K t sa a bs st kl sl cs (i + 1) [some (V.ref sa), some (V.bl t), some (V.ref a.p), some (V.int bs), some (V.int st), some (V.ref kl), some (V.int c), some (V.ref p), some (V.ref (gE kn m).1)] H1) E0) E0) E0 := fun H8 s8 => by
          have S8 := S7.same s8
          refine ⟨a, kl, s', kn, _, rfl, S8, (fun z => by rw [z] at l7; cases l7), by omega, fun H9 s9 => ⟨true, rfl, (if_neg (by decide)).mpr ?_⟩⟩
          have s79 : Same H7 H9 := fun b o e => s9 _ _ (s8 _ _ e)
          have S9 := S7.same s79
          refine ⟨a, s', (p, (numM (c / 6), bs + st * (i : Int))), gE kn m, rfl, S9.pat, s79 _ _ hx7, s79 _ _ hot, true, rfl, (if_neg (by decide)).mpr ?_⟩
          refine ⟨a, s', gE kn m, (p, (numM (c / 6), bs + st * (i : Int))), rfl, S9.pat, s79 _ _ hot, s79 _ _ hx7, true, rfl, (if_neg (by decide)).mpr ?_⟩
          exact ⟨s', kn, _, _, _, rfl, S9, l7, hc2, s79 _ _ (ft7 _ _ h3 h4), h4⟩
        refine ite2 (fun _ => ⟨_, rfl, ?_⟩) (fun _ => last H7 fun _ _ e => e)
        refine ixT1 (n := (gE kn m).2.1) (c := (gE kn m).2.2) hot fun p2 hp2 => ?_
        have s8 := same_new (o := .tup [V.int (numM (c / 3)), V.int (gE kn m).2.2]) hp2
        exact ⟨a, s', (p2, (numM (c / 3), (gE kn m).2.2)), rfl, (S7.same s8).pat, by omega, upd_same, S7.has.mpr (List.mem_map.mpr ⟨_, hom, rfl⟩), fun H9 s9 => ⟨true, rfl, (if_neg (by decide)).mpr (last H9 fun b o e => s9 _ _ (s8 _ _ e))⟩⟩
      · rintro σ H4 ⟨s, ke, v6, v7, v8, rfl, S4, h1, h2, h3, h4⟩
        walk_at "rd"
        exact hQ _
    obtain ⟨tl1, htl1, key1⟩ : ∃ tl : TS, PSs (cxOf CX0 P w K mg base N_law "law" (defScope s_law) (He.ga K "law") cdv A outer s0 H E).nox ((defBody s_law).drop 3) tl ∧ ∀ (a : PA) (H1 : Hp), PAt K t a H1 ([], []) → Same H H1 → H a.p = none → H a.l = none → H a.d = none →
        tl { nx := fun _ H' => Q .non H', rt := Q } [some (V.ref sa), some (V.bl t), some (V.ref a.p), none, none, none, none, none, none] H1 := by
      refine ⟨_, (pss_cons (ps_if (PW.pt (pw_or (pt_not (pt_val (pe_callB call_isi rfl T.z_isinstance (by decide +kernel) (pa_cons (pv 2) (pa_cons (pe_clsv T.g_Pile) pa_nil))))) (pw_or (pt_not (pt_val (pe_callF F_law_empty hr T.g__law_empty (fun _ => nopass) (pa_cons (pv 2) pa_nil)))) (pw_or1 (pt_cmpR (op_neD hu64) (pe_methF0 (pv 2) Pt.cl Pt.m_told F_told hr (fun _ => nopass)) (pe_lst pa_nil) (nomark _)))))) (pss_one (ps_ret pe_bl)) pss_nil)
    (pss_cons (ps_if (PW.pt (pw_or (pt_not (pt_val (pe_callF F_law_is hr T.g__law_is (fun _ => nopass) (pa_cons (pe_methF0 (pv 2) Pt.cl Pt.m_many F_many hr (fun _ => nopass)) (pa_cons pe_int pa_nil))))) (pw_or1 (pt_not (pt_val (pe_callF F_law_is hr T.g__law_is (fun _ => nopass) (pa_cons (pe_methF0 (pv 2) Pt.cl Pt.m_weight F_weight hr (fun _ => nopass)) (pa_cons pe_int pa_nil)))))))) (pss_one (ps_ret pe_bl)) pss_nil)
    (pss_cons (ps_set (i := 3) sc_law.nd rfl (Or.inl rfl) (pe_op op_mod (pe_op op_fdiv (pe_callF F_law_at hr T.g__law_at (fun _ => nopass) (pa_cons (pv 0) (pa_cons pe_int pa_nil))) pe_int) (pe_op op_pow pe_int pe_int)))
    (pss_cons (ps_set (i := 4) sc_law.nd rfl (Or.inl rfl) (pe_op op_add pe_int (pe_op op_mod (pe_op op_fdiv (pe_callF F_law_at hr T.g__law_at (fun _ => nopass) (pa_cons (pv 0) (pa_cons pe_int pa_nil))) pe_int) pe_int)))
    (pss_cons (ps_if (pt_cmpR op_eq (pe_op op_mod (pe_op op_fdiv (pe_callF F_law_at hr T.g__law_at (fun _ => nopass) (pa_cons (pv 0) (pa_cons pe_int pa_nil))) pe_int) pe_int) pe_int (nomark _)) (pss_one (ps_set (i := 4) sc_law.nd rfl (Or.inl rfl) (pe_op op_mul (pv 4) (pe_op op_add pe_int (pv 3))))) pss_nil)
    (pss_cons (ps_if (pt_cmpR op_eq (pe_op op_mod (pe_callF F_law_at hr T.g__law_at (fun _ => nopass) (pa_cons (pv 0) (pa_cons pe_int pa_nil))) pe_int) pe_int (nomark _)) (pss_one (ps_set (i := 4) sc_law.nd rfl (Or.inl rfl) (pe_un un_neg (pv 4)))) pss_nil)
    htl)))))), fun a H1 R1 s1 hp hl hd => ?_⟩
      walk_at "rd"
      have tyx : PySem.W.kitOne K (.ref (pC K t)) (.ref (He.ga K "Pile")) = some true := by
        cases t
        · exact T.ki_Pile_Pile
        · exact T.ki_Turned_Pile
      have icx : InsC K (pC K t) := by
        cases t
        · exact T.ic_Pile
        · exact T.ic_Turned
      refine ⟨_, _, _, _, true, rfl, .own _, .base (TyOf.of icx Pt.cl R1.raw.ob), tyx, true, rfl, (if_neg (by decide)).mpr ?_⟩
      refine ⟨a, ([], []), rfl, R1, rfl, fun H2 s2 => ⟨true, rfl, (if_neg (by decide)).mpr ?_⟩⟩
      have R2 := R1.same s2
      refine metR.mk R2.raw.ob (noX _ _ _ (by decide +kernel) (by decide +kernel) (by decide +kernel)) (hTold R2 fun q hq => ?_)
      intro q2 hq2
      have s3 := same_new (o := .lst (rf ([] : List En))) hq
      have s4 := same_new (o := .lst []) hq2
      refine neD_l (l1 := []) (l2 := []) (dp_nil (SqL.of (s4 _ _ upd_same))) (dp_nil (SqL.of upd_same)) ?_
      refine ⟨_, rfl, (if_neg (by decide)).mpr ?_⟩
      have s5 : Same H1 (upd (upd H2 q (.lst (rf ([] : List En)))) q2 (.lst [])) := fun b o e => s4 _ _ (s3 _ _ (s2 _ _ e))
      revert s5
      generalize upd (upd H2 q (.lst (rf ([] : List En)))) q2 (.lst []) = H5
      intro s5
      have R5 := R1.same s5
      refine metR.mk R5.raw.ob (noX _ _ _ (by decide +kernel) (by decide +kernel) (by decide +kernel)) (hMany R5 ?_)
      refine ⟨_, _, rfl, true, rfl, (if_neg (by decide)).mpr ?_⟩
      refine metR.mk R5.raw.ob (noX _ _ _ (by decide +kernel) (by decide +kernel) (by decide +kernel)) (hWeight R5 ?_)
      refine ⟨_, _, rfl, true, rfl, (if_neg (by decide)).mpr ?_⟩
      have s1 : Same H H5 := fun b o e => s5 _ _ (s1 _ _ e)
      have R1 := R5
      have pos := Int.mul_pos (show (0 : Int) < 1 + ns.getD 1 0 / 2 % 5 by omega) (show (0 : Int) < 1 + ns.getD 0 0 / 2 % 10000000000000000000000000000000000000000 by omega)
      refine at0 s1 ⟨_, rfl, at1 s1 ⟨_, rfl, at1 s1 ⟨_, rfl, ?_⟩⟩⟩
      refine ite2 (fun c1 => ⟨.inl ⟨by omega, by omega⟩, at1 s1 ⟨_, rfl, ite2 (fun c2 => key _ _ _ _ R1 s1 hp hl hd (by omega)) (fun c2 => key _ _ _ _ R1 s1 hp hl hd (by omega))⟩⟩) (fun c1 => at1 s1 ⟨_, rfl, ite2 (fun c2 => key _ _ _ _ R1 s1 hp hl hd (by omega)) (fun c2 => key _ _ _ _ R1 s1 hp hl hd (by omega))⟩)
    refine ⟨_, (pss_cons (ps_set (i := 1) sc_law.nd rfl (Or.inl rfl) (pe_cmpR op_eq (pe_op op_mod (pe_callF F_law_at hr T.g__law_at (fun _ => nopass) (pa_cons (pv 0) (pa_cons pe_int pa_nil))) pe_int) pe_int (nomark _)))
    (pss_cons (ps_set (i := 2) sc_law.nd rfl (Or.inl rfl) (pe_makeF0 T.mk_Pile F_Pile_init hr T.g_Pile nopass0))
    (pss_cons (ps_if (pt_val (pv 1)) (pss_one (ps_set (i := 2) sc_law.nd rfl (Or.inl rfl) (pe_makeF0 mkT F_Turned_init hr T.g_Turned nopass0))) pss_nil)
    htl1))), ?_⟩
    rw [show start N_law [V.ref sa] = [some (V.ref sa), none, none, none, none, none, none, none, none] from rfl]
    walk_at "rd"
    cases t with
    | false =>
      have c0 : ¬ ns.getD 0 0 % 2 = 1 := of_decide_eq_false et.symm
      refine at0 (fun _ _ e => e) ⟨_, rfl, fun p dx hp hdx ne => ?_⟩
      refine hMade (t := false) hp hdx ne fun l d H1 hl hd R1 s1 => ⟨rfl, ?_⟩
      rw [← et]
      exact ite2 (fun c => absurd c c0) (fun _ => key1 _ _ R1 s1 hp hl hd)
    | true =>
      have c0 : ns.getD 0 0 % 2 = 1 := of_decide_eq_true et.symm
      refine at0 (fun _ _ e => e) ⟨_, rfl, fun p0 dx0 hp0 hdx0 ne0 => ?_⟩
      refine hMade (t := false) hp0 hdx0 ne0 fun l0 d0 H0 hl0 hd0 R0 s0 => ⟨rfl, ?_⟩
      rw [← et]
      refine ite2 (fun _ => ?_) (fun c => absurd c0 c)
      intro p dx hp' hdx ne
      refine hMade (t := true) hp' hdx ne fun l d H1 hl' hd' R1 s1' => ⟨rfl, ?_⟩
      have hp := none_back s0 hp'
      have hl := none_back s0 hl'
      have hd := none_back s0 hd'
      have s1 : Same H H1 := fun b o e => s1' _ _ (s0 _ _ e)
      exact key1 _ _ R1 s1 hp hl hd
end
end Mp

namespace Mp
open PySem PySem.Spec PyProof.Rows L2
theorem factsL {P : Program} {w : World} {K : PySem.W.Frag} {h : Heap} {mg : Str → Option Value} {f : Addr} (X : K.In h) (G : h.Ns mainGlobals mg) (hfa : mg ("law" : Str) = some (.ref f)) (c : SaysM fa fn fb K) :
    ∃ fd : FuncData, (∀ (s : Shared) (v : Value), BindsTo s fd ⟨[v], []⟩ [("_law_script", v)]) ∧ ∀ base : Heap, K.In base → base.Ns mainGlobals mg → FnOk P w K mg base CX0 6 f fd ["_law_script"] (spLaw K) := by
  have T := tx_of X G c
  obtain ⟨fd_Pile___init__, D_Pile___init__⟩ := c.d.def_ 0 (d := d_Pile___init__) rfl
  obtain ⟨fd_Pile_ahead, D_Pile_ahead⟩ := c.d.def_ 1 (d := d_Pile_ahead) rfl
  obtain ⟨fd_Pile_many, D_Pile_many⟩ := c.d.def_ 2 (d := d_Pile_many) rfl
  obtain ⟨fd_Pile_told, D_Pile_told⟩ := c.d.def_ 3 (d := d_Pile_told) rfl
  obtain ⟨fd_Pile_weight, D_Pile_weight⟩ := c.d.def_ 4 (d := d_Pile_weight) rfl
  obtain ⟨fd_Pile_top, D_Pile_top⟩ := c.d.def_ 5 (d := d_Pile_top) rfl
  obtain ⟨fd_Pile_lay, D_Pile_lay⟩ := c.d.def_ 6 (d := d_Pile_lay) rfl
  obtain ⟨fd_Pile_rise, D_Pile_rise⟩ := c.d.def_ 7 (d := d_Pile_rise) rfl
  obtain ⟨fd_Pile_put, D_Pile_put⟩ := c.d.def_ 8 (d := d_Pile_put) rfl
  obtain ⟨fd_Turned_ahead, D_Turned_ahead⟩ := c.d.def_ 9 (d := d_Turned_ahead) rfl
  obtain ⟨fd_law_at, D_law_at⟩ := c.d.def_ 10 (d := d_law_at) rfl
  obtain ⟨fd_law_is, D_law_is⟩ := c.d.def_ 11 (d := d_law_is) rfl
  obtain ⟨fd_law_number, D_law_number⟩ := c.d.def_ 12 (d := d_law_number) rfl
  obtain ⟨fd_law_thing, D_law_thing⟩ := c.d.def_ 13 (d := d_law_thing) rfl
  obtain ⟨fd_law_ahead, D_law_ahead⟩ := c.d.def_ 14 (d := d_law_ahead) rfl
  obtain ⟨fd_law_form, D_law_form⟩ := c.d.def_ 15 (d := d_law_form) rfl
  obtain ⟨fd_law_empty, D_law_empty⟩ := c.d.def_ 16 (d := d_law_empty) rfl
  obtain ⟨fd_law_twice, D_law_twice⟩ := c.d.def_ 17 (d := d_law_twice) rfl
  obtain ⟨fd_law_order, D_law_order⟩ := c.d.def_ 18 (d := d_law_order) rfl
  obtain ⟨fd_law_look, D_law_look⟩ := c.d.def_ 19 (d := d_law_look) rfl
  obtain ⟨fd_law, D_law⟩ := c.d.def_ 20 (d := d_law) rfl
  have e := hfa.symm.trans T.g_law
  cases e
  have b := FunD.bindsA (ps := ["_law_script"]) D_law fun _ _ _ _ _ _ us hl => match us, hl with | [_], _ => rfl
  refine ⟨fd_law, fun s v => b s [v] rfl, fun base _ _ => ?_⟩
  have F_law_at : ∀ a ns, Fn P w K mg base 1 _ P_law_at (spAt K a ns) := fun a ns => ok_law_at T a ns D_law_at
  have F_init : ∀ t, Fn P w K mg base 1 _ P_Pile___init__ (spPInit K t) := fun t => ok_Pile___init__ T t D_Pile___init__
  have F_ahead : ∀ t, Fn P w K mg base 1 (pAh K t) P_Pile_ahead (spAhead t) := fun t => match t with | false => ok_Pile_ahead T D_Pile_ahead | true => ok_Turned_ahead T D_Turned_ahead
  have F_many : ∀ t, Fn P w K mg base 1 _ P_Pile_many (spMany K t) := fun t => ok_Pile_many T t D_Pile_many
  have F_told : ∀ t, Fn P w K mg base 1 _ P_Pile_told (spTold K t) := fun t => ok_Pile_told T t D_Pile_told
  have F_weight : ∀ t, Fn P w K mg base 1 _ P_Pile_weight (spWeight K t) := fun t => ok_Pile_weight T t D_Pile_weight
  have F_top : ∀ t, Fn P w K mg base 1 _ P_Pile_top (spTop K t) := fun t => ok_Pile_top T t D_Pile_top
  have F_lay : ∀ t, Fn P w K mg base 1 _ P_Pile_lay (spLay K t) := fun t => ok_Pile_lay T t D_Pile_lay
  have F_rise : ∀ t, Fn P w K mg base 2 _ P_Pile_rise (spRise K t) := fun t => ok_Pile_rise T t (F_ahead t) (F_lay t) D_Pile_rise
  have F_put : ∀ t, Fn P w K mg base 3 _ P_Pile_put (spPut K t) := fun t => ok_Pile_put T t (F_rise t) D_Pile_put
  have F_law_is := ok_law_is (P := P) (w := w) (base := base) T D_law_is
  have F_law_number := ok_law_number (P := P) (w := w) (base := base) T D_law_number
  have F_law_thing := ok_law_thing (P := P) (w := w) (base := base) T F_law_is D_law_thing
  have F_law_ahead := ok_law_ahead (P := P) (w := w) (base := base) T D_law_ahead
  have F_law_form := ok_law_form (P := P) (w := w) (base := base) T F_law_thing F_law_ahead D_law_form
  have F_law_empty : ∀ t, Fn P w K mg base 2 _ P_law_empty (spEmpty K t) := fun t => ok_law_empty T t (F_top t) D_law_empty
  have F_law_twice : ∀ t, Fn P w K mg base 4 _ P_law_twice (spTwice K t) := fun t => ok_law_twice T t (F_put t) D_law_twice
  have F_law_look : ∀ t, Fn P w K mg base 4 _ P_law_look (spLLook K t) := fun t => ok_law_look T t (F_told t) (F_many t) (F_weight t) (F_top t) F_law_is F_law_form F_law_thing D_law_look
  have F_law_order : ∀ t, Fn P w K mg base 2 _ P_law_order (spOrder K t) := fun t => ok_law_order T t (F_ahead t) F_law_ahead D_law_order
  exact ok_law T F_law_at F_init F_put F_told F_many F_weight F_law_is F_law_number F_law_empty F_law_twice F_law_look F_law_order D_law
end Mp
open PySem PySem.W PySem.Calls PyProof.Rows
set_option maxRecDepth 100000 in
set_option maxHeartbeats 0 in
theorem PySem.Challenge.cw_midpile_k02_put_in_a_pile_holds : PySem.Challenge.rw_midpile_k02_put_in_a_pile.Holds := by
  w_on; o_law
  refine HandSHeadRun.head_any (r := OpenLaw.row PySem.Challenge.rw_midpile_k02_put_in_a_pile) (q := view (OpenLaw.row PySem.Challenge.rw_midpile_k02_put_in_a_pile).prog [22]) (H := Mp.hk) (ob := Mp.obH) (M := 4000) (loose := Mp.looseN) (d := HandSHeadRun.topDef (OpenLaw.row PySem.Challenge.rw_midpile_k02_put_in_a_pile).prog 22) (kwd := []) Mp.obH_eq
    (by kernel_rfl) (fun s => by kernel_rfl) Mp.runH (by kernel_rfl) (by kernel_rfl) (by kernel_rfl) (by rfl) (by first | assumption | decide +kernel) (by decide +kernel) ⟨rfl, rfl, rfl, rfl, rfl, by decide +kernel⟩ ?hw ?hc
  case hw => w_witness2
  case hc =>
    refine L2.walk_ofE (l := PySem.Challenge.rw_midpile_k02_put_in_a_pile) (n := 63) (k := 6) (x := "_law_script") (CX := L2.CX0) rfl (by decide) (by kernel_rfl) ⟨rfl, by decide, by decide⟩ ?F (fun _ _ _ _ z => z)
    intro w mg fa h Y G hmg0
    obtain ⟨K, KX, c⟩ := Y
    have hmg : mg ("law" : PySem.Str) = some (.ref fa) := by
      have e : (HandSHeadRun.topDef (OpenLaw.row PySem.Challenge.rw_midpile_k02_put_in_a_pile).prog 22).name = ("law" : PySem.Str) := by kernel_rfl
      rw [← e]
      exact hmg0
    obtain ⟨fd, hb, hF⟩ := Mp.factsL (P := (PySem.Challenge.rw_midpile_k02_put_in_a_pile).prog) (w := w) KX G hmg c
    exact ⟨K, fd, Mp.spLaw K, KX, hb, fun H a ns hl _ hS => ⟨a, ns, rfl, hS, hl, fun _ => rfl⟩, hF⟩

#print axioms PySem.Challenge.cw_midpile_k02_put_in_a_pile_holds

#print axioms PySem.Challenge.cw_midpile_k02_put_in_a_pile_holds
