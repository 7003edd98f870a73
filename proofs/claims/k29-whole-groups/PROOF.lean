import PyProof.Rows.All
import Wide.All
import OpenK.AllK
import Wide.FinOn
import HandS.ForMost
import HandS.Star
import HandS.Conv
import HandS.IsInst
import HandS.TupAny
import HandS.DictComp
import HandS.Walk
import HandS.Strs
import HandS.SetFor
import KE.GoesEnum
import KE.GoesMore
import PySem.Challenge.RW_counterlines_k29_whole_groups
import HandS.Evl
/-! the plain law: what the program computes, as functions over lists, and why the answers agree -/
namespace G29
/-- an office's people, 0 to n - 1 -/
def folk (n : Nat) : List Int := (List.range n).map Int.ofNat
theorem folk_len (n : Nat) : (folk n).length = n := by simp [folk]
theorem mem_folk {n : Nat} {p : Int} : p ∈ folk n ↔ 0 ≤ p ∧ p < n := by
  simp only [folk, List.mem_map, List.mem_range]
  constructor
  · rintro ⟨a, h, rfl⟩
    simp only [Int.ofNat_eq_natCast]
    omega
  · rintro ⟨h0, h1⟩
    exact ⟨p.toNat, by omega, by simp only [Int.ofNat_eq_natCast]; omega⟩
theorem folk_asc (n : Nat) : (folk n).Pairwise (· < ·) := by
  unfold folk
  rw [List.pairwise_map]
  exact List.pairwise_lt_range.imp fun h => by simp only [Int.ofNat_eq_natCast]; omega
theorem nodup_asc {l : List Int} (h : l.Pairwise (· < ·)) : l.Nodup := h.imp fun h => by omega
theorem folk_nodup (n : Nat) : (folk n).Nodup := nodup_asc (folk_asc n)

/-- the line in which a person stands: the first one that holds them -/
def spot (st : List (List Int)) (p : Int) : Nat := st.findIdx fun l => decide (p ∈ l)
/-- a person put to the end of a line -/
def put (ls : List (List Int)) (c : Nat) (p : Int) : List (List Int) := ls.set c (ls.getD c [] ++ [p])
def putAll (ls : List (List Int)) (xs : List (Int × Nat)) : List (List Int) := xs.foldl (fun ls x => put ls x.2 x.1) ls
/-- all lines without some people -/
def lack (st : List (List Int)) (g : List Int) : List (List Int) := st.map fun l => l.filter fun p => decide (p ∉ g)
/-- a group called at once -/
def crew (st : List (List Int)) (g : List Int) : List (List Int) := g.foldl (fun ls p => put ls ((spot st p + 1) % st.length) p) (lack st g)
/-- one call -/
def ring (st : List (List Int)) (p : Int) : List (List Int) := put (lack st [p]) ((spot st p + 1) % st.length) p
def rings (st : List (List Int)) (cs : List Int) : List (List Int) := cs.foldl ring st
def crews (st : List (List Int)) (gs : List (List Int)) : List (List Int) := gs.foldl crew st
/-- a plan's deed -/
def deed (plan : List (Int × Nat)) (st : List (List Int)) : List (List Int) :=
  plan.foldl (fun ls x => put ls ((spot st x.1 + x.2) % st.length) x.1) (lack st (plan.map (·.1)))
/-- the dict of counts: a person taken out and put behind, one more -/
def bump (d : List (Int × Nat)) (p : Int) : List (Int × Nat) := d.filter (fun x => decide (x.1 ≠ p)) ++ [(p, (d.lookup p).getD 0 + 1)]
def tally (cs : List Int) : List (Int × Nat) := cs.foldl bump []
/-- the order of the last calls -/
def lasts (cs : List Int) : List Int := cs.foldl (fun o p => o.filter (fun q => decide (q ≠ p)) ++ [p]) []
def least (n : Nat) (plan : List (Int × Nat)) : List (Int × Nat) := if plan.length = n ∧ (plan.head?.map (·.2)) = some 0 then plan.drop 1 else plan
def modC (c : Nat) (d : List (Int × Nat)) : List (Int × Nat) := d.map fun x => (x.1, x.2 % c)

/-! ### lines filled -/
theorem put_len (ls : List (List Int)) (c : Nat) (p : Int) : (put ls c p).length = ls.length := by simp [put]
theorem put_get (ls : List (List Int)) (c j : Nat) (p : Int) : (put ls c p)[j]? = ls[j]?.map fun l => l ++ (if c = j then [p] else []) := by
  unfold put
  by_cases h : c = j
  · subst h
    by_cases hc : c < ls.length
    · rw [List.getElem?_set_self hc, List.getElem?_eq_getElem hc]
      simp [List.getD, hc]
    · rw [List.getElem?_eq_none (by simpa using hc), List.getElem?_eq_none (by simpa using hc)]
      rfl
  · rw [List.getElem?_set_ne h]
    simp [h]
theorem putAll_len (xs : List (Int × Nat)) : ∀ ls, (putAll ls xs).length = ls.length := by
  induction xs with
  | nil => intro ls; rfl
  | cons x r ih =>
    intro ls
    show (putAll (put ls x.2 x.1) r).length = _
    rw [ih, put_len]
theorem putAll_get (xs : List (Int × Nat)) : ∀ (ls : List (List Int)) (j : Nat), (putAll ls xs)[j]? = ls[j]?.map fun l => l ++ (xs.filter fun x => decide (x.2 = j)).map (·.1) := by
  induction xs with
  | nil =>
    intro ls j
    show ls[j]? = _
    simp
  | cons x r ih =>
    intro ls j
    show (putAll (put ls x.2 x.1) r)[j]? = _
    rw [ih, put_get, Option.map_map]
    congr 1
    funext l
    by_cases h : x.2 = j
    · simp [h]
    · simp [h]
theorem lack_len (st : List (List Int)) (g : List Int) : (lack st g).length = st.length := by simp [lack]
theorem lack_get (st : List (List Int)) (g : List Int) (j : Nat) : (lack st g)[j]? = st[j]?.map fun l => l.filter fun p => decide (p ∉ g) := by simp [lack]

/-! ### states -/
/-- c lines, and each of n people in just one of them -/
structure Good (n c : Nat) (st : List (List Int)) : Prop where
  len : st.length = c
  all : st.flatten.Perm (folk n)
theorem Good.nodup {n c : Nat} {st : List (List Int)} (h : Good n c st) : st.flatten.Nodup := h.all.nodup_iff.mpr (folk_nodup n)
theorem nodup_line : ∀ {st : List (List Int)} {j : Nat} {l : List Int}, st.flatten.Nodup → st[j]? = some l → l.Nodup
  | [], _, _, _, h => by simp at h
  | a :: r, 0, l, hn, h => by
    have e : a = l := by simpa using h
    subst e
    rw [List.flatten_cons, List.nodup_append] at hn
    exact hn.1
  | a :: r, j + 1, l, hn, h => by
    rw [List.flatten_cons, List.nodup_append] at hn
    exact nodup_line (st := r) hn.2.1 (by simpa using h)
theorem one_line : ∀ {st : List (List Int)} {i j : Nat} {k l : List Int} {p : Int}, st.flatten.Nodup → st[i]? = some k → st[j]? = some l → p ∈ k → p ∈ l → i = j
  | [], _, _, _, _, _, _, h, _, _, _ => by simp at h
  | a :: r, 0, 0, _, _, _, _, _, _, _, _ => rfl
  | a :: r, 0, j + 1, k, l, p, hn, h, h', m, m' => by
    have e : a = k := by simpa using h
    subst e
    rw [List.flatten_cons, List.nodup_append] at hn
    exact absurd rfl (hn.2.2 p m p (List.mem_flatten.mpr ⟨l, List.mem_of_getElem? (by simpa using h'), m'⟩))
  | a :: r, i + 1, 0, k, l, p, hn, h, h', m, m' => by
    have e : a = l := by simpa using h'
    subst e
    rw [List.flatten_cons, List.nodup_append] at hn
    exact absurd rfl (hn.2.2 p m' p (List.mem_flatten.mpr ⟨k, List.mem_of_getElem? (by simpa using h), m⟩))
  | a :: r, i + 1, j + 1, k, l, p, hn, h, h', m, m' => by
    rw [List.flatten_cons, List.nodup_append] at hn
    exact congrArg (· + 1) (one_line (st := r) hn.2.1 (by simpa using h) (by simpa using h') m m')
theorem spot_lt {st : List (List Int)} {p : Int} (h : p ∈ st.flatten) : spot st p < st.length := by
  obtain ⟨l, hl, hp⟩ := List.mem_flatten.mp h
  exact List.findIdx_lt_length_of_exists ⟨l, hl, decide_eq_true hp⟩
theorem spot_mem {st : List (List Int)} {p : Int} (h : p ∈ st.flatten) : ∃ l, st[spot st p]? = some l ∧ p ∈ l := by
  have hl := spot_lt h
  refine ⟨st[spot st p], List.getElem?_eq_getElem hl, ?_⟩
  have := List.findIdx_getElem (xs := st) (p := fun l => decide (p ∈ l)) (w := hl)
  exact of_decide_eq_true this
theorem spot_eq {st : List (List Int)} {p : Int} {j : Nat} {l : List Int} (hn : st.flatten.Nodup) (h : st[j]? = some l) (hp : p ∈ l) : spot st p = j := by
  obtain ⟨k, hk, hm⟩ := spot_mem (List.mem_flatten.mpr ⟨l, List.mem_of_getElem? h, hp⟩)
  exact one_line hn hk h hm hp
theorem flat_put : ∀ {ls : List (List Int)} {c : Nat} {p : Int}, c < ls.length → (put ls c p).flatten.Perm (p :: ls.flatten)
  | [], _, _, h => by simp at h
  | a :: r, 0, p, _ => by
    show ((a ++ [p]) ++ r.flatten).Perm (p :: (a ++ r.flatten))
    rw [List.append_assoc]
    exact List.perm_middle
  | a :: r, c + 1, p, h => by
    have ih := flat_put (ls := r) (c := c) (p := p) (by simpa using h)
    show (a ++ (put r c p).flatten).Perm (p :: (a ++ r.flatten))
    exact (ih.append_left a).trans List.perm_middle
theorem flat_lack (st : List (List Int)) (g : List Int) : (lack st g).flatten = st.flatten.filter fun p => decide (p ∉ g) := by
  unfold lack
  induction st with
  | nil => rfl
  | cons a r ih => rw [List.map_cons, List.flatten_cons, List.flatten_cons, List.filter_append, ih]
theorem erase_perm {l : List Int} {p : Int} (hn : l.Nodup) (hp : p ∈ l) : (p :: l.filter fun q => decide (q ∉ [p])).Perm l := by
  have e : l.filter (fun q => decide (q ∉ [p])) = l.erase p := by
    rw [hn.erase_eq_filter]
    apply List.filter_congr
    intro x _
    by_cases h : x = p <;> simp [h, bne]
  rw [e]
  exact (List.perm_cons_erase hp).symm
theorem ring_good {n c : Nat} {st : List (List Int)} {p : Int} (h : Good n c st) (hc : 0 < c) (hp : p ∈ folk n) : Good n c (ring st p) := by
  refine ⟨by rw [ring, put_len, lack_len, h.len], ?_⟩
  unfold ring
  refine (flat_put (by rw [lack_len]; exact Nat.mod_lt _ (by rw [h.len]; exact hc))).trans ?_
  rw [flat_lack]
  exact (erase_perm h.nodup (h.all.mem_iff.mpr hp)).trans h.all
theorem rings_good {n c : Nat} (hc : 0 < c) : ∀ {cs : List Int} {st : List (List Int)}, Good n c st → (∀ p ∈ cs, p ∈ folk n) → Good n c (rings st cs)
  | [], _, h, _ => h
  | p :: r, st, h, hs => rings_good hc (cs := r) (ring_good h hc (hs p (by simp))) fun q hq => hs q (by simp [hq])

/-! ### a plan's deed, line by line -/
def line (plan : List (Int × Nat)) (st : List (List Int)) (j : Nat) (l : List Int) : List Int :=
  l.filter (fun p => decide (p ∉ plan.map (·.1))) ++ (plan.filter fun x => decide ((spot st x.1 + x.2) % st.length = j)).map (·.1)
theorem foldl_putAll {α : Type} (f : α → Int × Nat) (xs : List α) : ∀ ls, xs.foldl (fun ls x => put ls (f x).2 (f x).1) ls = putAll ls (xs.map f) := by
  induction xs with
  | nil => intro ls; rfl
  | cons x r ih =>
    intro ls
    show r.foldl (fun ls x => put ls (f x).2 (f x).1) (put ls (f x).2 (f x).1) = _
    rw [ih]
    rfl
theorem deed_putAll (plan : List (Int × Nat)) (st : List (List Int)) : deed plan st = putAll (lack st (plan.map (·.1))) (plan.map fun x => (x.1, (spot st x.1 + x.2) % st.length)) :=
  foldl_putAll (fun x : Int × Nat => (x.1, (spot st x.1 + x.2) % st.length)) plan _
theorem deed_len (plan : List (Int × Nat)) (st : List (List Int)) : (deed plan st).length = st.length := by rw [deed_putAll, putAll_len, lack_len]
theorem deed_get (plan : List (Int × Nat)) (st : List (List Int)) (j : Nat) : (deed plan st)[j]? = st[j]?.map (line plan st j) := by
  rw [deed_putAll, putAll_get, lack_get, Option.map_map]
  congr 1
  funext l
  show l.filter _ ++ _ = line plan st j l
  unfold line
  congr 1
  rw [List.filter_map, List.map_map]
  rfl
theorem ext_lines {a b : List (List Int)} (h : ∀ j : Nat, a[j]? = b[j]?) : a = b := List.ext_getElem? h
theorem ring_deed (st : List (List Int)) (p : Int) : ring st p = deed [(p, 1)] st := rfl
theorem crew_deed (st : List (List Int)) (g : List Int) : crew st g = deed (g.map fun p => (p, 1)) st := by
  unfold crew deed
  rw [List.foldl_map, List.map_map]
  have e : (g.map ((fun x : Int × Nat => x.1) ∘ fun p => (p, 1))) = g := by
    induction g with
    | nil => rfl
    | cons a r ih => rw [List.map_cons, ih]; rfl
  rw [e]

/-! ### the dict of counts -/
theorem lookup_some {d : List (Int × Nat)} {p : Int} {m : Nat} (hn : (d.map (·.1)).Nodup) (h : (p, m) ∈ d) : d.lookup p = some m := by
  induction d with
  | nil => simp at h
  | cons x r ih =>
    obtain ⟨k, v⟩ := x
    rw [List.map_cons, List.nodup_cons] at hn
    rcases List.mem_cons.mp h with e | hr
    · cases e
      rw [List.lookup_cons_self]
    · have ne : (p == k) = false := by
        rw [beq_eq_false_iff_ne]
        intro e
        exact hn.1 (List.mem_map.mpr ⟨(p, m), hr, e⟩)
      rw [List.lookup_cons, ne]
      exact ih hn.2 hr
theorem lookup_none {d : List (Int × Nat)} {p : Int} (h : p ∉ d.map (·.1)) : d.lookup p = none := by
  induction d with
  | nil => rfl
  | cons x r ih =>
    obtain ⟨k, v⟩ := x
    rw [List.map_cons, List.mem_cons, not_or] at h
    have ne : (p == k) = false := beq_eq_false_iff_ne.mpr h.1
    rw [List.lookup_cons, ne]
    exact ih h.2
theorem mem_keys {d : List (Int × Nat)} {p : Int} (h : p ∈ d.map (·.1)) : ∃ m, (p, m) ∈ d := by
  obtain ⟨x, hx, e⟩ := List.mem_map.mp h
  exact ⟨x.2, by rw [← e]; exact hx⟩
theorem bump_keys (d : List (Int × Nat)) (p : Int) : (bump d p).map (·.1) = (d.map (·.1)).filter (fun q => decide (q ≠ p)) ++ [p] := by
  unfold bump
  rw [List.map_append, List.filter_map]
  rfl
theorem bump_nodup {d : List (Int × Nat)} (p : Int) (h : (d.map (·.1)).Nodup) : ((bump d p).map (·.1)).Nodup := by
  rw [bump_keys, List.nodup_append]
  refine ⟨h.filter _, by simp, fun a ha b hb => ?_⟩
  have e : b = p := by simpa using hb
  have := (List.mem_filter.mp ha).2
  rw [e]
  exact of_decide_eq_true this
theorem tally_snoc (cs : List Int) (p : Int) : tally (cs ++ [p]) = bump (tally cs) p := by
  unfold tally
  rw [List.foldl_append]
  rfl
theorem lasts_snoc (cs : List Int) (p : Int) : lasts (cs ++ [p]) = (lasts cs).filter (fun q => decide (q ≠ p)) ++ [p] := by
  unfold lasts
  rw [List.foldl_append]
  rfl
theorem snoc_ind {P : List Int → Prop} (h0 : P []) (h1 : ∀ cs p, P cs → P (cs ++ [p])) : ∀ cs, P cs := by
  have key : ∀ (n : Nat) (cs : List Int), cs.length = n → P cs := by
    intro n
    induction n with
    | zero =>
      intro cs h
      have e : cs = [] := List.length_eq_zero_iff.mp h
      rw [e]
      exact h0
    | succ n ih =>
      intro cs h
      have ne : cs ≠ [] := by
        intro e
        rw [e] at h
        simp at h
      rw [← List.dropLast_concat_getLast ne]
      refine h1 _ _ (ih _ ?_)
      rw [List.length_dropLast, h]
      rfl
  exact fun cs => key _ cs rfl
theorem tally_nodup : ∀ cs : List Int, ((tally cs).map (·.1)).Nodup := by
  refine snoc_ind (by simp [tally]) fun cs p ih => ?_
  rw [tally_snoc]
  exact bump_nodup p ih
theorem mem_bump_keys {d : List (Int × Nat)} {p q : Int} : q ∈ (bump d p).map (·.1) ↔ q ∈ d.map (·.1) ∨ q = p := by
  rw [bump_keys, List.mem_append, List.mem_filter, List.mem_singleton]
  by_cases h : q = p <;> simp [h]
theorem mem_tally : ∀ (cs : List Int) (p : Int), p ∈ (tally cs).map (·.1) ↔ p ∈ cs := by
  refine snoc_ind (by simp [tally]) fun cs p ih q => ?_
  rw [tally_snoc, mem_bump_keys, ih q, List.mem_append, List.mem_singleton]
theorem tally_count : ∀ (cs : List Int), tally cs = (lasts cs).map fun p => (p, cs.count p) := by
  refine snoc_ind rfl fun cs p ih => ?_
  have hl : ∀ q, q ∈ lasts cs ↔ q ∈ cs := fun q => by
    rw [← mem_tally cs q, ih, List.map_map]
    simp
  have hlk : ((tally cs).lookup p).getD 0 = cs.count p := by
    by_cases hp : p ∈ cs
    · have hm : (p, cs.count p) ∈ tally cs := by
        rw [ih]
        exact List.mem_map.mpr ⟨p, (hl p).mpr hp, rfl⟩
      rw [lookup_some (tally_nodup cs) hm]
      rfl
    · rw [lookup_none (fun z => hp ((mem_tally cs p).mp z)), List.count_eq_zero.mpr hp]
      rfl
  rw [tally_snoc, lasts_snoc, List.map_append]
  unfold bump
  rw [hlk]
  congr 1
  · rw [ih, List.filter_map]
    have : ((fun x : Int × Nat => decide (x.1 ≠ p)) ∘ fun p => (p, cs.count p)) = fun q : Int => decide (q ≠ p) := rfl
    rw [this]
    apply List.map_congr_left
    intro q hq
    have ne : q ≠ p := of_decide_eq_true (List.mem_filter.mp hq).2
    rw [List.count_append, List.count_singleton]
    have : (p == q) = false := beq_eq_false_iff_ne.mpr (Ne.symm ne)
    rw [this]
    rfl
  · rw [List.map_singleton, List.count_append, List.count_singleton]
    simp
theorem fold_flat (gs : List (List Int)) : ∀ d : List (Int × Nat), gs.foldl (fun d g => g.foldl bump d) d = gs.flatten.foldl bump d := by
  induction gs with
  | nil => intro d; rfl
  | cons g r ih =>
    intro d
    rw [List.foldl_cons, ih, List.flatten_cons, List.foldl_append]

/-! ### one by one, and at once -/
theorem line_mem {plan : List (Int × Nat)} {st : List (List Int)} {j : Nat} {l : List Int} {p : Int} (hn : (plan.map (·.1)).Nodup) {m : Nat} (hm : (p, m) ∈ plan) : p ∈ line plan st j l ↔ (spot st p + m) % st.length = j := by
  unfold line
  rw [List.mem_append, List.mem_filter]
  have hk : p ∈ plan.map (·.1) := List.mem_map.mpr ⟨(p, m), hm, rfl⟩
  constructor
  · rintro (⟨_, z⟩ | z)
    · exact absurd hk (of_decide_eq_true z)
    · obtain ⟨x, hx, e⟩ := List.mem_map.mp z
      obtain ⟨hx1, hx2⟩ := List.mem_filter.mp hx
      have e2 : plan.lookup p = some x.2 := lookup_some hn (by rw [← e]; exact hx1)
      rw [lookup_some hn hm] at e2
      have e3 : m = x.2 := Option.some.inj e2
      have z := of_decide_eq_true hx2
      rw [e, ← e3] at z
      exact z
  · intro z
    exact .inr (List.mem_map.mpr ⟨(p, m), List.mem_filter.mpr ⟨hm, decide_eq_true z⟩, rfl⟩)
theorem line_mem0 {plan : List (Int × Nat)} {st : List (List Int)} {j : Nat} {l : List Int} {p : Int} (hk : p ∉ plan.map (·.1)) : p ∈ line plan st j l ↔ p ∈ l := by
  unfold line
  rw [List.mem_append, List.mem_filter]
  constructor
  · rintro (⟨z, _⟩ | z)
    · exact z
    · obtain ⟨x, hx, e⟩ := List.mem_map.mp z
      exact absurd (List.mem_map.mpr ⟨x, (List.mem_filter.mp hx).1, e⟩) hk
  · intro z
    exact .inl ⟨z, decide_eq_true hk⟩
theorem mod_lt_of {a c : Nat} (h : a < c) : a % c = a := Nat.mod_eq_of_lt h
/-- the first line with a property, told by where the lines hold it -/
theorem spot_of {S : List (List Int)} {p : Int} {k : Nat} (hk : k < S.length) (h : ∀ j l, S[j]? = some l → (p ∈ l ↔ j = k)) : spot S p = k := by
  have hm : p ∈ S.flatten := List.mem_flatten.mpr ⟨S[k], List.getElem_mem hk, (h k _ (List.getElem?_eq_getElem hk)).mpr rfl⟩
  obtain ⟨l, hl, hp⟩ := spot_mem hm
  exact (h _ l hl).mp hp
theorem spot_deed {n c : Nat} {st : List (List Int)} {plan : List (Int × Nat)} {p : Int} (h : Good n c st) (hc : 0 < c) (hn : (plan.map (·.1)).Nodup) (hp : p ∈ folk n) :
    spot (deed plan st) p = (spot st p + (plan.lookup p).getD 0) % st.length := by
  have hl : 0 < st.length := by rw [h.len]; exact hc
  have hf : p ∈ st.flatten := h.all.mem_iff.mpr hp
  by_cases hk : p ∈ plan.map (·.1)
  · obtain ⟨m, hm⟩ := mem_keys hk
    rw [lookup_some hn hm]
    refine spot_of (by rw [deed_len]; exact Nat.mod_lt _ hl) fun j l hj => ?_
    rw [deed_get] at hj
    obtain ⟨l0, h0, rfl⟩ := Option.map_eq_some_iff.mp hj
    rw [line_mem hn hm]
    exact eq_comm
  · rw [lookup_none hk]
    show _ = (spot st p + 0) % _
    rw [Nat.add_zero, mod_lt_of (spot_lt hf)]
    refine spot_of (by rw [deed_len]; exact spot_lt hf) fun j l hj => ?_
    rw [deed_get] at hj
    obtain ⟨l0, h0, rfl⟩ := Option.map_eq_some_iff.mp hj
    rw [line_mem0 hk]
    constructor
    · intro z
      exact (spot_eq h.nodup h0 z).symm
    · intro e
      obtain ⟨l1, h1, hp1⟩ := spot_mem hf
      rw [← e, h0] at h1
      cases h1
      exact hp1
theorem ring_of_deed {n c : Nat} {st : List (List Int)} {plan : List (Int × Nat)} {p : Int} (h : Good n c st) (hc : 0 < c) (hn : (plan.map (·.1)).Nodup) (hp : p ∈ folk n) :
    ring (deed plan st) p = deed (bump plan p) st := by
  refine ext_lines fun j => ?_
  rw [ring_deed, deed_get, deed_get, deed_get, Option.map_map]
  cases hj : st[j]? with
  | none => rfl
  | some l =>
    show some (line [(p, 1)] (deed plan st) j (line plan st j l)) = some (line (bump plan p) st j l)
    congr 1
    have e1 : (spot (deed plan st) p + 1) % (deed plan st).length = (spot st p + ((plan.lookup p).getD 0 + 1)) % st.length := by
      rw [spot_deed h hc hn hp, deed_len, Nat.mod_add_mod, Nat.add_assoc]
    have e2 : line [(p, 1)] (deed plan st) j (line plan st j l) = (line plan st j l).filter (fun q => decide (q ∉ [p])) ++ (if (spot st p + ((plan.lookup p).getD 0 + 1)) % st.length = j then [p] else []) := by
      rw [← e1]
      unfold line
      by_cases z : (spot (deed plan st) p + 1) % (deed plan st).length = j <;> simp [z]
    rw [e2]
    unfold line
    rw [List.filter_append, List.append_assoc, bump_keys]
    congr 1
    · rw [List.filter_filter]
      apply List.filter_congr
      intro q _
      by_cases hq : q = p
      · simp [hq]
      · by_cases hq2 : q ∈ plan.map (·.1)
        · simp only [List.mem_singleton, hq, not_false_eq_true, decide_true, hq2, not_true_eq_false, decide_false, Bool.and_false, List.mem_append, List.mem_filter, ne_eq, true_and, or_false]
        · simp only [List.mem_singleton, hq, not_false_eq_true, decide_true, hq2, Bool.and_self, List.mem_append, List.mem_filter, false_and, or_self]
    · unfold bump
      rw [List.filter_append, List.map_append]
      congr 1
      · rw [List.filter_map, List.filter_filter, List.filter_filter]
        congr 1
        apply List.filter_congr
        intro x _
        show (decide (x.1 ∉ [p]) && _) = (_ && decide (x.1 ≠ p))
        rw [Bool.and_comm]
        congr 1
        simp
      · by_cases z : (spot st p + ((plan.lookup p).getD 0 + 1)) % st.length = j <;> simp [z]
theorem filter_all {l : List Int} : l.filter (fun p => decide (p ∉ ([] : List Int))) = l := by
  rw [List.filter_eq_self]
  intro a _
  simp
theorem deed_nil (st : List (List Int)) : deed [] st = st := by
  show lack st [] = st
  unfold lack
  have : (fun l : List Int => l.filter fun p => decide (p ∉ ([] : List Int))) = id := by
    funext l
    exact filter_all
  rw [this, List.map_id]
/-- calls one by one do what their plan does -/
theorem rings_deed {n c : Nat} {st : List (List Int)} (h : Good n c st) (hc : 0 < c) : ∀ cs : List Int, (∀ p ∈ cs, p ∈ folk n) → rings st cs = deed (tally cs) st := by
  refine snoc_ind (fun _ => (deed_nil st).symm) fun cs p ih hs => ?_
  have e : rings st (cs ++ [p]) = ring (rings st cs) p := by
    unfold rings
    rw [List.foldl_append]
    rfl
  rw [e, ih fun q hq => hs q (by simp [hq]), tally_snoc]
  exact ring_of_deed h hc (tally_nodup cs) (hs p (by simp))
theorem lookup_ne {d : List (Int × Nat)} {p : Int} (h : p ∉ d.map (·.1)) : d.filter (fun x => decide (x.1 ≠ p)) = d := by
  rw [List.filter_eq_self]
  intro x hx
  exact decide_eq_true fun e => h (List.mem_map.mpr ⟨x, hx, e⟩)
theorem tally_uniq : ∀ (g : List Int), g.Nodup → tally g = g.map fun p => (p, 1) := by
  refine snoc_ind (fun _ => rfl) fun cs p ih hn => ?_
  rw [List.nodup_append] at hn
  have hp : p ∉ cs := fun z => hn.2.2 p z p (by simp) rfl
  have hk : p ∉ (tally cs).map (·.1) := fun z => hp ((mem_tally cs p).mp z)
  rw [tally_snoc, bump, lookup_ne hk, lookup_none hk, ih hn.1, List.map_append]
  rfl
theorem crew_rings {n c : Nat} {st : List (List Int)} {g : List Int} (h : Good n c st) (hc : 0 < c) (hg : g.Nodup) (hs : ∀ p ∈ g, p ∈ folk n) : crew st g = rings st g := by
  rw [rings_deed h hc g hs, tally_uniq g hg, crew_deed]
theorem crews_rings {n c : Nat} (hc : 0 < c) : ∀ (gs : List (List Int)) (st : List (List Int)), Good n c st → (∀ g ∈ gs, g.Nodup ∧ ∀ p ∈ g, p ∈ folk n) → crews st gs = rings st gs.flatten
  | [], st, _, _ => rfl
  | g :: r, st, h, hs => by
    obtain ⟨h1, h2⟩ := hs g (by simp)
    show crews (crew st g) r = _
    rw [crew_rings h hc h1 h2, crews_rings hc r _ (rings_good hc h h2) fun g hg => hs g (by simp [hg]), List.flatten_cons]
    unfold rings
    rw [List.foldl_append]

/-! ### the least plan -/
theorem modC_keys (c : Nat) (d : List (Int × Nat)) : (modC c d).map (·.1) = d.map (·.1) := by
  unfold modC
  rw [List.map_map]
  rfl
theorem deed_modC (plan : List (Int × Nat)) (st : List (List Int)) : deed (modC st.length plan) st = deed plan st := by
  unfold deed
  rw [modC_keys]
  unfold modC
  rw [List.foldl_map]
  congr 1
  funext ls x
  show put ls ((spot st x.1 + x.2 % st.length) % st.length) x.1 = _
  rw [Nat.add_mod_mod]
theorem nodup_sub_all {n : Nat} {l : List Int} (hn : l.Nodup) (hs : ∀ p ∈ l, p ∈ folk n) (hl : l.length = n) : ∀ p ∈ folk n, p ∈ l := by
  have key : ∀ (a b : List Int), a.Nodup → (∀ p ∈ a, p ∈ b) → b.length ≤ a.length → ∀ p ∈ b, p ∈ a := by
    intro a
    induction a with
    | nil =>
      intro b _ _ hl p hp
      have : b = [] := List.length_eq_zero_iff.mp (by simpa using hl)
      rw [this] at hp
      exact hp
    | cons x r ih =>
      intro b hn hs hl p hp
      rw [List.nodup_cons] at hn
      have hx : x ∈ b := hs x (by simp)
      by_cases e : p = x
      · simp [e]
      · refine List.mem_cons_of_mem _ (ih (b.erase x) hn.2 (fun q hq => ?_) ?_ p ((List.mem_erase_of_ne e).mpr hp))
        · exact (List.mem_erase_of_ne (fun z => hn.1 (by rw [← z]; exact hq))).mpr (hs q (by simp [hq]))
        · have := List.length_erase_of_mem hx
          rw [List.length_cons] at hl
          omega
  exact key l (folk n) hn hs (by rw [folk_len]; omega)
theorem filter_one {l : List Int} {p : Int} (hn : l.Nodup) : l.filter (fun q => decide (q = p)) = if p ∈ l then [p] else [] := by
  induction l with
  | nil => rfl
  | cons a r ih =>
    rw [List.nodup_cons] at hn
    rw [List.filter_cons, ih hn.2]
    by_cases e : a = p
    · subst e
      simp [hn.1]
    · have e' : ¬ p = a := fun z => e z.symm
      simp [e, e']
theorem deed_least {n c : Nat} {st : List (List Int)} {plan : List (Int × Nat)} (h : Good n c st) (hn : (plan.map (·.1)).Nodup) (hs : ∀ p ∈ plan.map (·.1), p ∈ folk n) : deed (least n plan) st = deed plan st := by
  unfold least
  split
  · rename_i hc
    obtain ⟨hl, h0⟩ := hc
    cases plan with
    | nil => rfl
    | cons x r =>
      obtain ⟨p, m⟩ := x
      have hm : m = 0 := by simpa using h0
      subst hm
      have all := nodup_sub_all (n := n) hn hs (by simpa using hl)
      refine ext_lines fun j => ?_
      rw [deed_get, deed_get]
      cases hj : st[j]? with
      | none => rfl
      | some l =>
        show some (line r st j l) = some (line ((p, 0) :: r) st j l)
        congr 1
        rw [List.map_cons, List.nodup_cons] at hn
        have hlm : ∀ q ∈ l, q ∈ folk n := fun q hq => h.all.mem_iff.mp (List.mem_flatten.mpr ⟨l, List.mem_of_getElem? hj, hq⟩)
        have hln : l.Nodup := nodup_line h.nodup hj
        have hpf : p ∈ st.flatten := h.all.mem_iff.mpr (hs p (by simp))
        have e1 : l.filter (fun q => decide (q ∉ r.map (·.1))) = l.filter fun q => decide (q = p) := by
          apply List.filter_congr
          intro q hq
          rcases List.mem_cons.mp (all q (hlm q hq)) with e | z
          · have e : q = p := e
            subst e
            have : q ∉ r.map (·.1) := hn.1
            rw [decide_eq_true this, decide_eq_true rfl]
          · have ne : ¬ q = p := fun e => hn.1 (by rw [← e]; exact z)
            rw [decide_eq_false (fun k => k z), decide_eq_false ne]
        have e2 : l.filter (fun q => decide (q ∉ ((p, 0) :: r).map (·.1))) = [] := by
          rw [List.filter_eq_nil_iff]
          intro q hq
          have := all q (hlm q hq)
          simp only [decide_eq_true_eq, Decidable.not_not]
          exact this
        unfold line
        rw [e1, e2, filter_one hln]
        have e3 : (spot st p + 0) % st.length = spot st p := by rw [Nat.add_zero, mod_lt_of (spot_lt hpf)]
        by_cases hp : p ∈ l
        · have z : spot st p = j := spot_eq h.nodup hj hp
          have e4 : decide ((spot st (p, 0).1 + (p, 0).2) % st.length = j) = true := decide_eq_true (e3.trans z)
          rw [if_pos hp, List.filter_cons, if_pos e4]
          rfl
        · have z : ¬ spot st p = j := fun z => hp (by
            obtain ⟨l1, h1, hp1⟩ := spot_mem hpf
            rw [z, hj] at h1
            cases h1
            exact hp1)
          have e4 : ¬ decide ((spot st (p, 0).1 + (p, 0).2) % st.length = j) = true := fun k => z (e3.symm.trans (of_decide_eq_true k))
          rw [if_neg hp, List.filter_cons, if_neg e4]
  · rfl
/-- the plan of calls, the least one, leads to the state behind them -/
theorem deed_plan {n c : Nat} {st : List (List Int)} (h : Good n c st) (hc : 0 < c) {cs : List Int} (hs : ∀ p ∈ cs, p ∈ folk n) : deed (least n (modC c (tally cs))) st = rings st cs := by
  have e : modC c (tally cs) = modC st.length (tally cs) := by rw [h.len]
  rw [deed_least h (by rw [modC_keys]; exact tally_nodup cs) fun p hp => ?_, e, deed_modC, rings_deed h hc cs hs]
  rw [modC_keys] at hp
  exact hs p ((mem_tally cs p).mp hp)
/-- what a plan must be -/
structure PlanOk (n c : Nat) (plan : List (Int × Nat)) : Prop where
  len : plan.length ≤ n
  who : ∀ x ∈ plan, x.1 ∈ folk n ∧ x.2 < c
  nodup : (plan.map (·.1)).Nodup
theorem len_sub : ∀ (a b : List Int), a.Nodup → (∀ p ∈ a, p ∈ b) → a.length ≤ b.length
  | [], _, _, _ => Nat.zero_le _
  | x :: r, b, hn, hs => by
    rw [List.nodup_cons] at hn
    have hx : x ∈ b := hs x (by simp)
    have ih := len_sub r (b.erase x) hn.2 fun q hq => (List.mem_erase_of_ne (fun z => hn.1 (by rw [← z]; exact hq))).mpr (hs q (by simp [hq]))
    rw [List.length_erase_of_mem hx] at ih
    have : 0 < b.length := List.length_pos_of_mem hx
    rw [List.length_cons]
    omega
theorem sub_len {n : Nat} {l : List Int} (hn : l.Nodup) (hs : ∀ p ∈ l, p ∈ folk n) : l.length ≤ n := by
  have := len_sub l (folk n) hn hs
  rwa [folk_len] at this
theorem plan_ok {n c : Nat} (hc : 0 < c) {cs : List Int} (hs : ∀ p ∈ cs, p ∈ folk n) : PlanOk n c (modC c (tally cs)) := by
  have hk : ∀ p ∈ (modC c (tally cs)).map (·.1), p ∈ folk n := fun p hp => by
    rw [modC_keys] at hp
    exact hs p ((mem_tally cs p).mp hp)
  have hn : ((modC c (tally cs)).map (·.1)).Nodup := by rw [modC_keys]; exact tally_nodup cs
  refine ⟨?_, fun x hx => ⟨hk x.1 (List.mem_map.mpr ⟨x, hx, rfl⟩), ?_⟩, hn⟩
  · have := sub_len hn hk
    rwa [List.length_map] at this
  · obtain ⟨y, _, e⟩ := List.mem_map.mp hx
    rw [← e]
    exact Nat.mod_lt _ hc
theorem PlanOk.least {n c : Nat} {plan : List (Int × Nat)} (h : PlanOk n c plan) : PlanOk n c (least n plan) := by
  unfold G29.least
  split
  · exact ⟨by rw [List.length_drop]; have := h.len; omega, fun x hx => h.who x (List.mem_of_mem_drop hx), h.nodup.sublist ((List.drop_sublist 1 plan).map _)⟩
  · exact h
end G29

set_option Elab.async false
set_option linter.all false
set_option maxRecDepth 100000
set_option maxHeartbeats 4000000
/-! rules that the layer lacks: enumerate over a tuple, tuple.count, set(t) as a value -/
namespace G29
open PySem PySem.Spec PyProof.Rows L2
open Sem (wp)
theorem meets_enum1 {v : Value} {o : Obj} {H : Heap → Prop} (B : Begins v o H) :
    Meets (Builtin.«enumerate.__new__» ⟨[.type "enumerate", v], []⟩) (fun _ R s => H s.heap ∧
      R (.ok (.ret (.ref (s.heap.push o).objs.size))) { s with heap := (s.heap.push o).push { cls := .type "enumerate", data := .fields #[.none, .bool false, .ref s.heap.objs.size, rawInt 0, .none, .none] } }) :=
  .of_wp fun prog w A R s h => by
    obtain ⟨hp, gg, dd, tk, os⟩ := s
    obtain ⟨h1, h⟩ := h
    have hsub := sub_enumerate
    have q1 : ∀ {A' : Around} {E : Value → Shared → Prop} {Q : Value → Shared → Prop}, Q (.ref hp.objs.size) ⟨hp.push o, gg, dd, tk, os⟩ → wpAny (model prog w) A' (pyIter v) Q E ⟨hp, gg, dd, tk, os⟩ :=
      fun q => B.iter prog w _ _ ⟨hp, gg, dd, tk, os⟩ _ h1 q
    wp_walk using q1
    refine wpAny_stack_any fun st => wpAny_pure ?_
    split
    · rename_i c _ _ _ _ _
      cases (c == Value.type "enumerate") <;> (wp_walk using q1; exact ⟨_, rfl, h⟩)
    · wp_walk using q1
      exact ⟨_, rfl, h⟩
section
variable {prog : Program} {w : World} {A : Around} {E : Value → Shared → Prop} {s : Shared}
/-- enumerate(t), t a tuple: its two new cells -/
theorem call_enumT {t : Addr} {its : Array Value} {Q : Value → Shared → Prop} (hT : s.heap.IsTuple t its)
    (h : ∀ h', IsEnum h' (s.heap.objs.size + 1) s.heap.objs.size 0 .none → h'.IsTupleIter s.heap.objs.size t 0 → (∀ b o, s.heap.get? b = some o → h'.get? b = some o) → Q (.ref (s.heap.objs.size + 1)) { s with heap := h' }) :
    wpAny (model prog w) A (call (.type "enumerate") [.ref t]) Q E s := by
  refine callType_new F.called_enumerate (by decide) (F.typeCall_enumerate_1 _) (F.newCall_enumerate_1 _) (fun obj => F.args_object_init_2 obj _) F.entry_enumerate_new (meets_enum1 (begins_tuple t its)) ⟨hT, ?_⟩
  have hz : (s.heap.push { cls := .type "tuple_iterator", data := .fields #[.ref t, .int 0 0] }).objs.size = s.heap.objs.size + 1 := Heap.size_push ..
  show _ ∧ _
  rw [hz]
  have he : IsEnum ((s.heap.push { cls := .type "tuple_iterator", data := .fields #[.ref t, .int 0 0] }).push { cls := .type "enumerate", data := .fields #[.none, .bool false, .ref s.heap.objs.size, rawInt 0, .none, .none] }) (s.heap.objs.size + 1) s.heap.objs.size 0 .none := by
    have q := Heap.get?_push_size (s.heap.push { cls := .type "tuple_iterator", data := .fields #[.ref t, .int 0 0] }) (o := { cls := .type "enumerate", data := .fields #[.none, .bool false, .ref s.heap.objs.size, rawInt 0, .none, .none] }) rfl
    rw [hz] at q
    exact q
  exact ⟨⟨_, he, rfl⟩, h _ he ⟨_, Heap.get?_push_of_some _ (Heap.get?_push_size _ rfl), rfl, rfl⟩ fun b o x => Heap.get?_push_of_some _ (Heap.get?_push_of_some _ x)⟩
end

/-- the tuple at a, each item in a new pair with its place -/
def EnT (K : PySem.W.Frag) (a : Addr) : It :=
  ⟨fun i H => ∃ (xs : List V) (x : V), SqT K H a xs ∧ xs[i]? = some x,
   fun i H v H' => ∃ T x, v = .ref T ∧ H T = none ∧ H' = upd H T (.tup [.int (i : Nat), x]) ∧ ∀ xs, SqT K H a xs → xs[i]? = some x,
   fun i H => ∃ xs : List V, SqT K H a xs ∧ xs.length ≤ i⟩
theorem turn_enT {P : Program} {w : World} {K : PySem.W.Frag} {elts : List Expr} {kk : Nat} {tpos : Pos} (a e it : Addr) :
    Turn P w K (.Tuple elts kk tpos) (EnT K a) [e, it] e (fun i h => (∃ old, IsEnum h e it ((i : Nat) : Int) old) ∧ h.IsTupleIter it a i ∧ e ≠ it) where
  mem := by simp
  obj := fun i h st b hb => by
    obtain ⟨⟨old, he⟩, ⟨o, ho, hc, hd⟩, _⟩ := st
    have e' : b = e ∨ b = it := by simpa using hb
    rcases e' with z | z
    · rw [z]
      exact ⟨_, he, fun v q => nomatch q⟩
    · rw [z]
      exact ⟨o, ho, fun v q => by rw [hd] at q; cases q⟩
  keep := fun i h h' st k => let ⟨⟨old, he⟩, hi, hne⟩ := st; ⟨⟨old, k e (by simp) _ he⟩, hi.at fun o q => k it (by simp) o q, hne⟩
  item := by
    intro X hP hw hK hc i pins s σ H E I hf st hg
    subst hP hw hK
    obtain ⟨⟨old, he⟩, hit, hne⟩ := st
    obtain ⟨xs, x, hq, hx⟩ := hg
    obtain ⟨its, rv, p, hz⟩ := I.tuple hq
    obtain ⟨u, hu, ru⟩ := rv.get hx
    have hel : e < s.heap.objs.size := Heap.lt_size he
    have hil : it < s.heap.objs.size := by
      obtain ⟨_, q, _⟩ := hit
      exact Heap.lt_size q
    have hai : a ≠ it := fun z => by
      obtain ⟨o1, h1, h2, _⟩ := p
      obtain ⟨o2, h3, h4, _⟩ := hit
      rw [z, h3] at h1
      have e1 : o2 = o1 := Option.some.inj h1
      rw [e1, h2] at h4
      exact absurd h4 (by decide)
    have hea : e ≠ a := fun z => by
      obtain ⟨o1, h1, h2, _⟩ := p
      rw [← z, he] at h1
      have e1 := Option.some.inj h1
      rw [← e1] at h2
      exact absurd (Value.type.inj h2) (by decide)
    have hh : X.A.in1.handled = none := I.ok.hd hc
    have hlt : i < its.toArray.size := by
      rw [List.size_toArray]
      exact (List.getElem?_eq_some_iff.mp hu).1
    refine wpAny_pyNext_enum_itemC (Draws.tuple (prog := X.prog) (w := X.w) hh it a hai its.toArray) he ⟨hit, show s.heap.IsTuple a its.toArray from p⟩ hlt hne (by simp [hne, hea]) fun y h' tk hy ho hst hT hsz hk => ?_
    have ey : y = u := by
      have hu' : its.toArray[i]? = some u := by simpa using hu
      exact Option.some.inj (hy.symm.trans hu')
    subst ey
    obtain ⟨hit', _⟩ := hst
    refine ⟨_, rfl, wpAny_letOwnedTupleGo_enum (s := { s with heap := h', toks := tk + 1 }) ho fun h'' he' sb => ?_⟩
    have hT2 : h''.get? s.heap.objs.size = some { cls := .type "tuple", data := .seq #[.int i tk, y] } := (sb.2 _ (Nat.ne_of_gt hel)).trans hT
    have new : ObjOk X.prog X.w (upd H s.heap.objs.size (.tup [.int (i : Nat), x])) h'' s.heap.objs.size (.tup [.int (i : Nat), x]) :=
      ⟨by show 2 ≤ sizeLine; decide, [.int i tk, y], .cons ⟨_, rfl⟩ (.cons ru .nil), ⟨_, hT2, rfl, _, rfl⟩⟩
    have I1 : Inv X pins σ (upd H s.heap.objs.size (.tup [.int (i : Nat), x])) { s with heap := h'', toks := tk + 1 } :=
      I.turnedNew (ch := [e, it]) (fun b ob hb q => (sb.2 b (fun z => hb (by simp [z]))).trans (hk b ob (fun z => hb (by simp [z])) (fun z => hb (by simp [z])) q)) hf (Nat.le_refl _) new
    refine ⟨.ref s.heap.objs.size, _, I1, rfl, ⟨_, x, rfl, I.hok.fresh (Nat.le_refl _), rfl, fun ys hy => by rw [I.tuple_inj hy hq]; exact hx⟩, ⟨⟨y, ?_⟩, hit'.at fun o q => (sb.2 it (Ne.symm hne)).trans q, hne⟩, fun b hb => ?_⟩
    · have e1 : ((i + 1 : Nat) : Int) = (i : Int) + 1 := by omega
      rw [e1]
      exact he'
    · have hb' : b < s.heap.objs.size := by
        have e' : b = e ∨ b = it := by simpa using hb
        rcases e' with z | z
        · rw [z]; exact hel
        · rw [z]; exact hil
      rw [upd_ne (Nat.ne_of_lt hb')]
      exact (hf b hb).1
  done := by
    intro X hP hw hK hc i pins s σ H E I hf st hg
    subst hP hw hK
    obtain ⟨⟨old, he⟩, hit, hne⟩ := st
    obtain ⟨xs, hq, hx⟩ := hg
    obtain ⟨its, rv, p, hz⟩ := I.tuple hq
    obtain ⟨f0, f1, f2, f3, f4, f5⟩ := hf it (by simp)
    have hl := rv.length
    have hT : s.TypeIs (.ref e) "enumerate" := ⟨_, he, rfl⟩
    have hh : X.A.handled = none := I.ok.hd hc
    unfold pyNext
    refine wpAny_bind (wpAny_attempt (wpAny_callSpecial?_slot (name := Str.ofString "__next__") hT F.slot_enumerate_next
      (wpAny_call_entry F.slot_enumerate_next hT F.entry_enumerate_next ?_ (F.args_enumerate_next_1 _))))
    show wpAny _ _ (field (.ref e) 2 >>= _) _ _ _
    refine wpAny_bind (wpAny_field he rfl (x := .ref it) rfl ?_)
    refine wpAny_bind (wpAny_nextOf_tuple_end hh hit (show s.heap.IsTuple a its.toArray from p) (by simp; omega) fun h' x he' hx' => ?_)
    obtain ⟨o, ho, hc'⟩ := hx'
    refine wpAny_bind (wpAny_isInstance (T := "StopIteration") (b := true) ⟨o, ho, hc'⟩ isSubtype_stop ?_)
    exact wpAny_pure ⟨rfl, I.turned (t' := s.toks) (fun b o hb q => he' b o hb q) f0 f1 f3 f4 f5⟩
  self := fun A i s Q E st h => let ⟨⟨_, he⟩, _⟩ := st; wpAny_pyIter_enum he h
def iEnT (K : PySem.W.Frag) (ta : TA) : TI := fun σ H R => ta σ H fun vs H1 => ∃ a xs, vs = [.ref a] ∧ SqT K H1 a xs ∧ R (EnT K a) H1
theorem pi_enT {X : Cx} {e : Expr} {ta : TA} {p pos tpos : Pos} {elts : List Expr} {kk : Nat} (hg : Gl X "enumerate") (hm : X.mg "enumerate" = none) (ha : PA X [e] ta) (hs : starEach [e] X.env = [(false, eval e X.env)] := by rfl) :
    PI X (.Tuple elts kk tpos) (.Call (.Name "enumerate" p) [e] [] pos) (iEnT X.K ta) := by
  refine ⟨fun pins s σ H R I h => ?_⟩
  refine Call_ (ld_blt I hg hm boot_enumerate (PyProof.Rows.callWith_type1 (thn (ha.run pos pins s σ H _ I h) fun us s1 ⟨vs, H1, I1, r1, q1⟩ => ?_) hs rfl))
  obtain ⟨a, xs, ex, hq, q⟩ := q1
  subst ex
  cases r1 with
  | cons r rr =>
    cases rr
    cases r
    obtain ⟨its, rv, p', hz⟩ := I1.tuple hq
    refine call_enumT (show s1.heap.IsTuple a its.toArray from p') fun h' he hit hk => wpAny_pyIter_enum he ?_
    have I2 : Inv X pins σ H1 { s1 with heap := h' } := I1.kept (t' := s1.toks) hk
    refine ⟨s1.heap.objs.size + 1, [s1.heap.objs.size + 1, s1.heap.objs.size], _, _, H1, rfl, I2, turn_enT a (s1.heap.objs.size + 1) s1.heap.objs.size, ⟨⟨.none, he⟩, hit, Nat.succ_ne_self _⟩, fun b hb => ?_, q⟩
    have e' : b = s1.heap.objs.size + 1 ∨ b = s1.heap.objs.size := by simpa using hb
    have hle : s1.heap.objs.size ≤ b := by
      rcases e' with z | z
      · rw [z]; exact Nat.le_add_right _ _
      · rw [z]; exact Nat.le_refl _
    exact I1.fpOk hle (I1.hok.fresh hle)
theorem walk_enT {K : PySem.W.Frag} {a : Addr} {xs : List V} : Walk (EnT K a) xs.length (fun H => SqT K H a xs) (YPair (fun i => some (.int (i : Nat))) (fun i => xs[i]?)) :=
  ⟨fun i _ hi q => ⟨xs, xs[i], q, by simp [hi]⟩, fun _ q => ⟨xs, q, Nat.le_refl _⟩, fun i H v H' _ q y => by
    obtain ⟨T, x, e1, e2, e3, f⟩ := y
    exact ⟨T, .int (i : Nat), x, e1, e2, e3, rfl, f xs q⟩⟩

/-! ### tuple.count -/
def rCntT (K : PySem.W.Frag) : V → List V → Hp → VK → Prop := fun x xs H Q => ∃ (p : Addr) (ns : List Int) (k : Int), x = .ref p ∧ xs = [.int k] ∧ SqT K H p (ns.map V.int) ∧ Q (.int (ns.count k : Nat)) H
theorem mt_tcount {X : Cx} : MtR X "tuple.count" (rCntT X.K) := by
  intro pins s σ H x xs v us Q I rx rxs h
  obtain ⟨p, ns, k, rfl, rfl, hs, q⟩ := h
  cases rx
  obtain ⟨u, rfl, ru⟩ := rxs.one
  obtain ⟨t, rfl⟩ := ru
  obtain ⟨its, rv, ⟨⟨cls, dd, data, sl⟩, ho, hc, n, hd⟩, hlen⟩ := I.tuple hs
  simp only at hc hd
  subst hc hd
  have hi := ints_of_vals rv
  refine call_meets PySem.F.slot_tuple_count ⟨_, ho, rfl⟩ PySem.F.entry_tuple_count (PySem.F.args_tuple_count_2 _ _)
    (SeqAt.tuple_countAt p its.toArray n dd sl (.int k t) (eqk k)) ⟨ho, fun y hy => (eqk_gives hi y (by simpa using hy)).at _ _, ?_⟩
  have ec : its.toArray.toList.countP (eqk k) = ns.count k := eqk_count hi
  refine ⟨.int (ns.count k : Nat), H, I.tok _, ⟨s.toks, ?_⟩, q⟩
  show Value.int ((its.toArray.toList.countP (eqk k) : Nat) : Int) s.toks = Value.int ((ns.count k : Nat) : Int) s.toks
  rw [ec]

/-! ### set(t) of a tuple of ints, as a value -/
def rSetTI (K : PySem.W.Frag) (w : World) : List V → Hp → VK → Prop := fun xs H Q => ∃ (p : Addr) (ns : List Int), xs = [.ref p] ∧ SqT K H p (ns.map V.int) ∧ ns.length ≤ 1000 ∧
  ∀ q c, H q = none → c ≤ ns.length → Q (.ref q) (upd H q (SetO w q (fun j => decide (j ∈ ns)) c))
theorem cr_setTI {X : Cx} (hc : X.calm = true) : CallR X (.type "set") (rSetTI X.K X.w) := by
  intro pins s σ H xs us Q I r h
  obtain ⟨p, ns, rfl, hs, hl, q⟩ := h
  obtain ⟨u, rfl, ru⟩ := vals1 r
  cases ru
  obtain ⟨its, rv, pt, hz⟩ := I.tuple hs
  have hi : IntsAre its.toArray.toList ns := ints_of_vals rv
  refine call_set_tupI ns (I.ok.hd hc) (show s.heap.IsTuple p its.toArray from pt) hi (by unfold scanBound; omega) fun h' tk c R1 hcn k => ?_
  have hn : H s.heap.objs.size = none := I.hok.fresh (Nat.le_refl _)
  exact ⟨.ref s.heap.objs.size, _, I.laid (t' := tk) k (Nat.le_refl _) (setO_new R1), rfl, q _ c hn hcn⟩

/-! ### tuples of which it is known that they bear no dict of their own: they lie locked, so that a method of theirs may be called -/
def tTupF (t : TA) : TE := fun σ H Q => t σ H fun xs H1 => xs.length ≤ sizeLine ∧ ∀ p o, o.dict = none → H1 p = none → Q (.ref p) (upd H1 p (.frz o (.tup xs)))
section
variable {X : Cx}
theorem pe_tupF {es : List Expr} {t : TA} {pos : Pos} {x1} (h : PA X es t) : PE X (.Tuple es x1 pos) (tTupF t) := by
  refine ⟨fun pins s σ H Q I hq => ?_⟩
  refine wpAny_Tuple_spliced (thn (h.run pos pins s σ H _ I hq) fun us s1 ⟨xs, H1, I1, r, z, q⟩ => ⟨by rw [← r.length]; exact z, ?_⟩)
  have hn : H1 s1.heap.objs.size = none := I1.hok.fresh (Nat.le_refl _)
  refine ⟨.ref s1.heap.objs.size, upd H1 s1.heap.objs.size (.frz { cls := .type "tuple", data := .seq us.toArray } (.tup xs)), I1.laid (t' := s1.toks) (fun b u e => Heap.get?_push_of_some _ e) (Nat.le_refl _) ?_, rfl, q _ _ rfl hn⟩
  exact ⟨Heap.get?_push_size _ rfl, z, us, r, ⟨_, Heap.get?_push_size _ rfl, rfl, _, rfl⟩⟩
/-- tuple(l) of a list -/
def rTupleF (K : PySem.W.Frag) : List V → Hp → VK → Prop := fun xs H Q => ∃ p ys, xs = [.ref p] ∧ SqL K H p ys ∧ ∀ l o, o.dict = none → H l = none → Q (.ref l) (upd H l (.frz o (.tup ys)))
theorem cr_tupleF : CallR X (.type "tuple") (rTupleF X.K) := by
  intro pins s σ H xs us Q I r h
  obtain ⟨p, ys, rfl, hq, q⟩ := h
  obtain ⟨u, rfl, rx⟩ := vals1 r
  cases rx
  obtain ⟨its, r', pl, hz⟩ := I.list hq
  have hlen := r'.length
  refine call_tuple_list pl.isList (fun h' kp => ?_) (by simp only [List.size_toArray] <;> omega)
  have I1 : Inv X pins σ H { s with heap := h' } := I.kept (t' := s.toks) kp
  have I2 : Inv X pins σ (upd H h'.objs.size (.frz { cls := .type "tuple", data := .seq its.toArray } (.tup ys))) { s with heap := h'.push { cls := .type "tuple", data := .seq its.toArray } } :=
    I1.laid (t' := s.toks) (fun b o e => Heap.get?_push_of_some _ e) (Nat.le_refl _) ⟨Heap.get?_push_size _ rfl, hz, its, r', IsTup.new _ _⟩
  exact ⟨.ref h'.objs.size, _, I2, rfl, q _ _ rfl (I1.hok.fresh (Nat.le_refl _))⟩
/-- t + u -/
def rCatF (K : PySem.W.Frag) : R2 := fun x y H Q => ∃ a b xs ys, x = .ref a ∧ y = .ref b ∧ SqT K H a xs ∧ SqT K H b ys ∧ xs.length + ys.length ≤ sizeLine ∧
  (xs = [] → Q (.ref b) H) ∧ (xs ≠ [] → ys = [] → Q (.ref a) H) ∧ (xs ≠ [] → ys ≠ [] → ∀ p o, o.dict = none → H p = none → Q (.ref p) (upd H p (.frz o (.tup (xs ++ ys)))))
theorem op_catF : OpR X (binaryOp .Add) (rCatF X.K) := by
  intro pins s σ H x y v u Q I rx ry h
  obtain ⟨a, b, xs, ys, rfl, rfl, ha, hb, hz, q0, q1, q2⟩ := h
  cases rx
  cases ry
  obtain ⟨its, r1, p1, _⟩ := I.tuple ha
  obtain ⟨its2, r2, p2, _⟩ := I.tuple hb
  by_cases hx : xs = []
  · subst hx
    cases r1
    exact cat_tup0 p1 p2 ⟨.ref b, H, I, rfl, q0 rfl⟩
  · refine HT.cat_tup p1 p2 (fun z => hx (r1.nil_iff.mp z)) (fun z => ⟨.ref a, H, I, rfl, q1 hx (r2.nil_iff.mp z)⟩) (fun z => ?_) (by rw [← r1.length, ← r2.length]; exact hz)
    refine ⟨.ref s.heap.objs.size, _, I.laid (t' := s.toks) (o := .frz { cls := .type "tuple", data := .seq (its ++ its2).toArray } (.tup (xs ++ ys))) (fun b ob q => Heap.get?_push_of_some _ q) (Nat.le_refl _) ?_, rfl, q2 hx (fun w => z (r2.nil_iff.mpr w)) _ _ rfl (I.hok.fresh (Nat.le_refl _))⟩
    exact ⟨Heap.get?_push_size _ rfl, by rw [List.length_append]; exact hz, _, r1.append r2, IsTup.new _ _⟩
/-- t.m(e), t such a tuple -/
def tBMT (r : V → List V → Hp → VK → Prop) (to : TE) (t : TA) : TE := fun σ H Q => to σ H fun x H1 => (∃ a xs o, x = .ref a ∧ o.dict = none ∧ H1 a = some (.frz o (.tup xs))) ∧ t σ H1 fun vs H2 => r x vs H2 Q
theorem pe_bmT {o e : Expr} {es : List Expr} {to : TE} {t : TA} {name : Str} {id : String} {r : V → List V → Hp → VK → Prop} {apos cpos : Pos} (slot : Slot "tuple" name id) (hty : typeOf (.builtin id) = pure (.type "method_descriptor")) (hm : MtR X id r) (ho : PE X o to) (ha : PA X (e :: es) t)
    (hbase : attributeBase o name X.env (eval o X.env) = eval o X.env := by rfl)
    (hfew : ((backTo cpos (starEach (e :: es) X.env)).all (fun x => !x.1) && (backToKw cpos (keywordEach [] X.env)).all (fun x => x.1.isSome) && decide ((e :: es).length + ([] : List Keyword).length + (if ([] : List Keyword).isEmpty then 0 else 1) < 30)) = true := by rfl)
    (hline : (apos.endLine == cpos.line) = true := by rfl) (hs : starEach (e :: es) X.env = (false, eval e X.env) :: starEach es X.env := by rfl) (hplain : (backTo cpos (starEach es X.env)).any (·.1) = false := by rfl) :
    PE X (.Call (.Attribute o name apos) (e :: es) [] cpos) (tBMT r to t) := by
  refine ⟨fun pins s σ H Q I h => ?_⟩
  refine wpAny_Call_method_late hbase hfew hline rfl (thn (ho.run pins s σ H _ I h) fun v s1 ⟨x, H1, I1, r1, ⟨a, xs, ob, ex, hd, hx⟩, q1⟩ => ?_)
  subst ex
  have ev : v = Value.ref a := r1
  subst ev
  obtain ⟨g0, _, _, _, o2, g1, g2, _⟩ := (show ObjOk X.prog X.w H1 s1.heap a (.frz ob (.tup xs)) from I1.hok a _ hx)
  refine ⟨"tuple", id, PySem.F.plainAttrs_tuple, slot, hty, ⟨o2, g1, g2⟩, fun b eb => ?_, ?_⟩
  · cases eb
    exact ⟨ob, g0, hd⟩
  have hA := ha.run cpos pins s1 σ H1 _ I1 q1
  rw [hs] at hA ⊢
  refine Calls.callWith_builtin (by show (false || (backTo cpos (starEach es X.env)).any (·.1)) = false; rw [hplain] <;> rfl) (Calls.evalArgs_plain ?_)
  exact thn hA fun us s2 ⟨vs, H2, I2, r2, q2⟩ => hm pins s2 σ H2 _ vs _ us Q I2 r1 r2 q2
end
end G29

set_option Elab.async false
set_option linter.all false
set_option maxRecDepth 100000
set_option maxHeartbeats 4000000
/-! the text by places, how data lies in the heap, the promises -/
namespace G29
open PySem PySem.Spec PyProof.Rows L2
def top (i : Nat) : Stmt := PySem.Challenge.pw_counterlines_k29_whole_groups.main.body.getD i (.Pass ⟨0, 0, 0, 0⟩)

/-! ### a def that may be called by its name -/
structure Can (P : Program) (w : World) (K : PySem.W.Frag) (mg : Str → Option Value) (base : Heap) (k : Nat) (x : Str) (sp : Sp) : Prop where
  ex : ∃ (f : Addr) (fd : FuncData) (ps : List Str), FnOk P w K mg base CX0 k f fd ps sp ∧ Binds K fd ps [] ∧ mg x = some (.ref f) ∧ PySem.W.keepIn K (.ref f) = true
/-- a def of the text where the top has put it -/
structure Def (K : PySem.W.Frag) (mg : Str → Option Value) (x : Str) (st : Stmt) (ps : List Str) (f : Addr) (fd : FuncData) : Prop where
  F : Fun K x x st f fd
  b : Binds K fd ps []
  g : mg x = some (.ref f)
section
variable {P : Program} {w : World} {K : PySem.W.Frag} {mg : Str → Option Value} {base : Heap}
theorem Def.can {x : Str} {st : Stmt} {ps : List Str} {f : Addr} {fd : FuncData} {k : Nat} {sp : Sp} (D : Def K mg x st ps f fd) (G : FnOk P w K mg base CX0 k f fd ps sp) : Can P w K mg base k x sp :=
  ⟨f, fd, ps, G, D.b, D.g, D.F.kp⟩
end
def tDo (sp : Sp) (t : TA) : TE := fun σ H Q => t σ H fun vs H1 => sp vs H1 Q E0
theorem pe_do {X : Cx} {k : Nat} {x : Str} {sp : Sp} {e : Expr} {es : List Expr} {t : TA} {p pos : Pos} (C : Can X.prog X.w X.K X.mg X.base k x sp) (hr : Room k X.A) (hg : Gl X x) (ha : PA X (e :: es) t) (hdb : (x == ("__debug__" : Str)) = false := by decide)
    (he : starEach (e :: es) X.env = (false, eval e X.env) :: starEach es X.env := by rfl) (hpl : (backTo pos (starEach es X.env)).any (·.1) = false := by rfl) : PE X (.Call (.Name x p) (e :: es) [] pos) (tDo sp t) := by
  obtain ⟨f, fd, ps, F, b, g, kp⟩ := C.ex
  refine ⟨fun pins s σ H Q I h => (pe_call F hr hg g kp b .nil pass0 ha hdb he hpl).run pins s σ H Q I ?_⟩
  show t σ H fun vs H1 => sp (vs ++ []) H1 Q E0
  simp only [List.append_nil]
  exact h

/-! ### heaps -/
theorem same_new {H : Hp} {p : Addr} (h : H p = none) (o : HO) : Same H (upd H p o) := fun b u q => by
  rw [upd_ne (ne_of_none q h)]
  exact q
theorem same_put {H0 H : Hp} {p : Addr} (s : Same H0 H) (h : H0 p = none) (o : HO) : Same H0 (upd H p o) := fun b u q => by
  rw [upd_ne (ne_of_none q h)]
  exact s _ _ q
/-- all but what stands at r -/
def But (r : Addr) (H H' : Hp) : Prop := ∀ b o, b ≠ r → H b = some o → H' b = some o
theorem But.refl (r : Addr) (H : Hp) : But r H H := fun _ _ _ h => h
theorem But.trans {r : Addr} {H H1 H2 : Hp} (a : But r H H1) (b : But r H1 H2) : But r H H2 := fun c o hc h => b c o hc (a c o hc h)
theorem But.of {r : Addr} {H H' : Hp} (s : Same H H') : But r H H' := fun b o _ h => s b o h
theorem But.put {r : Addr} {H0 H : Hp} (s : But r H0 H) {p : Addr} (h : H0 p = none) (o : HO) : But r H0 (upd H p o) := fun b u hb q => by
  rw [upd_ne (ne_of_none q h)]
  exact s _ _ hb q
theorem But.at_ {r : Addr} {H0 H : Hp} (s : But r H0 H) (o : HO) : But r H0 (upd H r o) := fun b u hb q => by
  rw [upd_ne hb]
  exact s _ _ hb q

/-! ### data in the heap -/
/-- what an item's object holds: a tuple of ints, a list of ints, a pair of a plan -/
def fT (l : List Int) : HO := .tup (l.map V.int)
def fL (l : List Int) : HO := .lst (l.map V.int)
def fP (x : Int × Nat) : HO := .tup [.int x.1, .int (x.2 : Int)]
structure Rows {α : Type} (f : α → HO) (H : Hp) (ps : List Addr) (xs : List α) : Prop where
  len : ps.length = xs.length
  at_ : ∀ (j : Nat) (x : α), xs[j]? = some x → ∃ p, ps[j]? = some p ∧ H p = some (f x)
section
variable {α : Type} {f : α → HO} {H H' : Hp} {ps : List Addr} {xs : List α}
theorem Rows.mono (r : Rows f H ps xs) (s : Same H H') : Rows f H' ps xs := ⟨r.len, fun j x h => let ⟨p, h1, h2⟩ := r.at_ j x h; ⟨p, h1, s _ _ h2⟩⟩
theorem Rows.nil : Rows f H [] [] := ⟨rfl, fun j x h => by simp at h⟩
theorem Rows.snoc {p : Addr} {x : α} (r : Rows f H ps xs) (h : H p = some (f x)) : Rows f H (ps ++ [p]) (xs ++ [x]) := by
  refine ⟨by simp [r.len], fun j y e => ?_⟩
  by_cases hj : j < xs.length
  · rw [List.getElem?_append_left hj] at e
    rw [List.getElem?_append_left (by rw [r.len]; exact hj)]
    exact r.at_ j y e
  · have hj' : j = xs.length := by
      have := (List.getElem?_eq_some_iff.mp e).1
      simp at this
      omega
    subst hj'
    rw [List.getElem?_append_right (Nat.le_refl _)] at e
    rw [List.getElem?_append_right (by rw [r.len]; exact Nat.le_refl _)]
    rw [Nat.sub_self] at e
    have e' : x = y := by simpa using e
    subst e'
    exact ⟨p, by simp [r.len], h⟩
theorem Rows.set {p : Addr} {x : α} (r : Rows f H ps xs) (j : Nat) (h : H p = some (f x)) : Rows f H (ps.set j p) (xs.set j x) := by
  refine ⟨by simp [r.len], fun i y e => ?_⟩
  by_cases hij : j = i
  · subst hij
    by_cases hj : j < xs.length
    · rw [List.getElem?_set_self hj] at e
      have e' : x = y := Option.some.inj e
      subst e'
      exact ⟨p, List.getElem?_set_self (by rw [r.len]; exact hj), h⟩
    · rw [List.getElem?_eq_none (by simpa using hj)] at e
      cases e
  · rw [List.getElem?_set_ne hij] at e
    rw [List.getElem?_set_ne hij]
    exact r.at_ i y e
theorem Rows.ref (r : Rows f H ps xs) {j : Nat} {v : V} (h : (ps.map V.ref)[j]? = some v) : ∃ p x, v = .ref p ∧ ps[j]? = some p ∧ xs[j]? = some x ∧ H p = some (f x) := by
  rw [List.getElem?_map] at h
  obtain ⟨p, hp, rfl⟩ := Option.map_eq_some_iff.mp h
  have hj : j < xs.length := by
    rw [← r.len]
    exact (List.getElem?_eq_some_iff.mp hp).1
  obtain ⟨q, h1, h2⟩ := r.at_ j xs[j] (List.getElem?_eq_getElem hj)
  rw [hp] at h1
  cases h1
  exact ⟨p, _, rfl, hp, List.getElem?_eq_getElem hj, h2⟩
theorem Rows.refs (r : Rows f H ps xs) {j : Nat} {x : α} (h : xs[j]? = some x) : ∃ p, (ps.map V.ref)[j]? = some (V.ref p) ∧ H p = some (f x) := by
  obtain ⟨p, h1, h2⟩ := r.at_ j x h
  exact ⟨p, by rw [List.getElem?_map, h1]; rfl, h2⟩
theorem Rows.rlen (r : Rows f H ps xs) : (ps.map V.ref).length = xs.length := by rw [List.length_map, r.len]
end
/-- a tuple, a list of such items -/
def TupOf {α : Type} (f : α → HO) (H : Hp) (a : Addr) (xs : List α) : Prop := ∃ ps, H a = some (.tup (ps.map V.ref)) ∧ Rows f H ps xs
def LstOf {α : Type} (f : α → HO) (H : Hp) (a : Addr) (xs : List α) : Prop := ∃ ps, H a = some (.lst (ps.map V.ref)) ∧ Rows f H ps xs
abbrev ST := TupOf fT
abbrev PT := TupOf fP
/-- a tuple of ints, known to have no dict of its own -/
def IT (H : Hp) (a : Addr) (ns : List Int) : Prop := ∃ o : Obj, o.dict = none ∧ H a = some (.frz o (.tup (ns.map V.int)))
theorem IT.mono {H H' : Hp} {a : Addr} {ns : List Int} (t : IT H a ns) (s : Same H H') : IT H' a ns := let ⟨o, h, e⟩ := t; ⟨o, h, s _ _ e⟩
theorem IT.rd {H : Hp} {a : Addr} {ns : List Int} (t : IT H a ns) : Rd H a (.tup (ns.map V.int)) := let ⟨o, _, e⟩ := t; .inr ⟨o, e⟩
theorem IT.sq {K : PySem.W.Frag} {H : Hp} {a : Addr} {ns : List Int} (t : IT H a ns) : SqT K H a (ns.map V.int) := .inl t.rd
/-- groups: a tuple of such -/
structure GRows (H : Hp) (ps : List Addr) (gs : List (List Int)) : Prop where
  len : ps.length = gs.length
  at_ : ∀ (j : Nat) (g : List Int), gs[j]? = some g → ∃ p, ps[j]? = some p ∧ IT H p g
theorem GRows.mono {H H' : Hp} {ps : List Addr} {gs : List (List Int)} (r : GRows H ps gs) (s : Same H H') : GRows H' ps gs := ⟨r.len, fun j x h => let ⟨p, h1, h2⟩ := r.at_ j x h; ⟨p, h1, h2.mono s⟩⟩
theorem GRows.nil {H : Hp} : GRows H [] [] := ⟨rfl, fun j x h => by simp at h⟩
theorem GRows.rlen {H : Hp} {ps : List Addr} {gs : List (List Int)} (r : GRows H ps gs) : (ps.map V.ref).length = gs.length := by rw [List.length_map, r.len]
theorem GRows.ref {H : Hp} {ps : List Addr} {gs : List (List Int)} (r : GRows H ps gs) {j : Nat} {v : V} (h : (ps.map V.ref)[j]? = some v) : ∃ p g, v = .ref p ∧ gs[j]? = some g ∧ IT H p g := by
  rw [List.getElem?_map] at h
  obtain ⟨p, hp, rfl⟩ := Option.map_eq_some_iff.mp h
  have hj : j < gs.length := by
    rw [← r.len]
    exact (List.getElem?_eq_some_iff.mp hp).1
  obtain ⟨q, h1, h2⟩ := r.at_ j gs[j] (List.getElem?_eq_getElem hj)
  rw [hp] at h1
  cases h1
  exact ⟨p, _, rfl, List.getElem?_eq_getElem hj, h2⟩
theorem GRows.snoc {H : Hp} {ps : List Addr} {gs : List (List Int)} {p : Addr} {g : List Int} (r : GRows H ps gs) (h : IT H p g) : GRows H (ps ++ [p]) (gs ++ [g]) := by
  refine ⟨by simp [r.len], fun j y e => ?_⟩
  by_cases hj : j < gs.length
  · rw [List.getElem?_append_left hj] at e
    rw [List.getElem?_append_left (by rw [r.len]; exact hj)]
    exact r.at_ j y e
  · have hj' : j = gs.length := by
      have := (List.getElem?_eq_some_iff.mp e).1
      simp at this
      omega
    subst hj'
    rw [List.getElem?_append_right (Nat.le_refl _)] at e
    rw [List.getElem?_append_right (by rw [r.len]; exact Nat.le_refl _)]
    rw [Nat.sub_self] at e
    have e' : g = y := by simpa using e
    subst e'
    exact ⟨p, by simp [r.len], h⟩
def GT (H : Hp) (v : Addr) (gs : List (List Int)) : Prop := ∃ ps, H v = some (.tup (ps.map V.ref)) ∧ GRows H ps gs
theorem GT.mono {H H' : Hp} {a : Addr} {gs : List (List Int)} (t : GT H a gs) (s : Same H H') : GT H' a gs := let ⟨ps, h, r⟩ := t; ⟨ps, s _ _ h, r.mono s⟩
def Off (H : Hp) (o : Addr) (n c : Nat) : Prop := H o = some (.tup [.int (n : Int), .int (c : Int)])
theorem TupOf.mono {α : Type} {f : α → HO} {H H' : Hp} {a : Addr} {xs : List α} (t : TupOf f H a xs) (s : Same H H') : TupOf f H' a xs := let ⟨ps, h, r⟩ := t; ⟨ps, s _ _ h, r.mono s⟩
theorem LstOf.mono {α : Type} {f : α → HO} {H H' : Hp} {a : Addr} {xs : List α} (t : LstOf f H a xs) (s : Same H H') : LstOf f H' a xs := let ⟨ps, h, r⟩ := t; ⟨ps, s _ _ h, r.mono s⟩
structure Sz (n c : Nat) : Prop where
  n1 : 1 ≤ n
  n7 : n ≤ 7
  c1 : 1 ≤ c
  c6 : c ≤ 6
structure Fit (n c : Nat) (st : List (List Int)) : Prop where
  z : Sz n c
  g : Good n c st
def GrpOk (n : Nat) (g : List Int) : Prop := g.Pairwise (· < ·) ∧ ∀ p ∈ g, p ∈ folk n
/-- the law's row of draws: the script, and three ints -/
def Row (K : PySem.W.Frag) (H : Hp) (r a : Addr) : Prop := ∃ (ns : List Int) (i s c : Int), H r = some (.lst [.ref a, .int i, .int s, .int c]) ∧ (∀ H', But r H H' → SqL K H' a (ns.map V.int)) ∧ ns.length ≤ 63 ∧ 0 ≤ i
theorem Row.put {K : PySem.W.Frag} {H H' : Hp} {r a : Addr} {ns : List Int} {i s c : Int} (hS : ∀ H', But r H H' → SqL K H' a (ns.map V.int)) (hl : ns.length ≤ 63) (b : But r H H') (h : H' r = some (.lst [.ref a, .int i, .int s, .int c])) (h0 : 0 ≤ i) : Row K H' r a :=
  ⟨ns, i, s, c, h, fun H'' b' => hS _ (b.trans b'), hl, h0⟩
theorem Row.mono {K : PySem.W.Frag} {H H' : Hp} {r a : Addr} (R : Row K H r a) (s : Same H H') : Row K H' r a := by
  obtain ⟨ns, i, s1, c, h1, h2, h3, h4⟩ := R
  exact ⟨ns, i, s1, c, s _ _ h1, fun H'' b => h2 H'' ((But.of s).trans b), h3, h4⟩
theorem Row.ne {K : PySem.W.Frag} {H : Hp} {r a p : Addr} (R : Row K H r a) (h : H p = none) : p ≠ r := fun e => by
  obtain ⟨ns, i, s1, c, h1, _⟩ := R
  rw [← e, h] at h1
  cases h1
/-- the row as it stood at H1, the script as it stood at the entry -/
theorem Row.carry {K : PySem.W.Frag} {H0 H1 H2 : Hp} {r a : Addr} (R0 : Row K H0 r a) (b : But r H0 H2) (R1 : Row K H1 r a) (e : H2 r = H1 r) : Row K H2 r a := by
  obtain ⟨ns, _, _, _, _, h2, h3, _⟩ := R0
  obtain ⟨_, i, s1, c, h1, _, _, h4⟩ := R1
  exact ⟨ns, i, s1, c, by rw [e]; exact h1, fun H'' b' => h2 H'' (b.trans b'), h3, h4⟩
/-- alike values: the same ints, the same tuples of alike ones, m deep -/
def Lk : Nat → Hp → V → V → Prop
  | 0, _, x, y => ∃ i, x = .int i ∧ y = .int i
  | m + 1, H, x, y => ∃ a b xs ys, x = .ref a ∧ y = .ref b ∧ H a = some (.tup xs) ∧ H b = some (.tup ys) ∧ xs.length = ys.length ∧ ys.length ≤ 1000 ∧ ∀ (j : Nat) (u v : V), xs[j]? = some u → ys[j]? = some v → Lk m H u v
theorem Lk.mono {H H' : Hp} (s : Same H H') : ∀ {m : Nat} {x y : V}, Lk m H x y → Lk m H' x y
  | 0, _, _, h => h
  | m + 1, _, _, ⟨a, b, xs, ys, e1, e2, h1, h2, hl, hz, f⟩ => ⟨a, b, xs, ys, e1, e2, s _ _ h1, s _ _ h2, hl, hz, fun j u v hu hv => Lk.mono s (f j u v hu hv)⟩

/-! ### the promises -/
def spIsInt : Sp := fun vs H Q _ => ∃ i, vs = [.int i] ∧ Q (.bl true) H
def spIsIn : Sp := fun vs H Q _ => ∃ v lo hi, vs = [.int v, .int lo, .int hi] ∧ lo ≤ v ∧ v ≤ hi ∧ Q (.bl true) H
def spIsList : Sp := fun vs H Q _ => ∃ a xs lo hi, vs = [.ref a, .int lo, .int hi] ∧ Rd H a (.tup xs) ∧ lo ≤ (xs.length : Int) ∧ (xs.length : Int) ≤ hi ∧ Q (.bl true) H
def spNeedOffice : Sp := fun vs H Q _ => ∃ o n c, vs = [.ref o] ∧ Off H o n c ∧ Sz n c ∧ Q .non H
def spNeedLines : Sp := fun vs H Q _ => ∃ o s n c st, vs = [.ref o, .ref s] ∧ Off H o n c ∧ ST H s st ∧ Fit n c st ∧ ∀ H', Same H H' → Q .non H'
def spSpot : Sp := fun vs H Q _ => ∃ s p n c st, vs = [.ref s, .int p] ∧ ST H s st ∧ Fit n c st ∧ p ∈ folk n ∧ ∀ H', Same H H' → Q (.int (spot st p : Nat)) H'
def spLeast : Sp := fun vs H Q _ => ∃ o pl n c plan, vs = [.ref o, .ref pl] ∧ Off H o n c ∧ Sz n c ∧ PT H pl plan ∧ plan.length ≤ n ∧ ∀ q H', Same H H' → PT H' q (least n plan) → Q (.ref q) H'
def spNeedPairs : Sp := fun vs H Q _ => ∃ o pl n c plan, vs = [.ref o, .ref pl] ∧ Off H o n c ∧ Sz n c ∧ PT H pl plan ∧ PlanOk n c plan ∧ ∀ H', Same H H' → Q .non H'
def spActIn : Sp := fun vs H Q _ => ∃ pl s n c plan st, vs = [.ref pl, .ref s] ∧ PT H pl plan ∧ ST H s st ∧ Fit n c st ∧ PlanOk n c plan ∧ ∀ q H', Same H H' → ST H' q (deed plan st) → Q (.ref q) H'
def spAct : Sp := fun vs H Q _ => ∃ o pl s n c plan st, vs = [.ref o, .ref pl, .ref s] ∧ Off H o n c ∧ PT H pl plan ∧ ST H s st ∧ Fit n c st ∧ PlanOk n c plan ∧ ∀ q H', Same H H' → ST H' q (deed plan st) → Q (.ref q) H'
def spIsGroup : Sp := fun vs H Q _ => ∃ o v n c g, vs = [.ref o, .ref v] ∧ Off H o n c ∧ Sz n c ∧ IT H v g ∧ GrpOk n g ∧ ∀ H', Same H H' → Q (.bl true) H'
def spNeedGroups : Sp := fun vs H Q _ => ∃ o v n c gs, vs = [.ref o, .ref v] ∧ Off H o n c ∧ Sz n c ∧ GT H v gs ∧ gs.length ≤ 30 ∧ (∀ g ∈ gs, GrpOk n g) ∧ ∀ H', Same H H' → Q .non H'
def spCrew : Sp := fun vs H Q _ => ∃ s g n c st grp, vs = [.ref s, .ref g] ∧ ST H s st ∧ IT H g grp ∧ Fit n c st ∧ GrpOk n grp ∧ ∀ q H', Same H H' → ST H' q (crew st grp) → Q (.ref q) H'
def spAfter : Sp := fun vs H Q _ => ∃ o s v n c st gs, vs = [.ref o, .ref s, .ref v] ∧ Off H o n c ∧ ST H s st ∧ GT H v gs ∧ Fit n c st ∧ gs.length ≤ 30 ∧ (∀ g ∈ gs, GrpOk n g) ∧ ∀ q H', Same H H' → ST H' q (crews st gs) → Q (.ref q) H'
def spGroupsPlan : Sp := fun vs H Q _ => ∃ o v n c gs, vs = [.ref o, .ref v] ∧ Off H o n c ∧ Sz n c ∧ GT H v gs ∧ gs.length ≤ 30 ∧ (∀ g ∈ gs, GrpOk n g) ∧ ∀ q H', Same H H' → PT H' q (least n (modC c (tally gs.flatten))) → Q (.ref q) H'
def spTaken (K : PySem.W.Frag) : Sp := fun vs H Q _ => ∃ r m a, vs = [.ref r, .int m] ∧ Row K H r a ∧ 1 ≤ m ∧ m ≤ 1000 ∧ ∀ v H', 0 ≤ v → v < m → But r H H' → Row K H' r a → Q (.int v) H'
def spAlike (m : Nat) : Sp := fun vs H Q _ => ∃ x y, vs = [x, y] ∧ Lk m H x y ∧ ∀ H', Same H H' → Q (.bl true) H'
def spOffice (K : PySem.W.Frag) : Sp := fun vs H Q _ => ∃ r a, vs = [.ref r, .int 7, .int 5] ∧ Row K H r a ∧ ∀ q n c H', Sz n c → But r H H' → Row K H' r a → Off H' q n c → Q (.ref q) H'
def spDrawn (K : PySem.W.Frag) : Sp := fun vs H Q _ => ∃ r a o n c, vs = [.ref r, .ref o] ∧ Row K H r a ∧ o ≠ r ∧ Off H o n c ∧ Sz n c ∧ ∀ q st H', Good n c st → But r H H' → Row K H' r a → ST H' q st → Q (.ref q) H'
def spRing : Sp := fun vs H Q _ => ∃ s p n c st, vs = [.ref s, .int p] ∧ ST H s st ∧ Fit n c st ∧ p ∈ folk n ∧ ∀ q H', Same H H' → ST H' q (ring st p) → Q (.ref q) H'
def spRings : Sp := fun vs H Q _ => ∃ s a n c st cs, vs = [.ref s, .ref a] ∧ ST H s st ∧ IT H a cs ∧ Fit n c st ∧ (∀ p ∈ cs, p ∈ folk n) ∧ ∀ q H', Same H H' → ST H' q (rings st cs) → Q (.ref q) H'
def spPlan : Sp := fun vs H Q _ => ∃ o a n c cs, vs = [.ref o, .ref a] ∧ Off H o n c ∧ Sz n c ∧ IT H a cs ∧ cs.length ≤ 1000 ∧ (∀ p ∈ cs, p ∈ folk n) ∧ ∀ q H', Same H H' → PT H' q (modC c (tally cs)) → Q (.ref q) H'
def spGroups (K : PySem.W.Frag) : Sp := fun vs H Q _ => ∃ r a o n c, vs = [.ref r, .ref o, .int 6] ∧ Row K H r a ∧ o ≠ r ∧ Off H o n c ∧ Sz n c ∧ ∀ q gs H', gs.length ≤ 6 → (∀ g ∈ gs, GrpOk n g) → But r H H' → Row K H' r a → GT H' q gs → Q (.ref q) H'
def spLaw (K : PySem.W.Frag) : Sp := fun vs H Q _ => ∃ (a : Addr) (ns : List Int), vs = [.ref a] ∧ SqL K H a (ns.map V.int) ∧ ns.length ≤ 63 ∧ ∀ H', Q (.bl true) H'
/-- the built-in names that no module's name hides, the constants -/
structure Nm (mg : Str → Option Value) : Prop where
  len : mg "len" = none
  range : mg "range" = none
  tuple : mg "tuple" = none
  list : mg "list" = none
  isi : mg "isinstance" = none
  int : mg "int" = none
  bool : mg "bool" = none
  str : mg "str" = none
  enum : mg "enumerate" = none
  all : mg "all" = none
  sorted : mg "sorted" = none
  set : mg "set" = none
  mp : ∃ t, mg "MOST_PEOPLE" = some (.int 7 t)
  mc : ∃ t, mg "MOST_COUNTERS" = some (.int 6 t)
  mq : ∃ t, mg "MOST_GROUPS" = some (.int 30 t)

/-! ### the text's defs -/
abbrev sIsInt : Stmt := top 1
abbrev sIsIn : Stmt := top 2
abbrev sIsList : Stmt := top 3
abbrev sNeedOffice : Stmt := top 13
abbrev sNeedLines : Stmt := top 14
abbrev sNeedState : Stmt := top 15
abbrev sCounterOf : Stmt := top 16
abbrev sLeastIn : Stmt := top 18
abbrev sNeedPlan : Stmt := top 19
abbrev sNeedPairs : Stmt := top 20
abbrev sActIn : Stmt := top 21
abbrev sAct : Stmt := top 22
abbrev sIsGroup : Stmt := top 25
abbrev sNeedGroups : Stmt := top 26
abbrev sCallGroup : Stmt := top 27
abbrev sAfter : Stmt := top 28
abbrev sGroupsPlan : Stmt := top 29
abbrev sTaken : Stmt := top 31
abbrev sAlike : Stmt := top 32
abbrev sOffice : Stmt := top 33
abbrev sDrawn : Stmt := top 34
abbrev sAt : Stmt := top 35
abbrev sRing : Stmt := top 36
abbrev sRings : Stmt := top 37
abbrev sPlan : Stmt := top 38
abbrev sLeast : Stmt := top 39
abbrev sGroups : Stmt := top 40
abbrev sLaw : Stmt := top 41
end G29

set_option Elab.async false
set_option linter.all false
set_option maxRecDepth 100000
set_option maxHeartbeats 4000000
namespace G29
open PySem PySem.Spec PyProof.Rows L2
section
variable {P : Program} {w : World} {K : PySem.W.Frag} {mg : Str → Option Value} {base : Heap} {f : Addr} {fd : FuncData}
theorem kit_int_int : PySem.W.kitOne K (.type "int") (.type "int") = some true := kit_ty (by decide +kernel)
theorem kit_int_bool : PySem.W.kitOne K (.type "int") (.type "bool") = some false := kit_ty (by decide +kernel)
theorem kit_tup_tup : PySem.W.kitOne K (.type "tuple") (.type "tuple") = some true := kit_ty (by decide +kernel)
theorem scIsInt : FnScope ["value"] ["value"] (defScope sIsInt) := ⟨rfl, rfl, rfl, by decide +kernel, rfl, by decide +kernel, by decide +kernel⟩
theorem ok_isInt (D : Def K mg "is_integer" sIsInt ["value"] f fd) (T : Nm mg) : Can P w K mg base 1 "is_integer" spIsInt := by
  refine D.can (D.F.ok scIsInt (fun vs H Q E h => ?_) (fun cdv A outer s H vs Q E hr h => ?_))
  · obtain ⟨i, rfl, _⟩ := h
    rfl
  obtain ⟨i, rfl, q⟩ := h
  refine ⟨_, pss_one (ps_ret (pe_and
    (pe_callB call_isi (by rfl) T.isi (by decide +kernel) (pa_cons (pv 0) (pa_cons (pe_bltn (v := .ty "int") (by rfl) T.int (by decide +kernel) rfl) pa_nil)))
    (pe_one (pe_not (pe_callB call_isi (by rfl) T.isi (by decide +kernel) (pa_cons (pv 0) (pa_cons (pe_bltn (v := .ty "bool") (by rfl) T.bool (by decide +kernel) rfl) pa_nil))))))), ?_⟩
  refine ⟨_, rfl, .int i, .ty "int", _, _, true, rfl, .ty _, .base (.int i), kit_int_int, true, rfl, iteT ?_⟩
  exact ⟨_, rfl, .int i, .ty "bool", _, _, false, rfl, .ty _, .base (.int i), kit_int_bool, false, rfl, q⟩
theorem scIsIn : FnScope ["value", "least", "most"] ["value", "least", "most"] (defScope sIsIn) := ⟨rfl, rfl, rfl, by decide +kernel, rfl, by decide +kernel, by decide +kernel⟩
theorem ok_isIn (D : Def K mg "is_in" sIsIn ["value", "least", "most"] f fd) (T : Nm mg) (C1 : Can P w K mg base 1 "is_integer" spIsInt) : Can P w K mg base 2 "is_in" spIsIn := by
  refine D.can (D.F.ok scIsIn (fun vs H Q E h => ?_) (fun cdv A outer s H vs Q E hr h => ?_))
  · obtain ⟨v, lo, hi, rfl, _⟩ := h
    rfl
  obtain ⟨v, lo, hi, rfl, h1, h2, q⟩ := h
  refine ⟨_, pss_one (ps_ret (pe_and (pe_do C1 hr (by rfl) (pa_cons (pv 0) pa_nil)) (pe_one (pe_chain op_le op_le (pv 1) (pv 0) (pv 2))))), ?_⟩
  refine ⟨_, rfl, v, rfl, true, rfl, iteT ?_⟩
  refine ⟨_, rfl, _, rfl, lo, v, rfl, rfl, _, rfl, ?_⟩
  rw [decide_eq_true h1]
  refine iteT ⟨_, rfl, v, hi, rfl, rfl, ?_⟩
  show Q (.bl (decide (v ≤ hi))) H
  rw [decide_eq_true h2]
  exact q
theorem scIsList : FnScope ["value", "least", "most"] ["value", "least", "most"] (defScope sIsList) := ⟨rfl, rfl, rfl, by decide +kernel, rfl, by decide +kernel, by decide +kernel⟩
theorem ok_isList (D : Def K mg "is_list" sIsList ["value", "least", "most"] f fd) (T : Nm mg) : Can P w K mg base 1 "is_list" spIsList := by
  refine D.can (D.F.ok scIsList (fun vs H Q E h => ?_) (fun cdv A outer s H vs Q E hr h => ?_))
  · obtain ⟨a, xs, lo, hi, rfl, _⟩ := h
    rfl
  obtain ⟨a, xs, lo, hi, rfl, ha, h1, h2, q⟩ := h
  refine ⟨_, pss_one (ps_ret (pe_and
    (pe_callB call_isi (by rfl) T.isi (by decide +kernel) (pa_cons (pv 0) (pa_cons (pe_bltn (v := .ty "tuple") (by rfl) T.tuple (by decide +kernel) rfl) pa_nil)))
    (pe_one (pe_chain op_le op_le (pv 1) (pe_callB call_len_seq (by rfl) T.len PySem.boot_len (pa_cons (pv 0) pa_nil)) (pv 2))))), ?_⟩
  have ty : TyX K H (.ref a) (.type "tuple") := by
    rcases ha with ha | ⟨o, ha⟩
    · exact .base (.tup ha)
    · exact .fTuple ha
  refine ⟨_, rfl, .ref a, .ty "tuple", _, _, true, rfl, .ty _, ty, kit_tup_tup, true, rfl, iteT ?_⟩
  refine ⟨_, rfl, _, rfl, a, xs, rfl, .inr (.inl ha), lo, _, rfl, rfl, _, rfl, ?_⟩
  rw [decide_eq_true h1]
  refine iteT ⟨_, rfl, _, hi, rfl, rfl, ?_⟩
  show Q (.bl (decide ((xs.length : Int) ≤ hi))) H
  rw [decide_eq_true h2]
  exact q
theorem scNeedOffice : FnScope ["office"] ["office"] (defScope sNeedOffice) := ⟨rfl, rfl, rfl, by decide +kernel, rfl, by decide +kernel, by decide +kernel⟩
theorem ok_needOffice (D : Def K mg "need_office" sNeedOffice ["office"] f fd) (T : Nm mg) (C1 : Can P w K mg base 1 "is_list" spIsList) (C2 : Can P w K mg base 2 "is_in" spIsIn) : Can P w K mg base 3 "need_office" spNeedOffice := by
  refine D.can (D.F.ok scNeedOffice (fun vs H Q E h => ?_) (fun cdv A outer s H vs Q E hr h => ?_))
  · obtain ⟨o, n, c, rfl, _⟩ := h
    rfl
  obtain ⟨o, n, c, rfl, ho, z, q⟩ := h
  obtain ⟨t1, g1⟩ := T.mp
  obtain ⟨t2, g2⟩ := T.mc
  have ho : H o = some (.tup [.int (n : Int), .int (c : Int)]) := ho
  refine ⟨_, pss_one (ps_if (PW.pt (pw_or (pt_not (pt_val (pe_do C1 (hr.mono (by decide)) (by rfl) (pa_cons (pv 0) (pa_cons pe_int (pa_cons pe_int pa_nil))))))
      (pw_or (pt_not (pt_val (pe_do C2 hr (by rfl) (pa_cons (pe_ix ix_tup (pv 0) pe_int (fun _ _ => rfl)) (pa_cons pe_int (pa_cons (pe_glob (v := .int 7) (by rfl) g1 ⟨_, rfl⟩) pa_nil))))))
      (pw_or1 (pt_not (pt_val (pe_do C2 hr (by rfl) (pa_cons (pe_ix ix_tup (pv 0) pe_int (fun _ _ => rfl)) (pa_cons pe_int (pa_cons (pe_glob (v := .int 6) (by rfl) g2 ⟨_, rfl⟩) pa_nil))))))))))
      pss_never pss_nil), ?_⟩
  refine ⟨_, rfl, o, _, 2, 2, rfl, .inl ho, (by show (2 : Int) ≤ 2; decide), (by show (2 : Int) ≤ 2; decide), true, rfl, iteF ?_⟩
  refine ⟨_, rfl, o, _, 0, .int n, rfl, rfl, SqT.of ho, atI_nat (j := 0) rfl, (n : Int), 1, 7, rfl, by have := z.n1; omega, by have := z.n7; omega, true, rfl, iteF ?_⟩
  refine ⟨_, rfl, o, _, 1, .int c, rfl, rfl, SqT.of ho, atI_nat (j := 1) rfl, (c : Int), 1, 6, rfl, by have := z.c1; omega, by have := z.c6; omega, true, rfl, iteF ?_⟩
  exact q
end
end G29

set_option Elab.async false
set_option linter.all false
set_option maxRecDepth 100000
set_option maxHeartbeats 4000000
namespace G29
open PySem PySem.Spec PyProof.Rows L2
/-! ### need_lines: the plain part -/
theorem flat_split {st : List (List Int)} {i j : Nat} {l : List Int} {q : Int} (h : st[i]? = some l) (h' : l[j]? = some q) : ∃ R, st.flatten = ((st.take i).flatten ++ l.take j) ++ q :: R := by
  obtain ⟨hi, e⟩ := List.getElem?_eq_some_iff.mp h
  obtain ⟨hj, e'⟩ := List.getElem?_eq_some_iff.mp h'
  refine ⟨l.drop (j + 1) ++ (st.drop (i + 1)).flatten, ?_⟩
  have e1 : st = st.take i ++ l :: st.drop (i + 1) := by
    rw [← e, List.getElem_cons_drop, List.take_append_drop]
  have e2 : l = l.take j ++ q :: l.drop (j + 1) := by
    rw [← e', List.getElem_cons_drop, List.take_append_drop]
  calc st.flatten = (st.take i ++ l :: st.drop (i + 1)).flatten := by rw [← e1]
    _ = (st.take i).flatten ++ (l ++ (st.drop (i + 1)).flatten) := by rw [List.flatten_append, List.flatten_cons]
    _ = (st.take i).flatten ++ ((l.take j ++ q :: l.drop (j + 1)) ++ (st.drop (i + 1)).flatten) := by rw [← e2]
    _ = _ := by simp only [List.append_assoc, List.cons_append]
theorem flat_new {st : List (List Int)} {i j : Nat} {l : List Int} {q : Int} (hn : st.flatten.Nodup) (h : st[i]? = some l) (h' : l[j]? = some q) : q ∉ (st.take i).flatten ++ l.take j := by
  obtain ⟨R, e⟩ := flat_split h h'
  rw [e, List.nodup_append] at hn
  exact fun z => hn.2.2 q z q (by simp) rfl
theorem flat_take {st : List (List Int)} {i : Nat} {l : List Int} (h : st[i]? = some l) : (st.take (i + 1)).flatten = (st.take i).flatten ++ l := by
  rw [List.take_add_one, h, List.flatten_append]
  simp
/-- the dict of those who are met -/
def met (l : List Int) : List (Key × V) := l.map fun p => (Sum.inl p, V.bl true)
theorem met_none {l : List Int} {q : Int} (h : q ∉ l) : valV (met l) (Sum.inl q) = none := by
  induction l with
  | nil => rfl
  | cons a r ih =>
    rw [List.mem_cons, not_or] at h
    show valV ((Sum.inl a, V.bl true) :: met r) (Sum.inl q) = none
    rw [valV_neg (fun e => h.1 (Sum.inl.inj e).symm)]
    exact ih h.2
theorem met_put {l : List Int} {q : Int} (h : q ∉ l) : putK (met l) (Sum.inl q) (V.bl true) = met (l ++ [q]) := by
  rw [putK_new _ (met_none h)]
  unfold met
  rw [List.map_append]
  rfl
theorem met_len (l : List Int) : (met l).length = l.length := by simp [met]
section
variable {P : Program} {w : World} {K : PySem.W.Frag} {mg : Str → Option Value} {base : Heap} {f : Addr} {fd : FuncData}
theorem scNeedLines : FnScope ["office", "state", "people", "counters", "met", "index", "line", "person"] ["office", "state"] (defScope sNeedLines) := ⟨rfl, rfl, rfl, by decide +kernel, rfl, by decide +kernel, by decide +kernel⟩
theorem ok_needLines (D : Def K mg "need_lines" sNeedLines ["office", "state"] f fd) (T : Nm mg) (C1 : Can P w K mg base 1 "is_list" spIsList) (C2 : Can P w K mg base 2 "is_in" spIsIn) : Can P w K mg base 3 "need_lines" spNeedLines := by
  refine D.can (D.F.ok scNeedLines (fun vs H Q E h => ?_) (fun cdv A outer s H vs Q E hr h => ?_))
  · obtain ⟨o, s, n, c, st, rfl, _⟩ := h
    rfl
  obtain ⟨o, s, n, c, st, rfl, ho, ⟨ps, hs, R⟩, ⟨z, g⟩, q⟩ := h
  have ho : H o = some (.tup [.int (n : Int), .int (c : Int)]) := ho
  have hr1 : Room 1 _ := hr.mono (by decide)
  have hu := hu_of hr
  have nd := scNeedLines.nd
  refine ⟨_, pss_cons (ps_asg (pv 0) (pg_tup rfl (pgs_cons (pg_name (i := 2) nd rfl (.inl rfl)) (pgs_cons (pg_name (i := 3) nd rfl (.inl rfl)) pgs_nil))))
    (pss_cons (ps_if (pt_not (pt_val (pe_do C1 hr1 (by rfl) (pa_cons (pv 1) (pa_cons (pv 3) (pa_cons (pv 3) pa_nil)))))) pss_never pss_nil)
    (pss_cons (ps_set (i := 4) nd rfl (.inl rfl) pe_dnewK)
    (pss_cons (ps_for PassesOwn.never rfl (pi_enT (by rfl) T.enum (pa_cons (pv 1) pa_nil)) (pg_tup rfl (pgs_cons (pg_name (i := 5) nd rfl (.inl rfl)) (pgs_cons (pg_name (i := 6) nd rfl (.inl rfl)) pgs_nil)))
      (pss_cons (ps_if (pt_not (pt_val (pe_do C1 hr1 (by rfl) (pa_cons (pv 6) (pa_cons pe_int (pa_cons (pv 2) pa_nil)))))) pss_never pss_nil)
      (pss_one (ps_for PassesOwn.never rfl (pi_tup (pv 6)) (pg_name (i := 7) nd rfl (.inl rfl))
        (pss_cons (ps_if (PW.pt (pw_or (pt_not (pt_val (pe_do C2 hr (by rfl) (pa_cons (pv 7) (pa_cons pe_int (pa_cons (pe_op op_sub (pv 2) pe_int) pa_nil)))))) (pw_or1 (pt_cmp (pc_din hu (pv 7) (pv 4)))))) pss_never pss_nil)
        (pss_one (ps_dput hu (pv 4) (pv 7) pe_bl rfl)))))))
    (pss_one (ps_if (pt_cmpR op_lt (pe_callB call_lenD (by rfl) T.len PySem.boot_len (pa_cons (pv 4) pa_nil)) (pv 2) (nomark _)) pss_never pss_nil))))), ?_⟩
  have hlen : st.length = c := g.len
  have hfl : st.flatten.length = n := by rw [g.all.length_eq, folk_len]
  have zn := z.n7
  -- people, counters = office
  refine ⟨_, rfl, o, _, rfl, SqT.of ho, rfl, _, _, rfl, _, _, rfl, rfl, ?_⟩
  -- if not is_list(state, counters, counters)
  refine ⟨_, rfl, _, rfl, _, rfl, s, _, c, c, rfl, .inl hs, by rw [R.rlen, hlen]; exact Int.le_refl _, by rw [R.rlen, hlen]; exact Int.le_refl _, true, rfl, iteF ?_⟩
  -- met = {}
  intro d hd
  -- for index, line in enumerate(state)
  refine ⟨_, rfl, s, _, rfl, SqT.of (same_new hd _ _ _ hs), for_it walk_enT (fun i σ H' => ∃ y5 y6 y7, σ = [some (.ref o), some (.ref s), some (.int (n : Int)), some (.int (c : Int)), some (.ref d), y5, y6, y7] ∧ Same H H' ∧ H' d = some (.dK (met (st.take i).flatten)))
    ⟨none, none, none, rfl, same_new hd _, upd_same⟩ (fun i σ H' _ ⟨_, _, _, _, sm, _⟩ => SqT.of (sm _ _ hs)) ?_ ?_⟩
  · rintro i x σ H1 H2 hi ⟨y5, y6, y7, rfl, sm, hm⟩ ⟨U, x0, x1, rfl, nU, rfl, e0, e1⟩
    cases e0
    obtain ⟨p, l, rfl, _, hl, hp⟩ := R.ref e1
    have hp : H p = some (.tup (l.map V.int)) := hp
    have sm2 : Same H (upd H1 U (.tup [.int (i : Nat), .ref p])) := same_put sm (sm.free nU) _
    have hm2 : (upd H1 U (.tup [.int (i : Nat), .ref p])) d = some (.dK (met (st.take i).flatten)) := by
      rw [upd_ne (ne_of_none hm nU)]
      exact hm
    have hll : l.length ≤ n := by
      have := List.Sublist.length_le (List.sublist_flatten_of_mem (List.mem_of_getElem? hl))
      omega
    refine ⟨U, _, rfl, SqT.of upd_same, rfl, _, _, rfl, _, _, rfl, rfl, ?_⟩
    refine ⟨_, rfl, _, rfl, p, _, 0, n, rfl, .inl (sm2 _ _ hp), by omega, by rw [List.length_map]; omega, true, rfl, iteF ?_⟩
    -- for person in line
    refine ⟨_, rfl, p, rfl, ⟨_, SqT.of (sm2 _ _ hp)⟩, for_tup (K := K) (a := p) (xs := l.map V.int) (fun j σ H' => ∃ y7, σ = [some (.ref o), some (.ref s), some (.int (n : Int)), some (.int (c : Int)), some (.ref d), some (.int (i : Nat)), some (.ref p), y7] ∧ Same H H' ∧ H' d = some (.dK (met ((st.take i).flatten ++ l.take j))))
      ⟨y7, rfl, sm2, by rw [List.take_zero, List.append_nil]; exact hm2⟩ (fun j σ H' _ ⟨_, _, sm, _⟩ => SqT.of (sm _ _ hp)) ?_ ?_⟩
    · rintro j x σ H3 hj ⟨y, rfl, sm3, hm3⟩
      obtain ⟨r, hr', rfl⟩ : ∃ r, l[j]? = some r ∧ x = V.int r := by
        rw [List.getElem?_map] at hj
        obtain ⟨r, h1, h2⟩ := Option.map_eq_some_iff.mp hj
        exact ⟨r, h1, h2.symm⟩
      have hnew := flat_new g.nodup hl hr'
      have hrf : r ∈ folk n := g.all.mem_iff.mp (List.mem_flatten.mpr ⟨l, List.mem_of_getElem? hl, List.mem_of_getElem? hr'⟩)
      have hr2 := mem_folk.mp hrf
      refine ⟨_, rfl, _, rfl, n, 1, rfl, rfl, r, 0, _, rfl, hr2.1, by omega, true, rfl, iteF ?_⟩
      refine ⟨_, rfl, _, rfl, d, _, rfl, DGet.k (k := Sum.inl r) hm3, _, rfl, ?_⟩
      rw [met_none hnew]
      refine iteF ?_
      have hz : (met ((st.take i).flatten ++ l.take j)).length < sizeLine := by
        have h1 : ((st.take i).flatten ++ l.take j).length ≤ n := by
          obtain ⟨R', e⟩ := flat_split hl hr'
          have h2 := congrArg List.length e
          rw [hfl, List.length_append] at h2
          omega
        rw [met_len]
        exact small1000 (by omega)
      refine ⟨_, rfl, _, rfl, d, _, rfl, DPut.k (k := Sum.inl r) hm3 hz, ?_⟩
      have hd0 : H d = none := hd
      refine ⟨_, rfl, same_put sm3 hd0 _, ?_⟩
      rw [upd_same, met_put hnew, List.append_assoc, List.take_add_one, hr']
      rfl
    · rintro σ H3 ⟨y, rfl, sm3, hm3⟩
      refine ⟨_, _, y, rfl, sm3, ?_⟩
      rw [hm3, flat_take hl, List.length_map, List.take_length]
  · rintro σ H1 ⟨y5, y6, y7, rfl, sm, hm⟩
    have e : st.take (ps.map V.ref).length = st := by rw [R.rlen, List.take_length]
    rw [e] at hm
    refine ⟨_, rfl, d, _, rfl, hm, _, rfl, _, _, rfl, rfl, _, rfl, ?_⟩
    rw [met_len, hfl, decide_eq_false (Int.lt_irrefl _)]
    exact iteF (q _ sm)
end
end G29

set_option Elab.async false
set_option linter.all false
set_option maxRecDepth 100000
set_option maxHeartbeats 4000000
namespace G29
open PySem PySem.Spec PyProof.Rows L2
theorem inV_ints (p : Int) (l : List Int) : inV (.int p) (l.map V.int) = decide (p ∈ l) := by
  unfold inV
  induction l with
  | nil => rfl
  | cons a r ih =>
    rw [List.map_cons, List.any_cons, ih]
    show ((a == p) || decide (p ∈ r)) = decide (p ∈ a :: r)
    by_cases h : a = p
    · subst h
      simp
    · have h' : ¬ p = a := fun e => h e.symm
      simp [h, h']
theorem flat_ints (l : List Int) : (l.map V.int).all flatV = true := by
  rw [List.all_eq_true]
  intro x hx
  obtain ⟨a, _, rfl⟩ := List.mem_map.mp hx
  rfl
theorem int_of {l : List Int} {j : Nat} {x : V} (h : (l.map V.int)[j]? = some x) : ∃ r, l[j]? = some r ∧ x = V.int r := by
  rw [List.getElem?_map] at h
  obtain ⟨r, h1, h2⟩ := Option.map_eq_some_iff.mp h
  exact ⟨r, h1, h2.symm⟩
theorem small7 {m : Nat} (h : m ≤ 1000) : m < sizeLine := small1000 h
theorem Good.line_len {n c : Nat} {st : List (List Int)} {j : Nat} {l : List Int} (g : Good n c st) (h : st[j]? = some l) : l.length ≤ n := by
  have h1 := List.Sublist.length_le (List.sublist_flatten_of_mem (List.mem_of_getElem? h))
  rw [g.all.length_eq, folk_len] at h1
  exact h1
/-- what a search for a person's line has found by turn i -/
def hit (k i : Nat) : List V := if k < i then [.int (k : Nat)] else []
theorem hit_len (k i : Nat) : (hit k i).length ≤ 1 := by
  unfold hit
  split <;> simp
theorem hit_step {k i : Nat} : hit k (i + 1) = if i = k then hit k i ++ [.int (i : Nat)] else hit k i := by
  unfold hit
  by_cases h : i = k
  · subst h
    simp
  · rw [if_neg h]
    by_cases h2 : k < i
    · rw [if_pos h2, if_pos (by omega)]
    · rw [if_neg h2, if_neg (by omega)]
theorem hit_done {k n : Nat} (h : k < n) : hit k n = [.int (k : Nat)] := by
  unfold hit
  rw [if_pos h]
theorem Good.at_spot {n c : Nat} {st : List (List Int)} {j : Nat} {l : List Int} {p : Int} (g : Good n c st) (hp : p ∈ folk n) (h : st[j]? = some l) : p ∈ l ↔ j = spot st p := by
  constructor
  · intro m
    exact (spot_eq g.nodup h m).symm
  · intro e
    obtain ⟨k, hk, hm⟩ := spot_mem (g.all.mem_iff.mpr hp)
    rw [← e, h] at hk
    cases hk
    exact hm
end G29

set_option Elab.async false
set_option linter.all false
set_option maxRecDepth 100000
set_option maxHeartbeats 4000000
namespace G29
open PySem PySem.Spec PyProof.Rows L2
section
variable {P : Program} {w : World} {K : PySem.W.Frag} {mg : Str → Option Value} {base : Heap} {f : Addr} {fd : FuncData}
theorem scCounterOf : FnScope ["state", "person", "counter", "line"] ["state", "person"] (defScope sCounterOf) := ⟨rfl, rfl, rfl, by decide +kernel, rfl, by decide +kernel, by decide +kernel⟩
theorem ok_counterOf (D : Def K mg "counter_of" sCounterOf ["state", "person"] f fd) (T : Nm mg) : Can P w K mg base 1 "counter_of" spSpot := by
  refine D.can (D.F.ok scCounterOf (fun vs H Q E h => ?_) (fun cdv A outer s H vs Q E hr h => ?_))
  · obtain ⟨s, p, n, c, st, rfl, _⟩ := h
    rfl
  obtain ⟨s, p, n, c, st, rfl, ⟨ps, hs, R⟩, ⟨z, g⟩, hp, q⟩ := h
  have nd := scCounterOf.nd
  refine ⟨_, pss_one (ps_ret (pe_ix ix_list (pe_lc (own := [("counter", 2), ("line", 3)]) (g := gTup K 2 (gCons (gName 2) (gCons (gName 3) gNil))) (tt := tTest (tOp (rIn K false) (tVar 1) (tVar 3))) (te := tVar 2) rfl nd (pi_enT (by rfl) T.enum (pa_cons (pv 0) pa_nil))
    (blkOk_by (own := [("counter", 2), ("line", 3)]) (N := ["state", "person", "counter", "line"]) (sc := defScope sCounterOf) (by decide +kernel))
    (fun _ _ _ _ _ => pg_tup rfl (pgs_cons (pg_name (i := 2) nd rfl (.inl rfl)) (pgs_cons (pg_name (i := 3) nd rfl (.inl rfl)) pgs_nil)))
    (fun _ _ _ _ _ => pts_one (pt_cmpR op_in_seq (pv 1) (pv 3) (by rfl))) (fun _ _ _ _ _ => pv 2)) pe_int (fun _ _ => rfl))), ?_⟩
  have hk : spot st p < st.length := spot_lt (g.all.mem_iff.mpr hp)
  refine ⟨_, rfl, s, _, rfl, SqT.of hs, fun D0 hD => ?_⟩
  refine lc_it walk_enT (fun i H' => Same H H' ∧ H' D0 = some (.lst (hit (spot st p) i))) ⟨same_new hD _, by rw [upd_same]; rfl⟩ (fun i H' _ ⟨sm, _⟩ => SqT.of (sm _ _ hs)) ?_ ?_
  · rintro i x H1 H2 hi ⟨sm, hm⟩ ⟨U, x0, x1, rfl, nU, rfl, e0, e1⟩
    cases e0
    obtain ⟨a, l, rfl, _, hl, ha⟩ := R.ref e1
    have ha : H a = some (.tup (l.map V.int)) := ha
    have sm2 : Same H (upd H1 U (.tup [.int (i : Nat), .ref a])) := same_put sm (sm.free nU) _
    have hm2 : (upd H1 U (.tup [.int (i : Nat), .ref a])) D0 = some (.lst (hit (spot st p) i)) := by
      rw [upd_ne (ne_of_none hm nU)]
      exact hm
    refine ⟨U, _, rfl, SqT.of upd_same, rfl, _, _, rfl, _, _, rfl, rfl, rfl, ?_⟩
    refine ⟨_, rfl, _, rfl, a, _, rfl, .inr (SqT.of (sm2 _ _ ha)), rfl, flat_ints l, _, rfl, ?_⟩
    show if inV (.int p) (l.map V.int) = true then _ else _
    rw [inV_ints]
    by_cases m : p ∈ l
    · have e : i = spot st p := (g.at_spot hp hl).mp m
      rw [decide_eq_true m]
      refine iteT ⟨_, rfl, _, hm2, small7 (Nat.le_trans (hit_len _ _) (by decide)), same_put sm2 hD _, ?_⟩
      rw [upd_same, hit_step, if_pos e]
    · have e : ¬ i = spot st p := fun e => m ((g.at_spot hp hl).mpr e)
      rw [decide_eq_false m]
      refine iteF ⟨sm2, ?_⟩
      rw [hm2, hit_step, if_neg e]
  · rintro H1 ⟨sm, hm⟩
    rw [R.rlen, hit_done hk] at hm
    exact ⟨D0, _, 0, .int (spot st p : Nat), rfl, rfl, SqL.of hm, atI_nat (j := 0) rfl, q H1 sm⟩
theorem scAt : FnScope ["_law_state_here", "_law_person", "_law_counter"] ["_law_state_here", "_law_person"] (defScope sAt) := ⟨rfl, rfl, rfl, by decide +kernel, rfl, by decide +kernel, by decide +kernel⟩
theorem ok_at (D : Def K mg "_law_at" sAt ["_law_state_here", "_law_person"] f fd) (T : Nm mg) : Can P w K mg base 1 "_law_at" spSpot := by
  refine D.can (D.F.ok scAt (fun vs H Q E h => ?_) (fun cdv A outer s H vs Q E hr h => ?_))
  · obtain ⟨s, p, n, c, st, rfl, _⟩ := h
    rfl
  obtain ⟨s, p, n, c, st, rfl, ⟨ps, hs, R⟩, ⟨z, g⟩, hp, q⟩ := h
  have nd := scAt.nd
  refine ⟨_, pss_one (ps_ret (pe_ix ix_list (pe_lc (own := [("_law_counter", 2)]) (g := gName 2) (tt := tTest (tOp (rIn K false) (tVar 1) (tOp (rIxT K) (tVar 0) (tVar 2)))) (te := tVar 2) rfl nd (pi_range1 rfl T.range (pa_cons (pe_callB call_len_seq (by rfl) T.len PySem.boot_len (pa_cons (pv 0) pa_nil)) pa_nil))
    (blkOk_by (own := [("_law_counter", 2)]) (N := ["_law_state_here", "_law_person", "_law_counter"]) (sc := defScope sAt) (by decide +kernel))
    (fun _ _ _ _ _ => pg_name (i := 2) nd rfl (.inl rfl))
    (fun _ _ _ _ _ => pts_one (pt_cmpR op_in_seq (pv 1) (pe_ix ix_tup (pv 0) (pv 2) (fun _ _ => rfl)) (by rfl))) (fun _ _ _ _ _ => pv 2)) pe_int (fun _ _ => rfl))), ?_⟩
  have hk : spot st p < st.length := spot_lt (g.all.mem_iff.mpr hp)
  have hc : st.length ≤ 6 := by
    have h1 := g.len
    have h2 := z.c6
    omega
  refine ⟨_, rfl, s, _, rfl, .inr (SqT.of hs), _, rfl, by rw [R.rlen]; omega, by rw [R.rlen]; omega, fun D0 hD => ?_⟩
  refine lc_range (lo := 0) (n := (((ps.map V.ref).length : Int) - 0).toNat) (fun i H' => Same H H' ∧ H' D0 = some (.lst (hit (spot st p) i))) ⟨same_new hD _, by rw [upd_same]; rfl⟩ ?_ ?_
  · rintro i H1 hi ⟨sm, hm⟩
    rw [R.rlen, Int.sub_zero, Int.toNat_natCast] at hi
    obtain ⟨a, h1, ha⟩ := R.refs (List.getElem?_eq_getElem hi)
    have ha : H a = some (.tup (st[i].map V.int)) := ha
    refine ⟨rfl, _, rfl, _, rfl, _, rfl, s, _, _, _, rfl, rfl, SqT.of (sm _ _ hs), at_of (j := i) (by omega) h1, a, _, rfl, .inr (SqT.of (sm _ _ ha)), rfl, flat_ints _, _, rfl, ?_⟩
    show if inV (.int p) (st[i].map V.int) = true then _ else _
    rw [inV_ints]
    have hl : st[i]? = some st[i] := List.getElem?_eq_getElem hi
    by_cases m : p ∈ st[i]
    · have e : i = spot st p := (g.at_spot hp hl).mp m
      rw [decide_eq_true m]
      refine iteT ⟨_, rfl, _, hm, small7 (Nat.le_trans (hit_len _ _) (by decide)), same_put sm hD _, ?_⟩
      rw [upd_same, hit_step, if_pos e, Int.zero_add]
    · have e : ¬ i = spot st p := fun e => m ((g.at_spot hp hl).mpr e)
      rw [decide_eq_false m]
      refine iteF ⟨sm, ?_⟩
      rw [hm, hit_step, if_neg e]
  · rintro H1 ⟨sm, hm⟩
    rw [R.rlen, Int.sub_zero, Int.toNat_natCast, hit_done hk] at hm
    exact ⟨D0, _, 0, .int (spot st p : Nat), rfl, rfl, SqL.of hm, atI_nat (j := 0) rfl, q H1 sm⟩
end
end G29

set_option Elab.async false
set_option linter.all false
set_option maxRecDepth 100000
set_option maxHeartbeats 4000000
namespace G29
open PySem PySem.Spec PyProof.Rows L2
/-- what a comprehension over a tuple comes to: the shape of the layer's own lemma -/
def Over (K : PySem.W.Frag) (a : Addr) (g : TG) (tt : TT) (te : TE) (vs : List Nat) (σ : L2.St) (H1 : Hp) (D : Addr) (Qd : Hp → Prop) : Prop :=
  ∃ W : Nat → Nat → Hp → Prop, (∃ m, W 0 m (upd H1 D (.lst []))) ∧ ∀ i m H, W i m H →
      ((Itt K a).stop i H ∧ Qd H) ∨ ((Itt K a).go i H ∧ ∃ Nx : Hp → Prop, (∀ H', Nx H' → ∃ m', m' < m ∧ W (i + 1) m' H') ∧ ∀ x H', (Itt K a).yld i H x H' → g x (wipe σ vs) H' fun σ2 H2 => wipe σ2 vs = wipe σ vs ∧ tt σ2 H2 fun b H3 =>
        if b = true then te σ2 H3 fun y H4 => ∃ acc, H4 D = some (.lst acc) ∧ acc.length < sizeLine ∧ Nx (upd H4 D (.lst (acc ++ [y]))) else Nx H3)
theorem wipe_again {σ : L2.St} {i : Nat} {x : V} : wipe ((wipe σ [i]).set i (some x)) [i] = wipe σ [i] := by
  show ((σ.set i none).set i (some x)).set i none = σ.set i none
  rw [List.set_set, List.set_set]
theorem wipe_get {σ : L2.St} {i : Nat} {x : V} (hi : i < σ.length) : ((wipe σ [i]).set i (some x))[i]? = some (some x) := by
  show ((σ.set i none).set i (some x))[i]? = _
  rw [List.getElem?_set_self (by rw [List.length_set]; exact hi)]
/-- [x for x in t if ..], t a tuple of ints -/
theorem lc_keep {K : PySem.W.Frag} {a : Addr} {l : List Int} {tt : TT} {σ : L2.St} {H1 : Hp} {D : Addr} {Qd : Hp → Prop} {i : Nat} (keep : Int → Bool) (hD : H1 D = none) (ha : H1 a = some (fT l)) (hl : l.length ≤ 1000) (hi : i < σ.length)
    (ht : ∀ x ∈ l, ∀ (H' : Hp) (Q : Bool → Hp → Prop), Same H1 H' → Q (keep x) H' → tt ((wipe σ [i]).set i (some (.int x))) H' Q)
    (hd : ∀ H', Same H1 H' → H' D = some (fL (l.filter keep)) → Qd H') : Over K a (gName i) tt (tVar i) [i] σ H1 D Qd := by
  refine lc_tup (K := K) (a := a) (xs := l.map V.int) (fun j H' => Same H1 H' ∧ H' D = some (fL ((l.take j).filter keep))) ⟨same_new hD _, upd_same⟩ (fun j H' _ ⟨sm, _⟩ => SqT.of (sm _ _ ha)) ?_ ?_
  · rintro j x H' hj ⟨sm, hm⟩
    obtain ⟨r, hr, rfl⟩ := int_of hj
    refine ⟨wipe_again, ht r (List.mem_of_getElem? hr) _ _ sm ?_⟩
    have e : (l.take (j + 1)).filter keep = (l.take j).filter keep ++ (if keep r = true then [r] else []) := by
      rw [List.take_add_one, hr, List.filter_append]
      cases h : keep r <;> simp [h]
    cases h : keep r with
    | true =>
      refine iteT ⟨.int r, wipe_get hi, _, hm, ?_, same_put sm hD _, ?_⟩
      · rw [List.length_map]
        refine small7 (Nat.le_trans (List.length_filter_le ..) (Nat.le_trans (List.length_take_le ..) ?_))
        have := (List.getElem?_eq_some_iff.mp hr).1
        omega
      · rw [upd_same, e, h]
        unfold fL
        rw [List.map_append]
        rfl
    | false =>
      refine iteF ⟨sm, ?_⟩
      rw [e, h, hm]
      simp
  · rintro H' ⟨sm, hm⟩
    refine hd H' sm ?_
    rw [hm, List.length_map, List.take_length]
/-- rows of new objects in a list -/
structure Fresh {α : Type} (f : α → HO) (H0 H : Hp) (D : Addr) (ps : List Addr) (xs : List α) : Prop where
  at_ : H D = some (.lst (ps.map V.ref))
  rows : Rows f H ps xs
  nd : ps.Nodup
  off : D ∉ ps
  new : ∀ p ∈ ps, H0 p = none
  newD : H0 D = none
/-- [.. for line in s], s a tuple of tuples: a new object for each line -/
theorem lc_rows {K : PySem.W.Frag} {s : Addr} {st : List (List Int)} {ps : List Addr} {te : TE} {σ : L2.St} {H1 : Hp} {D : Addr} {Qd : Hp → Prop} {i : Nat} {f : List Int → HO} (m : List Int → List Int) (hD : H1 D = none) (hs : H1 s = some (.tup (ps.map V.ref))) (R : Rows fT H1 ps st) (hl : st.length ≤ 1000) (hi : i < σ.length)
    (ht : ∀ (l : List Int) (p : Addr) (H' : Hp) (Q : VK), l ∈ st → H1 p = some (fT l) → Same H1 H' → (∀ r H'', H' r = none → Same H' H'' → H'' r = some (f (m l)) → Q (.ref r) H'') → te ((wipe σ [i]).set i (some (.ref p))) H' Q)
    (hd : ∀ qs H', Same H1 H' → Fresh f H1 H' D qs (st.map m) → Qd H') : Over K s (gName i) tYes te [i] σ H1 D Qd := by
  refine lc_tup (K := K) (a := s) (xs := ps.map V.ref) (fun j H' => Same H1 H' ∧ ∃ qs, Fresh f H1 H' D qs ((st.take j).map m)) ⟨same_new hD _, [], upd_same, Rows.nil, List.nodup_nil, by simp, by simp, hD⟩ (fun j H' _ ⟨sm, _⟩ => SqT.of (sm _ _ hs)) ?_ ?_
  · rintro j x H' hj ⟨sm, qs, F⟩
    obtain ⟨p, l, rfl, _, hl', hp⟩ := R.ref hj
    refine ⟨wipe_again, ?_⟩
    dsimp only [tYes]
    rw [if_pos rfl]
    refine ht l p H' _ (List.mem_of_getElem? hl') hp sm fun r H'' nr sm2 hr => ?_
    have hjl := (List.getElem?_eq_some_iff.mp hl').1
    have ql : qs.length = j := by
      rw [F.rows.len, List.length_map, List.length_take]
      omega
    have hm2 := sm2 _ _ F.at_
    have nrD : r ≠ D := fun e => by
      rw [e, F.at_] at nr
      cases nr
    refine ⟨_, hm2, by rw [List.length_map, ql]; exact small7 (by omega), same_put (sm.trans sm2) hD _, qs ++ [r], ?_, ?_, ?_, ?_, ?_, hD⟩
    · rw [upd_same, List.map_append]
      rfl
    · rw [List.take_add_one, hl', List.map_append]
      have r1 : Rows f (upd H'' D (.lst (qs.map V.ref ++ [.ref r]))) qs ((st.take j).map m) := ⟨F.rows.len, fun k y hk => by
        obtain ⟨q, h1, h2⟩ := F.rows.at_ k y hk
        refine ⟨q, h1, ?_⟩
        rw [upd_ne (fun e => F.off (by rw [← e]; exact List.mem_of_getElem? h1))]
        exact sm2 _ _ h2⟩
      exact r1.snoc (by rw [upd_ne nrD]; exact hr)
    · rw [List.nodup_append]
      refine ⟨F.nd, by simp, fun b hb c hc e => ?_⟩
      have ec : c = r := by simpa using hc
      obtain ⟨k, hk⟩ := List.getElem?_of_mem hb
      have hkl : k < ((st.take j).map m).length := by
        rw [← F.rows.len]
        exact (List.getElem?_eq_some_iff.mp hk).1
      obtain ⟨q, h1, h2⟩ := F.rows.at_ k _ (List.getElem?_eq_getElem hkl)
      rw [hk] at h1
      cases h1
      rw [e, ec, nr] at h2
      cases h2
    · rw [List.mem_append, not_or]
      exact ⟨F.off, by simpa using nrD.symm⟩
    · intro b hb
      rcases List.mem_append.mp hb with h | h
      · exact F.new b h
      · have e : b = r := by simpa using h
        rw [e]
        exact sm.free nr
  · rintro H' ⟨sm, qs, F⟩
    rw [R.rlen, List.take_length] at F
    exact hd qs H' sm F
theorem Fresh.same {α : Type} {f : α → HO} {H0 H H' : Hp} {D : Addr} {ps : List Addr} {xs : List α} (F : Fresh f H0 H D ps xs) (s : Same H H') : Fresh f H0 H' D ps xs := ⟨s _ _ F.at_, F.rows.mono s, F.nd, F.off, F.new, F.newD⟩
end G29

set_option Elab.async false
set_option linter.all false
set_option maxRecDepth 100000
set_option maxHeartbeats 4000000
namespace G29
open PySem PySem.Spec PyProof.Rows L2
theorem foldl_take {α β : Type} (f : β → α → β) (b : β) {g : List α} {i : Nat} {r : α} (h : g[i]? = some r) : (g.take (i + 1)).foldl f b = f ((g.take i).foldl f b) r := by
  rw [List.take_add_one, h, List.foldl_append]
  rfl
theorem cast_mod (a b m : Nat) : ((a : Int) + (b : Int)) % (m : Int) = (((a + b) % m : Nat) : Int) := by
  rw [Int.natCast_emod, Int.natCast_add]
theorem put_bound {ls : List (List Int)} {c B : Nat} {p : Int} (h : ∀ l ∈ ls, l.length ≤ B) : ∀ l ∈ put ls c p, l.length ≤ B + 1 := by
  intro l hl
  unfold put at hl
  rcases List.mem_or_eq_of_mem_set hl with h1 | h1
  · exact Nat.le_succ_of_le (h l h1)
  · rw [h1, List.length_append, List.getD_eq_getElem?_getD]
    cases e : ls[c]? with
    | none => simp
    | some k =>
      have := h k (List.mem_of_getElem? e)
      simp
      exact this
/-- people put one after another, from some lines on -/
def fill {α : Type} (who : α → Int) (to : α → Nat) (ls : List (List Int)) (xs : List α) : List (List Int) := xs.foldl (fun ls x => put ls (to x) (who x)) ls
section
variable {α : Type} {who : α → Int} {to : α → Nat} {ls : List (List Int)} {xs : List α}
theorem fill_len : (fill who to ls xs).length = ls.length := by
  unfold fill
  induction xs generalizing ls with
  | nil => rfl
  | cons x r ih => rw [List.foldl_cons, ih, put_len]
theorem fill_bound {B : Nat} (h : ∀ l ∈ ls, l.length ≤ B) : ∀ l ∈ fill who to ls xs, l.length ≤ B + xs.length := by
  unfold fill
  induction xs generalizing ls B with
  | nil => exact h
  | cons x r ih =>
    intro l hl
    rw [List.foldl_cons] at hl
    have := ih (put_bound h) l hl
    rw [List.length_cons]
    omega
theorem fill_step {i : Nat} {x : α} (h : xs[i]? = some x) : fill who to ls (xs.take (i + 1)) = put (fill who to ls (xs.take i)) (to x) (who x) := foldl_take _ _ h
end
theorem crew_fill (st : List (List Int)) (g : List Int) : crew st g = fill (fun p => p) (fun p => (spot st p + 1) % st.length) (lack st g) g := rfl
theorem deed_fill (plan : List (Int × Nat)) (st : List (List Int)) : deed plan st = fill (fun x : Int × Nat => x.1) (fun x => (spot st x.1 + x.2) % st.length) (lack st (plan.map (·.1))) plan := rfl
theorem lack_bound {n c : Nat} {st : List (List Int)} (g : Good n c st) (grp : List Int) : ∀ l ∈ lack st grp, l.length ≤ n := by
  intro l hl
  obtain ⟨k, hk, rfl⟩ := List.mem_map.mp hl
  obtain ⟨j, hj⟩ := List.getElem?_of_mem hk
  exact Nat.le_trans (List.length_filter_le ..) (g.line_len hj)
/-- one place of a list of rows is written anew -/
theorem rows_put {H : Hp} {ps : List Addr} {ls : List (List Int)} {c : Nat} {p : Int} {l : List Int} {q : Addr} (R : Rows fT H ps ls) (hc : ls[c]? = some l) (hq : H q = some (fT (l ++ [p]))) : Rows fT H (ps.set c q) (put ls c p) := by
  have e : ls.getD c [] = l := by rw [List.getD_eq_getElem?_getD, hc]; rfl
  unfold put
  rw [e]
  exact R.set c hq
theorem refs_set (ps : List Addr) (j : Nat) (q : Addr) : (ps.map V.ref).set j (V.ref q) = (ps.set j q).map V.ref := (List.map_set).symm
/-- lines[k] = (*lines[k], r) -/
theorem put_in {H H3 : Hp} {D0 t : Addr} {rs : List Addr} {ls : List (List Int)} {k : Nat} {r : Int} {l : List Int} (sm : Same H H3) (hD : H D0 = none) (hm3 : H3 D0 = some (.lst (rs.map V.ref))) (R3 : Rows fT H3 rs ls) (hc : ls[k]? = some l) (ht : H3 t = none) :
    (upd H3 t (.tup (l.map V.int ++ [.int r]))) D0 = some (.lst (rs.map V.ref)) ∧ Same H (upd (upd H3 t (.tup (l.map V.int ++ [.int r]))) D0 (.lst ((rs.map V.ref).set k (.ref t)))) ∧
      ∃ rs' : List Addr, (upd (upd H3 t (.tup (l.map V.int ++ [.int r]))) D0 (.lst ((rs.map V.ref).set k (.ref t)))) D0 = some (.lst (rs'.map V.ref)) ∧ Rows fT (upd (upd H3 t (.tup (l.map V.int ++ [.int r]))) D0 (.lst ((rs.map V.ref).set k (.ref t)))) rs' (put ls k r) := by
  have ntD : D0 ≠ t := ne_of_none hm3 ht
  have sm4 : Same H3 (upd H3 t (.tup (l.map V.int ++ [.int r]))) := same_new ht _
  have keep : ∀ b o, b ≠ D0 → (upd H3 t (.tup (l.map V.int ++ [.int r]))) b = some o → (upd (upd H3 t (.tup (l.map V.int ++ [.int r]))) D0 (.lst ((rs.map V.ref).set k (.ref t)))) b = some o := fun b o hb e => by
    rw [upd_ne hb]
    exact e
  refine ⟨sm4 _ _ hm3, same_put (sm.trans sm4) hD _, rs.set k t, by rw [upd_same, refs_set], ?_⟩
  have R4 : Rows fT (upd (upd H3 t (.tup (l.map V.int ++ [.int r]))) D0 (.lst ((rs.map V.ref).set k (.ref t)))) rs ls := ⟨R3.len, fun j y hj => by
    obtain ⟨b, hb1, hb2⟩ := R3.at_ j y hj
    refine ⟨b, hb1, keep b _ (fun e => ?_) (sm4 _ _ hb2)⟩
    rw [e, hm3] at hb2
    cases hb2⟩
  refine rows_put R4 hc (keep t _ ntD.symm ?_)
  rw [upd_same]
  unfold fT
  rw [List.map_append]
  rfl
theorem ixN_nat {m j : Nat} (h : j < m) : ixN m (j : Int) = some j := by
  unfold ixN
  rw [if_pos (Int.natCast_nonneg j), if_pos (by omega)]
  rfl
def lcScope (e : Expr) : Scope := match e with
  | .ListComp _ _ sc _ => sc
  | .DictComp _ _ _ sc _ => sc
  | _ => { kind := .function, names := [], isGenerator := false, isCoroutine := false }
def asgVal (s : Stmt) : Expr := match s with
  | .Assign _ e _ => e
  | _ => .Constant .none 0 ⟨0, 0, 0, 0⟩
def nthStmt (b : List Stmt) (i : Nat) : Stmt := b.getD i (.Pass ⟨0, 0, 0, 0⟩)
/-- tuple(x), by a name of its own -/
def rTuple (K : PySem.W.Frag) : List V → Hp → VK → Prop := fun xs H Q => ∃ p ys, xs = [.ref p] ∧ ((SqL K H p ys ∧ ∀ l, H l = none → Q (.ref l) (upd H l (.tup ys))) ∨ (SqT K H p ys ∧ Q (.ref p) H))
theorem cr_tuple {X : Cx} : CallR X (.type "tuple") (rTuple X.K) := call_tuple_of
theorem bt_tuple : bootBuiltins "tuple" = some (.type "tuple") := by decide +kernel
theorem bt_list : bootBuiltins "list" = some (.type "list") := by decide +kernel
theorem bt_int : bootBuiltins "int" = some (.type "int") := by decide +kernel
theorem bt_set : bootBuiltins "set" = some (.type "set") := by decide +kernel
theorem bt_isi : bootBuiltins "isinstance" = some (.builtin "isinstance") := by decide +kernel
theorem bt_all : bootBuiltins "all" = some (.builtin "all") := by decide +kernel
theorem bt_sorted : bootBuiltins "sorted" = some (.builtin "sorted") := by decide +kernel
theorem grp_len {n : Nat} {g : List Int} (h : GrpOk n g) : g.length ≤ n := sub_len (nodup_asc h.1) h.2
end G29

set_option Elab.async false
set_option linter.all false
set_option maxRecDepth 100000
set_option maxHeartbeats 4000000
namespace G29
open PySem PySem.Spec PyProof.Rows L2
section
variable {P : Program} {w : World} {K : PySem.W.Frag} {mg : Str → Option Value} {base : Heap} {f : Addr} {fd : FuncData}
theorem scCallGroup : FnScope ["state", "group", "counters", "person", "lines", "new", "line"] ["state", "group"] (defScope sCallGroup) := ⟨rfl, rfl, rfl, by decide +kernel, rfl, by decide +kernel, by decide +kernel⟩
abbrev scCrewO : Scope := lcScope (asgVal (nthStmt (defBody sCallGroup) 1))
theorem ok_callGroup (D : Def K mg "call_group_in" sCallGroup ["state", "group"] f fd) (T : Nm mg) (C1 : Can P w K mg base 1 "counter_of" spSpot) : Can P w K mg base 2 "call_group_in" spCrew := by
  refine D.can (D.F.ok scCallGroup (fun vs H Q E h => ?_) (fun cdv A outer s H vs Q E hr h => ?_))
  · obtain ⟨s, g, n, c, st, grp, rfl, _⟩ := h
    rfl
  obtain ⟨s, a, n, c, st, grp, rfl, ⟨ps, hs, R⟩, ha, ⟨z, g⟩, ok, q⟩ := h
  have nd := scCallGroup.nd
  refine ⟨_, pss_cons (ps_set (i := 2) nd rfl (.inl rfl) (pe_callB call_len_seq (by rfl) T.len PySem.boot_len (pa_cons (pv 0) pa_nil)))
    (pss_cons (ps_setLc (i := 4) (own := [("line", 6)]) (g := gName 6) (tt := tYes) (te := tCB (rTuple K) (tCons (tLc (iTup K (tVar 6)) (gName 3) (tTest (tOp (rIn K true) (tVar 3) (tVar 1))) (tVar 3) [3]) tNil)) rfl nd rfl rfl (sw_true rfl rfl rfl (by decide +kernel)) (pi_tup (pv 0))
      (blkOk_by (own := [("line", 6)]) (N := ["state", "group", "counters", "person", "lines", "new", "line"]) (sc := defScope sCallGroup) (by decide +kernel))
      (fun _ _ _ _ _ => pg_name (i := 6) nd rfl (.inl rfl)) (fun _ _ _ _ _ => pts_nil)
      (fun _ _ _ _ _ => pe_callTy cr_tuple (by rfl) T.tuple bt_tuple (pa_cons
        (pe_lc (own := [("person", 3)]) (g := gName 3) (tt := tTest (tOp (rIn K true) (tVar 3) (tVar 1))) (te := tVar 3) rfl nd (pi_tup (pv 6))
          (blkOk_by (own := [("person", 3)]) (N := ["state", "group", "counters", "person", "lines", "new", "line"]) (sc := relS scCrewO (defScope sCallGroup)) (by decide +kernel))
          (fun _ _ _ _ _ => pg_name (i := 3) nd rfl (.inl rfl)) (fun _ _ _ _ _ => pts_one (pt_cmpR op_notIn_seq (pv 3) (pv 1) (by rfl))) (fun _ _ _ _ _ => pv 3)) pa_nil)))
    (pss_cons (ps_for PassesOwn.never rfl (pi_tup (pv 1)) (pg_name (i := 3) nd rfl (.inl rfl))
      (pss_cons (ps_set (i := 5) nd rfl (.inl rfl) (pe_op op_mod (pe_op op_add (pe_do C1 hr (by rfl) (pa_cons (pv 0) (pa_cons (pv 3) pa_nil))) pe_int) (pv 2)))
      (pss_one (ps_asg (pe_tup (StX.pa_star (pe_ix ix_list (pv 4) (pv 5) (fun _ _ => rfl)) (pa_cons (pv 3) pa_nil))) (pg_sub (pv 4) (pv 5) set_list)))))
    (pss_one (ps_ret (pe_callTy cr_tuple (by rfl) T.tuple bt_tuple (pa_cons (pv 4) pa_nil)))))), ?_⟩
  have hlen : st.length = c := g.len
  have c1 := z.c1
  have c6 := z.c6
  have n7 := z.n7
  have gl := grp_len ok
  -- counters = len(state)
  refine ⟨_, rfl, s, _, rfl, .inr (SqT.of hs), ?_⟩
  -- lines = [tuple([..]) for line in state]
  refine ⟨_, rfl, s, rfl, ⟨_, SqT.of hs⟩, fun D0 hD => lc_rows (f := fT) (fun l => l.filter fun p => decide (p ∉ grp)) hD hs R (by omega) (by show 6 < 7; decide) ?_ ?_⟩
  · intro l p H1 Q1 hl hp sm k
    refine ⟨_, rfl, p, rfl, ⟨_, SqT.of (sm _ _ hp)⟩, fun D2 hD2 => lc_keep (fun x => decide (x ∉ grp)) hD2 (sm _ _ hp) ?_ (by show 3 < 7; decide) ?_ ?_⟩
    · obtain ⟨j, hj⟩ := List.getElem?_of_mem hl
      have := g.line_len hj
      omega
    · intro x hx H2 Q2 sm2 hq
      refine ⟨_, rfl, _, rfl, a, _, rfl, .inr ((ha.mono sm).mono sm2).sq, rfl, flat_ints _, _, rfl, ?_⟩
      show Q2 (!inV (.int x) (grp.map V.int)) H2
      have e : (!decide (x ∈ grp)) = decide (x ∉ grp) := by simp
      rw [inV_ints, e]
      exact hq
    · intro H2 sm2 hm
      refine ⟨D2, _, rfl, .inl ⟨SqL.of hm, fun r hr => k r _ (sm2.free hr) (same_put sm2 (sm2.free hr) _) upd_same⟩⟩
  · intro qs H1 sm F
    -- for person in group
    refine ⟨_, rfl, a, rfl, ⟨_, (ha.mono sm).sq⟩, for_tup (K := K) (a := a) (xs := grp.map V.int) (fun i σ H' => ∃ y3 y5, σ = [some (.ref s), some (.ref a), some (.int ((ps.map V.ref).length : Nat)), y3, some (.ref D0), y5, none] ∧ Same H H' ∧
        ∃ rs, H' D0 = some (.lst (rs.map V.ref)) ∧ Rows fT H' rs (fill (fun p => p) (fun p => (spot st p + 1) % st.length) (lack st grp) (grp.take i)))
      ⟨none, none, rfl, sm, qs, F.at_, F.rows⟩ (fun i σ H' _ ⟨_, _, _, sm, _⟩ => (ha.mono sm).sq) ?_ ?_⟩
    · rintro i x σ H2 hi ⟨y3, y5, rfl, sm2, rs, hm, R2⟩
      obtain ⟨r, hr, rfl⟩ := int_of hi
      have hrf := ok.2 r (List.mem_of_getElem? hr)
      -- new = (counter_of(state, person) + 1) % counters
      refine ⟨_, rfl, _, rfl, s, r, n, c, st, rfl, ⟨ps, sm2 _ _ hs, R.mono sm2⟩, ⟨z, g⟩, hrf, fun H3 sm3 => ?_⟩
      refine ⟨_, _, rfl, rfl, _, rfl, _, _, rfl, rfl, by rw [R.rlen]; omega, ?_⟩
      have e1 : ((spot st r : Nat) + 1 : Int) % (((ps.map V.ref).length : Nat) : Int) = (((spot st r + 1) % st.length : Nat) : Int) := by
        rw [R.rlen]
        exact cast_mod _ 1 _
      have R3 := R2.mono sm3
      have hm3 := sm3 _ _ hm
      have hk : (spot st r + 1) % st.length < (fill (fun p => p) (fun p => (spot st p + 1) % st.length) (lack st grp) (grp.take i)).length := by
        rw [fill_len, lack_len]
        exact Nat.mod_lt _ (by omega)
      generalize hls : fill (fun p => p) (fun p => (spot st p + 1) % st.length) (lack st grp) (grp.take i) = ls at R2 R3 hk
      generalize hkk : (spot st r + 1) % st.length = k at hk e1
      have hc : ls[k]? = some ls[k] := List.getElem?_eq_getElem hk
      obtain ⟨p, h1, hp⟩ := R3.refs hc
      have hp : H3 p = some (.tup (ls[k].map V.int)) := hp
      -- lines[new] = (*lines[new], person)
      refine ⟨_, rfl, _, rfl, D0, _, _, _, rfl, rfl, SqL.of hm3, at_of e1 h1, p, _, rfl, .inl (SqT.of hp), _, rfl, ?_, fun t ht => ?_⟩
      · have hb : ls[k].length ≤ n + (grp.take i).length := by
          have := fill_bound (who := fun p => p) (to := fun p => (spot st p + 1) % st.length) (xs := grp.take i) (lack_bound g grp)
          rw [hls] at this
          exact this _ (List.getElem_mem hk)
        rw [List.length_append, List.length_map]
        have h2 : (grp.take i).length ≤ 7 := Nat.le_trans (List.length_take_le ..) (by
          have := (List.getElem?_eq_some_iff.mp hr).1
          omega)
        exact Nat.le_of_lt (small7 (by simp only [List.length_cons, List.length_nil]; omega))
      · obtain ⟨hm4, sm5, rs', hm5, R5⟩ := put_in (r := r) (sm2.trans sm3) hD hm3 R3 hc ht
        refine ⟨_, rfl, _, rfl, D0, _, _, k, rfl, rfl, hm4, ?_, _, _, rfl, sm5, rs', hm5, ?_⟩
        · rw [e1, R2.rlen]
          exact ixN_nat hk
        · rw [fill_step hr, hls, hkk]
          exact R5
    · rintro σ H2 ⟨y3, y5, rfl, sm2, rs, hm, R2⟩
      rw [List.length_map, List.take_length] at R2
      -- return tuple(lines)
      refine ⟨_, rfl, D0, _, rfl, .inl ⟨SqL.of hm, fun t ht => q t _ (same_put sm2 (sm2.free ht) _) ⟨rs, upd_same, R2.mono (same_new ht _)⟩⟩⟩
end
end G29

set_option Elab.async false
set_option linter.all false
set_option maxRecDepth 100000
set_option maxHeartbeats 4000000
namespace G29
open PySem PySem.Spec PyProof.Rows L2
/-! equal data: lists of ints, tuples of tuples of ints -/
def dI (l : List Int) : List PyData := l.map PyData.int
def dT (st : List (List Int)) : List PyData := st.map fun l => PyData.tuple (dI l)
theorem dp_ints {K : PySem.W.Frag} {H : Hp} : ∀ l : List Int, DpAll K H (l.map V.int) (dI l)
  | [] => .nil
  | a :: r => .cons (.int a) (dp_ints r)
theorem dp_rows {K : PySem.W.Frag} {H : Hp} : ∀ {ps : List Addr} {st : List (List Int)}, Rows fT H ps st → DpAll K H (ps.map V.ref) (dT st)
  | [], [], _ => .nil
  | [], _ :: _, R => by cases R.len
  | _ :: _, [], R => by cases R.len
  | p :: ps, l :: st, R => by
    obtain ⟨q, h1, h2⟩ := R.at_ 0 l rfl
    have e : p = q := by simpa using h1
    subst e
    refine .cons (.tup (SqT.of h2) (dp_ints l)) (dp_rows (ps := ps) (st := st) ⟨by simpa using R.len, fun j x hj => ?_⟩)
    obtain ⟨q, h3, h4⟩ := R.at_ (j + 1) x (by simpa using hj)
    exact ⟨q, by simpa using h3, h4⟩
theorem lay_ints : ∀ l : List Int, PyData.canLayAll0 (dI l) = true
  | [] => by simp only [dI, List.map_nil, PyData.canLayAll0]
  | a :: r => by
    have ih := lay_ints r
    unfold dI at ih
    simp only [dI, List.map_cons, PyData.canLayAll0, PyData.canLay0, ih, Bool.and_self]
theorem lay_rows : ∀ st : List (List Int), PyData.canLayAll0 (dT st) = true
  | [] => by simp only [dT, List.map_nil, PyData.canLayAll0]
  | l :: st => by
    have ih := lay_rows st
    unfold dT at ih
    simp only [dT, List.map_cons, PyData.canLayAll0, PyData.canLay0, lay_ints, ih, Bool.and_self]
theorem deep_ints : ∀ l : List Int, PyData.depthAll (dI l) ≤ 1
  | [] => by simp only [dI, List.map_nil, PyData.depthAll]; omega
  | a :: r => by
    have ih := deep_ints r
    unfold dI at ih
    simp only [dI, List.map_cons, PyData.depthAll, PyData.depth]
    omega
theorem deep_rows : ∀ st : List (List Int), PyData.depthAll (dT st) ≤ 3
  | [] => by simp only [dT, List.map_nil, PyData.depthAll]; omega
  | l :: r => by
    have ih := deep_rows r
    have h := deep_ints l
    unfold dT at ih
    simp only [dT, List.map_cons, PyData.depthAll, PyData.depth]
    omega
theorem shaped_ints (l : List Int) : SeqAt.shaped (.list (dI l)) = true := by
  unfold SeqAt.shaped
  have h := deep_ints l
  rw [Bool.and_eq_true, decide_eq_true_eq]
  refine ⟨?_, ?_⟩
  · simp only [PyData.canLay0]
    exact lay_ints l
  · simp only [PyData.depth]
    omega
theorem shaped_rows (st : List (List Int)) : SeqAt.shaped (.tuple (dT st)) = true := by
  unfold SeqAt.shaped
  have h := deep_rows st
  rw [Bool.and_eq_true, decide_eq_true_eq]
  refine ⟨?_, ?_⟩
  · simp only [PyData.canLay0]
    exact lay_rows st
  · simp only [PyData.depth]
    omega
theorem eqv_self {d : PyData} (h : SeqAt.shaped d = true) : PyData.eqv d d = true := SeqAt.eqv_refl d (SeqAt.canLay_of_shaped h)
theorem dp_st {K : PySem.W.Frag} {H : Hp} {a : Addr} {st : List (List Int)} (h : ST H a st) : Dp K H (.ref a) (.tuple (dT st)) := by
  obtain ⟨ps, h1, R⟩ := h
  exact .tup (SqT.of h1) (dp_rows R)
/-- two ascending rows of the same ints are one -/
theorem asc_uniq : ∀ {a b : List Int}, a.Pairwise (· < ·) → b.Pairwise (· < ·) → (∀ k, k ∈ a ↔ k ∈ b) → a = b
  | [], [], _, _, _ => rfl
  | [], y :: b, _, _, h => absurd ((h y).mpr (by simp)) (by simp)
  | x :: a, [], _, _, h => absurd ((h x).mp (by simp)) (by simp)
  | x :: a, y :: b, ha, hb, h => by
    rw [List.pairwise_cons] at ha hb
    have hxy : x = y := by
      rcases List.mem_cons.mp ((h x).mp (by simp)) with e | m
      · exact e
      · rcases List.mem_cons.mp ((h y).mpr (by simp)) with e | m'
        · exact e.symm
        · have h1 := hb.1 x m
          have h2 := ha.1 y m'
          omega
    subst hxy
    congr 1
    refine asc_uniq ha.2 hb.2 fun k => ?_
    constructor
    · intro m
      rcases List.mem_cons.mp ((h k).mp (by simp [m])) with e | m'
      · have := ha.1 k m
        omega
      · exact m'
    · intro m
      rcases List.mem_cons.mp ((h k).mpr (by simp [m])) with e | m'
      · have := hb.1 k m
        omega
      · exact m'
end G29

set_option Elab.async false
set_option linter.all false
set_option maxRecDepth 100000
set_option maxHeartbeats 4000000
namespace G29
open PySem PySem.Spec PyProof.Rows L2
section
variable {P : Program} {w : World} {K : PySem.W.Frag} {mg : Str → Option Value} {base : Heap} {f : Addr} {fd : FuncData}
theorem scIsGroup : FnScope ["office", "value", "person"] ["office", "value"] (defScope sIsGroup) := ⟨rfl, rfl, rfl, by decide +kernel, rfl, by decide +kernel, by decide +kernel⟩
theorem ok_isGroup (D : Def K mg "is_group" sIsGroup ["office", "value"] f fd) (T : Nm mg) (C1 : Can P w K mg base 1 "is_list" spIsList) (C2 : Can P w K mg base 2 "is_in" spIsIn) : Can P w K mg base 3 "is_group" spIsGroup := by
  refine D.can (D.F.ok scIsGroup (fun vs H Q E h => ?_) (fun cdv A outer s H vs Q E hr h => ?_))
  · obtain ⟨o, v, n, c, g, rfl, _⟩ := h
    rfl
  obtain ⟨o, v, n, c, g, rfl, ho, z, hv, ok, q⟩ := h
  have ho : H o = some (.tup [.int (n : Int), .int (c : Int)]) := ho
  have hr1 : Room 1 _ := hr.mono (by decide)
  have nd := scIsGroup.nd
  have gl := grp_len ok
  have n7 := z.n7
  refine ⟨_, pss_cons (ps_if (PW.pt (pw_or (pt_not (pt_val (pe_do C1 hr1 (by rfl) (pa_cons (pv 1) (pa_cons pe_int (pa_cons (pe_ix ix_tup (pv 0) pe_int (fun _ _ => rfl)) pa_nil))))))
      (pw_or1 (pt_not (pt_val (pe_callB (cr_all rfl) (by rfl) T.all bt_all (pa_cons
        (pe_lc (own := [("person", 2)]) (g := gName 2) (tt := tYes) (te := tDo spIsIn (tCons (tVar 2) (tCons (tC (.int 0)) (tCons (tOp (rI0 fun i j => .int (i - j)) (tOp (rIxT K) (tVar 0) (tC (.int 0))) (tC (.int 1))) tNil)))) rfl nd (pi_tup (pv 1)) (blkOk_by (own := [("person", 2)]) (N := ["office", "value", "person"]) (sc := defScope sIsGroup) (by decide +kernel))
          (fun _ _ _ _ _ => pg_name (i := 2) nd rfl (.inl rfl)) (fun _ _ _ _ _ => pts_nil)
          (fun _ _ _ _ _ => pe_do C2 hr (by rfl) (pa_cons (pv 2) (pa_cons pe_int (pa_cons (pe_op op_sub (pe_ix ix_tup (pv 0) pe_int (fun _ _ => rfl)) pe_int) pa_nil))))) pa_nil)))))))
      pss_never pss_nil)
    (pss_one (ps_ret (pe_cmpR (op_eqD hr.units) (pe_callTy call_list_of (by rfl) T.list bt_list (pa_cons (pv 1) pa_nil))
      (pe_callB (cr_sortedSet rfl) (by rfl) T.sorted bt_sorted (pa_cons (pe_callTy (cr_setTI rfl) (by rfl) T.set bt_set (pa_cons (pv 1) pa_nil)) pa_nil)) (nomark _)))), ?_⟩
  -- not is_list(value, 0, office[0])
  refine ⟨_, rfl, _, rfl, o, _, 0, .int n, rfl, rfl, SqT.of ho, atI_nat (j := 0) rfl, v, _, 0, n, rfl, hv.rd, by omega, by rw [List.length_map]; omega, true, rfl, iteF ?_⟩
  -- not all([..])
  refine ⟨_, rfl, v, rfl, ⟨_, hv.sq⟩, fun D0 hD => ?_⟩
  refine lc_tup (K := K) (a := v) (xs := g.map V.int) (fun i H' => Same H H' ∧ H' D0 = some (.lst ((List.replicate i true).map V.bl)) ∧ i ≤ g.length) ⟨same_new hD _, upd_same, Nat.zero_le _⟩ (fun i H' _ ⟨sm, _⟩ => (hv.mono sm).sq) ?_ ?_
  · rintro i x H1 hi ⟨sm, hm, hle⟩
    obtain ⟨r, hr, rfl⟩ := int_of hi
    have hr2 := mem_folk.mp (ok.2 r (List.mem_of_getElem? hr))
    have hil := (List.getElem?_eq_some_iff.mp hr).1
    refine ⟨rfl, ?_⟩
    dsimp only [tYes]
    rw [if_pos rfl]
    refine ⟨_, rfl, _, rfl, o, _, 0, .int n, rfl, rfl, SqT.of (sm _ _ ho), atI_nat (j := 0) rfl, n, 1, rfl, rfl, r, 0, _, rfl, hr2.1, by omega, _, hm, by rw [List.length_map, List.length_replicate]; exact small7 (by omega), same_put sm hD _, ?_, hil⟩
    rw [upd_same, List.replicate_succ', List.map_append]
    rfl
  · rintro H1 ⟨sm, hm, _⟩
    refine ⟨D0, List.replicate (g.map V.int).length true, rfl, SqL.of hm, ?_⟩
    have e : (List.replicate (g.map V.int).length true).all id = true := by
      rw [List.all_eq_true]
      intro b hb
      exact List.eq_of_mem_replicate hb
    rw [e]
    refine ⟨true, rfl, iteF ?_⟩
    -- return list(value) == sorted(set(value))
    refine ⟨_, rfl, v, _, rfl, .inr (hv.mono sm).sq, fun l hl => ?_⟩
    have sm1 : Same H1 (upd H1 l (.lst (g.map V.int))) := same_new hl _
    refine ⟨_, rfl, v, g, rfl, ((hv.mono sm).mono sm1).sq, by omega, fun u k hu hk => ?_⟩
    refine ⟨u, _, k, rfl, upd_same, by omega, fun ns p hasc hmem hlen hp => ?_⟩
    have sm2 := same_new hu (SetO w u (fun j => decide (j ∈ g)) k)
    have sm3 := same_new hp (.lst (ns.map V.int))
    have e : ns = g := asc_uniq hasc ok.1 fun k => by rw [hmem k, decide_eq_true_eq]
    subst e
    refine ⟨.list (dI ns), .list (dI ns), .lst (SqL.of (sm3 _ _ (sm2 _ _ upd_same))) (dp_ints ns), .lst (SqL.of upd_same) (dp_ints ns), shaped_ints ns, shaped_ints ns, ?_⟩
    rw [eqv_self (shaped_ints ns)]
    exact q _ (((sm.trans sm1).trans sm2).trans sm3)
theorem scNeedGroups : FnScope ["office", "groups", "index", "group"] ["office", "groups"] (defScope sNeedGroups) := ⟨rfl, rfl, rfl, by decide +kernel, rfl, by decide +kernel, by decide +kernel⟩
theorem ok_needGroups (D : Def K mg "need_groups" sNeedGroups ["office", "groups"] f fd) (T : Nm mg) (C1 : Can P w K mg base 1 "is_list" spIsList) (C2 : Can P w K mg base 3 "is_group" spIsGroup) : Can P w K mg base 4 "need_groups" spNeedGroups := by
  refine D.can (D.F.ok scNeedGroups (fun vs H Q E h => ?_) (fun cdv A outer s H vs Q E hr h => ?_))
  · obtain ⟨o, v, n, c, gs, rfl, _⟩ := h
    rfl
  obtain ⟨o, v, n, c, gs, rfl, ho, z, ⟨ps, hv, R⟩, h30, ok, q⟩ := h
  have ho : H o = some (.tup [.int (n : Int), .int (c : Int)]) := ho
  obtain ⟨t1, g1⟩ := T.mq
  have hr1 : Room 1 _ := hr.mono (by decide)
  have nd := scNeedGroups.nd
  refine ⟨_, pss_cons (ps_if (pt_not (pt_val (pe_do C1 hr1 (by rfl) (pa_cons (pv 1) (pa_cons pe_int (pa_cons (pe_glob (v := .int 30) (by rfl) g1 ⟨_, rfl⟩) pa_nil)))))) pss_never pss_nil)
    (pss_one (ps_for PassesOwn.never rfl (pi_enT (by rfl) T.enum (pa_cons (pv 1) pa_nil)) (pg_tup rfl (pgs_cons (pg_name (i := 2) nd rfl (.inl rfl)) (pgs_cons (pg_name (i := 3) nd rfl (.inl rfl)) pgs_nil)))
      (pss_one (ps_if (pt_not (pt_val (pe_do C2 hr (by rfl) (pa_cons (pv 0) (pa_cons (pv 3) pa_nil))))) pss_never pss_nil)))), ?_⟩
  refine ⟨_, rfl, v, _, 0, 30, rfl, .inl hv, by omega, by rw [R.rlen]; omega, true, rfl, iteF ?_⟩
  refine ⟨_, rfl, v, _, rfl, SqT.of hv, for_it walk_enT (fun i σ H' => ∃ y2 y3, σ = [some (.ref o), some (.ref v), y2, y3] ∧ Same H H') ⟨none, none, rfl, Same.refl _⟩ (fun i σ H' _ ⟨_, _, _, sm⟩ => SqT.of (sm _ _ hv)) ?_ ?_⟩
  · rintro i x σ H1 H2 hi ⟨y2, y3, rfl, sm⟩ ⟨U, x0, x1, rfl, nU, rfl, e0, e1⟩
    cases e0
    obtain ⟨p, l, rfl, hl, hp⟩ := R.ref e1
    have sm2 : Same H (upd H1 U (.tup [.int (i : Nat), .ref p])) := same_put sm (sm.free nU) _
    refine ⟨U, _, rfl, SqT.of upd_same, rfl, _, _, rfl, _, _, rfl, rfl, ?_⟩
    refine ⟨_, rfl, _, rfl, o, p, n, c, l, rfl, sm2 _ _ ho, z, hp.mono sm2, ok l (List.mem_of_getElem? hl), fun H3 sm3 => ⟨true, rfl, iteF ⟨_, _, rfl, sm2.trans sm3⟩⟩⟩
  · rintro σ H1 ⟨y2, y3, rfl, sm⟩
    exact q _ sm
theorem scNeedState : FnScope ["office", "state"] ["office", "state"] (defScope sNeedState) := ⟨rfl, rfl, rfl, by decide +kernel, rfl, by decide +kernel, by decide +kernel⟩
theorem ok_needState (D : Def K mg "need_state" sNeedState ["office", "state"] f fd) (C1 : Can P w K mg base 3 "need_office" spNeedOffice) (C2 : Can P w K mg base 3 "need_lines" spNeedLines) : Can P w K mg base 4 "need_state" spNeedLines := by
  refine D.can (D.F.ok scNeedState (fun vs H Q E h => ?_) (fun cdv A outer s H vs Q E hr h => ?_))
  · obtain ⟨o, s, n, c, st, rfl, _⟩ := h
    rfl
  obtain ⟨o, s, n, c, st, rfl, ho, hs, ft, q⟩ := h
  refine ⟨_, pss_cons (ps_expr (pe_do C1 hr (by rfl) (pa_cons (pv 0) pa_nil))) (pss_one (ps_expr (pe_do C2 hr (by rfl) (pa_cons (pv 0) (pa_cons (pv 1) pa_nil))))), ?_⟩
  exact ⟨_, rfl, o, n, c, rfl, ho, ft.z, _, rfl, _, rfl, o, s, n, c, st, rfl, ho, hs, ft, fun H1 sm => q H1 sm⟩
theorem scNeedPlan : FnScope ["office", "plan"] ["office", "plan"] (defScope sNeedPlan) := ⟨rfl, rfl, rfl, by decide +kernel, rfl, by decide +kernel, by decide +kernel⟩
theorem ok_needPlan (D : Def K mg "need_plan" sNeedPlan ["office", "plan"] f fd) (C1 : Can P w K mg base 3 "need_office" spNeedOffice) (C2 : Can P w K mg base 3 "need_pairs" spNeedPairs) : Can P w K mg base 4 "need_plan" spNeedPairs := by
  refine D.can (D.F.ok scNeedPlan (fun vs H Q E h => ?_) (fun cdv A outer s H vs Q E hr h => ?_))
  · obtain ⟨o, pl, n, c, plan, rfl, _⟩ := h
    rfl
  obtain ⟨o, pl, n, c, plan, rfl, ho, z, hp, ok, q⟩ := h
  refine ⟨_, pss_cons (ps_expr (pe_do C1 hr (by rfl) (pa_cons (pv 0) pa_nil))) (pss_one (ps_expr (pe_do C2 hr (by rfl) (pa_cons (pv 0) (pa_cons (pv 1) pa_nil))))), ?_⟩
  exact ⟨_, rfl, o, n, c, rfl, ho, z, _, rfl, _, rfl, o, pl, n, c, plan, rfl, ho, z, hp, ok, fun H1 sm => q H1 sm⟩
theorem scAct : FnScope ["office", "plan", "state"] ["office", "plan", "state"] (defScope sAct) := ⟨rfl, rfl, rfl, by decide +kernel, rfl, by decide +kernel, by decide +kernel⟩
theorem ok_act (D : Def K mg "act" sAct ["office", "plan", "state"] f fd) (C1 : Can P w K mg base 4 "need_plan" spNeedPairs) (C2 : Can P w K mg base 3 "need_lines" spNeedLines) (C3 : Can P w K mg base 2 "act_in" spActIn) : Can P w K mg base 5 "act" spAct := by
  refine D.can (D.F.ok scAct (fun vs H Q E h => ?_) (fun cdv A outer s H vs Q E hr h => ?_))
  · obtain ⟨o, pl, s, n, c, plan, st, rfl, _⟩ := h
    rfl
  obtain ⟨o, pl, s, n, c, plan, st, rfl, ho, hp, hs, ft, ok, q⟩ := h
  refine ⟨_, pss_cons (ps_expr (pe_do C1 hr (by rfl) (pa_cons (pv 0) (pa_cons (pv 1) pa_nil)))) (pss_cons (ps_expr (pe_do C2 (hr.mono (by decide)) (by rfl) (pa_cons (pv 0) (pa_cons (pv 2) pa_nil))))
    (pss_one (ps_ret (pe_do C3 (hr.mono (by decide)) (by rfl) (pa_cons (pv 1) (pa_cons (pv 2) pa_nil)))))), ?_⟩
  refine ⟨_, rfl, _, rfl, o, pl, n, c, plan, rfl, ho, ft.z, hp, ok, fun H1 sm1 => ?_⟩
  refine ⟨_, rfl, _, rfl, o, s, n, c, st, rfl, sm1 _ _ ho, hs.mono sm1, ft, fun H2 sm2 => ?_⟩
  have sm := sm1.trans sm2
  exact ⟨_, rfl, _, rfl, pl, s, n, c, plan, st, rfl, hp.mono sm, hs.mono sm, ft, ok, fun t H3 sm3 ht => q t H3 (sm.trans sm3) ht⟩
theorem scAfter : FnScope ["office", "state", "groups", "group"] ["office", "state", "groups"] (defScope sAfter) := ⟨rfl, rfl, rfl, by decide +kernel, rfl, by decide +kernel, by decide +kernel⟩
theorem crew_fit {n c : Nat} {st : List (List Int)} {g : List Int} (h : Fit n c st) (ok : GrpOk n g) : Fit n c (crew st g) := by
  refine ⟨h.z, ?_⟩
  rw [crew_rings h.g h.z.c1 (nodup_asc ok.1) ok.2]
  exact rings_good h.z.c1 h.g ok.2
theorem crews_fit {n c : Nat} : ∀ {gs : List (List Int)} {st : List (List Int)}, Fit n c st → (∀ g ∈ gs, GrpOk n g) → Fit n c (crews st gs)
  | [], _, h, _ => h
  | g :: r, st, h, ok => crews_fit (gs := r) (crew_fit h (ok g (by simp))) fun k hk => ok k (by simp [hk])
theorem ok_after (D : Def K mg "after_groups" sAfter ["office", "state", "groups"] f fd) (C1 : Can P w K mg base 4 "need_state" spNeedLines) (C2 : Can P w K mg base 4 "need_groups" spNeedGroups) (C3 : Can P w K mg base 2 "call_group_in" spCrew) : Can P w K mg base 5 "after_groups" spAfter := by
  refine D.can (D.F.ok scAfter (fun vs H Q E h => ?_) (fun cdv A outer s H vs Q E hr h => ?_))
  · obtain ⟨o, s, v, n, c, st, gs, rfl, _⟩ := h
    rfl
  obtain ⟨o, s, v, n, c, st, gs, rfl, ho, hs, ⟨ps, hv, R⟩, ft, h30, ok, q⟩ := h
  have nd := scAfter.nd
  refine ⟨_, pss_cons (ps_expr (pe_do C1 hr (by rfl) (pa_cons (pv 0) (pa_cons (pv 1) pa_nil)))) (pss_cons (ps_expr (pe_do C2 hr (by rfl) (pa_cons (pv 0) (pa_cons (pv 2) pa_nil))))
    (pss_cons (ps_for PassesOwn.never rfl (pi_tup (pv 2)) (pg_name (i := 3) nd rfl (.inl rfl)) (pss_one (ps_set (i := 1) nd rfl (.inl rfl) (pe_do C3 (hr.mono (by decide)) (by rfl) (pa_cons (pv 1) (pa_cons (pv 3) pa_nil))))))
    (pss_one (ps_ret (pv 1))))), ?_⟩
  refine ⟨_, rfl, _, rfl, o, s, n, c, st, rfl, ho, hs, ft, fun H1 sm1 => ?_⟩
  refine ⟨_, rfl, _, rfl, o, v, n, c, gs, rfl, sm1 _ _ ho, ft.z, ⟨ps, sm1 _ _ hv, R.mono sm1⟩, h30, ok, fun H2 sm2 => ?_⟩
  have sm := sm1.trans sm2
  refine ⟨_, rfl, v, rfl, ⟨_, SqT.of (sm _ _ hv)⟩, for_tup (K := K) (a := v) (xs := ps.map V.ref) (fun i σ H' => ∃ y t, σ = [some (.ref o), some (.ref t), some (.ref v), y] ∧ Same H H' ∧ ST H' t (crews st (gs.take i)))
    ⟨none, s, rfl, sm, hs.mono sm⟩ (fun i σ H' _ ⟨_, _, _, sm, _⟩ => SqT.of (sm _ _ hv)) ?_ ?_⟩
  · rintro i x σ H3 hi ⟨y, t, rfl, sm3, ht⟩
    obtain ⟨p, l, rfl, hl, hp⟩ := R.ref hi
    have okl := ok l (List.mem_of_getElem? hl)
    refine ⟨_, rfl, _, rfl, t, p, n, c, _, l, rfl, ht, hp.mono sm3, crews_fit ft fun k hk => ok k (List.mem_of_mem_take hk), okl, fun u H4 sm4 hu => ?_⟩
    refine ⟨_, u, rfl, sm3.trans sm4, ?_⟩
    have e : crews st (gs.take (i + 1)) = crew (crews st (gs.take i)) l := foldl_take _ _ hl
    rw [e]
    exact hu
  · rintro σ H3 ⟨y, t, rfl, sm3, ht⟩
    rw [R.rlen, List.take_length] at ht
    exact ⟨_, rfl, q t H3 sm3 ht⟩
end
end G29

set_option Elab.async false
set_option linter.all false
set_option maxRecDepth 100000
set_option maxHeartbeats 4000000
namespace G29
open PySem PySem.Spec PyProof.Rows L2
/-! ### plans: the plain part -/
theorem take_new {α : Type} {l : List α} {i : Nat} {x : α} (hn : l.Nodup) (h : l[i]? = some x) : x ∉ l.take i := by
  obtain ⟨hi, e⟩ := List.getElem?_eq_some_iff.mp h
  have e1 : l = l.take i ++ x :: l.drop (i + 1) := by
    rw [← e, List.getElem_cons_drop, List.take_append_drop]
  rw [e1, List.nodup_append] at hn
  exact fun z => hn.2.2 x z x (by simp) rfl
theorem keys_new {plan : List (Int × Nat)} {i : Nat} {x : Int × Nat} (hn : (plan.map (·.1)).Nodup) (h : plan[i]? = some x) : x.1 ∉ (plan.take i).map (·.1) := by
  rw [List.map_take]
  exact take_new hn (by rw [List.getElem?_map, h]; rfl)
/-- a dict of numbers -/
def dk (d : List (Int × Nat)) : List (Key × V) := d.map fun x => (Sum.inl x.1, V.int (x.2 : Int))
theorem dk_val (d : List (Int × Nat)) (p : Int) : valV (dk d) (Sum.inl p) = (d.lookup p).map (fun (m : Nat) => V.int (m : Int)) := by
  induction d with
  | nil => rfl
  | cons x r ih =>
    obtain ⟨k, v⟩ := x
    show valV ((Sum.inl k, V.int (v : Int)) :: dk r) (Sum.inl p) = _
    by_cases h : k = p
    · subst h
      rw [valV_pos rfl, List.lookup_cons_self]
      rfl
    · have ne : (p == k) = false := beq_eq_false_iff_ne.mpr fun e => h e.symm
      rw [valV_neg (fun e => h (Sum.inl.inj e)), ih, List.lookup_cons, ne]
theorem dk_drop (d : List (Int × Nat)) (p : Int) : dropK (dk d) (Sum.inl p) = dk (d.filter fun x => decide (x.1 ≠ p)) := by
  unfold dropK dk
  rw [List.filter_map]
  congr 1
  apply List.filter_congr
  intro x _
  show decide ((Sum.inl x.1 : Key) ≠ Sum.inl p) = decide (x.1 ≠ p)
  by_cases h : x.1 = p <;> simp [h]
theorem dk_put {d : List (Int × Nat)} {p : Int} (m : Nat) (h : d.lookup p = none) : putK (dk d) (Sum.inl p) (V.int (m : Int)) = dk (d ++ [(p, m)]) := by
  rw [putK_new _ (by rw [dk_val, h]; rfl)]
  unfold dk
  rw [List.map_append]
  rfl
theorem lookup_filter (d : List (Int × Nat)) (p : Int) : (d.filter fun x => decide (x.1 ≠ p)).lookup p = none := by
  apply lookup_none
  intro h
  obtain ⟨x, hx, e⟩ := List.mem_map.mp h
  have := of_decide_eq_true (List.mem_filter.mp hx).2
  exact this e
theorem dk_len (d : List (Int × Nat)) : (dk d).length = d.length := by simp [dk]
theorem Rows.drop {α : Type} {f : α → HO} {H : Hp} {ps : List Addr} {xs : List α} (R : Rows f H ps xs) (k : Nat) : Rows f H (ps.drop k) (xs.drop k) := by
  refine ⟨by rw [List.length_drop, List.length_drop, R.len], fun j x h => ?_⟩
  rw [List.getElem?_drop] at h
  obtain ⟨p, h1, h2⟩ := R.at_ _ x h
  exact ⟨p, by rw [List.getElem?_drop]; exact h1, h2⟩
theorem cut_one (xs : List V) : cutV xs (some 1) none = xs.drop 1 := by
  unfold cutV
  rw [show HT.sIx xs.length 0 (some 1) = min 1 xs.length from HT.sIx_nat xs.length 0 1, HT.sIx_none]
  cases xs with
  | nil => rfl
  | cons x r =>
    rw [show min 1 (x :: r).length = 1 by rw [List.length_cons]; omega]
    show List.take ((x :: r).length - 1) r = r
    rw [List.length_cons, Nat.add_sub_cancel]
    exact List.take_length
theorem least_cut {n : Nat} {x : Int × Nat} {r : List (Int × Nat)} (h : (x :: r).length = n) (h0 : x.2 = 0) : least n (x :: r) = (x :: r).drop 1 := by
  unfold least
  rw [if_pos ⟨h, by simp [h0]⟩]
theorem least_keep {n : Nat} {x : Int × Nat} {r : List (Int × Nat)} (h0 : ¬ x.2 = 0) : least n (x :: r) = x :: r := by
  unfold least
  rw [if_neg (fun z => h0 (by simpa using z.2))]
theorem least_short {n : Nat} {plan : List (Int × Nat)} (h : ¬ plan.length = n) : least n plan = plan := by
  unfold least
  rw [if_neg (fun z => h z.1)]
theorem dec_intN (a b : Nat) : decide (V.int (a : Int) = V.int (b : Int)) = decide (a = b) := by
  by_cases h : a = b
  · subst h
    simp
  · have h' : ¬ V.int (a : Int) = V.int (b : Int) := fun e => h (by have := V.int.inj e; omega)
    rw [decide_eq_false h, decide_eq_false h']
section
variable {P : Program} {w : World} {K : PySem.W.Frag} {mg : Str → Option Value} {base : Heap} {f : Addr} {fd : FuncData}
theorem scNeedPairs : FnScope ["office", "plan", "met", "index", "pair"] ["office", "plan"] (defScope sNeedPairs) := ⟨rfl, rfl, rfl, by decide +kernel, rfl, by decide +kernel, by decide +kernel⟩
theorem ok_needPairs (D : Def K mg "need_pairs" sNeedPairs ["office", "plan"] f fd) (T : Nm mg) (C1 : Can P w K mg base 1 "is_list" spIsList) (C2 : Can P w K mg base 2 "is_in" spIsIn) : Can P w K mg base 3 "need_pairs" spNeedPairs := by
  refine D.can (D.F.ok scNeedPairs (fun vs H Q E h => ?_) (fun cdv A outer s H vs Q E hr h => ?_))
  · obtain ⟨o, pl, n, c, plan, rfl, _⟩ := h
    rfl
  obtain ⟨o, pl, n, c, plan, rfl, ho, z, ⟨ps, hp, R⟩, ok, q⟩ := h
  have ho : H o = some (.tup [.int (n : Int), .int (c : Int)]) := ho
  have hr1 : Room 1 _ := hr.mono (by decide)
  have hu := hu_of hr
  have nd := scNeedPairs.nd
  have hl := ok.len
  have n7 := z.n7
  refine ⟨_, pss_cons (ps_if (pt_not (pt_val (pe_do C1 hr1 (by rfl) (pa_cons (pv 1) (pa_cons pe_int (pa_cons (pe_ix ix_tup (pv 0) pe_int (fun _ _ => rfl)) pa_nil)))))) pss_never pss_nil)
    (pss_cons (ps_set (i := 2) nd rfl (.inl rfl) pe_dnewK)
    (pss_one (ps_for PassesOwn.never rfl (pi_enT (by rfl) T.enum (pa_cons (pv 1) pa_nil)) (pg_tup rfl (pgs_cons (pg_name (i := 3) nd rfl (.inl rfl)) (pgs_cons (pg_name (i := 4) nd rfl (.inl rfl)) pgs_nil)))
      (pss_cons (ps_if (PW.pt (pw_or (pt_not (pt_val (pe_do C1 hr1 (by rfl) (pa_cons (pv 4) (pa_cons pe_int (pa_cons pe_int pa_nil))))))
        (pw_or (pt_not (pt_val (pe_do C2 hr (by rfl) (pa_cons (pe_ix ix_tup (pv 4) pe_int (fun _ _ => rfl)) (pa_cons pe_int (pa_cons (pe_op op_sub (pe_ix ix_tup (pv 0) pe_int (fun _ _ => rfl)) pe_int) pa_nil))))))
        (pw_or1 (pt_not (pt_val (pe_do C2 hr (by rfl) (pa_cons (pe_ix ix_tup (pv 4) pe_int (fun _ _ => rfl)) (pa_cons pe_int (pa_cons (pe_op op_sub (pe_ix ix_tup (pv 0) pe_int (fun _ _ => rfl)) pe_int) pa_nil)))))))))) pss_never pss_nil)
      (pss_cons (ps_if (pt_cmp (pc_din hu (pe_ix ix_tup (pv 4) pe_int (fun _ _ => rfl)) (pv 2))) pss_never pss_nil)
      (pss_one (ps_dput hu (pv 2) (pe_ix ix_tup (pv 4) pe_int (fun _ _ => rfl)) pe_bl rfl))))))), ?_⟩
  refine ⟨_, rfl, _, rfl, o, _, 0, .int n, rfl, rfl, SqT.of ho, atI_nat (j := 0) rfl, pl, _, 0, n, rfl, .inl hp, by omega, by rw [R.rlen]; omega, true, rfl, iteF ?_⟩
  intro d hd
  have hp1 : (upd H d (.dK [])) pl = some (.tup (ps.map V.ref)) := same_new hd _ _ _ hp
  refine ⟨_, rfl, pl, _, rfl, SqT.of hp1, for_it walk_enT (fun i σ H' => ∃ y3 y4, σ = [some (.ref o), some (.ref pl), some (.ref d), y3, y4] ∧ Same H H' ∧ H' d = some (.dK (met ((plan.take i).map (·.1)))))
    ⟨none, none, rfl, same_new hd _, upd_same⟩ (fun i σ H' _ ⟨_, _, _, sm, _⟩ => SqT.of (sm _ _ hp)) ?_ ?_⟩
  · rintro i x σ H1 H2 hi ⟨y3, y4, rfl, sm, hm⟩ ⟨U, x0, x1, rfl, nU, rfl, e0, e1⟩
    cases e0
    obtain ⟨p, x, rfl, _, hx, hpp⟩ := R.ref e1
    have hpp : H p = some (.tup [.int x.1, .int (x.2 : Int)]) := hpp
    have sm2 : Same H (upd H1 U (.tup [.int (i : Nat), .ref p])) := same_put sm (sm.free nU) _
    have hm2 : (upd H1 U (.tup [.int (i : Nat), .ref p])) d = some (.dK (met ((plan.take i).map (·.1)))) := by
      rw [upd_ne (ne_of_none hm nU)]
      exact hm
    obtain ⟨w1, w2⟩ := ok.who x (List.mem_of_getElem? hx)
    have w1 := mem_folk.mp w1
    have hp2 := sm2 _ _ hpp
    have ho2 := sm2 _ _ ho
    have hil := (List.getElem?_eq_some_iff.mp hx).1
    have hnew := keys_new ok.nodup hx
    refine ⟨U, _, rfl, SqT.of upd_same, rfl, _, _, rfl, _, _, rfl, rfl, ?_⟩
    refine ⟨_, rfl, p, _, 2, 2, rfl, .inl hp2, (by show (2 : Int) ≤ 2; decide), (by show (2 : Int) ≤ 2; decide), true, rfl, iteF ?_⟩
    refine ⟨_, rfl, p, _, 0, .int x.1, rfl, rfl, SqT.of hp2, atI_nat (j := 0) rfl, _, rfl, o, _, 0, .int n, rfl, rfl, SqT.of ho2, atI_nat (j := 0) rfl, n, 1, rfl, rfl, x.1, 0, _, rfl, w1.1, by omega, true, rfl, iteF ?_⟩
    refine ⟨_, rfl, p, _, 1, .int x.2, rfl, rfl, SqT.of hp2, atI_nat (j := 1) rfl, _, rfl, o, _, 1, .int c, rfl, rfl, SqT.of ho2, atI_nat (j := 1) rfl, c, 1, rfl, rfl, x.2, 0, _, rfl, by omega, by omega, true, rfl, iteF ?_⟩
    refine ⟨_, rfl, p, _, 0, .int x.1, rfl, rfl, SqT.of hp2, atI_nat (j := 0) rfl, _, rfl, d, _, rfl, DGet.k (k := Sum.inl x.1) hm2, _, rfl, ?_⟩
    rw [met_none hnew]
    refine iteF ?_
    have hz : (met ((plan.take i).map (·.1))).length < sizeLine := by
      rw [met_len, List.length_map, List.length_take]
      exact small7 (by omega)
    refine ⟨_, rfl, _, rfl, p, _, 0, .int x.1, rfl, rfl, SqT.of hp2, atI_nat (j := 0) rfl, d, _, rfl, DPut.k (k := Sum.inl x.1) hm2 hz, ?_⟩
    refine ⟨_, _, rfl, same_put sm2 hd _, ?_⟩
    rw [upd_same, met_put hnew, List.take_add_one, hx, List.map_append]
    rfl
  · rintro σ H1 ⟨y3, y4, rfl, sm, hm⟩
    exact q _ sm
theorem scLeastIn : FnScope ["office", "plan"] ["office", "plan"] (defScope sLeastIn) := ⟨rfl, rfl, rfl, by decide +kernel, rfl, by decide +kernel, by decide +kernel⟩
theorem ok_leastIn (D : Def K mg "least_in" sLeastIn ["office", "plan"] f fd) (T : Nm mg) : Can P w K mg base 1 "least_in" spLeast := by
  refine D.can (D.F.ok scLeastIn (fun vs H Q E h => ?_) (fun cdv A outer s H vs Q E hr h => ?_))
  · obtain ⟨o, pl, n, c, plan, rfl, _⟩ := h
    rfl
  obtain ⟨o, pl, n, c, plan, rfl, ho, z, ⟨ps, hp, R⟩, hl, q⟩ := h
  have ho : H o = some (.tup [.int (n : Int), .int (c : Int)]) := ho
  refine ⟨_, pss_cons (ps_if (PW.pt (pw_and (pt_cmpR op_eq (pe_callB call_len_seq (by rfl) T.len PySem.boot_len (pa_cons (pv 1) pa_nil)) (pe_ix ix_tup (pv 0) pe_int (fun _ _ => rfl)) (nomark _))
      (pw_and1 (pt_cmpR op_eq (pe_ix ix_tup (pe_ix ix_tup (pv 1) pe_int (fun _ _ => rfl)) pe_int (fun _ _ => rfl)) pe_int (nomark _)))))
      (pss_one (ps_ret (pe_slice sl_tup (pv 1) (po_some pe_int) po_none))) pss_nil)
    (pss_one (ps_ret (pv 1))), ?_⟩
  have no : ∀ Q' : VK, (least n plan = plan) → Q' = Q → ∃ v, ([some (V.ref o), some (V.ref pl)] : L2.St)[1]? = some (some v) ∧ Q' v H := fun Q' e eq => by
    subst eq
    exact ⟨_, rfl, q pl H (Same.refl _) (by rw [e]; exact ⟨ps, hp, R⟩)⟩
  refine ⟨_, rfl, pl, _, rfl, .inr (SqT.of hp), _, rfl, o, _, 0, .int n, rfl, rfl, SqT.of ho, atI_nat (j := 0) rfl, rfl, _, rfl, ?_⟩
  rw [R.rlen, dec_intN]
  by_cases hn : plan.length = n
  · rw [decide_eq_true hn]
    cases plan with
    | nil =>
      have := z.n1
      simp at hn
      omega
    | cons x r =>
      obtain ⟨p0, h1, h2⟩ := R.refs (j := 0) (x := x) rfl
      have h2 : H p0 = some (.tup [.int x.1, .int (x.2 : Int)]) := h2
      refine iteT ⟨_, rfl, pl, _, 0, .ref p0, rfl, rfl, SqT.of hp, atI_nat (j := 0) h1, p0, _, 1, .int x.2, rfl, rfl, SqT.of h2, atI_nat (j := 1) rfl, rfl, _, rfl, ?_⟩
      by_cases h0 : x.2 = 0
      · have e : decide (V.int (x.2 : Int) = V.int 0) = true := by rw [h0]; rfl
        rw [e]
        refine iteT ⟨_, rfl, 1, rfl, pl, _, rfl, SqT.of hp, ?_, fun t ht => ?_⟩
        · rw [show HT.sIx (ps.map V.ref).length 0 (some 1) = min 1 (ps.map V.ref).length from HT.sIx_nat _ 0 1, R.rlen, List.length_cons]
          omega
        · refine q t _ (same_new ht _) ?_
          rw [least_cut hn h0]
          exact ⟨ps.drop 1, by rw [upd_same, cut_one, List.map_drop], (R.drop 1).mono (same_new ht _)⟩
      · have e : decide (V.int (x.2 : Int) = V.int 0) = false := decide_eq_false fun e => h0 (by have := V.int.inj e; omega)
        rw [e]
        exact iteF (no _ (least_keep h0) rfl)
  · rw [decide_eq_false hn]
    exact iteF (no _ (least_short hn) rfl)
theorem scLeast : FnScope ["_law_office_here", "_law_plan_here"] ["_law_office_here", "_law_plan_here"] (defScope sLeast) := ⟨rfl, rfl, rfl, by decide +kernel, rfl, by decide +kernel, by decide +kernel⟩
theorem ok_least (D : Def K mg "_law_least" sLeast ["_law_office_here", "_law_plan_here"] f fd) (T : Nm mg) : Can P w K mg base 1 "_law_least" spLeast := by
  refine D.can (D.F.ok scLeast (fun vs H Q E h => ?_) (fun cdv A outer s H vs Q E hr h => ?_))
  · obtain ⟨o, pl, n, c, plan, rfl, _⟩ := h
    rfl
  obtain ⟨o, pl, n, c, plan, rfl, ho, z, ⟨ps, hp, R⟩, hl, q⟩ := h
  have ho : H o = some (.tup [.int (n : Int), .int (c : Int)]) := ho
  refine ⟨_, pss_one (ps_ret (pe_ifExp (PW.pt (pw_and (pt_cmpR op_eq (pe_callB call_len_seq (by rfl) T.len PySem.boot_len (pa_cons (pv 1) pa_nil)) (pe_ix ix_tup (pv 0) pe_int (fun _ _ => rfl)) (nomark _))
      (pw_and1 (pt_cmpR op_eq (pe_ix ix_tup (pe_ix ix_tup (pv 1) pe_int (fun _ _ => rfl)) pe_int (fun _ _ => rfl)) pe_int (nomark _)))))
      (pe_slice sl_tup (pv 1) (po_some pe_int) po_none) (pv 1))), ?_⟩
  have no : ∀ Q' : VK, (least n plan = plan) → Q' = Q → ∃ v, ([some (V.ref o), some (V.ref pl)] : L2.St)[1]? = some (some v) ∧ Q' v H := fun Q' e eq => by
    subst eq
    exact ⟨_, rfl, q pl H (Same.refl _) (by rw [e]; exact ⟨ps, hp, R⟩)⟩
  refine ⟨_, rfl, pl, _, rfl, .inr (SqT.of hp), _, rfl, o, _, 0, .int n, rfl, rfl, SqT.of ho, atI_nat (j := 0) rfl, rfl, _, rfl, ?_⟩
  rw [R.rlen, dec_intN]
  by_cases hn : plan.length = n
  · rw [decide_eq_true hn]
    cases plan with
    | nil =>
      have := z.n1
      simp at hn
      omega
    | cons x r =>
      obtain ⟨p0, h1, h2⟩ := R.refs (j := 0) (x := x) rfl
      have h2 : H p0 = some (.tup [.int x.1, .int (x.2 : Int)]) := h2
      refine iteT ⟨_, rfl, pl, _, 0, .ref p0, rfl, rfl, SqT.of hp, atI_nat (j := 0) h1, p0, _, 1, .int x.2, rfl, rfl, SqT.of h2, atI_nat (j := 1) rfl, rfl, _, rfl, ?_⟩
      by_cases h0 : x.2 = 0
      · have e : decide (V.int (x.2 : Int) = V.int 0) = true := by rw [h0]; rfl
        rw [e]
        refine iteT ⟨_, rfl, 1, rfl, pl, _, rfl, SqT.of hp, ?_, fun t ht => ?_⟩
        · rw [show HT.sIx (ps.map V.ref).length 0 (some 1) = min 1 (ps.map V.ref).length from HT.sIx_nat _ 0 1, R.rlen, List.length_cons]
          omega
        · refine q t _ (same_new ht _) ?_
          rw [least_cut hn h0]
          exact ⟨ps.drop 1, by rw [upd_same, cut_one, List.map_drop], (R.drop 1).mono (same_new ht _)⟩
      · have e : decide (V.int (x.2 : Int) = V.int 0) = false := decide_eq_false fun e => h0 (by have := V.int.inj e; omega)
        rw [e]
        exact iteF (no _ (least_keep h0) rfl)
  · rw [decide_eq_false hn]
    exact iteF (no _ (least_short hn) rfl)
end
end G29

set_option Elab.async false
set_option linter.all false
set_option maxRecDepth 100000
set_option maxHeartbeats 4000000
namespace G29
open PySem PySem.Spec PyProof.Rows L2
section
variable {P : Program} {w : World} {K : PySem.W.Frag} {mg : Str → Option Value} {base : Heap} {f : Addr} {fd : FuncData}
theorem scActIn : FnScope ["plan", "state", "person", "number", "called", "lines", "new", "line"] ["plan", "state"] (defScope sActIn) := ⟨rfl, rfl, rfl, by decide +kernel, rfl, by decide +kernel, by decide +kernel⟩
abbrev scActO : Scope := lcScope (asgVal (nthStmt (defBody sActIn) 1))
theorem ok_actIn (D : Def K mg "act_in" sActIn ["plan", "state"] f fd) (T : Nm mg) (C1 : Can P w K mg base 1 "counter_of" spSpot) : Can P w K mg base 2 "act_in" spActIn := by
  refine D.can (D.F.ok scActIn (fun vs H Q E h => ?_) (fun cdv A outer s H vs Q E hr h => ?_))
  · obtain ⟨pl, s, n, c, plan, st, rfl, _⟩ := h
    rfl
  obtain ⟨pl, s, n, c, plan, st, rfl, ⟨pp, hp, RP⟩, ⟨ps, hs, R⟩, ⟨z, g⟩, ok, q⟩ := h
  have hu := hu_of hr
  have nd := scActIn.nd
  refine ⟨_, pss_cons (ps_set (i := 4) nd rfl (.inr rfl)
      (pe_dc (own := [("person", 2), ("number", 3)]) (g := gTup K 2 (gCons (gName 2) (gCons (gName 3) gNil))) (tt := tYes) (tk := tVar 2) (tv := tVar 3) rfl nd (pi_tup (pv 0))
        (blkOk_by (own := [("person", 2), ("number", 3)]) (N := ["plan", "state", "person", "number", "called", "lines", "new", "line"]) (sc := defScope sActIn) (by decide +kernel))
        (fun _ _ _ _ _ => pg_tup rfl (pgs_cons (pg_name (i := 2) nd rfl (.inl rfl)) (pgs_cons (pg_name (i := 3) nd rfl (.inl rfl)) pgs_nil))) (fun _ _ _ _ _ => pts_nil) (fun _ _ _ _ _ => pv 2) (fun _ _ _ _ _ => pv 3)))
    (pss_cons (ps_setLc (i := 5) (own := [("line", 7)]) (g := gName 7) (tt := tYes) (te := tCB (rTuple K) (tCons (tLc (iTup K (tVar 7)) (gName 2) (tB (tDNotIn (tVar 2) (tVar 4))) (tVar 2) [2]) tNil)) rfl nd rfl rfl (sw_true rfl rfl rfl (by decide +kernel)) (pi_tup (pv 1))
      (blkOk_by (own := [("line", 7)]) (N := ["plan", "state", "person", "number", "called", "lines", "new", "line"]) (sc := defScope sActIn) (by decide +kernel))
      (fun _ _ _ _ _ => pg_name (i := 7) nd rfl (.inl rfl)) (fun _ _ _ _ _ => pts_nil)
      (fun _ _ _ _ _ => pe_callTy cr_tuple (by rfl) T.tuple bt_tuple (pa_cons
        (pe_lc (own := [("person", 2)]) (g := gName 2) (tt := tB (tDNotIn (tVar 2) (tVar 4))) (te := tVar 2) rfl nd (pi_tup (pv 7))
          (blkOk_by (own := [("person", 2)]) (N := ["plan", "state", "person", "number", "called", "lines", "new", "line"]) (sc := relS scActO (defScope sActIn)) (by decide +kernel))
          (fun _ _ _ _ _ => pg_name (i := 2) nd rfl (.inl rfl)) (fun _ _ _ _ _ => pts_one (pt_cmp (pc_dnotin hu (pv 2) (pv 4)))) (fun _ _ _ _ _ => pv 2)) pa_nil)))
    (pss_cons (ps_for PassesOwn.never rfl (pi_tup (pv 0)) (pg_tup rfl (pgs_cons (pg_name (i := 2) nd rfl (.inl rfl)) (pgs_cons (pg_name (i := 3) nd rfl (.inl rfl)) pgs_nil)))
      (pss_cons (ps_set (i := 6) nd rfl (.inl rfl) (pe_op op_mod (pe_op op_add (pe_do C1 hr (by rfl) (pa_cons (pv 1) (pa_cons (pv 2) pa_nil))) (pv 3)) (pe_callB call_len_seq (by rfl) T.len PySem.boot_len (pa_cons (pv 1) pa_nil))))
      (pss_one (ps_asg (pe_tup (StX.pa_star (pe_ix ix_list (pv 5) (pv 6) (fun _ _ => rfl)) (pa_cons (pv 2) pa_nil))) (pg_sub (pv 5) (pv 6) set_list)))))
    (pss_one (ps_ret (pe_callTy cr_tuple (by rfl) T.tuple bt_tuple (pa_cons (pv 5) pa_nil)))))), ?_⟩
  have hlen : st.length = c := g.len
  have c1 := z.c1
  have c6 := z.c6
  have n7 := z.n7
  have pll := ok.len
  -- called = {person: number for person, number in plan}
  refine ⟨_, rfl, pl, rfl, ⟨_, SqT.of hp⟩, fun dd hdd => ?_⟩
  refine dc_tup (K := K) (a := pl) (xs := pp.map V.ref) (fun i H' => Same H H' ∧ H' dd = some (.dK (dk (plan.take i)))) ⟨same_new hdd _, upd_same⟩ (fun i H' _ ⟨sm, _⟩ => SqT.of (sm _ _ hp)) ?_ ?_
  · rintro i x H1 hi ⟨sm, hm⟩
    obtain ⟨p, x, rfl, _, hx, hpp⟩ := RP.ref hi
    have hpp : H p = some (.tup [.int x.1, .int (x.2 : Int)]) := hpp
    have hil := (List.getElem?_eq_some_iff.mp hx).1
    refine ⟨p, _, rfl, SqT.of (sm _ _ hpp), rfl, _, _, rfl, _, _, rfl, rfl, rfl, ?_⟩
    dsimp only [tYes]
    rw [if_pos rfl]
    refine ⟨_, rfl, _, rfl, _, Sum.inl x.1, rfl, hm, by rw [dk_len, List.length_take]; exact small7 (by omega), same_put sm hdd _, ?_⟩
    rw [upd_same, dk_put _ (lookup_none (keys_new ok.nodup hx)), List.take_add_one, hx]
    rfl
  rintro H1 ⟨sm, hm⟩
  rw [RP.rlen, List.take_length] at hm
  -- lines = [tuple([..]) for line in state]
  refine ⟨_, rfl, s, rfl, ⟨_, SqT.of (sm _ _ hs)⟩, fun D0 hD => lc_rows (f := fT) (fun l => l.filter fun p => decide (p ∉ plan.map (·.1))) hD (sm _ _ hs) (R.mono sm) (by omega) (by show 7 < 8; decide) ?_ ?_⟩
  · intro l p H2 Q1 hl hp2 sm2 k
    refine ⟨_, rfl, p, rfl, ⟨_, SqT.of (sm2 _ _ hp2)⟩, fun D2 hD2 => lc_keep (fun x => decide (x ∉ plan.map (·.1))) hD2 (sm2 _ _ hp2) ?_ (by show 2 < 8; decide) ?_ ?_⟩
    · obtain ⟨j, hj⟩ := List.getElem?_of_mem hl
      have := g.line_len hj
      omega
    · intro x hx H3 Q2 sm3 hq
      refine ⟨_, rfl, _, rfl, dd, _, rfl, DGet.k (k := Sum.inl x) (sm3 _ _ (sm2 _ _ hm)), _, rfl, ?_⟩
      have e : (!(valV (dk plan) (Sum.inl x)).isSome) = decide (x ∉ plan.map (·.1)) := by
        rw [dk_val]
        by_cases h : x ∈ plan.map (·.1)
        · obtain ⟨m, hm⟩ := mem_keys h
          rw [lookup_some ok.nodup hm, decide_eq_false (fun z => z h)]
          rfl
        · rw [lookup_none h, decide_eq_true h]
          rfl
      rw [e]
      exact hq
    · intro H3 sm3 hm3
      exact ⟨D2, _, rfl, .inl ⟨SqL.of hm3, fun r hr => k r _ (sm3.free hr) (same_put sm3 (sm3.free hr) _) upd_same⟩⟩
  · intro qs H2 sm2 F
    have smA := sm.trans sm2
    have hDH : H D0 = none := sm.free hD
    -- for person, number in plan
    refine ⟨_, rfl, pl, rfl, ⟨_, SqT.of (smA _ _ hp)⟩, for_tup (K := K) (a := pl) (xs := pp.map V.ref) (fun i σ H' => ∃ y2 y3 y6, σ = [some (.ref pl), some (.ref s), y2, y3, some (.ref dd), some (.ref D0), y6, none] ∧ Same H H' ∧
        ∃ rs, H' D0 = some (.lst (rs.map V.ref)) ∧ Rows fT H' rs (fill (fun x : Int × Nat => x.1) (fun x => (spot st x.1 + x.2) % st.length) (lack st (List.map (fun x : Int × Nat => x.1) plan)) (plan.take i)))
      ⟨none, none, none, rfl, smA, qs, F.at_, F.rows⟩ (fun i σ H' _ ⟨_, _, _, _, sm, _⟩ => SqT.of (sm _ _ hp)) ?_ ?_⟩
    · rintro i x σ H3 hi ⟨y2, y3, y6, rfl, sm3, rs, hm3, R3⟩
      obtain ⟨p, x, rfl, _, hx, hpp⟩ := RP.ref hi
      have hpp : H p = some (.tup [.int x.1, .int (x.2 : Int)]) := hpp
      obtain ⟨w1, w2⟩ := ok.who x (List.mem_of_getElem? hx)
      refine ⟨p, _, rfl, SqT.of (sm3 _ _ hpp), rfl, _, _, rfl, _, _, rfl, rfl, ?_⟩
      -- new = (counter_of(state, person) + number) % len(state)
      refine ⟨_, rfl, _, rfl, s, x.1, n, c, st, rfl, ⟨ps, sm3 _ _ hs, R.mono sm3⟩, ⟨z, g⟩, w1, fun H4 sm4 => ?_⟩
      refine ⟨_, rfl, _, _, rfl, rfl, _, rfl, s, _, rfl, .inr (SqT.of ((sm3.trans sm4) _ _ hs)), _, _, rfl, rfl, by rw [R.rlen]; omega, ?_⟩
      have e1 : ((spot st x.1 : Nat) + (x.2 : Nat) : Int) % (((ps.map V.ref).length : Nat) : Int) = (((spot st x.1 + x.2) % st.length : Nat) : Int) := by
        rw [R.rlen]
        exact cast_mod _ _ _
      have R4 := R3.mono sm4
      have hm4 := sm4 _ _ hm3
      have hk : (spot st x.1 + x.2) % st.length < (fill (fun x : Int × Nat => x.1) (fun x => (spot st x.1 + x.2) % st.length) (lack st (List.map (fun x : Int × Nat => x.1) plan)) (plan.take i)).length := by
        rw [fill_len, lack_len]
        exact Nat.mod_lt _ (by omega)
      generalize hls : fill (fun x : Int × Nat => x.1) (fun x => (spot st x.1 + x.2) % st.length) (lack st (List.map (fun x : Int × Nat => x.1) plan)) (plan.take i) = ls at R3 R4 hk
      generalize hkk : (spot st x.1 + x.2) % st.length = k at hk e1
      have hc : ls[k]? = some ls[k] := List.getElem?_eq_getElem hk
      obtain ⟨a, h1, ha⟩ := R4.refs hc
      have ha : H4 a = some (.tup (ls[k].map V.int)) := ha
      -- lines[new] = (*lines[new], person)
      refine ⟨_, rfl, _, rfl, D0, _, _, _, rfl, rfl, SqL.of hm4, at_of e1 h1, a, _, rfl, .inl (SqT.of ha), _, rfl, ?_, fun t ht => ?_⟩
      · have hb : ls[k].length ≤ n + (plan.take i).length := by
          have := fill_bound (who := fun x : Int × Nat => x.1) (to := fun x => (spot st x.1 + x.2) % st.length) (xs := plan.take i) (lack_bound g (plan.map (·.1)))
          rw [hls] at this
          exact this _ (List.getElem_mem hk)
        rw [List.length_append, List.length_map]
        have h2 : (plan.take i).length ≤ 7 := Nat.le_trans (List.length_take_le ..) (by
          have := (List.getElem?_eq_some_iff.mp hx).1
          omega)
        exact Nat.le_of_lt (small7 (by simp only [List.length_cons, List.length_nil]; omega))
      · obtain ⟨hm5, sm5, rs', hm6, R6⟩ := put_in (r := x.1) (sm3.trans sm4) hDH hm4 R4 hc ht
        refine ⟨_, rfl, _, rfl, D0, _, _, k, rfl, rfl, hm5, ?_, _, _, _, rfl, sm5, rs', hm6, ?_⟩
        · rw [e1, R3.rlen]
          exact ixN_nat hk
        · rw [fill_step hx, hls, hkk]
          exact R6
    · rintro σ H3 ⟨y2, y3, y6, rfl, sm3, rs, hm3, R3⟩
      rw [RP.rlen, List.take_length] at R3
      -- return tuple(lines)
      exact ⟨_, rfl, D0, _, rfl, .inl ⟨SqL.of hm3, fun t ht => q t _ (same_put sm3 (sm3.free ht) _) ⟨rs, upd_same, R3.mono (same_new ht _)⟩⟩⟩
end
end G29

set_option Elab.async false
set_option linter.all false
set_option maxRecDepth 100000
set_option maxHeartbeats 4000000
namespace G29
open PySem PySem.Spec PyProof.Rows L2
theorem lookup_out {d : List (Int × Nat)} {p : Int} (hn : (d.map (·.1)).Nodup) (h : d.lookup p = none) : p ∉ d.map (·.1) := fun z => by
  obtain ⟨m, hm⟩ := mem_keys z
  rw [lookup_some hn hm] at h
  cases h
theorem tally_len {n : Nat} {cs : List Int} (hs : ∀ p ∈ cs, p ∈ folk n) : (tally cs).length ≤ n := by
  have := sub_len (n := n) (tally_nodup cs) fun p hp => hs p ((mem_tally cs p).mp hp)
  rwa [List.length_map] at this
section
variable {P : Program} {w : World} {K : PySem.W.Frag} {mg : Str → Option Value} {base : Heap} {f : Addr} {fd : FuncData}
theorem scGroupsPlan : FnScope ["office", "groups", "found", "group", "person", "many"] ["office", "groups"] (defScope sGroupsPlan) := ⟨rfl, rfl, rfl, by decide +kernel, rfl, by decide +kernel, by decide +kernel⟩
theorem ok_groupsPlan (D : Def K mg "groups_plan" sGroupsPlan ["office", "groups"] f fd) (T : Nm mg) (C1 : Can P w K mg base 3 "need_office" spNeedOffice) (C2 : Can P w K mg base 4 "need_groups" spNeedGroups) (C3 : Can P w K mg base 1 "least_in" spLeast) : Can P w K mg base 5 "groups_plan" spGroupsPlan := by
  refine D.can (D.F.ok scGroupsPlan (fun vs H Q E h => ?_) (fun cdv A outer s H vs Q E hr h => ?_))
  · obtain ⟨o, v, n, c, gs, rfl, _⟩ := h
    rfl
  obtain ⟨o, v, n, c, gs, rfl, ho, z, ⟨ps, hv, R⟩, h30, ok, q⟩ := h
  have ho : H o = some (.tup [.int (n : Int), .int (c : Int)]) := ho
  have hu := hu_of hr
  have nd := scGroupsPlan.nd
  have n7 := z.n7
  have c1 := z.c1
  refine ⟨_, pss_cons (ps_expr (pe_do C1 (hr.mono (by decide)) (by rfl) (pa_cons (pv 0) pa_nil))) (pss_cons (ps_expr (pe_do C2 hr (by rfl) (pa_cons (pv 0) (pa_cons (pv 1) pa_nil))))
    (pss_cons (ps_set (i := 2) nd rfl (.inl rfl) pe_dnewK)
    (pss_cons (ps_for PassesOwn.never rfl (pi_tup (pv 1)) (pg_name (i := 3) nd rfl (.inl rfl)) (pss_one (ps_for PassesOwn.never rfl (pi_tup (pv 3)) (pg_name (i := 4) nd rfl (.inl rfl))
      (pss_cons (ps_set (i := 5) nd rfl (.inl rfl) (pe_dpop2 (pv 2) (pv 4) pe_int ⟨rfl, rfl, rfl, rfl⟩)) (pss_one (ps_dput hu (pv 2) (pv 4) (pe_op op_add (pv 5) pe_int) rfl))))))
    (pss_one (ps_ret (pe_do C3 (hr.mono (by decide)) (by rfl) (pa_cons (pv 0) (pa_cons (pe_callTy cr_tuple (by rfl) T.tuple bt_tuple (pa_cons
      (pe_lock (pe_lc (own := [("person", 4), ("many", 5)]) (g := gTup K 2 (gCons (gName 4) (gCons (gName 5) gNil))) (tt := tYes)
        (te := tTup (tCons (tVar 4) (tCons (tOp (rI (fun _ j => 0 < j) fun i j => .int (i % j)) (tVar 5) (tOp (rIxT K) (tVar 0) (tC (.int 1)))) tNil))) rfl nd (pi_items (pv 2))
        (blkOk_by (own := [("person", 4), ("many", 5)]) (N := ["office", "groups", "found", "group", "person", "many"]) (sc := defScope sGroupsPlan) (by decide +kernel))
        (fun _ _ _ _ _ => pg_tup rfl (pgs_cons (pg_name (i := 4) nd rfl (.inl rfl)) (pgs_cons (pg_name (i := 5) nd rfl (.inl rfl)) pgs_nil))) (fun _ _ _ _ _ => pts_nil)
        (fun _ _ _ _ _ => pe_tup (pa_cons (pv 4) (pa_cons (pe_op op_mod (pv 5) (pe_ix ix_tup (pv 0) pe_int (fun _ _ => rfl))) pa_nil))))) pa_nil)) pa_nil)))))))), ?_⟩
  refine ⟨_, rfl, o, n, c, rfl, ho, z, ?_⟩
  refine ⟨_, rfl, _, rfl, o, v, n, c, gs, rfl, ho, z, ⟨ps, hv, R⟩, h30, ok, fun H1 sm1 => ?_⟩
  intro d hd
  have hdH : H d = none := sm1.free hd
  have sm2 : Same H (upd H1 d (.dK [])) := same_put sm1 hdH _
  have fo : ∀ (i : Nat) (l : List Int) (j : Nat), gs[i]? = some l → ∀ p ∈ (gs.take i).flatten ++ l.take j, p ∈ folk n := fun i l j hl p hp => by
    rcases List.mem_append.mp hp with h | h
    · obtain ⟨k, hk, hpk⟩ := List.mem_flatten.mp h
      exact (ok k (List.mem_of_mem_take hk)).2 p hpk
    · exact (ok l (List.mem_of_getElem? hl)).2 p (List.mem_of_mem_take h)
  -- for group in groups
  refine ⟨_, rfl, v, rfl, ⟨_, SqT.of (sm2 _ _ hv)⟩, for_tup (K := K) (a := v) (xs := ps.map V.ref) (fun i σ H' => ∃ y3 y4 y5, σ = [some (.ref o), some (.ref v), some (.ref d), y3, y4, y5] ∧ Same H H' ∧ H' d = some (.dK (dk (tally (gs.take i).flatten))))
    ⟨none, none, none, rfl, sm2, upd_same⟩ (fun i σ H' _ ⟨_, _, _, _, sm, _⟩ => SqT.of (sm _ _ hv)) ?_ ?_⟩
  · rintro i x σ H2 hi ⟨y3, y4, y5, rfl, sm, hm⟩
    obtain ⟨p, l, rfl, hl, hp⟩ := R.ref hi
    -- for person in group
    refine ⟨_, rfl, p, rfl, ⟨_, (hp.mono sm).sq⟩, for_tup (K := K) (a := p) (xs := l.map V.int) (fun j σ H' => ∃ y4 y5, σ = [some (.ref o), some (.ref v), some (.ref d), some (.ref p), y4, y5] ∧ Same H H' ∧ H' d = some (.dK (dk (tally ((gs.take i).flatten ++ l.take j)))))
      ⟨y4, y5, rfl, sm, by rw [List.take_zero, List.append_nil]; exact hm⟩ (fun j σ H' _ ⟨_, _, _, sm, _⟩ => (hp.mono sm).sq) ?_ ?_⟩
    · rintro j x σ H3 hj ⟨y4, y5, rfl, sm3, hm3⟩
      obtain ⟨r, hr', rfl⟩ := int_of hj
      have hfo := fo i l j hl
      generalize hcs : (gs.take i).flatten ++ l.take j = cs at hm3 hfo
      have ecs : (gs.take i).flatten ++ l.take (j + 1) = cs ++ [r] := by
        rw [← hcs, List.take_add_one, hr', List.append_assoc]
        rfl
      have tl := tally_len hfo
      have tn := tally_nodup cs
      rw [ecs, tally_snoc]
      -- many = found.pop(person, 0); found[person] = many + 1
      have step : ∀ (m : Nat) (H4 : Hp) (e : List (Int × Nat)), H4 d = some (.dK (dk e)) → Same H H4 → e.length ≤ 1000 → e.lookup r = none → e ++ [(r, m + 1)] = bump (tally cs) r →
          ∃ v1, ([some (V.ref o), some (V.ref v), some (V.ref d), some (V.ref p), some (V.int r), some (V.int (m : Int))] : L2.St)[5]? = some (some v1) ∧ ∃ i j, v1 = V.int i ∧ V.int 1 = V.int j ∧
            ∃ v2, ([some (V.ref o), some (V.ref v), some (V.ref d), some (V.ref p), some (V.int r), some (V.int (m : Int))] : L2.St)[2]? = some (some v2) ∧
            ∃ v3, ([some (V.ref o), some (V.ref v), some (V.ref d), some (V.ref p), some (V.int r), some (V.int (m : Int))] : L2.St)[4]? = some (some v3) ∧
            ∃ a H5, v2 = .ref a ∧ DPut H4 a v3 (V.int (i + j)) H5 ∧ ∃ y4 y5, ([some (V.ref o), some (V.ref v), some (V.ref d), some (V.ref p), some (V.int r), some (V.int (m : Int))] : L2.St) = [some (.ref o), some (.ref v), some (.ref d), some (.ref p), y4, y5] ∧ Same H H5 ∧ H5 d = some (.dK (dk (bump (tally cs) r))) := by
        intro m H4 e h4 sm4 hz hlk he
        refine ⟨_, rfl, m, 1, rfl, rfl, _, rfl, _, rfl, d, _, rfl, DPut.k (k := Sum.inl r) h4 (by rw [dk_len]; exact small7 hz), _, _, rfl, same_put sm4 hdH _, ?_⟩
        have ec : (m : Int) + 1 = ((m + 1 : Nat) : Int) := by omega
        rw [upd_same, ec, dk_put _ hlk, he]
      refine ⟨_, rfl, d, rfl, .inl ⟨_, .inl hm3⟩, _, rfl, _, Sum.inl r, hm3, rfl, fun v1 hv1 => ?_, fun hn => ?_⟩
      · rw [dk_val] at hv1
        obtain ⟨m, hm', rfl⟩ := Option.map_eq_some_iff.mp hv1
        refine step m _ ((tally cs).filter fun x => decide (x.1 ≠ r)) (by rw [upd_same, dk_drop]) (same_put sm3 hdH _) ?_ (lookup_filter _ _) ?_
        · have := List.length_filter_le (fun x : Int × Nat => decide (x.1 ≠ r)) (tally cs)
          omega
        · unfold bump
          rw [hm']
          rfl
      · rw [dk_val] at hn
        have hn' : (tally cs).lookup r = none := by
          cases e : (tally cs).lookup r with
          | none => rfl
          | some m => rw [e] at hn; cases hn
        refine step 0 H3 (tally cs) hm3 sm3 (by omega) hn' ?_
        unfold bump
        rw [hn', lookup_ne (lookup_out tn hn')]
        rfl
    · rintro σ H3 ⟨y4, y5, rfl, sm3, hm3⟩
      refine ⟨_, _, _, rfl, sm3, ?_⟩
      rw [hm3, List.length_map, List.take_length, flat_take hl]
  · rintro σ H2 ⟨y3, y4, y5, rfl, sm, hm⟩
    rw [R.rlen, List.take_length] at hm
    have hfl : ∀ p ∈ gs.flatten, p ∈ folk n := fun p hp => by
      obtain ⟨k, hk, hpk⟩ := List.mem_flatten.mp hp
      exact (ok k hk).2 p hpk
    have tl := tally_len hfl
    have ml : (modC c (tally gs.flatten)).length ≤ n := by
      unfold modC
      rw [List.length_map]
      exact tl
    generalize hcs : tally gs.flatten = t0 at hm tl ml q
    -- [(person, many % office[1]) for person, many in found.items()]
    refine ⟨_, rfl, d, .dK (dk t0), hm, trivial, fun od => ?_⟩
    have nod : o ≠ d := ne_of (sm _ _ ho) hm (by intro e; cases e)
    have hf : ∀ b u, b ≠ d → H2 b = some u → (upd H2 d (.frz od (.dK (dk t0)))) b = some u := fun b u hb e => by rw [upd_ne hb]; exact e
    refine ⟨_, rfl, d, od, _, rfl, upd_same, fun D0 hD => ?_⟩
    have nDd : D0 ≠ d := fun e => by
      rw [e, upd_same] at hD
      cases hD
    refine lc_it walk_items (fun i H' => Same (upd H2 d (.frz od (.dK (dk t0)))) H' ∧ ∃ qs, H' D0 = some (.lst (qs.map V.ref)) ∧ Rows fP H' qs ((modC c t0).take i)) ⟨same_new hD _, [], upd_same, Rows.nil⟩ (fun i H' _ ⟨sm, _⟩ => sm _ _ upd_same) ?_ ?_
    · rintro i x H3 H4 hi ⟨sm3, qs, hm3, R3⟩ ⟨U, x0, x1, rfl, nU, rfl, e0, e1⟩
      rw [dk_len] at hi
      have ht : (dk t0)[i]? = some (Sum.inl t0[i].1, V.int (t0[i].2 : Int)) := by
        unfold dk
        rw [List.getElem?_map, List.getElem?_eq_getElem hi]
        rfl
      dsimp only at e0 e1
      rw [ht] at e0 e1
      cases e0
      cases e1
      have hmt : (modC c t0)[i]? = some (t0[i].1, t0[i].2 % c) := by
        unfold modC
        rw [List.getElem?_map, List.getElem?_eq_getElem hi]
        rfl
      have smU : Same H3 (upd H3 U (.tup [kV (Sum.inl t0[i].1), .int (t0[i].2 : Int)])) := same_new nU _
      have ho4 := smU _ _ (sm3 _ _ (hf _ _ nod (sm _ _ ho)))
      refine ⟨U, _, rfl, SqT.of upd_same, rfl, _, _, rfl, _, _, rfl, rfl, rfl, ?_⟩
      dsimp only [tYes]
      rw [if_pos rfl]
      refine ⟨_, rfl, _, rfl, _, rfl, o, _, 1, .int c, rfl, rfl, SqT.of ho4, atI_nat (j := 1) rfl, _, _, rfl, rfl, by omega, (by show 2 ≤ sizeLine; decide), fun a na => ?_⟩
      have sma := same_new na (.tup [kV (Sum.inl t0[i].1), .int ((t0[i].2 : Int) % (c : Int))])
      have hm5 := sma _ _ (smU _ _ hm3)
      have ql : qs.length ≤ 1000 := by
        rw [R3.len]
        exact Nat.le_trans (List.length_take_le' ..) (by omega)
      refine ⟨_, hm5, by rw [List.length_map]; exact small7 ql, same_put ((sm3.trans smU).trans sma) hD _, qs ++ [a], by rw [upd_same, List.map_append]; rfl, ?_⟩
      rw [List.take_add_one, hmt]
      have naD : D0 ≠ a := ne_of_none (smU _ _ hm3) na
      have R5 := R3.mono (smU.trans sma)
      have R6 : Rows fP (upd (upd (upd H3 U (.tup [kV (Sum.inl t0[i].1), .int (t0[i].2 : Int)])) a (.tup [kV (Sum.inl t0[i].1), .int ((t0[i].2 : Int) % (c : Int))])) D0 (.lst (qs.map V.ref ++ [.ref a]))) qs ((modC c t0).take i) := ⟨R5.len, fun j y hj => by
        obtain ⟨b, hb1, hb2⟩ := R5.at_ j y hj
        refine ⟨b, hb1, ?_⟩
        rw [upd_ne (fun e => ?_)]
        · exact hb2
        · rw [e, hm5] at hb2
          cases hb2⟩
      refine R6.snoc ?_
      rw [upd_ne naD.symm, upd_same]
      show some (HO.tup [V.int t0[i].1, .int ((t0[i].2 : Int) % (c : Int))]) = some (HO.tup [.int t0[i].1, .int ((t0[i].2 % c : Nat) : Int)])
      rw [Int.natCast_emod]
    · rintro H3 ⟨sm3, qs, hm3, R3⟩
      rw [dk_len] at R3
      have e : (modC c t0).take t0.length = modC c t0 := List.take_of_length_le (by unfold modC; rw [List.length_map]; exact Nat.le_refl _)
      rw [e] at R3
      have hd3 := sm3 _ _ upd_same
      refine ⟨hd3, ?_⟩
      have sm4 : Same H (upd H3 d (.dK (dk t0))) := fun b u hb => by
        have hbd : b ≠ d := ne_of_none hb hdH
        rw [upd_ne hbd]
        exact sm3 _ _ (hf _ _ hbd (sm _ _ hb))
      have hm4 : (upd H3 d (.dK (dk t0))) D0 = some (.lst (qs.map V.ref)) := by
        rw [upd_ne nDd]
        exact hm3
      have R4 : Rows fP (upd H3 d (.dK (dk t0))) qs (modC c t0) := ⟨R3.len, fun j y hj => by
        obtain ⟨b, hb1, hb2⟩ := R3.at_ j y hj
        refine ⟨b, hb1, ?_⟩
        rw [upd_ne (fun e => ?_)]
        · exact hb2
        · rw [e, hd3] at hb2
          cases hb2⟩
      refine ⟨D0, _, rfl, .inl ⟨SqL.of hm4, fun t ht => ?_⟩⟩
      have smt := same_new ht (.tup (qs.map V.ref))
      exact ⟨o, t, n, c, modC c t0, rfl, smt _ _ (sm4 _ _ ho), z, ⟨qs, upd_same, R4.mono smt⟩, ml, fun u H5 sm5 hu => q u H5 ((sm4.trans smt).trans sm5) hu⟩
end
end G29

set_option Elab.async false
set_option linter.all false
set_option maxRecDepth 100000
set_option maxHeartbeats 4000000
namespace G29
open PySem PySem.Spec PyProof.Rows L2
section
variable {P : Program} {w : World} {K : PySem.W.Frag} {mg : Str → Option Value} {base : Heap} {f : Addr} {fd : FuncData}
theorem scTaken : FnScope ["_law_row", "_law_many", "_law_found", "_law_cell"] ["_law_row", "_law_many"] (defScope sTaken) := ⟨rfl, rfl, rfl, by decide +kernel, rfl, by decide +kernel, by decide +kernel⟩
theorem ok_taken (D : Def K mg "_law_taken" sTaken ["_law_row", "_law_many"] f fd) (T : Nm mg) : Can P w K mg base 1 "_law_taken" (spTaken K) := by
  refine D.can (D.F.ok scTaken (fun vs H Q E h => ?_) (fun cdv A outer s H vs Q E hr h => ?_))
  · obtain ⟨r, m, a, rfl, _⟩ := h
    rfl
  obtain ⟨r, m, a, rfl, ⟨ns, i, s, c, hR, hS, hl, h0⟩, m1, m2, q⟩ := h
  have nd := scTaken.nd
  refine ⟨_, pss_cons (ps_if (pt_cmpR op_gt (pe_ix ix_list (pv 0) pe_int (fun _ _ => rfl)) pe_int (nomark _))
      (pss_cons (ps_set (i := 2) nd rfl (.inl rfl) (pe_op op_mod (pe_callTy call_int1 (by rfl) T.int bt_int (pa_cons (pe_ix ix_list (pv 0) pe_int (fun _ _ => rfl)) pa_nil)) (pv 1)))
      (pss_cons (ps_asg (pe_op op_fdiv (pe_ix ix_list (pv 0) pe_int (fun _ _ => rfl)) (pv 1)) (pg_sub (pv 0) pe_int set_list))
      (pss_one (ps_ret (pv 2))))) pss_nil)
    (pss_cons (ps_asg (pe_op op_add (pe_ix ix_list (pv 0) pe_int (fun _ _ => rfl)) pe_int) (pg_sub (pv 0) pe_int set_list))
    (pss_cons (ps_if (pt_cmpR op_gt (pe_ix ix_list (pv 0) pe_int (fun _ _ => rfl)) (pe_callB call_len_seq (by rfl) T.len PySem.boot_len (pa_cons (pe_ix ix_list (pv 0) pe_int (fun _ _ => rfl)) pa_nil)) (nomark _))
      (pss_cons (ps_asg (pe_op op_mod (pe_callTy call_int1 (by rfl) T.int bt_int (pa_cons (pe_op op_add (pe_op op_mul (pe_ix ix_list (pv 0) pe_int (fun _ _ => rfl)) pe_int) pe_int) pa_nil)) pe_int) (pg_sub (pv 0) pe_int set_list))
      (pss_one (ps_ret (pe_op op_mod (pe_callTy call_int1 (by rfl) T.int bt_int (pa_cons (pe_op op_fdiv (pe_ix ix_list (pv 0) pe_int (fun _ _ => rfl)) pe_int) pa_nil)) (pv 1))))) pss_nil)
    (pss_cons (ps_set (i := 3) nd rfl (.inl rfl) (pe_ix ix_list (pe_ix ix_list (pv 0) pe_int (fun _ _ => rfl)) (pe_op op_sub (pe_ix ix_list (pv 0) pe_int (fun _ _ => rfl)) pe_int) (fun _ _ => rfl)))
    (pss_cons (ps_asg (pe_op op_mod (pe_callTy call_int1 (by rfl) T.int bt_int (pa_cons (pe_op op_add (pe_op op_add (pe_op op_mul (pe_ix ix_list (pv 0) pe_int (fun _ _ => rfl)) pe_int) (pv 3)) pe_int) pa_nil)) pe_int) (pg_sub (pv 0) pe_int set_list))
    (pss_cons (ps_if (pt_cmpR op_ge (pv 3) (pe_op op_pow pe_int pe_int) (nomark _)) (pss_one (ps_asg (pe_op op_fdiv (pv 3) (pv 1)) (pg_sub (pv 0) pe_int set_list))) pss_nil)
    (pss_one (ps_ret (pe_op op_mod (pe_callTy call_int1 (by rfl) T.int bt_int (pa_cons (pv 3) pa_nil)) (pv 1))))))))), ?_⟩
  have hm : (0 : Int) < m := by omega
  have hd : CDiv 0 m := ⟨by omega, by omega⟩
  have rest : ∀ (x : Int) (H' : Hp), But r H H' → Row K H' r a → Q (.int (x % m)) H' := fun x H' b R => q _ _ (Int.emod_nonneg _ (by omega)) (Int.emod_lt_of_pos _ hm) b R
  -- if row[3] > 0
  refine ⟨_, rfl, r, _, 3, .int c, rfl, rfl, SqL.of hR, atI_nat (j := 3) rfl, c, 0, rfl, rfl, _, rfl, ite2 (fun _ => ?_) (fun _ => ?_)⟩
  · refine ⟨_, rfl, r, _, 3, .int c, rfl, rfl, SqL.of hR, atI_nat (j := 3) rfl, .inl ⟨_, rfl, _, rfl, _, _, rfl, rfl, hm, ?_⟩⟩
    refine ⟨_, rfl, r, _, 3, .int c, rfl, rfl, SqL.of hR, atI_nat (j := 3) rfl, _, rfl, c, m, rfl, rfl, ⟨by omega, by omega⟩, _, rfl, r, _, 3, 3, rfl, rfl, hR, rfl, _, rfl, ?_⟩
    exact rest c _ ((But.refl r H).at_ _) (Row.put hS hl ((But.refl r H).at_ _) upd_same h0)
  -- row[1] = row[1] + 1
  refine ⟨_, rfl, r, _, 1, .int i, rfl, rfl, SqL.of hR, atI_nat (j := 1) rfl, i, 1, rfl, rfl, _, rfl, r, _, 1, 1, rfl, rfl, hR, rfl, ?_⟩
  have b1 : But r H (upd H r (.lst [.ref a, .int (i + 1), .int s, .int c])) := (But.refl r H).at_ _
  have hR1 : (upd H r (.lst [.ref a, .int (i + 1), .int s, .int c])) r = some (.lst [.ref a, .int (i + 1), .int s, .int c]) := upd_same
  show (fun H1 : Hp => _) (upd H r (.lst [.ref a, .int (i + 1), .int s, .int c]))
  generalize upd H r (.lst [.ref a, .int (i + 1), .int s, .int c]) = H1 at b1 hR1
  have hS1 := hS H1 b1
  -- if row[1] > len(row[0])
  refine ⟨_, rfl, r, _, 1, .int (i + 1), rfl, rfl, SqL.of hR1, atI_nat (j := 1) rfl, _, rfl, r, _, 0, .ref a, rfl, rfl, SqL.of hR1, atI_nat (j := 0) rfl, a, _, rfl, .inl hS1, _, _, rfl, rfl, _, rfl, ite2 (fun _ => ?_) (fun hle => ?_)⟩
  · refine ⟨_, rfl, r, _, 2, .int s, rfl, rfl, SqL.of hR1, atI_nat (j := 2) rfl, s, 48271, rfl, rfl, .inr ⟨by decide, by decide⟩, _, _, rfl, rfl, .inl ⟨_, rfl, _, _, rfl, rfl, (by show (0 : Int) < 2147483647; decide), _, rfl, r, _, 2, 2, rfl, rfl, hR1, rfl, ?_⟩⟩
    have hR2 : (upd H1 r (.lst [.ref a, .int (i + 1), .int ((s * 48271 + 11) % 2147483647), .int c])) r = some (.lst [.ref a, .int (i + 1), .int ((s * 48271 + 11) % 2147483647), .int c]) := upd_same
    have b2 := b1.at_ (.lst [.ref a, .int (i + 1), .int ((s * 48271 + 11) % 2147483647), .int c])
    refine ⟨_, rfl, r, _, 2, _, rfl, rfl, SqL.of hR2, atI_nat (j := 2) rfl, _, 7, rfl, rfl, ⟨by decide, by decide⟩, .inl ⟨_, rfl, _, rfl, _, _, rfl, rfl, hm, ?_⟩⟩
    exact rest _ _ b2 (Row.put hS hl b2 hR2 (by omega))
  · have hle' : i + 1 ≤ ((ns.map V.int).length : Int) := by
      have := of_decide_eq_false (Bool.eq_false_iff.mpr hle)
      omega
    rw [List.length_map] at hle'
    have hi : i.toNat < ns.length := by omega
    have hcell : (ns.map V.int)[i.toNat]? = some (.int ns[i.toNat]) := by
      rw [List.getElem?_map, List.getElem?_eq_getElem hi]
      rfl
    -- cell = row[0][row[1] - 1]
    refine ⟨_, rfl, r, _, 0, .ref a, rfl, rfl, SqL.of hR1, atI_nat (j := 0) rfl, _, rfl, r, _, 1, .int (i + 1), rfl, rfl, SqL.of hR1, atI_nat (j := 1) rfl, i + 1, 1, rfl, rfl, a, _, i + 1 - 1, .int ns[i.toNat], rfl, rfl, hS1, at_of (j := i.toNat) (by omega) hcell, ?_⟩
    generalize ns[i.toNat] = x
    -- row[2] = ..
    refine ⟨_, rfl, r, _, 2, .int s, rfl, rfl, SqL.of hR1, atI_nat (j := 2) rfl, s, 48271, rfl, rfl, .inr ⟨by decide, by decide⟩, _, rfl, _, _, rfl, rfl, _, _, rfl, rfl, .inl ⟨_, rfl, _, _, rfl, rfl, (by show (0 : Int) < 2147483647; decide), _, rfl, r, _, 2, 2, rfl, rfl, hR1, rfl, ?_⟩⟩
    have hR2 : (upd H1 r (.lst [.ref a, .int (i + 1), .int ((s * 48271 + x + 11) % 2147483647), .int c])) r = some (.lst [.ref a, .int (i + 1), .int ((s * 48271 + x + 11) % 2147483647), .int c]) := upd_same
    have b2 := b1.at_ (.lst [.ref a, .int (i + 1), .int ((s * 48271 + x + 11) % 2147483647), .int c])
    -- if cell >= 10 ** 18
    refine ⟨_, rfl, 10, 18, rfl, rfl, ⟨by decide, by decide, by decide⟩, x, _, rfl, rfl, _, rfl, ite2 (fun _ => ?_) (fun _ => ?_)⟩
    · refine ⟨_, rfl, _, rfl, x, m, rfl, rfl, ⟨by omega, by omega⟩, _, rfl, r, _, 3, 3, rfl, rfl, hR2, rfl, _, rfl, .inl ⟨_, rfl, _, rfl, _, _, rfl, rfl, hm, ?_⟩⟩
      exact rest _ _ (b2.at_ _) (Row.put hS hl (b2.at_ _) upd_same (by omega))
    · refine ⟨_, rfl, .inl ⟨_, rfl, _, rfl, _, _, rfl, rfl, hm, ?_⟩⟩
      exact rest _ _ b2 (Row.put hS hl b2 hR2 (by omega))
end
end G29

set_option Elab.async false
set_option linter.all false
set_option maxRecDepth 100000
set_option maxHeartbeats 4000000
namespace G29
open PySem PySem.Spec PyProof.Rows L2
section
variable {P : Program} {w : World} {K : PySem.W.Frag} {mg : Str → Option Value} {base : Heap} {f : Addr} {fd : FuncData}
theorem kit1 {a b : String} {r : Bool} (h : kitB a b = some r) : PySem.W.kitOne K (.type a) (.type b) = some r := kit_ty h
theorem kit_int_seq : PySem.W.kitAny K (.type "int") [.type "tuple", .type "list"] = some false :=
  kitAny_cons (b := false) (kit1 (by decide +kernel)) (fun _ => kitAny_cons (b := false) (kit1 (by decide +kernel)) (fun _ => rfl) (fun z => nomatch z)) (fun z => nomatch z)
theorem kit_tup_seq : PySem.W.kitAny K (.type "tuple") [.type "tuple", .type "list"] = some true :=
  kitAny_cons (b := true) (kit1 (by decide +kernel)) (fun z => nomatch z) (fun _ => rfl)
theorem kit_tup_list : PySem.W.kitOne K (.type "tuple") (.type "list") = some false := kit1 (by decide +kernel)
theorem kit_int_str : PySem.W.kitOne K (.type "int") (.type "str") = some false := kit1 (by decide +kernel)
theorem kit_int_int' : PySem.W.kitOne K (.type "int") (.type "int") = some true := kit1 (by decide +kernel)
theorem kit_int_bool' : PySem.W.kitOne K (.type "int") (.type "bool") = some false := kit1 (by decide +kernel)
theorem scAlike : FnScope ["_law_found", "_law_due", "_law_k"] ["_law_found", "_law_due"] (defScope sAlike) := ⟨rfl, rfl, rfl, by decide +kernel, rfl, by decide +kernel, by decide +kernel⟩
theorem ok_alike (D : Def K mg "_law_alike" sAlike ["_law_found", "_law_due"] f fd) (T : Nm mg) : ∀ m, Can P w K mg base (m + 1) "_law_alike" (spAlike m)
  | 0 => by
    refine D.can (D.F.ok scAlike (fun vs H Q E h => ?_) (fun cdv A outer s H vs Q E hr h => ?_))
    · obtain ⟨x, y, rfl, _⟩ := h
      rfl
    obtain ⟨x, y, rfl, ⟨i, rfl, rfl⟩, q⟩ := h
    refine ⟨_, pss_cons (ps_if (pt_val (pe_callB call_isiT (by rfl) T.isi bt_isi (pa_cons (pv 1) (pa_cons (pe_tup (pa_cons (pe_bltn (v := .ty "tuple") (by rfl) T.tuple bt_tuple rfl) (pa_cons (pe_bltn (v := .ty "list") (by rfl) T.list bt_list rfl) pa_nil))) pa_nil)))) pss_never pss_nil)
      (pss_cons (ps_if (PW.pt (pw_or (pt_cmpR op_isN (pv 1) pe_non (nomark _)) (pw_or1 (pt_val (pe_callB call_isi (by rfl) T.isi bt_isi (pa_cons (pv 1) (pa_cons (pe_bltn (v := .ty "str") (by rfl) T.str (by decide +kernel) rfl) pa_nil))))))) pss_never pss_nil)
      (pss_one (ps_ret (pe_and (pe_callB call_isi (by rfl) T.isi bt_isi (pa_cons (pv 0) (pa_cons (pe_bltn (v := .ty "int") (by rfl) T.int bt_int rfl) pa_nil)))
        (pe_and (pe_cmpR op_eq (pe_callB call_isi (by rfl) T.isi bt_isi (pa_cons (pv 0) (pa_cons (pe_bltn (v := .ty "bool") (by rfl) T.bool (by decide +kernel) rfl) pa_nil))) (pe_callB call_isi (by rfl) T.isi bt_isi (pa_cons (pv 1) (pa_cons (pe_bltn (v := .ty "bool") (by rfl) T.bool (by decide +kernel) rfl) pa_nil))) (nomark _))
          (pe_one (pe_cmpR op_eq (pv 0) (pv 1) (nomark _)))))))), ?_⟩
    refine ⟨_, rfl, (by show 2 ≤ sizeLine; decide), fun t ht => ⟨.int i, t, _, _, _, false, rfl, upd_same, .cons (.ty _) (.cons (.ty _) .nil), .base (.int i), kit_int_seq, false, rfl, iteF ?_⟩⟩
    have sm := same_new ht (.tup [.ty "tuple", .ty "list"])
    refine ⟨_, rfl, rfl, false, rfl, iteF ⟨_, rfl, .int i, .ty "str", _, _, false, rfl, .ty _, .base (.int i), kit_int_str, false, rfl, iteF ?_⟩⟩
    refine ⟨_, rfl, .int i, .ty "int", _, _, true, rfl, .ty _, .base (.int i), kit_int_int', true, rfl, iteT ?_⟩
    refine ⟨_, rfl, .int i, .ty "bool", _, _, false, rfl, .ty _, .base (.int i), kit_int_bool', _, rfl, .int i, .ty "bool", _, _, false, rfl, .ty _, .base (.int i), kit_int_bool', rfl, true, rfl, iteT ?_⟩
    refine ⟨_, rfl, _, rfl, rfl, ?_⟩
    rw [decide_eq_true rfl]
    exact q _ sm
  | m + 1 => by
    have C := ok_alike D T m
    refine D.can (D.F.ok scAlike (fun vs H Q E h => ?_) (fun cdv A outer s H vs Q E hr h => ?_))
    · obtain ⟨x, y, rfl, _⟩ := h
      rfl
    obtain ⟨x, y, rfl, ⟨a, b, xs, ys, rfl, rfl, ha, hb, hl, hz, lk⟩, q⟩ := h
    have nd := scAlike.nd
    refine ⟨_, pss_cons (ps_if (pt_val (pe_callB call_isiT (by rfl) T.isi bt_isi (pa_cons (pv 1) (pa_cons (pe_tup (pa_cons (pe_bltn (v := .ty "tuple") (by rfl) T.tuple bt_tuple rfl) (pa_cons (pe_bltn (v := .ty "list") (by rfl) T.list bt_list rfl) pa_nil))) pa_nil))))
        (pss_cons (ps_if (PW.pt (pw_or (pt_not (pt_val (pe_callB call_isiT (by rfl) T.isi bt_isi (pa_cons (pv 0) (pa_cons (pe_tup (pa_cons (pe_bltn (v := .ty "tuple") (by rfl) T.tuple bt_tuple rfl) (pa_cons (pe_bltn (v := .ty "list") (by rfl) T.list bt_list rfl) pa_nil))) pa_nil)))))
            (pw_or1 (pt_cmpR op_ne (pe_callB call_isi (by rfl) T.isi bt_isi (pa_cons (pv 0) (pa_cons (pe_bltn (v := .ty "list") (by rfl) T.list bt_list rfl) pa_nil))) (pe_callB call_isi (by rfl) T.isi bt_isi (pa_cons (pv 1) (pa_cons (pe_bltn (v := .ty "list") (by rfl) T.list bt_list rfl) pa_nil))) (nomark _))))) pss_never pss_nil)
        (pss_cons (ps_if (pt_cmpR op_ne (pe_callB call_len_seq (by rfl) T.len PySem.boot_len (pa_cons (pv 0) pa_nil)) (pe_callB call_len_seq (by rfl) T.len PySem.boot_len (pa_cons (pv 1) pa_nil)) (nomark _)) pss_never pss_nil)
        (pss_one (ps_ret (pe_cmpR (op_eqD hr.units)
          (pe_lc (own := [("_law_k", 2)]) (g := gName 2) (tt := tNot (tB (tDo (spAlike m) (tCons (tOp (rIxT K) (tVar 0) (tVar 2)) (tCons (tOp (rIxT K) (tVar 1) (tVar 2)) tNil))))) (te := tVar 2) rfl nd
            (pi_range1 rfl T.range (pa_cons (pe_callB call_len_seq (by rfl) T.len PySem.boot_len (pa_cons (pv 1) pa_nil)) pa_nil))
            (blkOk_by (own := [("_law_k", 2)]) (N := ["_law_found", "_law_due", "_law_k"]) (sc := defScope sAlike) (by decide +kernel)) (fun _ _ _ _ _ => pg_name (i := 2) nd rfl (.inl rfl))
            (fun _ _ _ _ _ => pts_one (pt_not (pt_val (pe_do C hr (by rfl) (pa_cons (pe_ix ix_tup (pv 0) (pv 2) (fun _ _ => rfl)) (pa_cons (pe_ix ix_tup (pv 1) (pv 2) (fun _ _ => rfl)) pa_nil)))))) (fun _ _ _ _ _ => pv 2))
          (pe_lst pa_nil) (nomark _)))))) pss_nil)
      pss_never, ?_⟩
    refine ⟨_, rfl, (by show 2 ≤ sizeLine; decide), fun t ht => ⟨.ref b, t, _, _, _, true, rfl, upd_same, .cons (.ty _) (.cons (.ty _) .nil), .base (.tup (same_new ht _ _ _ hb)), kit_tup_seq, true, rfl, iteT ?_⟩⟩
    have sm1 := same_new ht (.tup [.ty "tuple", .ty "list"])
    refine ⟨_, rfl, (by show 2 ≤ sizeLine; decide), fun u hu => ⟨.ref a, u, _, _, _, true, rfl, upd_same, .cons (.ty _) (.cons (.ty _) .nil), .base (.tup (same_new hu _ _ _ (sm1 _ _ ha))), kit_tup_seq, true, rfl, iteF ?_⟩⟩
    have sm := sm1.trans (same_new hu (.tup [.ty "tuple", .ty "list"]))
    generalize upd (upd H t (.tup [.ty "tuple", .ty "list"])) u (.tup [.ty "tuple", .ty "list"]) = H1 at sm
    have ha1 := sm _ _ ha
    have hb1 := sm _ _ hb
    refine ⟨_, rfl, .ref a, .ty "list", _, _, false, rfl, .ty _, .base (.tup ha1), kit_tup_list, _, rfl, .ref b, .ty "list", _, _, false, rfl, .ty _, .base (.tup hb1), kit_tup_list, rfl, false, rfl, iteF ?_⟩
    refine ⟨_, rfl, a, _, rfl, .inr (SqT.of ha1), _, rfl, b, _, rfl, .inr (SqT.of hb1), rfl, _, rfl, ?_⟩
    rw [hl, decide_eq_true rfl]
    refine iteF ?_
    -- [k for k in range(len(due)) if not alike(..)] == []
    refine ⟨_, rfl, b, _, rfl, .inr (SqT.of hb1), _, rfl, by omega, by omega, fun D0 hD => ?_⟩
    refine lc_range (lo := 0) (n := ((ys.length : Int)).toNat) (fun i H' => Same H1 H' ∧ H' D0 = some (.lst [])) ⟨same_new hD _, upd_same⟩ ?_ ?_
    · rintro i H2 hi ⟨sm2, hm⟩
      have hi2 : i < ys.length := by omega
      have hi1 : i < xs.length := by omega
      have h1 : xs[i]? = some xs[i] := List.getElem?_eq_getElem hi1
      have h2 : ys[i]? = some ys[i] := List.getElem?_eq_getElem hi2
      refine ⟨rfl, _, rfl, _, rfl, a, _, _, xs[i], rfl, rfl, SqT.of (sm2 _ _ ha1), at_of (j := i) (by omega) h1, _, rfl, _, rfl, b, _, _, ys[i], rfl, rfl, SqT.of (sm2 _ _ hb1), at_of (j := i) (by omega) h2, ?_⟩
      exact ⟨_, _, rfl, (lk i _ _ h1 h2).mono (sm.trans sm2), fun H3 sm3 => ⟨true, rfl, iteF ⟨sm2.trans sm3, sm3 _ _ hm⟩⟩⟩
    · rintro H2 ⟨sm2, hm⟩
      refine ⟨Nat.zero_le _, fun l nl => ?_⟩
      have sm3 := same_new nl (.lst [])
      refine ⟨.list (dI []), .list (dI []), .lst (SqL.of (sm3 _ _ hm)) .nil, .lst (SqL.of upd_same) .nil, shaped_ints [], shaped_ints [], ?_⟩
      rw [eqv_self (shaped_ints [])]
      exact q _ ((sm.trans sm2).trans sm3)
theorem scOffice : FnScope ["_law_row", "_law_people", "_law_counters"] ["_law_row", "_law_people", "_law_counters"] (defScope sOffice) := ⟨rfl, rfl, rfl, by decide +kernel, rfl, by decide +kernel, by decide +kernel⟩
theorem ok_office (D : Def K mg "_law_office" sOffice ["_law_row", "_law_people", "_law_counters"] f fd) (C : Can P w K mg base 1 "_law_taken" (spTaken K)) : Can P w K mg base 2 "_law_office" (spOffice K) := by
  refine D.can (D.F.ok scOffice (fun vs H Q E h => ?_) (fun cdv A outer s H vs Q E hr h => ?_))
  · obtain ⟨r, a, rfl, _⟩ := h
    rfl
  obtain ⟨r, a, rfl, R, q⟩ := h
  refine ⟨_, pss_one (ps_ret (pe_tup (pa_cons (pe_op op_add pe_int (pe_do C hr (by rfl) (pa_cons (pv 0) (pa_cons (pv 1) pa_nil)))) (pa_cons (pe_op op_add pe_int (pe_do C hr (by rfl) (pa_cons (pv 0) (pa_cons (pv 2) pa_nil)))) pa_nil)))), ?_⟩
  refine ⟨_, rfl, _, rfl, r, 7, a, rfl, R, by omega, by omega, fun x H1 x0 x1 b1 R1 => ⟨_, _, rfl, rfl, ?_⟩⟩
  refine ⟨_, rfl, _, rfl, r, 5, a, rfl, R1, by omega, by omega, fun y H2 y0 y1 b2 R2 => ⟨_, _, rfl, rfl, (by show 2 ≤ sizeLine; decide), fun t ht => ?_⟩⟩
  have sm := same_new ht (.tup [.int (1 + x), .int (1 + y)])
  refine q t (1 + x).toNat (1 + y).toNat _ ⟨by omega, by omega, by omega, by omega⟩ ((b1.trans b2).trans (But.of sm)) (R2.mono sm) ?_
  unfold Off
  rw [upd_same, Int.toNat_of_nonneg (by omega), Int.toNat_of_nonneg (by omega)]
end
end G29

set_option Elab.async false
set_option linter.all false
set_option maxRecDepth 100000
set_option maxHeartbeats 4000000
namespace G29
open PySem PySem.Spec PyProof.Rows L2
/-- what a comprehension over a list comes to -/
def OverL (K : PySem.W.Frag) (a : Addr) (g : TG) (tt : TT) (te : TE) (vs : List Nat) (σ : L2.St) (H1 : Hp) (D : Addr) (Qd : Hp → Prop) : Prop :=
  ∃ W : Nat → Nat → Hp → Prop, (∃ m, W 0 m (upd H1 D (.lst []))) ∧ ∀ i m H, W i m H →
      ((Itl K a).stop i H ∧ Qd H) ∨ ((Itl K a).go i H ∧ ∃ Nx : Hp → Prop, (∀ H', Nx H' → ∃ m', m' < m ∧ W (i + 1) m' H') ∧ ∀ x H', (Itl K a).yld i H x H' → g x (wipe σ vs) H' fun σ2 H2 => wipe σ2 vs = wipe σ vs ∧ tt σ2 H2 fun b H3 =>
        if b = true then te σ2 H3 fun y H4 => ∃ acc, H4 D = some (.lst acc) ∧ acc.length < sizeLine ∧ Nx (upd H4 D (.lst (acc ++ [y]))) else Nx H3)
/-- [x for x in l if ..], l a list of ints -/
theorem lc_keepL {K : PySem.W.Frag} {a : Addr} {l : List Int} {tt : TT} {σ : L2.St} {H1 : Hp} {D : Addr} {Qd : Hp → Prop} {i : Nat} (keep : Int → Bool) (hD : H1 D = none) (ha : H1 a = some (fL l)) (hl : l.length ≤ 1000) (hi : i < σ.length)
    (ht : ∀ x ∈ l, ∀ (H' : Hp) (Q : Bool → Hp → Prop), Same H1 H' → Q (keep x) H' → tt ((wipe σ [i]).set i (some (.int x))) H' Q)
    (hd : ∀ H', Same H1 H' → H' D = some (fL (l.filter keep)) → Qd H') : OverL K a (gName i) tt (tVar i) [i] σ H1 D Qd := by
  refine lc_list (K := K) (a := a) (xs := l.map V.int) (fun j H' => Same H1 H' ∧ H' D = some (fL ((l.take j).filter keep))) ⟨same_new hD _, upd_same⟩ (fun j H' _ ⟨sm, _⟩ => SqL.of (sm _ _ ha)) ?_ ?_
  · rintro j x H' hj ⟨sm, hm⟩
    obtain ⟨r, hr, rfl⟩ := int_of hj
    refine ⟨wipe_again, ht r (List.mem_of_getElem? hr) _ _ sm ?_⟩
    have e : (l.take (j + 1)).filter keep = (l.take j).filter keep ++ (if keep r = true then [r] else []) := by
      rw [List.take_add_one, hr, List.filter_append]
      cases h : keep r <;> simp [h]
    cases h : keep r with
    | true =>
      refine iteT ⟨.int r, wipe_get hi, _, hm, ?_, same_put sm hD _, ?_⟩
      · rw [List.length_map]
        refine small7 (Nat.le_trans (List.length_filter_le ..) (Nat.le_trans (List.length_take_le ..) ?_))
        have := (List.getElem?_eq_some_iff.mp hr).1
        omega
      · rw [upd_same, e, h]
        unfold fL
        rw [List.map_append]
        rfl
    | false =>
      refine iteF ⟨sm, ?_⟩
      rw [e, h, hm]
      simp
  · rintro H' ⟨sm, hm⟩
    refine hd H' sm ?_
    rw [hm, List.length_map, List.take_length]
/-- [tuple(l) for l in ls] -/
theorem lc_tups {K : PySem.W.Frag} {a : Addr} {ls : List (List Int)} {qs : List Addr} {σ : L2.St} {H1 : Hp} {D : Addr} {Qd : Hp → Prop} {i : Nat} (hD : H1 D = none) (ha : H1 a = some (.lst (qs.map V.ref))) (R : Rows fL H1 qs ls) (hl : ls.length ≤ 1000) (hi : i < σ.length)
    (hd : ∀ rs H', Same H1 H' → H' D = some (.lst (rs.map V.ref)) → Rows fT H' rs ls → Qd H') : OverL K a (gName i) tYes (tCB (rTuple K) (tCons (tVar i) tNil)) [i] σ H1 D Qd := by
  refine lc_list (K := K) (a := a) (xs := qs.map V.ref) (fun j H' => Same H1 H' ∧ ∃ rs, H' D = some (.lst (rs.map V.ref)) ∧ Rows fT H' rs (ls.take j)) ⟨same_new hD _, [], upd_same, Rows.nil⟩ (fun j H' _ ⟨sm, _⟩ => SqL.of (sm _ _ ha)) ?_ ?_
  · rintro j x H' hj ⟨sm, rs, hm, R1⟩
    obtain ⟨p, l, rfl, _, hl', hp⟩ := R.ref hj
    have hjl := (List.getElem?_eq_some_iff.mp hl').1
    refine ⟨wipe_again, ?_⟩
    dsimp only [tYes]
    rw [if_pos rfl]
    refine ⟨_, wipe_get hi, p, _, rfl, .inl ⟨SqL.of (sm _ _ hp), fun t ht => ?_⟩⟩
    have smt := same_new ht (.tup (l.map V.int))
    have ntD : D ≠ t := ne_of_none hm ht
    have rl : rs.length = j := by
      rw [R1.len, List.length_take]
      omega
    refine ⟨_, smt _ _ hm, by rw [List.length_map, rl]; exact small7 (by omega), same_put (sm.trans smt) hD _, rs ++ [t], by rw [upd_same, List.map_append]; rfl, ?_⟩
    rw [List.take_add_one, hl']
    have R2 := R1.mono smt
    have R3 : Rows fT (upd (upd H' t (.tup (l.map V.int))) D (.lst (rs.map V.ref ++ [.ref t]))) rs (ls.take j) := ⟨R2.len, fun k y hk => by
      obtain ⟨b, hb1, hb2⟩ := R2.at_ k y hk
      refine ⟨b, hb1, ?_⟩
      rw [upd_ne (fun e => ?_)]
      · exact hb2
      · rw [e, smt _ _ hm] at hb2
        cases hb2⟩
    exact R3.snoc (by rw [upd_ne ntD.symm, upd_same]; rfl)
  · rintro H' ⟨sm, rs, hm, R1⟩
    rw [R.rlen, List.take_length] at R1
    exact hd rs H' sm hm R1
/-- one of fresh lists grows by one -/
theorem Fresh.grow {H0 H : Hp} {D : Addr} {ps : List Addr} {ls : List (List Int)} {k : Nat} {l : List Int} {a : Addr} {p : Int} (F : Fresh fL H0 H D ps ls) (hk : ls[k]? = some l) (ha : ps[k]? = some a) : Fresh fL H0 (upd H a (fL (l ++ [p]))) D ps (put ls k p) := by
  have naD : D ≠ a := fun e => F.off (by rw [e]; exact List.mem_of_getElem? ha)
  have eg : ls.getD k [] = l := by rw [List.getD_eq_getElem?_getD, hk]; rfl
  have hkl := (List.getElem?_eq_some_iff.mp hk).1
  refine ⟨by rw [upd_ne naD]; exact F.at_, ⟨by rw [put_len]; exact F.rows.len, fun j x hj => ?_⟩, F.nd, F.off, F.new, F.newD⟩
  unfold put at hj
  rw [eg] at hj
  by_cases e : k = j
  · subst e
    rw [List.getElem?_set_self hkl] at hj
    have ex : l ++ [p] = x := Option.some.inj hj
    subst ex
    exact ⟨a, ha, upd_same⟩
  · rw [List.getElem?_set_ne e] at hj
    obtain ⟨b, hb1, hb2⟩ := F.rows.at_ j x hj
    refine ⟨b, hb1, ?_⟩
    rw [upd_ne (fun z => e ?_)]
    · exact hb2
    · rw [z] at hb1
      exact nd_ix F.nd ha hb1
theorem Fresh.same_grow {H0 H : Hp} {D : Addr} {ps : List Addr} {ls : List (List Int)} {k : Nat} {a : Addr} {o : HO} (F : Fresh fL H0 H D ps ls) (ha : ps[k]? = some a) (s : Same H0 H) : Same H0 (upd H a o) := same_put s (F.new a (List.mem_of_getElem? ha)) o
theorem lasts_keys (cs : List Int) : lasts cs = (tally cs).map (·.1) := by
  rw [tally_count, List.map_map]
  have e : ((fun x : Int × Nat => x.1) ∘ fun p => (p, cs.count p)) = id := rfl
  rw [e, List.map_id]
end G29

set_option Elab.async false
set_option linter.all false
set_option maxRecDepth 100000
set_option maxHeartbeats 4000000
namespace G29
open PySem PySem.Spec PyProof.Rows L2
def retArg (s : Stmt) : Expr := match s with
  | .Return (some (.Call _ (e :: _) _ _)) _ => e
  | _ => .Constant .none 0 ⟨0, 0, 0, 0⟩
section
variable {P : Program} {w : World} {K : PySem.W.Frag} {mg : Str → Option Value} {base : Heap} {f : Addr} {fd : FuncData}
theorem scRing : FnScope ["_law_state_here", "_law_person", "_law_goal", "_law_lines", "_law_line", "_law_one"] ["_law_state_here", "_law_person"] (defScope sRing) := ⟨rfl, rfl, rfl, by decide +kernel, rfl, by decide +kernel, by decide +kernel⟩
abbrev scRingO : Scope := lcScope (asgVal (nthStmt (defBody sRing) 1))
theorem ok_ring (D : Def K mg "_law_call" sRing ["_law_state_here", "_law_person"] f fd) (T : Nm mg) (C1 : Can P w K mg base 1 "_law_at" spSpot) : Can P w K mg base 2 "_law_call" spRing := by
  refine D.can (D.F.ok scRing (fun vs H Q E h => ?_) (fun cdv A outer s H vs Q E hr h => ?_))
  · obtain ⟨s, p, n, c, st, rfl, _⟩ := h
    rfl
  obtain ⟨s, p, n, c, st, rfl, ⟨ps, hs, R⟩, ⟨z, g⟩, hp, q⟩ := h
  have nd := scRing.nd
  refine ⟨_, pss_cons (ps_set (i := 2) nd rfl (.inl rfl) (pe_op op_mod (pe_callTy call_int1 (by rfl) T.int bt_int (pa_cons (pe_op op_add (pe_do C1 hr (by rfl) (pa_cons (pv 0) (pa_cons (pv 1) pa_nil))) pe_int) pa_nil)) (pe_callB call_len_seq (by rfl) T.len PySem.boot_len (pa_cons (pv 0) pa_nil))))
    (pss_cons (ps_setLc (i := 3) (own := [("_law_line", 4)]) (g := gName 4) (tt := tYes) (te := tLc (iTup K (tVar 4)) (gName 5) (tTest (tOp rNe (tVar 5) (tVar 1))) (tVar 5) [5]) rfl nd rfl rfl (sw_true rfl rfl rfl (by decide +kernel)) (pi_tup (pv 0))
      (blkOk_by (own := [("_law_line", 4)]) (N := ["_law_state_here", "_law_person", "_law_goal", "_law_lines", "_law_line", "_law_one"]) (sc := defScope sRing) (by decide +kernel))
      (fun _ _ _ _ _ => pg_name (i := 4) nd rfl (.inl rfl)) (fun _ _ _ _ _ => pts_nil)
      (fun _ _ _ _ _ => pe_lc (own := [("_law_one", 5)]) (g := gName 5) (tt := tTest (tOp rNe (tVar 5) (tVar 1))) (te := tVar 5) rfl nd (pi_tup (pv 4))
          (blkOk_by (own := [("_law_one", 5)]) (N := ["_law_state_here", "_law_person", "_law_goal", "_law_lines", "_law_line", "_law_one"]) (sc := relS scRingO (defScope sRing)) (by decide +kernel))
          (fun _ _ _ _ _ => pg_name (i := 5) nd rfl (.inl rfl)) (fun _ _ _ _ _ => pts_one (pt_cmpR op_ne (pv 5) (pv 1) (nomark _))) (fun _ _ _ _ _ => pv 5)))
    (pss_cons (ps_expr (pe_bm PySem.F.plainAttrs_list PySem.F.slot_list_append PySem.F.type_list_append mt_append (pe_ix ix_list (pv 3) (pv 2) (fun _ _ => rfl)) (pa_cons (pv 1) pa_nil)))
    (pss_one (ps_ret (pe_callTy cr_tuple (by rfl) T.tuple bt_tuple (pa_cons
      (pe_lc (own := [("_law_line", 4)]) (g := gName 4) (tt := tYes) (te := tCB (rTuple K) (tCons (tVar 4) tNil)) rfl nd (pi_list (pv 3))
        (blkOk_by (own := [("_law_line", 4)]) (N := ["_law_state_here", "_law_person", "_law_goal", "_law_lines", "_law_line", "_law_one"]) (sc := defScope sRing) (by decide +kernel))
        (fun _ _ _ _ _ => pg_name (i := 4) nd rfl (.inl rfl)) (fun _ _ _ _ _ => pts_nil) (fun _ _ _ _ _ => pe_callTy cr_tuple (by rfl) T.tuple bt_tuple (pa_cons (pv 4) pa_nil))) pa_nil)))))), ?_⟩
  have hlen : st.length = c := g.len
  have c1 := z.c1
  have c6 := z.c6
  have n7 := z.n7
  -- goal = int(at(state, person) + 1) % len(state)
  refine ⟨_, rfl, _, rfl, s, p, n, c, st, rfl, ⟨ps, hs, R⟩, ⟨z, g⟩, hp, fun H1 sm1 => ?_⟩
  refine ⟨_, _, rfl, rfl, .inl ⟨_, rfl, _, rfl, s, _, rfl, .inr (SqT.of (sm1 _ _ hs)), _, _, rfl, rfl, by rw [R.rlen]; omega, ?_⟩⟩
  have e1 : ((spot st p : Nat) + 1 : Int) % (((ps.map V.ref).length : Nat) : Int) = (((spot st p + 1) % st.length : Nat) : Int) := by
    rw [R.rlen]
    exact cast_mod _ 1 _
  -- lines = [[..] for line in state]
  refine ⟨_, rfl, s, rfl, ⟨_, SqT.of (sm1 _ _ hs)⟩, fun D0 hD => lc_rows (f := fL) (fun l => l.filter fun x => decide (x ∉ [p])) hD (sm1 _ _ hs) (R.mono sm1) (by omega) (by show 4 < 6; decide) ?_ ?_⟩
  · intro l a H2 Q1 hl ha sm k
    refine ⟨_, rfl, a, rfl, ⟨_, SqT.of (sm _ _ ha)⟩, fun D2 hD2 => lc_keep (fun x => decide (x ∉ [p])) hD2 (sm _ _ ha) ?_ (by show 5 < 6; decide) ?_ ?_⟩
    · obtain ⟨j, hj⟩ := List.getElem?_of_mem hl
      have := g.line_len hj
      omega
    · intro x hx H3 Q2 sm2 hq
      refine ⟨_, rfl, _, rfl, rfl, _, rfl, ?_⟩
      have e : (!decide (V.int x = V.int p)) = decide (x ∉ [p]) := by
        by_cases h : x = p
        · subst h
          simp
        · have h' : ¬ V.int x = V.int p := fun e => h (V.int.inj e)
          simp [h, h']
      rw [e]
      exact hq
    · intro H3 sm2 hm
      exact k D2 H3 hD2 sm2 hm
  · intro qs H2 sm2 F
    have sm := sm1.trans sm2
    generalize hkk : (spot st p + 1) % st.length = k at e1
    have hk : k < (lack st [p]).length := by
      rw [lack_len, ← hkk]
      exact Nat.mod_lt _ (by omega)
    have F : Fresh fL H1 H2 D0 qs (lack st [p]) := F
    have hc : (lack st [p])[k]? = some (lack st [p])[k] := List.getElem?_eq_getElem hk
    obtain ⟨a, h1, ha⟩ := F.rows.at_ k _ hc
    have h2 : (qs.map V.ref)[k]? = some (V.ref a) := by rw [List.getElem?_map, h1]; rfl
    have ha : H2 a = some (.lst ((lack st [p])[k].map V.int)) := ha
    have hb : ((lack st [p])[k].map V.int).length < sizeLine := by
      rw [List.length_map]
      have := lack_bound g [p] _ (List.getElem_mem hk)
      exact small7 (by omega)
    -- lines[goal].append(person)
    refine ⟨_, rfl, _, rfl, D0, _, _, _, rfl, rfl, SqL.of F.at_, at_of e1 h2, .inl ⟨rfl, _, SqL.of ha⟩, _, rfl, a, _, _, rfl, rfl, ha, hb, ?_⟩
    have F2 := F.grow (p := p) hc h1
    have sm3 : Same H1 (upd H2 a (fL ((lack st [p])[k] ++ [p]))) := F.same_grow h1 sm2
    have er : put (lack st [p]) k p = ring st p := by rw [← hkk]; rfl
    rw [er] at F2
    have eh : upd H2 a (.lst ((lack st [p])[k].map V.int ++ [.int p])) = upd H2 a (fL ((lack st [p])[k] ++ [p])) := by
      unfold fL
      rw [List.map_append]
      rfl
    rw [eh]
    generalize upd H2 a (fL ((lack st [p])[k] ++ [p])) = H3 at F2 sm3
    -- return tuple([tuple(line) for line in lines])
    have sm4 := sm1.trans sm3
    refine ⟨_, rfl, D0, rfl, ⟨_, SqL.of F2.at_⟩, fun D3 hD3 => lc_tups hD3 F2.at_ F2.rows (by rw [ring, put_len, lack_len]; omega) (by show 4 < 6; decide) fun rs H4 sm5 hm R4 => ?_⟩
    exact ⟨D3, _, rfl, .inl ⟨SqL.of hm, fun t ht => q t _ ((sm4.trans sm5).trans (same_new ht _)) ⟨rs, upd_same, R4.mono (same_new ht _)⟩⟩⟩
theorem scRings : FnScope ["_law_state_here", "_law_calls", "_law_person"] ["_law_state_here", "_law_calls"] (defScope sRings) := ⟨rfl, rfl, rfl, by decide +kernel, rfl, by decide +kernel, by decide +kernel⟩
theorem ok_rings (D : Def K mg "_law_done" sRings ["_law_state_here", "_law_calls"] f fd) (C1 : Can P w K mg base 2 "_law_call" spRing) : Can P w K mg base 3 "_law_done" spRings := by
  refine D.can (D.F.ok scRings (fun vs H Q E h => ?_) (fun cdv A outer s H vs Q E hr h => ?_))
  · obtain ⟨s, a, n, c, st, cs, rfl, _⟩ := h
    rfl
  obtain ⟨s, a, n, c, st, cs, rfl, hs, ha, ft, ok, q⟩ := h
  have nd := scRings.nd
  refine ⟨_, pss_cons (ps_for PassesOwn.never rfl (pi_tup (pv 1)) (pg_name (i := 2) nd rfl (.inl rfl)) (pss_one (ps_set (i := 0) nd rfl (.inl rfl) (pe_do C1 hr (by rfl) (pa_cons (pv 0) (pa_cons (pv 2) pa_nil))))))
    (pss_one (ps_ret (pv 0))), ?_⟩
  refine ⟨_, rfl, a, rfl, ⟨_, ha.sq⟩, for_tup (K := K) (a := a) (xs := cs.map V.int) (fun i σ H' => ∃ y t, σ = [some (.ref t), some (.ref a), y] ∧ Same H H' ∧ ST H' t (rings st (cs.take i)))
    ⟨none, s, rfl, Same.refl _, hs⟩ (fun i σ H' _ ⟨_, _, _, sm, _⟩ => (ha.mono sm).sq) ?_ ?_⟩
  · rintro i x σ H1 hi ⟨y, t, rfl, sm, ht⟩
    obtain ⟨r, hr', rfl⟩ := int_of hi
    have hrf := ok r (List.mem_of_getElem? hr')
    refine ⟨_, rfl, _, rfl, t, r, n, c, _, rfl, ht, ⟨ft.z, rings_good ft.z.c1 ft.g fun k hk => ok k (List.mem_of_mem_take hk)⟩, hrf, fun u H2 sm2 hu => ?_⟩
    refine ⟨_, u, rfl, sm.trans sm2, ?_⟩
    have e : rings st (cs.take (i + 1)) = ring (rings st (cs.take i)) r := foldl_take _ _ hr'
    rw [e]
    exact hu
  · rintro σ H1 ⟨y, t, rfl, sm, ht⟩
    rw [List.length_map, List.take_length] at ht
    exact ⟨_, rfl, q t H1 sm ht⟩
end
end G29

set_option Elab.async false
set_option linter.all false
set_option maxRecDepth 100000
set_option maxHeartbeats 4000000
namespace G29
open PySem PySem.Spec PyProof.Rows L2
/-- int(x), by a name of its own -/
def rInt1 : List V → Hp → VK → Prop := fun xs H Q => (∃ i, xs = [.int i] ∧ Q (.int i) H) ∨ ∃ k, xs = [.bl k] ∧ Q (.int (if k then 1 else 0)) H
theorem cr_int {X : Cx} : CallR X (.type "int") rInt1 := call_int1
/-- a list of rows grows by a new pair -/
theorem rows_grow {α : Type} {f : α → HO} {H H' : Hp} {D t : Addr} {qs : List Addr} {xs : List α} {x : α} (R : Rows f H qs xs) (hm : H D = some (.lst (qs.map V.ref))) (s : Same H H') (ht : H t = none) (hx : H' t = some (f x)) (nf : ∀ y : α, ∀ l, f y ≠ .lst l) : Rows f (upd H' D (.lst (qs.map V.ref ++ [.ref t]))) (qs ++ [t]) (xs ++ [x]) := by
  have ntD : D ≠ t := ne_of_none hm ht
  have R2 := R.mono s
  have R3 : Rows f (upd H' D (.lst (qs.map V.ref ++ [.ref t]))) qs xs := ⟨R2.len, fun k y hk => by
    obtain ⟨b, hb1, hb2⟩ := R2.at_ k y hk
    refine ⟨b, hb1, ?_⟩
    rw [upd_ne (fun e => ?_)]
    · exact hb2
    · rw [e, s _ _ hm] at hb2
      exact nf y _ (Option.some.inj hb2).symm⟩
  exact R3.snoc (by rw [upd_ne ntD.symm]; exact hx)
section
variable {P : Program} {w : World} {K : PySem.W.Frag} {mg : Str → Option Value} {base : Heap} {f : Addr} {fd : FuncData}
theorem scPlan : FnScope ["_law_office_here", "_law_calls", "_law_order", "_law_person", "_law_one"] ["_law_office_here", "_law_calls"] (defScope sPlan) := ⟨rfl, rfl, rfl, by decide +kernel, rfl, by decide +kernel, by decide +kernel⟩
theorem ok_plan (D : Def K mg "_law_plan" sPlan ["_law_office_here", "_law_calls"] f fd) (T : Nm mg) : Can P w K mg base 1 "_law_plan" spPlan := by
  refine D.can (D.F.ok scPlan (fun vs H Q E h => ?_) (fun cdv A outer s H vs Q E hr h => ?_))
  · obtain ⟨o, a, n, c, cs, rfl, _⟩ := h
    rfl
  obtain ⟨o, a, n, c, cs, rfl, ho, z, ha, hz, ok, q⟩ := h
  have ho : H o = some (.tup [.int (n : Int), .int (c : Int)]) := ho
  have nd := scPlan.nd
  have n7 := z.n7
  have c1 := z.c1
  refine ⟨_, pss_cons (ps_set (i := 2) nd rfl (.inl rfl) (pe_lst pa_nil))
    (pss_cons (ps_for PassesOwn.never rfl (pi_tup (pv 1)) (pg_name (i := 3) nd rfl (.inr rfl)) (pss_one (ps_set (i := 2) nd rfl (.inl rfl) (pe_op op_cat
      (pe_lc (own := [("_law_one", 4)]) (g := gName 4) (tt := tTest (tOp rNe (tVar 4) (tVar 3))) (te := tVar 4) rfl nd (pi_list (pv 2))
        (blkOk_by (own := [("_law_one", 4)]) (N := ["_law_office_here", "_law_calls", "_law_order", "_law_person", "_law_one"]) (sc := defScope sPlan) (by decide +kernel))
        (fun _ _ _ _ _ => pg_name (i := 4) nd rfl (.inl rfl)) (fun _ _ _ _ _ => pts_one (pt_cmpR op_ne (pv 4) (pv 3) (nomark _))) (fun _ _ _ _ _ => pv 4))
      (pe_lst (pa_cons (pv 3) pa_nil))))))
    (pss_one (ps_ret (pe_callTy cr_tuple (by rfl) T.tuple bt_tuple (pa_cons
      (pe_lc (own := [("_law_person", 3)]) (g := gName 3) (tt := tYes)
        (te := tTup (tCons (tVar 3) (tCons (tOp (rI (fun _ j => 0 < j) fun i j => .int (i % j)) (tCB rInt1 (tCons (tBMT (rCntT K) (tVar 1) (tCons (tVar 3) tNil)) tNil)) (tOp (rIxT K) (tVar 0) (tC (.int 1)))) tNil))) rfl nd (pi_list (pv 2))
        (blkOk_by (own := [("_law_person", 3)]) (N := ["_law_office_here", "_law_calls", "_law_order", "_law_person", "_law_one"]) (sc := defScope sPlan) (by decide +kernel))
        (fun _ _ _ _ _ => pg_name (i := 3) nd rfl (.inl rfl)) (fun _ _ _ _ _ => pts_nil)
        (fun _ _ _ _ _ => pe_tup (pa_cons (pv 3) (pa_cons (pe_op op_mod (pe_callTy cr_int (by rfl) T.int bt_int (pa_cons (pe_bmT PySem.F.slot_tuple_count PySem.F.type_tuple_count mt_tcount (pv 1) (pa_cons (pv 3) pa_nil)) pa_nil)) (pe_ix ix_tup (pv 0) pe_int (fun _ _ => rfl))) pa_nil)))) pa_nil))))), ?_⟩
  have lz : ∀ i, (lasts (cs.take i)).length ≤ n := fun i => by
    rw [lasts_keys, List.length_map]
    exact tally_len fun p hp => ok p (List.mem_of_mem_take hp)
  -- order = []
  refine ⟨Nat.zero_le _, fun d0 hd0 => ?_⟩
  have sm0 := same_new hd0 (.lst [])
  -- for person in calls
  refine ⟨_, rfl, a, rfl, ⟨_, (ha.mono sm0).sq⟩, for_tup (K := K) (a := a) (xs := cs.map V.int) (fun i σ H' => ∃ y od, σ = [some (.ref o), some (.ref a), some (.ref od), y, none] ∧ Same H H' ∧ H' od = some (fL (lasts (cs.take i))))
    ⟨none, d0, rfl, sm0, upd_same⟩ (fun i σ H' _ ⟨_, _, _, sm, _⟩ => (ha.mono sm).sq) ?_ ?_⟩
  · rintro i x σ H1 hi ⟨y, od, rfl, sm, hm⟩
    obtain ⟨r, hr', rfl⟩ := int_of hi
    refine ⟨_, rfl, od, rfl, ⟨_, SqL.of hm⟩, fun D0 hD => lc_keepL (fun x => decide (x ≠ r)) hD hm (by have := lz i; omega) (by show 4 < 5; decide) ?_ ?_⟩
    · intro x hx H2 Q2 sm2 hq
      refine ⟨_, rfl, _, rfl, rfl, _, rfl, ?_⟩
      have e : (!decide (V.int x = V.int r)) = decide (x ≠ r) := by
        by_cases h : x = r
        · subst h
          simp
        · have h' : ¬ V.int x = V.int r := fun e => h (V.int.inj e)
          simp [h, h']
      rw [e]
      exact hq
    · intro H2 sm2 hm2
      refine ⟨_, rfl, (by show 1 ≤ sizeLine; decide), fun l hl => ?_⟩
      have sml := same_new hl (.lst [.int r])
      refine ⟨D0, l, _, _, rfl, rfl, sml _ _ hm2, upd_same, ?_, fun u nu => ?_⟩
      · rw [List.length_map]
        have h1 := List.length_filter_le (fun x => decide (x ≠ r)) (lasts (cs.take i))
        have h2 := lz i
        exact Nat.le_of_lt (small7 (by show _ + 1 ≤ 1000; omega))
      · refine ⟨_, u, rfl, ((sm.trans sm2).trans sml).trans (same_new nu _), ?_⟩
        have e : lasts (cs.take (i + 1)) = (lasts (cs.take i)).filter (fun x => decide (x ≠ r)) ++ [r] := by
          rw [List.take_add_one, hr']
          exact lasts_snoc _ _
        rw [upd_same, e]
        unfold fL
        rw [List.map_append]
        rfl
  · rintro σ H1 ⟨y, od, rfl, sm, hm⟩
    have lz' := lz (cs.map V.int).length
    rw [List.length_map, List.take_length] at hm lz'
    -- [(person, int(calls.count(person)) % office[1]) for person in order]
    refine ⟨_, rfl, od, rfl, ⟨_, SqL.of hm⟩, fun D0 hD => ?_⟩
    refine lc_list (K := K) (a := od) (xs := (lasts cs).map V.int) (fun i H' => Same H1 H' ∧ ∃ qs, H' D0 = some (.lst (qs.map V.ref)) ∧ Rows fP H' qs ((modC c (tally cs)).take i)) ⟨same_new hD _, [], upd_same, Rows.nil⟩ (fun i H' _ ⟨sm, _⟩ => SqL.of (sm _ _ hm)) ?_ ?_
    · rintro i x H2 hi ⟨sm2, qs, hm2, R2⟩
      obtain ⟨r, hr', rfl⟩ := int_of hi
      have hil := (List.getElem?_eq_some_iff.mp hr').1
      have hmt : (modC c (tally cs))[i]? = some (r, cs.count r % c) := by
        unfold modC
        rw [tally_count, List.map_map, List.getElem?_map, hr']
        rfl
      have ha2 := (ha.mono sm).mono sm2
      have ho2 := sm2 _ _ (sm _ _ ho)
      obtain ⟨ob, hob, hab⟩ := id ha2
      refine ⟨rfl, ?_⟩
      dsimp only [tYes]
      rw [if_pos rfl]
      refine ⟨_, rfl, _, rfl, ⟨a, _, ob, rfl, hob, hab⟩, _, rfl, a, cs, r, rfl, rfl, ha2.sq, .inl ⟨_, rfl, _, rfl, o, _, 1, .int c, rfl, rfl, SqT.of ho2, atI_nat (j := 1) rfl, _, _, rfl, rfl, by omega, (by show 2 ≤ sizeLine; decide), fun t ht => ?_⟩⟩
      have smt := same_new ht (.tup [.int r, .int ((cs.count r : Nat) % (c : Int))])
      have ql : qs.length ≤ 1000 := by
        rw [R2.len]
        exact Nat.le_trans (List.length_take_le ..) (by omega)
      refine ⟨_, smt _ _ hm2, by rw [List.length_map]; exact small7 ql, same_put (sm2.trans smt) hD _, qs ++ [t], by rw [upd_same, List.map_append]; rfl, ?_⟩
      rw [List.take_add_one, hmt]
      refine rows_grow R2 hm2 smt ht ?_ (fun y l e => by cases e)
      rw [upd_same]
      show some (HO.tup [V.int r, .int ((cs.count r : Nat) % (c : Int))]) = some (HO.tup [.int r, .int ((cs.count r % c : Nat) : Int)])
      rw [Int.natCast_emod]
    · rintro H2 ⟨sm2, qs, hm2, R2⟩
      have e : (modC c (tally cs)).take ((lasts cs).map V.int).length = modC c (tally cs) := List.take_of_length_le (by
        unfold modC
        rw [List.length_map, List.length_map, lasts_keys, List.length_map]
        exact Nat.le_refl _)
      rw [e] at R2
      exact ⟨D0, _, rfl, .inl ⟨SqL.of hm2, fun t ht => q t _ ((sm.trans sm2).trans (same_new ht _)) ⟨qs, upd_same, R2.mono (same_new ht _)⟩⟩⟩
end
end G29

set_option Elab.async false
set_option linter.all false
set_option maxRecDepth 100000
set_option maxHeartbeats 4000000
namespace G29
open PySem PySem.Spec PyProof.Rows L2
theorem pull_perm : ∀ {l : List Int} {j : Nat} {y : Int}, l[j]? = some y → l.Perm (y :: l.eraseIdx j)
  | [], _, _, h => by simp at h
  | a :: r, 0, y, h => by
    have e : a = y := by simpa using h
    subst e
    exact List.Perm.refl _
  | a :: r, j + 1, y, h => by
    have ih := pull_perm (l := r) (j := j) (y := y) (by simpa using h)
    show (a :: r).Perm (y :: a :: r.eraseIdx j)
    exact (ih.cons a).trans (List.Perm.swap y a _)
theorem rg_folk (n : Nat) : rgV 0 (n : Int) = (folk n).map V.int := by
  unfold rgV folk
  rw [Int.sub_zero, Int.toNat_natCast, List.map_map]
  apply List.map_congr_left
  intro i _
  show V.int (0 + (i : Int)) = V.int (Int.ofNat i)
  rw [Int.zero_add]
  rfl
section
variable {α : Type} {f : α → HO} {H0 H H' : Hp} {D r : Addr} {qs : List Addr} {xs : List α}
theorem Fresh.snoc {x : α} {t : Addr} (F : Fresh f H0 H D qs xs) (sm : Same H0 H) (s : Same H H') (nt : H t = none) (ht : H' t = some (f x)) : Fresh f H0 (upd H' D (.lst (qs.map V.ref ++ [.ref t]))) D (qs ++ [t]) (xs ++ [x]) := by
  have ntD : t ≠ D := fun e => by
    rw [e, F.at_] at nt
    cases nt
  refine ⟨by rw [upd_same, List.map_append]; rfl, ?_, ?_, ?_, ?_, F.newD⟩
  · have r1 : Rows f (upd H' D (.lst (qs.map V.ref ++ [.ref t]))) qs xs := ⟨F.rows.len, fun k y hk => by
      obtain ⟨q, h1, h2⟩ := F.rows.at_ k y hk
      refine ⟨q, h1, ?_⟩
      rw [upd_ne (fun e => F.off (by rw [← e]; exact List.mem_of_getElem? h1))]
      exact s _ _ h2⟩
    exact r1.snoc (by rw [upd_ne ntD]; exact ht)
  · rw [List.nodup_append]
    refine ⟨F.nd, by simp, fun b hb c hc e => ?_⟩
    have ec : c = t := by simpa using hc
    obtain ⟨k, hk⟩ := List.getElem?_of_mem hb
    have hkl : k < xs.length := by
      rw [← F.rows.len]
      exact (List.getElem?_eq_some_iff.mp hk).1
    obtain ⟨q, h1, h2⟩ := F.rows.at_ k _ (List.getElem?_eq_getElem hkl)
    rw [hk] at h1
    cases h1
    rw [e, ec, nt] at h2
    cases h2
  · rw [List.mem_append, not_or]
    exact ⟨F.off, by simpa using ntD.symm⟩
  · intro b hb
    rcases List.mem_append.mp hb with h | h
    · exact F.new b h
    · have e : b = t := by simpa using h
      rw [e]
      exact sm.free nt
/-- all but r stays -/
theorem Fresh.but (F : Fresh f H0 H D qs xs) (b : But r H H') (hr : ∀ p, H0 p = none → p ≠ r) : Fresh f H0 H' D qs xs :=
  ⟨b _ _ (hr _ F.newD) F.at_, ⟨F.rows.len, fun j x h => let ⟨p, h1, h2⟩ := F.rows.at_ j x h; ⟨p, h1, b _ _ (hr _ (F.new p (List.mem_of_getElem? h1))) h2⟩⟩, F.nd, F.off, F.new, F.newD⟩
/-- another new object is written -/
theorem Fresh.other {p : Addr} {o : HO} (F : Fresh f H0 H D qs xs) (h1 : p ≠ D) (h2 : p ∉ qs) : Fresh f H0 (upd H p o) D qs xs :=
  ⟨by rw [upd_ne h1.symm]; exact F.at_, ⟨F.rows.len, fun j x h => let ⟨q, g1, g2⟩ := F.rows.at_ j x h; ⟨q, g1, by rw [upd_ne (fun e => h2 (by rw [← e]; exact List.mem_of_getElem? g1))]; exact g2⟩⟩, F.nd, F.off, F.new, F.newD⟩
end
section
variable {P : Program} {w : World} {K : PySem.W.Frag} {mg : Str → Option Value} {base : Heap} {f : Addr} {fd : FuncData}
theorem scDrawn : FnScope ["_law_row", "_law_office_here", "_law_lines", "_law_left", "_law_turn", "_law_counter", "_law_line"] ["_law_row", "_law_office_here"] (defScope sDrawn) := ⟨rfl, rfl, rfl, by decide +kernel, rfl, by decide +kernel, by decide +kernel⟩
theorem ok_drawn (D : Def K mg "_law_state" sDrawn ["_law_row", "_law_office_here"] f fd) (T : Nm mg) (C : Can P w K mg base 1 "_law_taken" (spTaken K)) : Can P w K mg base 2 "_law_state" (spDrawn K) := by
  refine D.can (D.F.ok scDrawn (fun vs H Q E h => ?_) (fun cdv A outer s H vs Q E hr h => ?_))
  · obtain ⟨r, a, o, n, c, rfl, _⟩ := h
    rfl
  obtain ⟨r, a, o, n, c, rfl, R, nor, ho, z, q⟩ := h
  have ho : H o = some (.tup [.int (n : Int), .int (c : Int)]) := ho
  have nd := scDrawn.nd
  have n7 := z.n7
  have n1 := z.n1
  have c1 := z.c1
  have c6 := z.c6
  refine ⟨_, pss_cons (ps_par (i := 2) (j := 3) (by rfl) nd rfl rfl (by decide) rfl rfl (pa_cons
      (pe_lc (own := [("_law_counter", 5)]) (g := gName 5) (tt := tYes) (te := tLst tNil) rfl nd (pi_range1 rfl T.range (pa_cons (pe_ix ix_tup (pv 1) pe_int (fun _ _ => rfl)) pa_nil))
        (blkOk_by (own := [("_law_counter", 5)]) (N := ["_law_row", "_law_office_here", "_law_lines", "_law_left", "_law_turn", "_law_counter", "_law_line"]) (sc := defScope sDrawn) (by decide +kernel))
        (fun _ _ _ _ _ => pg_name (i := 5) nd rfl (.inl rfl)) (fun _ _ _ _ _ => pts_nil) (fun _ _ _ _ _ => pe_lst pa_nil))
      (pa_cons (pe_listRg rfl (by rfl) T.list (prg_1 (by rfl) T.range (pe_ix ix_tup (pv 1) pe_int (fun _ _ => rfl)))) pa_nil)) (by rfl))
    (pss_cons (ps_for PassesOwn.never rfl (pi_range1 rfl T.range (pa_cons (pe_ix ix_tup (pv 1) pe_int (fun _ _ => rfl)) pa_nil)) (pg_name (i := 4) nd rfl (.inl rfl))
      (pss_one (ps_expr (pe_bm PySem.F.plainAttrs_list PySem.F.slot_list_append PySem.F.type_list_append mt_append
        (pe_ix ix_list (pv 2) (pe_do C hr (by rfl) (pa_cons (pv 0) (pa_cons (pe_ix ix_tup (pv 1) pe_int (fun _ _ => rfl)) pa_nil))) (fun _ _ => rfl))
        (pa_cons (pe_bm PySem.F.plainAttrs_list PySem.F.slot_list_pop PySem.F.type_list_pop mt_popAt (pv 3)
          (pa_cons (pe_do C hr (by rfl) (pa_cons (pv 0) (pa_cons (pe_callB call_len_seq (by rfl) T.len PySem.boot_len (pa_cons (pv 3) pa_nil)) pa_nil))) pa_nil)) pa_nil)))))
    (pss_one (ps_ret (pe_callTy cr_tuple (by rfl) T.tuple bt_tuple (pa_cons
      (pe_lc (own := [("_law_line", 6)]) (g := gName 6) (tt := tYes) (te := tCB (rTuple K) (tCons (tVar 6) tNil)) rfl nd (pi_list (pv 2))
        (blkOk_by (own := [("_law_line", 6)]) (N := ["_law_row", "_law_office_here", "_law_lines", "_law_left", "_law_turn", "_law_counter", "_law_line"]) (sc := defScope sDrawn) (by decide +kernel))
        (fun _ _ _ _ _ => pg_name (i := 6) nd rfl (.inl rfl)) (fun _ _ _ _ _ => pts_nil) (fun _ _ _ _ _ => pe_callTy cr_tuple (by rfl) T.tuple bt_tuple (pa_cons (pv 6) pa_nil))) pa_nil))))), ?_⟩
  have hne : ∀ p, H p = none → p ≠ r := fun p hp => R.ne hp
  -- lines = [[] for counter in range(office[1])]
  refine ⟨_, rfl, o, _, 1, .int c, rfl, rfl, SqT.of ho, atI_nat (j := 1) rfl, _, rfl, by omega, by omega, fun D0 hD => ?_⟩
  refine lc_range (lo := 0) (n := ((c : Int)).toNat) (fun i H' => Same H H' ∧ ∃ qs, Fresh fL H H' D0 qs (List.replicate i [])) ⟨same_new hD _, [], upd_same, Rows.nil, List.nodup_nil, by simp, by simp, hD⟩ ?_ ?_
  · rintro i H1 hi ⟨sm, qs, F⟩
    refine ⟨rfl, ?_⟩
    dsimp only [tYes]
    rw [if_pos rfl]
    refine ⟨Nat.zero_le _, fun l nl => ?_⟩
    have sml := same_new nl (.lst [])
    refine ⟨_, sml _ _ F.at_, by rw [F.rows.rlen, List.length_replicate]; exact small7 (by omega), same_put (sm.trans sml) hD _, qs ++ [l], ?_⟩
    rw [List.replicate_succ']
    exact F.snoc sm sml nl upd_same
  rintro H1 ⟨sm1, qs, F1⟩
  rw [Int.toNat_natCast] at F1
  have ho1 := sm1 _ _ ho
  -- left = list(range(office[0]))
  refine ⟨_, rfl, o, _, 0, .int n, rfl, rfl, SqT.of ho1, atI_nat (j := 0) rfl, n, rfl, RgOk.of_le (by omega) (by omega) (by omega) (by omega), fun L hL => ⟨_, _, rfl, ?_⟩⟩
  have smL := same_new hL (.lst (rgV 0 (n : Int)))
  have nDL : L ≠ D0 := (ne_of_none F1.at_ hL).symm
  have nqL : L ∉ qs := fun hm => by
    obtain ⟨j, hj⟩ := List.getElem?_of_mem hm
    have hjl : j < (List.replicate c ([] : List Int)).length := by
      rw [← F1.rows.len]
      exact (List.getElem?_eq_some_iff.mp hj).1
    obtain ⟨b, h1, h2⟩ := F1.rows.at_ j _ (List.getElem?_eq_getElem hjl)
    rw [hj] at h1
    cases h1
    rw [hL] at h2
    cases h2
  have hL0 : H L = none := sm1.free hL
  have sm2 := sm1.trans smL
  have ho2 := sm2 _ _ ho
  have F2 := F1.same smL
  -- for turn in range(office[0])
  refine ⟨_, rfl, o, _, 0, .int n, rfl, rfl, SqT.of ho2, atI_nat (j := 0) rfl, _, rfl, by omega, by omega, for_range (lo := 0) (n := ((n : Int)).toNat) (fun i σ H' => ∃ y4, σ = [some (.ref r), some (.ref o), some (.ref D0), some (.ref L), y4, none, none] ∧ But r H H' ∧ Row K H' r a ∧
      ∃ ls left, Fresh fL H H' D0 qs ls ∧ H' L = some (fL left) ∧ ls.length = c ∧ left.length + i = n ∧ (ls.flatten ++ left).Perm (folk n))
    ⟨none, rfl, But.of sm2, R.mono sm2, _, folk n, F2, by rw [upd_same, rg_folk]; rfl, List.length_replicate, by rw [folk_len, Nat.add_zero], ?_⟩ ?_ ?_⟩
  · have e : (List.replicate c ([] : List Int)).flatten = [] := by simp
    rw [e]
    exact List.Perm.refl _
  · rintro i σ H2 hi ⟨y4, rfl, b2, R2, ls, left, F, hl, hlen, hle, hp⟩
    have hi' : i < n := by omega
    have ho3 := b2 _ _ nor ho
    -- lines[taken(row, office[1])]
    refine ⟨_, rfl, _, rfl, _, rfl, o, _, 1, .int c, rfl, rfl, SqT.of ho3, atI_nat (j := 1) rfl, r, c, a, rfl, R2, by omega, by omega, fun v H3 v0 v1 b3 R3 => ?_⟩
    have F3 := F.but b3 hne
    have hl3 : H3 L = some (fL left) := b3 _ _ (hne _ hL0) hl
    have hk : v.toNat < ls.length := by omega
    have hc : ls[v.toNat]? = some ls[v.toNat] := List.getElem?_eq_getElem hk
    obtain ⟨x, h1, hx⟩ := F3.rows.at_ _ _ hc
    have h2 : (qs.map V.ref)[v.toNat]? = some (V.ref x) := by rw [List.getElem?_map, h1]; rfl
    have nxr : x ≠ r := hne _ (F.new x (List.mem_of_getElem? h1))
    have nxL : x ≠ L := fun e => nqL (by rw [← e]; exact List.mem_of_getElem? h1)
    refine ⟨D0, _, _, .ref x, rfl, rfl, SqL.of F3.at_, at_of (j := v.toNat) (by omega) h2, .inl ⟨rfl, _, SqL.of hx⟩, ?_⟩
    -- left.pop(taken(row, len(left)))
    refine ⟨_, rfl, .inl ⟨rfl, _, SqL.of hl3⟩, _, rfl, _, rfl, L, _, rfl, .inl (SqL.of hl3), r, _, a, rfl, R3, by rw [List.length_map]; omega, by rw [List.length_map]; omega, fun u H4 u0 u1 b4 R4 => ?_⟩
    rw [List.length_map] at u1
    have hl4 : H4 L = some (fL left) := b4 _ _ (hne _ hL0) hl3
    have F4 := F3.but b4 hne
    have hx4 := b4 _ _ nxr hx
    have hu : u.toNat < left.length := by omega
    have hy : left[u.toNat]? = some left[u.toNat] := List.getElem?_eq_getElem hu
    have hy' : (left.map V.int)[u.toNat]? = some (.int left[u.toNat]) := by rw [List.getElem?_map, hy]; rfl
    have eu : u = ((u.toNat : Nat) : Int) := by omega
    have hsx : seqIndex? u (left.map V.int).length = some u.toNat := by
      have := ixN_seq (n := (left.map V.int).length) (i := u) (j := u.toNat) (by rw [List.length_map]; rw [eu]; exact ixN_nat hu)
      exact this.1
    generalize hyy : left[u.toNat] = y at hy hy'
    have hz : ls[v.toNat].length ≤ n := by
      have h3 := List.Sublist.length_le (List.sublist_flatten_of_mem (List.getElem_mem hk))
      have h4 := hp.length_eq
      rw [List.length_append, folk_len] at h4
      omega
    refine ⟨L, _, u, u.toNat, .int y, rfl, rfl, hl4, by omega, by omega, hsx, hy', ?_⟩
    have F5 := F4.other (o := .lst ((left.map V.int).eraseIdx u.toNat)) nDL nqL
    have hx5 : (upd H4 L (.lst ((left.map V.int).eraseIdx u.toNat))) x = some (fL ls[v.toNat]) := by
      rw [upd_ne nxL]
      exact hx4
    refine ⟨x, _, _, rfl, rfl, hx5, by rw [List.length_map]; exact small7 (by omega), ?_⟩
    have eh : (.lst (ls[v.toNat].map V.int ++ [.int y]) : HO) = fL (ls[v.toNat] ++ [y]) := by
      unfold fL
      rw [List.map_append]
      rfl
    rw [eh]
    have F6 := F5.grow (p := y) hc h1
    have b5 : But r H (upd (upd H4 L (.lst ((left.map V.int).eraseIdx u.toNat))) x (fL (ls[v.toNat] ++ [y]))) := (((b2.trans b3).trans b4).put hL0 _).put (F.new x (List.mem_of_getElem? h1)) _
    refine ⟨_, rfl, b5, R.carry b5 R4 ?_, put ls v.toNat y, left.eraseIdx u.toNat, F6, ?_, by rw [put_len]; exact hlen, ?_, ?_⟩
    · rw [upd_ne nxr.symm, upd_ne (hne _ hL0).symm]
    · rw [upd_ne nxL.symm, upd_same, erase_mapI]
      rfl
    · rw [List.length_eraseIdx, if_pos hu]
      omega
    · have p1 := (flat_put (p := y) hk).append_right (left.eraseIdx u.toNat)
      have p2 : (y :: ls.flatten ++ left.eraseIdx u.toNat).Perm (ls.flatten ++ (y :: left.eraseIdx u.toNat)) := List.perm_middle.symm
      exact (p1.trans p2).trans (((pull_perm hy).symm.append_left _).trans hp)
  · rintro σ H2 ⟨y4, rfl, b2, R2, ls, left, F, hl, hlen, hle, hp⟩
    have e0 : left = [] := List.length_eq_zero_iff.mp (by omega)
    subst e0
    rw [List.append_nil] at hp
    -- return tuple([tuple(line) for line in lines])
    refine ⟨_, rfl, D0, rfl, ⟨_, SqL.of F.at_⟩, fun D3 hD3 => lc_tups hD3 F.at_ F.rows (by omega) (by show 6 < 7; decide) fun rs H4 sm5 hm R4 => ?_⟩
    refine ⟨D3, _, rfl, .inl ⟨SqL.of hm, fun t ht => ?_⟩⟩
    have sm6 := sm5.trans (same_new ht (.tup (rs.map V.ref)))
    exact q t ls _ ⟨hlen, hp⟩ (b2.trans (But.of sm6)) (R2.mono sm6) ⟨rs, upd_same, R4.mono (same_new ht _)⟩
end
end G29

set_option Elab.async false
set_option linter.all false
set_option maxRecDepth 100000
set_option maxHeartbeats 4000000
namespace G29
open PySem PySem.Spec PyProof.Rows L2
/-- tuple(l), by the rule for locked ones -/
theorem GRows.keep {H H' : Hp} {ps : List Addr} {gs : List (List Int)} {r : Addr} (R : GRows H ps gs) (b : But r H H') (hr : ∀ l, H r ≠ some (.frz (l : Obj × HO).1 l.2)) : GRows H' ps gs :=
  ⟨R.len, fun j g h => by
    obtain ⟨p, h1, o, h2, h3⟩ := R.at_ j g h
    refine ⟨p, h1, o, h2, b _ _ (fun e => ?_) h3⟩
    rw [e] at h3
    exact hr (o, _) h3⟩
section
variable {P : Program} {w : World} {K : PySem.W.Frag} {mg : Str → Option Value} {base : Heap} {f : Addr} {fd : FuncData}
theorem scGroups : FnScope ["_law_row", "_law_office_here", "_law_many", "_law_found", "_law_turn", "_law_person"] ["_law_row", "_law_office_here", "_law_many"] (defScope sGroups) := ⟨rfl, rfl, rfl, by decide +kernel, rfl, by decide +kernel, by decide +kernel⟩
theorem ok_groups (D : Def K mg "_law_groups" sGroups ["_law_row", "_law_office_here", "_law_many"] f fd) (T : Nm mg) (C : Can P w K mg base 1 "_law_taken" (spTaken K)) : Can P w K mg base 2 "_law_groups" (spGroups K) := by
  refine D.can (D.F.ok scGroups (fun vs H Q E h => ?_) (fun cdv A outer s H vs Q E hr h => ?_))
  · obtain ⟨r, a, o, n, c, rfl, _⟩ := h
    rfl
  obtain ⟨r, a, o, n, c, rfl, R, nor, ho, z, q⟩ := h
  have ho : H o = some (.tup [.int (n : Int), .int (c : Int)]) := ho
  have nd := scGroups.nd
  have n7 := z.n7
  have hne : ∀ p, H p = none → p ≠ r := fun p hp => R.ne hp
  refine ⟨_, pss_cons (ps_set (i := 3) nd rfl (.inl rfl) (pe_lst pa_nil))
    (pss_cons (ps_for PassesOwn.never rfl (pi_range1 rfl T.range (pa_cons (pe_do C hr (by rfl) (pa_cons (pv 0) (pa_cons (pe_op op_add (pv 2) pe_int) pa_nil))) pa_nil)) (pg_name (i := 4) nd rfl (.inl rfl))
      (pss_one (ps_expr (pe_bm PySem.F.plainAttrs_list PySem.F.slot_list_append PySem.F.type_list_append mt_append (pv 3) (pa_cons
        (pe_callTy cr_tupleF (by rfl) T.tuple bt_tuple (pa_cons
          (pe_lc (own := [("_law_person", 5)]) (g := gName 5) (tt := tTest (tOp rEq (tDo (spTaken K) (tCons (tVar 0) (tCons (tC (.int 2)) tNil))) (tC (.int 0)))) (te := tVar 5) rfl nd (pi_range1 rfl T.range (pa_cons (pe_ix ix_tup (pv 1) pe_int (fun _ _ => rfl)) pa_nil))
            (blkOk_by (own := [("_law_person", 5)]) (N := ["_law_row", "_law_office_here", "_law_many", "_law_found", "_law_turn", "_law_person"]) (sc := defScope sGroups) (by decide +kernel))
            (fun _ _ _ _ _ => pg_name (i := 5) nd rfl (.inl rfl)) (fun _ _ _ _ _ => pts_one (pt_cmpR op_eq (pe_do C hr (by rfl) (pa_cons (pv 0) (pa_cons pe_int pa_nil))) pe_int (nomark _))) (fun _ _ _ _ _ => pv 5)) pa_nil)) pa_nil)))))
    (pss_one (ps_ret (pe_callTy cr_tuple (by rfl) T.tuple bt_tuple (pa_cons (pv 3) pa_nil))))), ?_⟩
  -- found = []
  refine ⟨Nat.zero_le _, fun F0 hF => ?_⟩
  have sm0 := same_new hF (.lst [])
  have nFr := hne _ hF
  -- for turn in range(taken(row, many + 1))
  refine ⟨_, rfl, _, rfl, 6, 1, rfl, rfl, r, 6 + 1, a, rfl, R.mono sm0, by omega, by omega, fun v H1 v0 v1 b1 R1 => ?_⟩
  refine ⟨v, rfl, by omega, by omega, for_range (lo := 0) (n := v.toNat) (fun i σ H' => ∃ y4, σ = [some (.ref r), some (.ref o), some (.int 6), some (.ref F0), y4, none] ∧ But r H H' ∧ Row K H' r a ∧
      ∃ qs gs, H' F0 = some (.lst (qs.map V.ref)) ∧ GRows H' qs gs ∧ gs.length = i ∧ ∀ g ∈ gs, GrpOk n g)
    ⟨none, rfl, (But.of sm0).trans b1, R1, [], [], b1 _ _ nFr upd_same, GRows.nil, rfl, by simp⟩ ?_ ?_⟩
  · rintro i σ H2 hi ⟨y4, rfl, b2, R2, qs, gs, hm, G, gl, gk⟩
    have ho2 := b2 _ _ nor ho
    -- found.append(tuple([person for person in range(office[0]) if taken(row, 2) == 0]))
    refine ⟨_, rfl, .inl ⟨rfl, _, SqL.of hm⟩, ?_⟩
    refine ⟨_, rfl, o, _, 0, .int n, rfl, rfl, SqT.of ho2, atI_nat (j := 0) rfl, _, rfl, by omega, by omega, fun D0 hD => ?_⟩
    have nDr : D0 ≠ r := R2.ne hD
    refine lc_range (lo := 0) (n := ((n : Int)).toNat) (fun j H' => But r H2 H' ∧ Row K H' r a ∧ ∃ g, H' D0 = some (fL g) ∧ g.Pairwise (· < ·) ∧ (∀ p ∈ g, 0 ≤ p ∧ p < (j : Int)) ∧ g.length ≤ j)
      ⟨But.of (same_new hD _), R2.mono (same_new hD _), [], upd_same, List.Pairwise.nil, by simp, Nat.le_refl _⟩ ?_ ?_
    · rintro j H3 hj ⟨b3, R3, g, hg, hasc, hlt, hlen⟩
      have hj' : j < n := by omega
      refine ⟨rfl, _, rfl, r, 2, a, rfl, R3, by omega, by omega, fun u H4 u0 u1 b4 R4 => ?_⟩
      have hg4 : H4 D0 = some (fL g) := b4 _ _ nDr hg
      refine ⟨rfl, _, rfl, ite2 (fun _ => ?_) (fun _ => ?_)⟩
      · refine ⟨_, rfl, _, hg4, by rw [List.length_map]; exact small7 (by omega), ?_⟩
        have b5 : But r H2 (upd H4 D0 (.lst (g.map V.int ++ [.int (0 + (j : Int))]))) := (b3.trans b4).put hD _
        refine ⟨b5, R2.carry b5 R4 (by rw [upd_ne nDr.symm]), g ++ [(j : Int)], ?_, ?_, ?_, ?_⟩
        · rw [upd_same]
          unfold fL
          rw [List.map_append, Int.zero_add]
          rfl
        · rw [List.pairwise_append]
          exact ⟨hasc, List.pairwise_singleton _ _, fun x hx y hy => by
            have e : y = (j : Int) := by simpa using hy
            rw [e]
            exact (hlt x hx).2⟩
        · intro p hp
          rcases List.mem_append.mp hp with h | h
          · have := hlt p h
            omega
          · have e : p = (j : Int) := by simpa using h
            omega
        · rw [List.length_append, List.length_singleton]
          omega
      · exact ⟨b3.trans b4, R4, g, hg4, hasc, fun p hp => by have := hlt p hp; omega, by omega⟩
    · rintro H3 ⟨b3, R3, g, hg, hasc, hlt, hlen⟩
      refine ⟨D0, _, rfl, SqL.of hg, fun t ob hob nt => ?_⟩
      have smt := same_new nt (.frz ob (.tup (g.map V.int)))
      have hm2 : F0 ≠ r := nFr
      have hm3 := smt _ _ (b3 _ _ hm2 hm)
      refine ⟨F0, _, _, rfl, rfl, hm3, by rw [G.rlen, gl]; exact small7 (by omega), ?_⟩
      have b4 := b2.trans (b3.trans (But.of smt))
      have b5 : But r H (upd (upd H3 t (.frz ob (.tup (g.map V.int)))) F0 (.lst (qs.map V.ref ++ [.ref t]))) := b4.put hF _
      have R4 := R3.mono smt
      refine ⟨_, rfl, b5, R.carry b5 R4 (by rw [upd_ne nFr.symm]), qs ++ [t], gs ++ [g], by rw [upd_same, List.map_append]; rfl, ?_, by rw [List.length_append, gl]; rfl, ?_⟩
      · have ntF : t ≠ F0 := (ne_of_none (b3 _ _ hm2 hm) nt).symm
        have G3 : GRows H3 qs gs := G.keep b3 (fun l e => by
          obtain ⟨ns, i1, s1, c1, h1, _⟩ := R2
          rw [h1] at e
          cases e)
        have G4 := G3.mono smt
        have G5 : GRows (upd (upd H3 t (.frz ob (.tup (g.map V.int)))) F0 (.lst (qs.map V.ref ++ [.ref t]))) qs gs := ⟨G4.len, fun j x hx => by
          obtain ⟨p, h1, o1, h2, h3⟩ := G4.at_ j x hx
          refine ⟨p, h1, o1, h2, ?_⟩
          rw [upd_ne (fun e => ?_)]
          · exact h3
          · rw [e, hm3] at h3
            cases h3⟩
        exact G5.snoc ⟨ob, hob, by rw [upd_ne ntF, upd_same]⟩
      · intro k hk
        rcases List.mem_append.mp hk with h | h
        · exact gk k h
        · have e : k = g := by simpa using h
          rw [e]
          exact ⟨hasc, fun p hp => mem_folk.mpr (by have := hlt p hp; omega)⟩
  · rintro σ H2 ⟨y4, rfl, b2, R2, qs, gs, hm, G, gl, gk⟩
    -- return tuple(found)
    refine ⟨_, rfl, F0, _, rfl, .inl ⟨SqL.of hm, fun t ht => ?_⟩⟩
    have smt := same_new ht (.tup (qs.map V.ref))
    exact q t gs _ (by omega) gk (b2.trans (But.of smt)) (R2.mono smt) ⟨qs, upd_same, G.mono smt⟩
end
end G29

set_option Elab.async false
set_option linter.all false
set_option maxRecDepth 100000
set_option maxHeartbeats 4000000
namespace G29
open PySem PySem.Spec PyProof.Rows L2
theorem But.tup {r : Addr} {H H' : Hp} (b : But r H H') {l : List V} (hr : H r = some (.lst l)) {p : Addr} {o : HO} (h : H p = some o) (no : ∀ l, o ≠ .lst l) : H' p = some o := b _ _ (fun e => by
  rw [e, hr] at h
  exact no l (Option.some.inj h).symm) h
theorem TupOf.but {α : Type} {f : α → HO} {r : Addr} {H H' : Hp} (b : But r H H') {l : List V} (hr : H r = some (.lst l)) (nf : ∀ x l, f x ≠ .lst l) {a : Addr} {xs : List α} (t : TupOf f H a xs) : TupOf f H' a xs := by
  obtain ⟨ps, h, R⟩ := t
  exact ⟨ps, b.tup hr h (fun l e => by cases e), R.len, fun j x hj => let ⟨p, h1, h2⟩ := R.at_ j x hj; ⟨p, h1, b.tup hr h2 (nf x)⟩⟩
theorem Off.but {r : Addr} {H H' : Hp} (b : But r H H') {l : List V} (hr : H r = some (.lst l)) {o : Addr} {n c : Nat} (h : Off H o n c) : Off H' o n c := b.tup hr h (fun l e => by cases e)
theorem Row.lst {K : PySem.W.Frag} {H : Hp} {r a : Addr} (R : Row K H r a) : ∃ l, H r = some (.lst l) := by
  obtain ⟨ns, i, s, c, h, _⟩ := R
  exact ⟨_, h⟩
theorem row_new {K : PySem.W.Frag} {H : Hp} {a r : Addr} {ns : List Int} (hS : SqL K H a (ns.map V.int)) (hl : ns.length ≤ 63) (nr : H r = none) : Row K (upd H r (.lst [.ref a, .int 0, .int 7029, .int 0])) r a := by
  refine ⟨ns, 0, 7029, 0, upd_same, fun H' b => ?_, hl, Int.le_refl _⟩
  have s := same_new nr (.lst [.ref a, .int 0, .int 7029, .int 0])
  rcases hS with (h | ⟨o, h⟩) | h
  · exact .inl (.inl (b _ _ (ne_of_none h nr) (s _ _ h)))
  · exact .inl (.inr ⟨o, b _ _ (ne_of_none h nr) (s _ _ h)⟩)
  · exact .inr h
theorem lk_ints {H : Hp} (l : List Int) {j : Nat} {u v : V} (h1 : (l.map V.int)[j]? = some u) (h2 : (l.map V.int)[j]? = some v) : Lk 0 H u v := by
  obtain ⟨r, hr, rfl⟩ := int_of h1
  obtain ⟨q, hq, rfl⟩ := int_of h2
  rw [hr] at hq
  cases hq
  exact ⟨r, rfl, rfl⟩
theorem lk_st {H : Hp} {x y : Addr} {st : List (List Int)} (h1 : ST H x st) (h2 : ST H y st) (hl : st.length ≤ 1000) (hb : ∀ l ∈ st, l.length ≤ 1000) : Lk 2 H (.ref x) (.ref y) := by
  obtain ⟨ps, e1, R1⟩ := h1
  obtain ⟨qs, e2, R2⟩ := h2
  refine ⟨x, y, _, _, rfl, rfl, e1, e2, by rw [R1.rlen, R2.rlen], by rw [R2.rlen]; exact hl, fun j u v hu hv => ?_⟩
  obtain ⟨p, l, rfl, _, hl1, hp⟩ := R1.ref hu
  obtain ⟨q, l', rfl, _, hl2, hq⟩ := R2.ref hv
  rw [hl1] at hl2
  cases hl2
  exact ⟨p, q, _, _, rfl, rfl, hp, hq, rfl, by rw [List.length_map]; exact hb l (List.mem_of_getElem? hl1), fun k a b ha hb => lk_ints l ha hb⟩
theorem lk_pt {H : Hp} {x y : Addr} {plan : List (Int × Nat)} (h1 : PT H x plan) (h2 : PT H y plan) (hl : plan.length ≤ 1000) : Lk 2 H (.ref x) (.ref y) := by
  obtain ⟨ps, e1, R1⟩ := h1
  obtain ⟨qs, e2, R2⟩ := h2
  refine ⟨x, y, _, _, rfl, rfl, e1, e2, by rw [R1.rlen, R2.rlen], by rw [R2.rlen]; exact hl, fun j u v hu hv => ?_⟩
  obtain ⟨p, l, rfl, _, hl1, hp⟩ := R1.ref hu
  obtain ⟨q, l', rfl, _, hl2, hq⟩ := R2.ref hv
  rw [hl1] at hl2
  cases hl2
  refine ⟨p, q, _, _, rfl, rfl, hp, hq, rfl, (by show 2 ≤ 1000; decide), fun k a b ha hb => ?_⟩
  have e : [V.int l.1, V.int (l.2 : Int)] = [l.1, (l.2 : Int)].map V.int := rfl
  rw [e] at ha hb
  exact lk_ints _ ha hb
theorem flat_len {n : Nat} : ∀ {gs : List (List Int)}, (∀ g ∈ gs, GrpOk n g) → gs.flatten.length ≤ n * gs.length
  | [], _ => Nat.zero_le _
  | g :: r, h => by
    have h1 := grp_len (h g (by simp))
    have ih := flat_len (gs := r) fun k hk => h k (by simp [hk])
    rw [List.flatten_cons, List.length_append, List.length_cons, Nat.mul_add, Nat.mul_one]
    omega
section
variable {P : Program} {w : World} {K : PySem.W.Frag} {mg : Str → Option Value} {base : Heap} {f : Addr} {fd : FuncData}
abbrev nLaw : List Str := ["_law_script", "_law_row", "_law_office_here", "_law_state_here", "_law_groups_here", "_law_calls", "_law_here", "_law_group", "_law_person", "_law_lines", "_law_plan_here", "_law_line"]
theorem scLaw : FnScope nLaw ["_law_script"] (defScope sLaw) := ⟨rfl, rfl, rfl, by decide +kernel, rfl, by decide +kernel, by decide +kernel⟩
def forBody (s : Stmt) : List Stmt := match s with
  | .For _ _ b _ _ => b
  | _ => []
abbrev scLawO : Scope := lcScope (asgVal (nthStmt (forBody (nthStmt (defBody sLaw) 4)) 1))
theorem ok_law (D : Def K mg "law" sLaw ["_law_script"] f fd) (T : Nm mg) (COf : Can P w K mg base 2 "_law_office" (spOffice K)) (CDr : Can P w K mg base 2 "_law_state" (spDrawn K)) (CGr : Can P w K mg base 2 "_law_groups" (spGroups K))
    (CAt : Can P w K mg base 1 "_law_at" spSpot) (CAl : Can P w K mg base 3 "_law_alike" (spAlike 2)) (CAf : Can P w K mg base 5 "after_groups" spAfter) (CDo : Can P w K mg base 3 "_law_done" spRings)
    (CGp : Can P w K mg base 5 "groups_plan" spGroupsPlan) (CLe : Can P w K mg base 1 "_law_least" spLeast) (CPl : Can P w K mg base 1 "_law_plan" spPlan) (CAc : Can P w K mg base 5 "act" spAct) :
    FnOk P w K mg base CX0 6 f fd ["_law_script"] (spLaw K) := by
  refine D.F.ok scLaw (fun vs H Q E h => ?_) (fun cdv A outer s H vs Q E hr h => ?_)
  · obtain ⟨a, ns, rfl, _⟩ := h
    rfl
  obtain ⟨a, ns, rfl, hS, hl, q⟩ := h
  have nd := scLaw.nd
  have hr1 : Room 1 _ := hr.mono (by decide)
  have hr2 : Room 2 _ := hr.mono (by decide)
  have hr3 : Room 3 _ := hr.mono (by decide)
  refine ⟨_, pss_cons (ps_set (i := 1) nd rfl (.inl rfl) (pe_lst (pa_cons (pv 0) (pa_cons pe_int (pa_cons pe_int (pa_cons pe_int pa_nil))))))
    (pss_cons (ps_set (i := 2) nd rfl (.inl rfl) (pe_do COf hr2 (by rfl) (pa_cons (pv 1) (pa_cons pe_int (pa_cons pe_int pa_nil)))))
    (pss_cons (ps_par (i := 3) (j := 4) (by rfl) nd rfl rfl (by decide) rfl rfl (pa_cons (pe_do CDr hr2 (by rfl) (pa_cons (pv 1) (pa_cons (pv 2) pa_nil))) (pa_cons (pe_do CGr hr2 (by rfl) (pa_cons (pv 1) (pa_cons (pv 2) (pa_cons pe_int pa_nil)))) pa_nil)) (by rfl))
    (pss_cons (ps_par (i := 5) (j := 6) (by rfl) nd rfl rfl (by decide) rfl rfl (pa_cons (pe_tupF pa_nil) (pa_cons (pv 3) pa_nil)) (by rfl))
    (pss_cons (ps_for PassesOwn.never rfl (pi_tup (pv 4)) (pg_name (i := 7) nd rfl (.inr rfl))
      (Evl.pss_cut (ps_set (i := 5) nd rfl (.inl rfl) (pe_op op_catF (pv 5) (pv 7)))
      (pss_cons (ps_setLc (i := 9) (own := [("_law_line", 11)]) (g := gName 11) (tt := tYes) (te := tLc (iTup K (tVar 11)) (gName 8) (tTest (tOp (rIn K true) (tVar 8) (tVar 7))) (tVar 8) [8]) rfl nd rfl rfl (sw_true rfl rfl rfl (by decide +kernel)) (pi_tup (pv 6))
        (blkOk_by (own := [("_law_line", 11)]) (N := nLaw) (sc := defScope sLaw) (by decide +kernel)) (fun _ _ _ _ _ => pg_name (i := 11) nd rfl (.inl rfl)) (fun _ _ _ _ _ => pts_nil)
        (fun _ _ _ _ _ => pe_lc (own := [("_law_person", 8)]) (g := gName 8) (tt := tTest (tOp (rIn K true) (tVar 8) (tVar 7))) (te := tVar 8) rfl nd (pi_tup (pv 11))
          (blkOk_by (own := [("_law_person", 8)]) (N := nLaw) (sc := relS scLawO (defScope sLaw)) (by decide +kernel)) (fun _ _ _ _ _ => pg_name (i := 8) nd rfl (.inl rfl)) (fun _ _ _ _ _ => pts_one (pt_cmpR op_notIn_seq (pv 8) (pv 7) (by rfl))) (fun _ _ _ _ _ => pv 8)))
      (pss_cons (ps_for PassesOwn.never rfl (pi_tup (pv 7)) (pg_name (i := 8) nd rfl (.inl rfl))
        (pss_one (ps_expr (pe_bm PySem.F.plainAttrs_list PySem.F.slot_list_append PySem.F.type_list_append mt_append
          (pe_ix ix_list (pv 9) (pe_op op_mod (pe_callTy cr_int (by rfl) T.int bt_int (pa_cons (pe_op op_add (pe_do CAt hr1 (by rfl) (pa_cons (pv 6) (pa_cons (pv 8) pa_nil))) pe_int) pa_nil)) (pe_ix ix_tup (pv 2) pe_int (fun _ _ => rfl))) (fun _ _ => rfl)) (pa_cons (pv 8) pa_nil)))))
      (pss_one (ps_set (i := 6) nd rfl (.inl rfl) (pe_callTy cr_tuple (by rfl) T.tuple bt_tuple (pa_cons
        (pe_lc (own := [("_law_line", 11)]) (g := gName 11) (tt := tYes) (te := tCB (rTuple K) (tCons (tVar 11) tNil)) rfl nd (pi_list (pv 9))
          (blkOk_by (own := [("_law_line", 11)]) (N := nLaw) (sc := defScope sLaw) (by decide +kernel)) (fun _ _ _ _ _ => pg_name (i := 11) nd rfl (.inl rfl)) (fun _ _ _ _ _ => pts_nil) (fun _ _ _ _ _ => pe_callTy cr_tuple (by rfl) T.tuple bt_tuple (pa_cons (pv 11) pa_nil))) pa_nil))))))))
    (pss_cons (ps_if (PW.pt (pw_or (pt_not (pt_val (pe_do CAl hr3 (by rfl) (pa_cons (pe_do CAf hr (by rfl) (pa_cons (pv 2) (pa_cons (pv 3) (pa_cons (pv 4) pa_nil)))) (pa_cons (pv 6) pa_nil)))))
      (pw_or1 (pt_cmpR (op_neD hr.units) (pv 6) (pe_do CDo hr3 (by rfl) (pa_cons (pv 3) (pa_cons (pv 5) pa_nil))) (nomark _))))) pss_never pss_nil)
    (pss_cons (ps_set (i := 10) nd rfl (.inl rfl) (pe_do CGp hr (by rfl) (pa_cons (pv 2) (pa_cons (pv 4) pa_nil))))
    (pss_one (ps_ret (pe_and (pe_do CAl hr3 (by rfl) (pa_cons (pv 10) (pa_cons (pe_do CLe hr1 (by rfl) (pa_cons (pv 2) (pa_cons (pe_do CPl hr1 (by rfl) (pa_cons (pv 2) (pa_cons (pv 5) pa_nil))) pa_nil))) pa_nil)))
      (pe_one (pe_cmpR (op_eqD hr.units) (pe_do CAc hr (by rfl) (pa_cons (pv 2) (pa_cons (pv 10) (pa_cons (pv 3) pa_nil)))) (pv 6) (nomark _)))))))))))), ?_⟩
  -- row = [script, 0, 7029, 0]
  refine ⟨_, rfl, (by show 4 ≤ sizeLine; decide), fun r nr => ?_⟩
  have R1 := row_new hS hl nr
  generalize upd H r (.lst [.ref a, .int 0, .int 7029, .int 0]) = H1 at R1
  -- office, state, groups
  refine ⟨_, rfl, r, a, rfl, R1, fun o n c H2 z b2 R2 ho => ?_⟩
  obtain ⟨l2, hr2'⟩ := R2.lst
  have nor : o ≠ r := ne_of ho hr2' (by intro e; cases e)
  refine ⟨_, rfl, _, rfl, r, a, o, n, c, rfl, R2, nor, ho, z, fun s st H3 g b3 R3 hs => ?_⟩
  have ho3 := ho.but b3 hr2'
  obtain ⟨l3, hr3'⟩ := R3.lst
  refine ⟨_, rfl, _, rfl, r, a, o, n, c, rfl, R3, nor, ho3, z, fun v gs H4 g6 gk b4 R4 hv => ⟨_, _, rfl, ?_⟩⟩
  have ho4 := ho3.but b4 hr3'
  have hs4 : ST H4 s st := hs.but b4 hr3' (fun x l e => by cases e)
  have ft : Fit n c st := ⟨z, g⟩
  have n7 := z.n7
  have c6 := z.c6
  have c1 := z.c1
  obtain ⟨ps, hv1, G⟩ := id hv
  have fl : ∀ i, (gs.take i).flatten.length ≤ 42 := fun i => by
    have h1 := flat_len (gs := gs.take i) fun k hk => gk k (List.mem_of_mem_take hk)
    have h2 : (gs.take i).length ≤ 6 := Nat.le_trans (List.length_take_le' ..) g6
    have h3 : n * (gs.take i).length ≤ 7 * 6 := Nat.mul_le_mul n7 h2
    omega
  clear R1 b2 R2 hr2' b3 R3 hr3' b4 R4 ho ho3 hs
  -- calls, here = (), state
  refine ⟨Nat.zero_le _, fun p0 ob hob np => ⟨_, rfl, _, _, rfl, ?_⟩⟩
  have sm5 := same_new np (.frz ob (.tup []))
  -- for group in groups
  refine ⟨_, rfl, v, rfl, ⟨_, SqT.of (sm5 _ _ hv1)⟩, for_tup (K := K) (a := v) (xs := ps.map V.ref) (fun i σ H' => ∃ y7 y8 y9 ca t, σ = [some (.ref a), some (.ref r), some (.ref o), some (.ref s), some (.ref v), some (.ref ca), some (.ref t), y7, y8, y9, none, none] ∧
      Same H4 H' ∧ IT H' ca (gs.take i).flatten ∧ ST H' t (crews st (gs.take i)))
    ⟨none, none, none, p0, s, rfl, sm5, ⟨ob, hob, upd_same⟩, hs4.mono sm5⟩ (fun i σ H' _ ⟨_, _, _, _, _, _, sm, _⟩ => SqT.of (sm _ _ hv1)) ?_ ?_⟩
  · rintro i x σ H5 hi ⟨y7, y8, y9, ca, t, rfl, sm, hca, ht⟩
    obtain ⟨p, grp, rfl, hg, hp⟩ := G.ref hi
    have okg := gk grp (List.mem_of_getElem? hg)
    have gl := grp_len okg
    have hp5 := hp.mono sm
    have eflat : (gs.take (i + 1)).flatten = (gs.take i).flatten ++ grp := flat_take hg
    have ecrew : crews st (gs.take (i + 1)) = crew (crews st (gs.take i)) grp := foldl_take _ _ hg
    have ft' : Fit n c (crews st (gs.take i)) := crews_fit ft fun k hk => gk k (List.mem_of_mem_take hk)
    have f42 := fl i
    rw [eflat, ecrew]
    generalize crews st (gs.take i) = st' at ht ft'
    generalize (gs.take i).flatten = cs at hca f42
    -- calls = calls + group
    refine ⟨fun σ' H' => ∃ ca', σ' = [some (.ref a), some (.ref r), some (.ref o), some (.ref s), some (.ref v), some (.ref ca'), some (.ref t), some (.ref p), y8, y9, none, none] ∧ Same H5 H' ∧ IT H' ca' (cs ++ grp), ?_, ?_⟩
    · refine ⟨_, rfl, _, rfl, ca, p, _, _, rfl, rfl, hca.sq, hp5.sq, ?_, fun e => ⟨p, rfl, Same.refl _, ?_⟩, fun _ e => ⟨ca, rfl, Same.refl _, ?_⟩, fun _ _ u ou hou nu => ⟨u, rfl, same_new nu _, ou, hou, ?_⟩⟩
      · rw [List.length_map, List.length_map]
        exact Nat.le_of_lt (small7 (by omega))
      · have e' : cs = [] := List.map_eq_nil_iff.mp e
        rw [e', List.nil_append]
        exact hp5
      · have e' : grp = [] := List.map_eq_nil_iff.mp e
        rw [e', List.append_nil]
        exact hca
      · rw [upd_same, List.map_append]
    rintro _ H6 ⟨ca', rfl, sm6, hca'⟩
    have sma := sm.trans sm6
    have hp6 := hp5.mono sm6
    obtain ⟨qt, ht1, Rt⟩ := ht.mono sm6
    have slen : st'.length = c := ft'.g.len
    -- lines = [[..] for line in here]
    refine ⟨_, rfl, t, rfl, ⟨_, SqT.of ht1⟩, fun D0 hD => lc_rows (f := fL) (fun l => l.filter fun p => decide (p ∉ grp)) hD ht1 Rt (by omega) (by show 11 < 12; decide) ?_ ?_⟩
    · intro l b H7 Q1 hl hb sm7 k
      refine ⟨_, rfl, b, rfl, ⟨_, SqT.of (sm7 _ _ hb)⟩, fun D2 hD2 => lc_keep (fun x => decide (x ∉ grp)) hD2 (sm7 _ _ hb) ?_ (by show 8 < 12; decide) ?_ ?_⟩
      · obtain ⟨j, hj⟩ := List.getElem?_of_mem hl
        have := ft'.g.line_len hj
        omega
      · intro x hx H8 Q2 sm8 hq
        refine ⟨_, rfl, _, rfl, p, _, rfl, .inr ((hp6.mono sm7).mono sm8).sq, rfl, flat_ints _, _, rfl, ?_⟩
        show Q2 (!inV (.int x) (grp.map V.int)) H8
        have e : (!decide (x ∈ grp)) = decide (x ∉ grp) := by simp
        rw [inV_ints, e]
        exact hq
      · intro H8 sm8 hm
        exact k D2 H8 hD2 sm8 hm
    intro qs H7 sm7 F
    have F : Fresh fL H6 H7 D0 qs (lack st' grp) := F
    -- for person in group
    refine ⟨_, rfl, p, rfl, ⟨_, (hp6.mono sm7).sq⟩, for_tup (K := K) (a := p) (xs := grp.map V.int) (fun j σ H' => ∃ y8, σ = [some (.ref a), some (.ref r), some (.ref o), some (.ref s), some (.ref v), some (.ref ca'), some (.ref t), some (.ref p), y8, some (.ref D0), none, none] ∧
        Same H6 H' ∧ Fresh fL H6 H' D0 qs (fill (fun p => p) (fun p => (spot st' p + 1) % st'.length) (lack st' grp) (grp.take j)))
      ⟨y8, rfl, sm7, F⟩ (fun j σ H' _ ⟨_, _, sm, _⟩ => (hp6.mono sm).sq) ?_ ?_⟩
    · rintro j x σ H8 hj ⟨y8, rfl, sm8, F8⟩
      obtain ⟨w1, hw, rfl⟩ := int_of hj
      have hwf := okg.2 w1 (List.mem_of_getElem? hw)
      have ho8 := sm8 _ _ (sma _ _ ho4)
      -- lines[int(at(here, person) + 1) % office[1]].append(person)
      refine ⟨_, rfl, _, rfl, _, rfl, t, w1, n, c, st', rfl, ⟨qt, sm8 _ _ ht1, Rt.mono sm8⟩, ft', hwf, fun H9 sm9 => ⟨_, _, rfl, rfl, .inl ⟨_, rfl, ?_⟩⟩⟩
      have F9 := F8.same sm9
      have sm89 := sm8.trans sm9
      have e1 : ((spot st' w1 : Nat) + 1 : Int) % (c : Int) = (((spot st' w1 + 1) % st'.length : Nat) : Int) := by
        rw [slen]
        exact cast_mod _ 1 _
      have hk : (spot st' w1 + 1) % st'.length < (fill (fun p => p) (fun p => (spot st' p + 1) % st'.length) (lack st' grp) (grp.take j)).length := by
        rw [fill_len, lack_len]
        exact Nat.mod_lt _ (by omega)
      have hb := fill_bound (who := fun p => p) (to := fun p => (spot st' p + 1) % st'.length) (xs := grp.take j) (lack_bound ft'.g grp)
      rw [fill_step hw]
      generalize hls : fill (fun p => p) (fun p => (spot st' p + 1) % st'.length) (lack st' grp) (grp.take j) = ls at F9 hk hb
      generalize hkk : (spot st' w1 + 1) % st'.length = k at hk e1
      have hc : ls[k]? = some ls[k] := List.getElem?_eq_getElem hk
      obtain ⟨b, h1, hbx⟩ := F9.rows.at_ k _ hc
      have h2 : (qs.map V.ref)[k]? = some (V.ref b) := by rw [List.getElem?_map, h1]; rfl
      have hbx : H9 b = some (.lst (ls[k].map V.int)) := hbx
      have hzz : (ls[k].map V.int).length < sizeLine := by
        rw [List.length_map]
        have h3 := hb _ (List.getElem_mem hk)
        have h4 : (grp.take j).length ≤ 7 := Nat.le_trans (List.length_take_le' ..) (by omega)
        exact small7 (by omega)
      refine ⟨_, rfl, o, _, 1, .int c, rfl, rfl, SqT.of (sm9 _ _ ho8), atI_nat (j := 1) rfl, _, _, rfl, rfl, by omega, D0, _, _, .ref b, rfl, rfl, SqL.of F9.at_, at_of e1 h2, .inl ⟨rfl, _, SqL.of hbx⟩, _, rfl, b, _, _, rfl, rfl, hbx, hzz, ?_⟩
      have eh : (.lst (ls[k].map V.int ++ [.int w1]) : HO) = fL (ls[k] ++ [w1]) := by
        unfold fL
        rw [List.map_append]
        rfl
      rw [eh]
      exact ⟨_, rfl, F9.same_grow h1 sm89, F9.grow (p := w1) hc h1⟩
    · rintro σ H8 ⟨y8, rfl, sm8, F8⟩
      rw [List.length_map, List.take_length, ← crew_fill] at F8
      have fc := crew_fit ft' okg
      -- here = tuple([tuple(line) for line in lines])
      refine ⟨_, rfl, D0, rfl, ⟨_, SqL.of F8.at_⟩, fun D3 hD3 => lc_tups hD3 F8.at_ F8.rows (by have := fc.g.len; omega) (by show 11 < 12; decide) fun rs H9 sm9 hm R9 => ?_⟩
      refine ⟨D3, _, rfl, .inl ⟨SqL.of hm, fun u nu => ?_⟩⟩
      have smu := same_new nu (.tup (rs.map V.ref))
      have sm10 := (sm8.trans sm9).trans smu
      exact ⟨_, _, _, ca', u, rfl, sma.trans sm10, hca'.mono sm10, rs, upd_same, R9.mono smu⟩
  · rintro σ H5 ⟨y7, y8, y9, ca, t, rfl, sm, hca, ht⟩
    rw [G.rlen, List.take_length] at hca ht
    have gk' : ∀ g ∈ gs, g.Nodup ∧ ∀ p ∈ g, p ∈ folk n := fun k hk => ⟨nodup_asc (gk k hk).1, (gk k hk).2⟩
    have hfl : ∀ p ∈ gs.flatten, p ∈ folk n := fun p hp => by
      obtain ⟨k, hk, hpk⟩ := List.mem_flatten.mp hp
      exact (gk k hk).2 p hpk
    have ecr : crews st gs = rings st gs.flatten := crews_rings c1 gs st g gk'
    have fcr : Fit n c (crews st gs) := crews_fit ft gk
    have lcr : (crews st gs).length ≤ 1000 := by
      have := fcr.g.len
      omega
    have bcr : ∀ l ∈ crews st gs, l.length ≤ 1000 := fun l hl => by
      obtain ⟨j, hj⟩ := List.getElem?_of_mem hl
      have := fcr.g.line_len hj
      omega
    have f42 : gs.flatten.length ≤ 42 := by
      have := fl gs.length
      rwa [List.take_length] at this
    have ho5 : Off H5 o n c := sm _ _ ho4
    have pok := plan_ok (n := n) c1 hfl
    -- not alike(after_groups(..), here) or here != done(..)
    refine ⟨_, rfl, _, rfl, _, rfl, o, s, v, n, c, st, gs, rfl, ho5, hs4.mono sm, hv.mono sm, ft, by omega, gk, fun t2 H6 sm6 ht2 => ⟨_, rfl, .ref t2, .ref t, rfl, lk_st ht2 (ht.mono sm6) lcr bcr, fun H7 sm7 => ⟨true, rfl, iteF ?_⟩⟩⟩
    have smA := (sm.trans sm6).trans sm7
    have ht7 := (ht.mono sm6).mono sm7
    have hca7 := (hca.mono sm6).mono sm7
    refine ⟨_, rfl, _, rfl, _, rfl, s, ca, n, c, st, _, rfl, hs4.mono smA, hca7, ft, hfl, fun t3 H8 sm8 ht3 => ?_⟩
    have ht8 := ht7.mono sm8
    rw [← ecr] at ht3
    refine ⟨.tuple (dT (crews st gs)), .tuple (dT (crews st gs)), dp_st ht8, dp_st ht3, shaped_rows _, shaped_rows _, ?_⟩
    rw [eqv_self (shaped_rows _)]
    refine ⟨false, rfl, iteF ?_⟩
    have smB := smA.trans sm8
    have hca8 := hca7.mono sm8
    -- plan = groups_plan(office, groups)
    refine ⟨_, rfl, _, rfl, o, v, n, c, gs, rfl, smB _ _ ho4, z, hv.mono smB, by omega, gk, fun pl H9 sm9 hpl => ?_⟩
    have smC := smB.trans sm9
    have hca9 := hca8.mono sm9
    have ht9 := ht8.mono sm9
    have pll := pok.least.len
    -- alike(plan, least(office, plan(office, calls))) and act(office, plan, state) == here
    refine ⟨_, rfl, _, rfl, _, rfl, _, rfl, o, ca, n, c, gs.flatten, rfl, smC _ _ ho4, z, hca9, by omega, hfl, fun p2 H10 sm10 hp2 => ?_⟩
    have smD := smC.trans sm10
    refine ⟨o, p2, n, c, _, rfl, smD _ _ ho4, z, hp2, pok.len, fun p3 H11 sm11 hp3 => ?_⟩
    have smE := smD.trans sm11
    have hpl11 := (hpl.mono sm10).mono sm11
    refine ⟨.ref pl, .ref p3, rfl, lk_pt hpl11 hp3 (by omega), fun H12 sm12 => ⟨true, rfl, iteT ?_⟩⟩
    have smF := smE.trans sm12
    have hpl12 := hpl11.mono sm12
    refine ⟨_, rfl, _, rfl, _, rfl, o, pl, s, n, c, _, st, rfl, smF _ _ ho4, hpl12, hs4.mono smF, ft, pok.least, fun t4 H13 sm13 ht4 => ?_⟩
    have ht13 := (((ht9.mono sm10).mono sm11).mono sm12).mono sm13
    rw [deed_plan g c1 hfl, ← ecr] at ht4
    refine ⟨_, rfl, .tuple (dT (crews st gs)), .tuple (dT (crews st gs)), dp_st ht4, dp_st ht13, shaped_rows _, shaped_rows _, ?_⟩
    rw [eqv_self (shaped_rows _)]
    exact q _
end
end G29

set_option Elab.async false
set_option linter.all false
set_option maxRecDepth 100000
set_option maxHeartbeats 4000000
/-! the top of the text: its defs, its constants, the built-in names; then the walk -/
namespace G29
open PySem PySem.Spec PyProof.Rows L2
theorem all_mk {l : PySem.W.OpenLaw} {w : World} {K : PySem.W.Frag} {h : Heap} {mg : Str → Option Value} {fa f1 f2 f3 f4 f5 f6 f7 f8 f9 f10 f11 f12 f13 f14 f15 f16 f17 f18 f19 f20 f21 f22 f23 f24 f25 f26 f27 f28 : Addr} (X : K.In h) (G : h.Ns mainGlobals mg) (hfa : mg "law" = some (.ref fa))
    {od1 an1 od2 an2 od3 an3 od4 an4 od5 an5 od6 an6 od7 an7 od8 an8 od9 an9 od10 an10 od11 an11 od12 an12 od13 an13 od14 an14 od15 an15 od16 an16 od17 an17 od18 an18 od19 an19 od20 an20 od21 an21 od22 an22 od23 an23 od24 an24 od25 an25 od26 an26 od27 an27 od28 an28 : Option Addr} {sl1 sl2 sl3 sl4 sl5 sl6 sl7 sl8 sl9 sl10 sl11 sl12 sl13 sl14 sl15 sl16 sl17 sl18 sl19 sl20 sl21 sl22 sl23 sl24 sl25 sl26 sl27 sl28 : Array (Option Value)}
    {oc1 kv1 dc1 pm1 cd1 ct1 oc2 kv2 dc2 pm2 cd2 ct2 oc3 kv3 dc3 pm3 cd3 ct3 oc4 kv4 dc4 pm4 cd4 ct4 oc5 kv5 dc5 pm5 cd5 ct5 oc6 kv6 dc6 pm6 cd6 ct6 oc7 kv7 dc7 pm7 cd7 ct7 oc8 kv8 dc8 pm8 cd8 ct8 oc9 kv9 dc9 pm9 cd9 ct9 oc10 kv10 dc10 pm10 cd10 ct10 oc11 kv11 dc11 pm11 cd11 ct11 oc12 kv12 dc12 pm12 cd12 ct12 oc13 kv13 dc13 pm13 cd13 ct13 oc14 kv14 dc14 pm14 cd14 ct14 oc15 kv15 dc15 pm15 cd15 ct15 oc16 kv16 dc16 pm16 cd16 ct16 oc17 kv17 dc17 pm17 cd17 ct17 oc18 kv18 dc18 pm18 cd18 ct18 oc19 kv19 dc19 pm19 cd19 ct19 oc20 kv20 dc20 pm20 cd20 ct20 oc21 kv21 dc21 pm21 cd21 ct21 oc22 kv22 dc22 pm22 cd22 ct22 oc23 kv23 dc23 pm23 cd23 ct23 oc24 kv24 dc24 pm24 cd24 ct24 oc25 kv25 dc25 pm25 cd25 ct25 oc26 kv26 dc26 pm26 cd26 ct26 oc27 kv27 dc27 pm27 cd27 ct27 oc28 kv28 dc28 pm28 cd28 ct28 : Value}
    (a1 : PySem.W.nsIn K mainGlobals "is_integer" = some (some (.ref f1))) (l1 : K.lookup f1 = some ⟨oc1, od1, .func (PySem.W.fnOf "is_integer" "is_integer" (defArgs sIsInt) (defBody sIsInt) (defScope sIsInt) .none kv1 dc1 pm1 an1 cd1 ct1), sl1⟩) (c1 : PySem.W.codeIn K cd1 "is_integer" = true) (k1 : PySem.W.keepIn K (.ref f1) = true)
    (a2 : PySem.W.nsIn K mainGlobals "is_in" = some (some (.ref f2))) (l2 : K.lookup f2 = some ⟨oc2, od2, .func (PySem.W.fnOf "is_in" "is_in" (defArgs sIsIn) (defBody sIsIn) (defScope sIsIn) .none kv2 dc2 pm2 an2 cd2 ct2), sl2⟩) (c2 : PySem.W.codeIn K cd2 "is_in" = true) (k2 : PySem.W.keepIn K (.ref f2) = true)
    (a3 : PySem.W.nsIn K mainGlobals "is_list" = some (some (.ref f3))) (l3 : K.lookup f3 = some ⟨oc3, od3, .func (PySem.W.fnOf "is_list" "is_list" (defArgs sIsList) (defBody sIsList) (defScope sIsList) .none kv3 dc3 pm3 an3 cd3 ct3), sl3⟩) (c3 : PySem.W.codeIn K cd3 "is_list" = true) (k3 : PySem.W.keepIn K (.ref f3) = true)
    (a4 : PySem.W.nsIn K mainGlobals "need_office" = some (some (.ref f4))) (l4 : K.lookup f4 = some ⟨oc4, od4, .func (PySem.W.fnOf "need_office" "need_office" (defArgs sNeedOffice) (defBody sNeedOffice) (defScope sNeedOffice) .none kv4 dc4 pm4 an4 cd4 ct4), sl4⟩) (c4 : PySem.W.codeIn K cd4 "need_office" = true) (k4 : PySem.W.keepIn K (.ref f4) = true)
    (a5 : PySem.W.nsIn K mainGlobals "need_lines" = some (some (.ref f5))) (l5 : K.lookup f5 = some ⟨oc5, od5, .func (PySem.W.fnOf "need_lines" "need_lines" (defArgs sNeedLines) (defBody sNeedLines) (defScope sNeedLines) .none kv5 dc5 pm5 an5 cd5 ct5), sl5⟩) (c5 : PySem.W.codeIn K cd5 "need_lines" = true) (k5 : PySem.W.keepIn K (.ref f5) = true)
    (a6 : PySem.W.nsIn K mainGlobals "need_state" = some (some (.ref f6))) (l6 : K.lookup f6 = some ⟨oc6, od6, .func (PySem.W.fnOf "need_state" "need_state" (defArgs sNeedState) (defBody sNeedState) (defScope sNeedState) .none kv6 dc6 pm6 an6 cd6 ct6), sl6⟩) (c6 : PySem.W.codeIn K cd6 "need_state" = true) (k6 : PySem.W.keepIn K (.ref f6) = true)
    (a7 : PySem.W.nsIn K mainGlobals "counter_of" = some (some (.ref f7))) (l7 : K.lookup f7 = some ⟨oc7, od7, .func (PySem.W.fnOf "counter_of" "counter_of" (defArgs sCounterOf) (defBody sCounterOf) (defScope sCounterOf) .none kv7 dc7 pm7 an7 cd7 ct7), sl7⟩) (c7 : PySem.W.codeIn K cd7 "counter_of" = true) (k7 : PySem.W.keepIn K (.ref f7) = true)
    (a8 : PySem.W.nsIn K mainGlobals "least_in" = some (some (.ref f8))) (l8 : K.lookup f8 = some ⟨oc8, od8, .func (PySem.W.fnOf "least_in" "least_in" (defArgs sLeastIn) (defBody sLeastIn) (defScope sLeastIn) .none kv8 dc8 pm8 an8 cd8 ct8), sl8⟩) (c8 : PySem.W.codeIn K cd8 "least_in" = true) (k8 : PySem.W.keepIn K (.ref f8) = true)
    (a9 : PySem.W.nsIn K mainGlobals "need_plan" = some (some (.ref f9))) (l9 : K.lookup f9 = some ⟨oc9, od9, .func (PySem.W.fnOf "need_plan" "need_plan" (defArgs sNeedPlan) (defBody sNeedPlan) (defScope sNeedPlan) .none kv9 dc9 pm9 an9 cd9 ct9), sl9⟩) (c9 : PySem.W.codeIn K cd9 "need_plan" = true) (k9 : PySem.W.keepIn K (.ref f9) = true)
    (a10 : PySem.W.nsIn K mainGlobals "need_pairs" = some (some (.ref f10))) (l10 : K.lookup f10 = some ⟨oc10, od10, .func (PySem.W.fnOf "need_pairs" "need_pairs" (defArgs sNeedPairs) (defBody sNeedPairs) (defScope sNeedPairs) .none kv10 dc10 pm10 an10 cd10 ct10), sl10⟩) (c10 : PySem.W.codeIn K cd10 "need_pairs" = true) (k10 : PySem.W.keepIn K (.ref f10) = true)
    (a11 : PySem.W.nsIn K mainGlobals "act_in" = some (some (.ref f11))) (l11 : K.lookup f11 = some ⟨oc11, od11, .func (PySem.W.fnOf "act_in" "act_in" (defArgs sActIn) (defBody sActIn) (defScope sActIn) .none kv11 dc11 pm11 an11 cd11 ct11), sl11⟩) (c11 : PySem.W.codeIn K cd11 "act_in" = true) (k11 : PySem.W.keepIn K (.ref f11) = true)
    (a12 : PySem.W.nsIn K mainGlobals "act" = some (some (.ref f12))) (l12 : K.lookup f12 = some ⟨oc12, od12, .func (PySem.W.fnOf "act" "act" (defArgs sAct) (defBody sAct) (defScope sAct) .none kv12 dc12 pm12 an12 cd12 ct12), sl12⟩) (c12 : PySem.W.codeIn K cd12 "act" = true) (k12 : PySem.W.keepIn K (.ref f12) = true)
    (a13 : PySem.W.nsIn K mainGlobals "is_group" = some (some (.ref f13))) (l13 : K.lookup f13 = some ⟨oc13, od13, .func (PySem.W.fnOf "is_group" "is_group" (defArgs sIsGroup) (defBody sIsGroup) (defScope sIsGroup) .none kv13 dc13 pm13 an13 cd13 ct13), sl13⟩) (c13 : PySem.W.codeIn K cd13 "is_group" = true) (k13 : PySem.W.keepIn K (.ref f13) = true)
    (a14 : PySem.W.nsIn K mainGlobals "need_groups" = some (some (.ref f14))) (l14 : K.lookup f14 = some ⟨oc14, od14, .func (PySem.W.fnOf "need_groups" "need_groups" (defArgs sNeedGroups) (defBody sNeedGroups) (defScope sNeedGroups) .none kv14 dc14 pm14 an14 cd14 ct14), sl14⟩) (c14 : PySem.W.codeIn K cd14 "need_groups" = true) (k14 : PySem.W.keepIn K (.ref f14) = true)
    (a15 : PySem.W.nsIn K mainGlobals "call_group_in" = some (some (.ref f15))) (l15 : K.lookup f15 = some ⟨oc15, od15, .func (PySem.W.fnOf "call_group_in" "call_group_in" (defArgs sCallGroup) (defBody sCallGroup) (defScope sCallGroup) .none kv15 dc15 pm15 an15 cd15 ct15), sl15⟩) (c15 : PySem.W.codeIn K cd15 "call_group_in" = true) (k15 : PySem.W.keepIn K (.ref f15) = true)
    (a16 : PySem.W.nsIn K mainGlobals "after_groups" = some (some (.ref f16))) (l16 : K.lookup f16 = some ⟨oc16, od16, .func (PySem.W.fnOf "after_groups" "after_groups" (defArgs sAfter) (defBody sAfter) (defScope sAfter) .none kv16 dc16 pm16 an16 cd16 ct16), sl16⟩) (c16 : PySem.W.codeIn K cd16 "after_groups" = true) (k16 : PySem.W.keepIn K (.ref f16) = true)
    (a17 : PySem.W.nsIn K mainGlobals "groups_plan" = some (some (.ref f17))) (l17 : K.lookup f17 = some ⟨oc17, od17, .func (PySem.W.fnOf "groups_plan" "groups_plan" (defArgs sGroupsPlan) (defBody sGroupsPlan) (defScope sGroupsPlan) .none kv17 dc17 pm17 an17 cd17 ct17), sl17⟩) (c17 : PySem.W.codeIn K cd17 "groups_plan" = true) (k17 : PySem.W.keepIn K (.ref f17) = true)
    (a18 : PySem.W.nsIn K mainGlobals "_law_taken" = some (some (.ref f18))) (l18 : K.lookup f18 = some ⟨oc18, od18, .func (PySem.W.fnOf "_law_taken" "_law_taken" (defArgs sTaken) (defBody sTaken) (defScope sTaken) .none kv18 dc18 pm18 an18 cd18 ct18), sl18⟩) (c18 : PySem.W.codeIn K cd18 "_law_taken" = true) (k18 : PySem.W.keepIn K (.ref f18) = true)
    (a19 : PySem.W.nsIn K mainGlobals "_law_alike" = some (some (.ref f19))) (l19 : K.lookup f19 = some ⟨oc19, od19, .func (PySem.W.fnOf "_law_alike" "_law_alike" (defArgs sAlike) (defBody sAlike) (defScope sAlike) .none kv19 dc19 pm19 an19 cd19 ct19), sl19⟩) (c19 : PySem.W.codeIn K cd19 "_law_alike" = true) (k19 : PySem.W.keepIn K (.ref f19) = true)
    (a20 : PySem.W.nsIn K mainGlobals "_law_office" = some (some (.ref f20))) (l20 : K.lookup f20 = some ⟨oc20, od20, .func (PySem.W.fnOf "_law_office" "_law_office" (defArgs sOffice) (defBody sOffice) (defScope sOffice) .none kv20 dc20 pm20 an20 cd20 ct20), sl20⟩) (c20 : PySem.W.codeIn K cd20 "_law_office" = true) (k20 : PySem.W.keepIn K (.ref f20) = true)
    (a21 : PySem.W.nsIn K mainGlobals "_law_state" = some (some (.ref f21))) (l21 : K.lookup f21 = some ⟨oc21, od21, .func (PySem.W.fnOf "_law_state" "_law_state" (defArgs sDrawn) (defBody sDrawn) (defScope sDrawn) .none kv21 dc21 pm21 an21 cd21 ct21), sl21⟩) (c21 : PySem.W.codeIn K cd21 "_law_state" = true) (k21 : PySem.W.keepIn K (.ref f21) = true)
    (a22 : PySem.W.nsIn K mainGlobals "_law_at" = some (some (.ref f22))) (l22 : K.lookup f22 = some ⟨oc22, od22, .func (PySem.W.fnOf "_law_at" "_law_at" (defArgs sAt) (defBody sAt) (defScope sAt) .none kv22 dc22 pm22 an22 cd22 ct22), sl22⟩) (c22 : PySem.W.codeIn K cd22 "_law_at" = true) (k22 : PySem.W.keepIn K (.ref f22) = true)
    (a23 : PySem.W.nsIn K mainGlobals "_law_call" = some (some (.ref f23))) (l23 : K.lookup f23 = some ⟨oc23, od23, .func (PySem.W.fnOf "_law_call" "_law_call" (defArgs sRing) (defBody sRing) (defScope sRing) .none kv23 dc23 pm23 an23 cd23 ct23), sl23⟩) (c23 : PySem.W.codeIn K cd23 "_law_call" = true) (k23 : PySem.W.keepIn K (.ref f23) = true)
    (a24 : PySem.W.nsIn K mainGlobals "_law_done" = some (some (.ref f24))) (l24 : K.lookup f24 = some ⟨oc24, od24, .func (PySem.W.fnOf "_law_done" "_law_done" (defArgs sRings) (defBody sRings) (defScope sRings) .none kv24 dc24 pm24 an24 cd24 ct24), sl24⟩) (c24 : PySem.W.codeIn K cd24 "_law_done" = true) (k24 : PySem.W.keepIn K (.ref f24) = true)
    (a25 : PySem.W.nsIn K mainGlobals "_law_plan" = some (some (.ref f25))) (l25 : K.lookup f25 = some ⟨oc25, od25, .func (PySem.W.fnOf "_law_plan" "_law_plan" (defArgs sPlan) (defBody sPlan) (defScope sPlan) .none kv25 dc25 pm25 an25 cd25 ct25), sl25⟩) (c25 : PySem.W.codeIn K cd25 "_law_plan" = true) (k25 : PySem.W.keepIn K (.ref f25) = true)
    (a26 : PySem.W.nsIn K mainGlobals "_law_least" = some (some (.ref f26))) (l26 : K.lookup f26 = some ⟨oc26, od26, .func (PySem.W.fnOf "_law_least" "_law_least" (defArgs sLeast) (defBody sLeast) (defScope sLeast) .none kv26 dc26 pm26 an26 cd26 ct26), sl26⟩) (c26 : PySem.W.codeIn K cd26 "_law_least" = true) (k26 : PySem.W.keepIn K (.ref f26) = true)
    (a27 : PySem.W.nsIn K mainGlobals "_law_groups" = some (some (.ref f27))) (l27 : K.lookup f27 = some ⟨oc27, od27, .func (PySem.W.fnOf "_law_groups" "_law_groups" (defArgs sGroups) (defBody sGroups) (defScope sGroups) .none kv27 dc27 pm27 an27 cd27 ct27), sl27⟩) (c27 : PySem.W.codeIn K cd27 "_law_groups" = true) (k27 : PySem.W.keepIn K (.ref f27) = true)
    (a28 : PySem.W.nsIn K mainGlobals "law" = some (some (.ref f28))) (l28 : K.lookup f28 = some ⟨oc28, od28, .func (PySem.W.fnOf "law" "law" (defArgs sLaw) (defBody sLaw) (defScope sLaw) .none kv28 dc28 pm28 an28 cd28 ct28), sl28⟩) (c28 : PySem.W.codeIn K cd28 "law" = true) (k28 : PySem.W.keepIn K (.ref f28) = true)
    (z1 : PySem.W.nsIn K mainGlobals "len" = some none)
    (z2 : PySem.W.nsIn K mainGlobals "range" = some none)
    (z3 : PySem.W.nsIn K mainGlobals "tuple" = some none)
    (z4 : PySem.W.nsIn K mainGlobals "list" = some none)
    (z5 : PySem.W.nsIn K mainGlobals "isinstance" = some none)
    (z6 : PySem.W.nsIn K mainGlobals "int" = some none)
    (z7 : PySem.W.nsIn K mainGlobals "bool" = some none)
    (z8 : PySem.W.nsIn K mainGlobals "str" = some none)
    (z9 : PySem.W.nsIn K mainGlobals "enumerate" = some none)
    (z10 : PySem.W.nsIn K mainGlobals "all" = some none)
    (z11 : PySem.W.nsIn K mainGlobals "sorted" = some none)
    (z12 : PySem.W.nsIn K mainGlobals "set" = some none)
    {u1 : Tok} (y1 : PySem.W.nsIn K mainGlobals "MOST_PEOPLE" = some (some (.int 7 u1)))
    {u2 : Tok} (y2 : PySem.W.nsIn K mainGlobals "MOST_COUNTERS" = some (some (.int 6 u2)))
    {u3 : Tok} (y3 : PySem.W.nsIn K mainGlobals "MOST_GROUPS" = some (some (.int 30 u3)))
    : ∃ fd : FuncData, (∀ (s : Shared) (v : Value), BindsTo s fd ⟨[v], []⟩ [("_law_script", v)]) ∧ ∀ base : Heap, K.In base → base.Ns mainGlobals mg → FnOk l.prog w K mg base CX0 6 fa fd ["_law_script"] (spLaw K) := by
  have e := hfa.symm.trans (PySem.W.mg_of X G a28)
  cases e
  have F1 := fun_mk (st := sIsInt) l1 c1 k1
  have D1 : Def K mg "is_integer" sIsInt ["value"] _ _ := ⟨F1, F1.binds (ps := ["value"]) fun _ _ _ _ _ _ us hl => match us, hl with | [_], _ => rfl, PySem.W.mg_of X G a1⟩
  have F2 := fun_mk (st := sIsIn) l2 c2 k2
  have D2 : Def K mg "is_in" sIsIn ["value", "least", "most"] _ _ := ⟨F2, F2.binds (ps := ["value", "least", "most"]) fun _ _ _ _ _ _ us hl => match us, hl with | [_, _, _], _ => rfl, PySem.W.mg_of X G a2⟩
  have F3 := fun_mk (st := sIsList) l3 c3 k3
  have D3 : Def K mg "is_list" sIsList ["value", "least", "most"] _ _ := ⟨F3, F3.binds (ps := ["value", "least", "most"]) fun _ _ _ _ _ _ us hl => match us, hl with | [_, _, _], _ => rfl, PySem.W.mg_of X G a3⟩
  have F4 := fun_mk (st := sNeedOffice) l4 c4 k4
  have D4 : Def K mg "need_office" sNeedOffice ["office"] _ _ := ⟨F4, F4.binds (ps := ["office"]) fun _ _ _ _ _ _ us hl => match us, hl with | [_], _ => rfl, PySem.W.mg_of X G a4⟩
  have F5 := fun_mk (st := sNeedLines) l5 c5 k5
  have D5 : Def K mg "need_lines" sNeedLines ["office", "state"] _ _ := ⟨F5, F5.binds (ps := ["office", "state"]) fun _ _ _ _ _ _ us hl => match us, hl with | [_, _], _ => rfl, PySem.W.mg_of X G a5⟩
  have F6 := fun_mk (st := sNeedState) l6 c6 k6
  have D6 : Def K mg "need_state" sNeedState ["office", "state"] _ _ := ⟨F6, F6.binds (ps := ["office", "state"]) fun _ _ _ _ _ _ us hl => match us, hl with | [_, _], _ => rfl, PySem.W.mg_of X G a6⟩
  have F7 := fun_mk (st := sCounterOf) l7 c7 k7
  have D7 : Def K mg "counter_of" sCounterOf ["state", "person"] _ _ := ⟨F7, F7.binds (ps := ["state", "person"]) fun _ _ _ _ _ _ us hl => match us, hl with | [_, _], _ => rfl, PySem.W.mg_of X G a7⟩
  have F8 := fun_mk (st := sLeastIn) l8 c8 k8
  have D8 : Def K mg "least_in" sLeastIn ["office", "plan"] _ _ := ⟨F8, F8.binds (ps := ["office", "plan"]) fun _ _ _ _ _ _ us hl => match us, hl with | [_, _], _ => rfl, PySem.W.mg_of X G a8⟩
  have F9 := fun_mk (st := sNeedPlan) l9 c9 k9
  have D9 : Def K mg "need_plan" sNeedPlan ["office", "plan"] _ _ := ⟨F9, F9.binds (ps := ["office", "plan"]) fun _ _ _ _ _ _ us hl => match us, hl with | [_, _], _ => rfl, PySem.W.mg_of X G a9⟩
  have F10 := fun_mk (st := sNeedPairs) l10 c10 k10
  have D10 : Def K mg "need_pairs" sNeedPairs ["office", "plan"] _ _ := ⟨F10, F10.binds (ps := ["office", "plan"]) fun _ _ _ _ _ _ us hl => match us, hl with | [_, _], _ => rfl, PySem.W.mg_of X G a10⟩
  have F11 := fun_mk (st := sActIn) l11 c11 k11
  have D11 : Def K mg "act_in" sActIn ["plan", "state"] _ _ := ⟨F11, F11.binds (ps := ["plan", "state"]) fun _ _ _ _ _ _ us hl => match us, hl with | [_, _], _ => rfl, PySem.W.mg_of X G a11⟩
  have F12 := fun_mk (st := sAct) l12 c12 k12
  have D12 : Def K mg "act" sAct ["office", "plan", "state"] _ _ := ⟨F12, F12.binds (ps := ["office", "plan", "state"]) fun _ _ _ _ _ _ us hl => match us, hl with | [_, _, _], _ => rfl, PySem.W.mg_of X G a12⟩
  have F13 := fun_mk (st := sIsGroup) l13 c13 k13
  have D13 : Def K mg "is_group" sIsGroup ["office", "value"] _ _ := ⟨F13, F13.binds (ps := ["office", "value"]) fun _ _ _ _ _ _ us hl => match us, hl with | [_, _], _ => rfl, PySem.W.mg_of X G a13⟩
  have F14 := fun_mk (st := sNeedGroups) l14 c14 k14
  have D14 : Def K mg "need_groups" sNeedGroups ["office", "groups"] _ _ := ⟨F14, F14.binds (ps := ["office", "groups"]) fun _ _ _ _ _ _ us hl => match us, hl with | [_, _], _ => rfl, PySem.W.mg_of X G a14⟩
  have F15 := fun_mk (st := sCallGroup) l15 c15 k15
  have D15 : Def K mg "call_group_in" sCallGroup ["state", "group"] _ _ := ⟨F15, F15.binds (ps := ["state", "group"]) fun _ _ _ _ _ _ us hl => match us, hl with | [_, _], _ => rfl, PySem.W.mg_of X G a15⟩
  have F16 := fun_mk (st := sAfter) l16 c16 k16
  have D16 : Def K mg "after_groups" sAfter ["office", "state", "groups"] _ _ := ⟨F16, F16.binds (ps := ["office", "state", "groups"]) fun _ _ _ _ _ _ us hl => match us, hl with | [_, _, _], _ => rfl, PySem.W.mg_of X G a16⟩
  have F17 := fun_mk (st := sGroupsPlan) l17 c17 k17
  have D17 : Def K mg "groups_plan" sGroupsPlan ["office", "groups"] _ _ := ⟨F17, F17.binds (ps := ["office", "groups"]) fun _ _ _ _ _ _ us hl => match us, hl with | [_, _], _ => rfl, PySem.W.mg_of X G a17⟩
  have F18 := fun_mk (st := sTaken) l18 c18 k18
  have D18 : Def K mg "_law_taken" sTaken ["_law_row", "_law_many"] _ _ := ⟨F18, F18.binds (ps := ["_law_row", "_law_many"]) fun _ _ _ _ _ _ us hl => match us, hl with | [_, _], _ => rfl, PySem.W.mg_of X G a18⟩
  have F19 := fun_mk (st := sAlike) l19 c19 k19
  have D19 : Def K mg "_law_alike" sAlike ["_law_found", "_law_due"] _ _ := ⟨F19, F19.binds (ps := ["_law_found", "_law_due"]) fun _ _ _ _ _ _ us hl => match us, hl with | [_, _], _ => rfl, PySem.W.mg_of X G a19⟩
  have F20 := fun_mk (st := sOffice) l20 c20 k20
  have D20 : Def K mg "_law_office" sOffice ["_law_row", "_law_people", "_law_counters"] _ _ := ⟨F20, F20.binds (ps := ["_law_row", "_law_people", "_law_counters"]) fun _ _ _ _ _ _ us hl => match us, hl with | [_, _, _], _ => rfl, PySem.W.mg_of X G a20⟩
  have F21 := fun_mk (st := sDrawn) l21 c21 k21
  have D21 : Def K mg "_law_state" sDrawn ["_law_row", "_law_office_here"] _ _ := ⟨F21, F21.binds (ps := ["_law_row", "_law_office_here"]) fun _ _ _ _ _ _ us hl => match us, hl with | [_, _], _ => rfl, PySem.W.mg_of X G a21⟩
  have F22 := fun_mk (st := sAt) l22 c22 k22
  have D22 : Def K mg "_law_at" sAt ["_law_state_here", "_law_person"] _ _ := ⟨F22, F22.binds (ps := ["_law_state_here", "_law_person"]) fun _ _ _ _ _ _ us hl => match us, hl with | [_, _], _ => rfl, PySem.W.mg_of X G a22⟩
  have F23 := fun_mk (st := sRing) l23 c23 k23
  have D23 : Def K mg "_law_call" sRing ["_law_state_here", "_law_person"] _ _ := ⟨F23, F23.binds (ps := ["_law_state_here", "_law_person"]) fun _ _ _ _ _ _ us hl => match us, hl with | [_, _], _ => rfl, PySem.W.mg_of X G a23⟩
  have F24 := fun_mk (st := sRings) l24 c24 k24
  have D24 : Def K mg "_law_done" sRings ["_law_state_here", "_law_calls"] _ _ := ⟨F24, F24.binds (ps := ["_law_state_here", "_law_calls"]) fun _ _ _ _ _ _ us hl => match us, hl with | [_, _], _ => rfl, PySem.W.mg_of X G a24⟩
  have F25 := fun_mk (st := sPlan) l25 c25 k25
  have D25 : Def K mg "_law_plan" sPlan ["_law_office_here", "_law_calls"] _ _ := ⟨F25, F25.binds (ps := ["_law_office_here", "_law_calls"]) fun _ _ _ _ _ _ us hl => match us, hl with | [_, _], _ => rfl, PySem.W.mg_of X G a25⟩
  have F26 := fun_mk (st := sLeast) l26 c26 k26
  have D26 : Def K mg "_law_least" sLeast ["_law_office_here", "_law_plan_here"] _ _ := ⟨F26, F26.binds (ps := ["_law_office_here", "_law_plan_here"]) fun _ _ _ _ _ _ us hl => match us, hl with | [_, _], _ => rfl, PySem.W.mg_of X G a26⟩
  have F27 := fun_mk (st := sGroups) l27 c27 k27
  have D27 : Def K mg "_law_groups" sGroups ["_law_row", "_law_office_here", "_law_many"] _ _ := ⟨F27, F27.binds (ps := ["_law_row", "_law_office_here", "_law_many"]) fun _ _ _ _ _ _ us hl => match us, hl with | [_, _, _], _ => rfl, PySem.W.mg_of X G a27⟩
  have F28 := fun_mk (st := sLaw) l28 c28 k28
  have D28 : Def K mg "law" sLaw ["_law_script"] _ _ := ⟨F28, F28.binds (ps := ["_law_script"]) fun _ _ _ _ _ _ us hl => match us, hl with | [_], _ => rfl, PySem.W.mg_of X G a28⟩
  have T : Nm mg := ⟨PySem.W.mg_none_of X G z1, PySem.W.mg_none_of X G z2, PySem.W.mg_none_of X G z3, PySem.W.mg_none_of X G z4, PySem.W.mg_none_of X G z5, PySem.W.mg_none_of X G z6, PySem.W.mg_none_of X G z7, PySem.W.mg_none_of X G z8, PySem.W.mg_none_of X G z9, PySem.W.mg_none_of X G z10, PySem.W.mg_none_of X G z11, PySem.W.mg_none_of X G z12, ⟨_, PySem.W.mg_of X G y1⟩, ⟨_, PySem.W.mg_of X G y2⟩, ⟨_, PySem.W.mg_of X G y3⟩⟩
  refine ⟨PySem.W.fnOf "law" "law" (defArgs sLaw) (defBody sLaw) (defScope sLaw) .none kv28 dc28 pm28 an28 cd28 ct28, fun s v => .of_eq rfl, fun base _ _ => ?_⟩
  have C1 := ok_isInt (P := l.prog) (w := w) (base := base) D1 T
  have C2 := ok_isIn (P := l.prog) (w := w) (base := base) D2 T C1
  have C3 := ok_isList (P := l.prog) (w := w) (base := base) D3 T
  have C4 := ok_needOffice (P := l.prog) (w := w) (base := base) D4 T C3 C2
  have C5 := ok_needLines (P := l.prog) (w := w) (base := base) D5 T C3 C2
  have C6 := ok_needState (P := l.prog) (w := w) (base := base) D6 C4 C5
  have C7 := ok_counterOf (P := l.prog) (w := w) (base := base) D7 T
  have C8 := ok_leastIn (P := l.prog) (w := w) (base := base) D8 T
  have C10 := ok_needPairs (P := l.prog) (w := w) (base := base) D10 T C3 C2
  have C9 := ok_needPlan (P := l.prog) (w := w) (base := base) D9 C4 C10
  have C11 := ok_actIn (P := l.prog) (w := w) (base := base) D11 T C7
  have C12 := ok_act (P := l.prog) (w := w) (base := base) D12 C9 C5 C11
  have C13 := ok_isGroup (P := l.prog) (w := w) (base := base) D13 T C3 C2
  have C14 := ok_needGroups (P := l.prog) (w := w) (base := base) D14 T C3 C13
  have C15 := ok_callGroup (P := l.prog) (w := w) (base := base) D15 T C7
  have C16 := ok_after (P := l.prog) (w := w) (base := base) D16 C6 C14 C15
  have C17 := ok_groupsPlan (P := l.prog) (w := w) (base := base) D17 T C4 C14 C8
  have C18 := ok_taken (P := l.prog) (w := w) (base := base) D18 T
  have C19 := ok_alike (P := l.prog) (w := w) (base := base) D19 T 2
  have C20 := ok_office (P := l.prog) (w := w) (base := base) D20 C18
  have C21 := ok_drawn (P := l.prog) (w := w) (base := base) D21 T C18
  have C22 := ok_at (P := l.prog) (w := w) (base := base) D22 T
  have C23 := ok_ring (P := l.prog) (w := w) (base := base) D23 T C22
  have C24 := ok_rings (P := l.prog) (w := w) (base := base) D24 C23
  have C25 := ok_plan (P := l.prog) (w := w) (base := base) D25 T
  have C26 := ok_least (P := l.prog) (w := w) (base := base) D26 T
  have C27 := ok_groups (P := l.prog) (w := w) (base := base) D27 T C18
  exact ok_law D28 T C20 C21 C27 C22 C19 C16 C24 C17 C26 C25 C12
theorem walk {l : PySem.W.OpenLaw} {q : Program} {loose : List Str} {XP : (Str → Option Value) → Heap → Prop} {YP : World → Heap → Prop} {d : DefRec} {K : Params → PySem.W.Frag} (hn : l.most = some 63) (hdf : d.params.defaults = [])
    (hY : ∀ (w : World) (h : Heap), YP w h → (K w.params).In h)
    (F : ∀ (w : World) (mg : Str → Option Value) (fa : Addr) (h : Heap), (K w.params).In h → h.Ns mainGlobals mg → mg d.name = some (.ref fa) →
      ∃ fd : FuncData, (∀ (s : Shared) (u : Value), BindsTo s fd ⟨[u], []⟩ [("_law_script", u)]) ∧ ∀ base : Heap, (K w.params).In base → base.Ns mainGlobals mg → FnOk l.prog w (K w.params) mg base CX0 6 fa fd ["_law_script"] (spLaw (K w.params))) :
    PySem.W.WalkO q loose XP YP l.row.toRowW d [] (fun f vs => PySem.call f vs) :=
  L2.walk_of (n := 63) (k := 6) (x := "_law_script") (CX := fun _ => CX0) (sp := fun w => spLaw (K w.params)) hn (by decide) hdf ⟨rfl, by decide, by decide⟩ hY F (fun _ _ a ns hl _ hS => ⟨a, ns, rfl, hS, hl, fun _ => rfl⟩) fun _ _ _ _ _ z => z
end G29

set_option Elab.async false
set_option linter.all false
open PySem PySem.W PyProof.Rows
set_option maxRecDepth 100000 in
set_option maxHeartbeats 0 in
theorem PySem.Challenge.cw_counterlines_k29_whole_groups_holds : PySem.Challenge.rw_counterlines_k29_whole_groups.Holds := by
  w_on; o_law; k_head; (case hw => w_witness2)
  k_fill
  refine G29.walk (l := PySem.Challenge.rw_counterlines_k29_whole_groups) rfl rfl (fun w h Y => PySem.W.kIn_of Y) ?F
  case F =>
    intro w mg fa h KX G hmg
    refine' G29.all_mk KX G hmg ?a1 ?l1 ?c1 ?k1 ?a2 ?l2 ?c2 ?k2 ?a3 ?l3 ?c3 ?k3 ?a4 ?l4 ?c4 ?k4 ?a5 ?l5 ?c5 ?k5 ?a6 ?l6 ?c6 ?k6 ?a7 ?l7 ?c7 ?k7 ?a8 ?l8 ?c8 ?k8 ?a9 ?l9 ?c9 ?k9 ?a10 ?l10 ?c10 ?k10 ?a11 ?l11 ?c11 ?k11 ?a12 ?l12 ?c12 ?k12 ?a13 ?l13 ?c13 ?k13 ?a14 ?l14 ?c14 ?k14 ?a15 ?l15 ?c15 ?k15 ?a16 ?l16 ?c16 ?k16 ?a17 ?l17 ?c17 ?k17 ?a18 ?l18 ?c18 ?k18 ?a19 ?l19 ?c19 ?k19 ?a20 ?l20 ?c20 ?k20 ?a21 ?l21 ?c21 ?k21 ?a22 ?l22 ?c22 ?k22 ?a23 ?l23 ?c23 ?k23 ?a24 ?l24 ?c24 ?k24 ?a25 ?l25 ?c25 ?k25 ?a26 ?l26 ?c26 ?k26 ?a27 ?l27 ?c27 ?k27 ?a28 ?l28 ?c28 ?k28 ?z1 ?z2 ?z3 ?z4 ?z5 ?z6 ?z7 ?z8 ?z9 ?z10 ?z11 ?z12 ?y1 ?y2 ?y3
    (case a1 => k_is); (case l1 => k_is); (case c1 => k_is); (case k1 => k_is)
    (case a2 => k_is); (case l2 => k_is); (case c2 => k_is); (case k2 => k_is)
    (case a3 => k_is); (case l3 => k_is); (case c3 => k_is); (case k3 => k_is)
    (case a4 => k_is); (case l4 => k_is); (case c4 => k_is); (case k4 => k_is)
    (case a5 => k_is); (case l5 => k_is); (case c5 => k_is); (case k5 => k_is)
    (case a6 => k_is); (case l6 => k_is); (case c6 => k_is); (case k6 => k_is)
    (case a7 => k_is); (case l7 => k_is); (case c7 => k_is); (case k7 => k_is)
    (case a8 => k_is); (case l8 => k_is); (case c8 => k_is); (case k8 => k_is)
    (case a9 => k_is); (case l9 => k_is); (case c9 => k_is); (case k9 => k_is)
    (case a10 => k_is); (case l10 => k_is); (case c10 => k_is); (case k10 => k_is)
    (case a11 => k_is); (case l11 => k_is); (case c11 => k_is); (case k11 => k_is)
    (case a12 => k_is); (case l12 => k_is); (case c12 => k_is); (case k12 => k_is)
    (case a13 => k_is); (case l13 => k_is); (case c13 => k_is); (case k13 => k_is)
    (case a14 => k_is); (case l14 => k_is); (case c14 => k_is); (case k14 => k_is)
    (case a15 => k_is); (case l15 => k_is); (case c15 => k_is); (case k15 => k_is)
    (case a16 => k_is); (case l16 => k_is); (case c16 => k_is); (case k16 => k_is)
    (case a17 => k_is); (case l17 => k_is); (case c17 => k_is); (case k17 => k_is)
    (case a18 => k_is); (case l18 => k_is); (case c18 => k_is); (case k18 => k_is)
    (case a19 => k_is); (case l19 => k_is); (case c19 => k_is); (case k19 => k_is)
    (case a20 => k_is); (case l20 => k_is); (case c20 => k_is); (case k20 => k_is)
    (case a21 => k_is); (case l21 => k_is); (case c21 => k_is); (case k21 => k_is)
    (case a22 => k_is); (case l22 => k_is); (case c22 => k_is); (case k22 => k_is)
    (case a23 => k_is); (case l23 => k_is); (case c23 => k_is); (case k23 => k_is)
    (case a24 => k_is); (case l24 => k_is); (case c24 => k_is); (case k24 => k_is)
    (case a25 => k_is); (case l25 => k_is); (case c25 => k_is); (case k25 => k_is)
    (case a26 => k_is); (case l26 => k_is); (case c26 => k_is); (case k26 => k_is)
    (case a27 => k_is); (case l27 => k_is); (case c27 => k_is); (case k27 => k_is)
    (case a28 => k_is); (case l28 => k_is); (case c28 => k_is); (case k28 => k_is)
    (case z1 => k_is)
    (case z2 => k_is)
    (case z3 => k_is)
    (case z4 => k_is)
    (case z5 => k_is)
    (case z6 => k_is)
    (case z7 => k_is)
    (case z8 => k_is)
    (case z9 => k_is)
    (case z10 => k_is)
    (case z11 => k_is)
    (case z12 => k_is)
    (case y1 => k_is)
    (case y2 => k_is)
    (case y3 => k_is)
