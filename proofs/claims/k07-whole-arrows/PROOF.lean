import PyProof.Rows.All
import Wide.All
import OpenK.AllK
import Wide.FinOn
import KE.SortData
import HandS.ForMost
import PyProof.ReprRoads
import HandS.ForExc
import HandS.ExcInit
import HandS.ExcField
import HandS.TryMany
import HandS.IsInst
import HandS.Deep
import HandS.TupAny
import HandS.TupSets
import HandS.Strs
import HandS.Walk
import PyProof.ReprLoop
import PyProof.StrLawsRepr
import KE.DataCmp
import PySem.Challenge.RW_cutworths_k07_whole_arrows_and_all_their
set_option Elab.async false
set_option linter.all false
set_option maxRecDepth 100000
set_option maxHeartbeats 8000000
/-! The mathematics: edges, their ascending lists, chains, names. No program in sight. -/
namespace Cw
open PySem
/-! ### lists -/
theorem le_of_sub {α : Type} [DecidableEq α] : ∀ (l t : List α), l.Nodup → (∀ x ∈ l, x ∈ t) → l.length ≤ t.length
  | [], _, _, _ => Nat.zero_le _
  | x :: r, t, hn, hs => by
    have hx : x ∈ t := hs x List.mem_cons_self
    obtain ⟨h1, h2⟩ := List.nodup_cons.mp hn
    have ih := le_of_sub r (t.erase x) h2 fun y hy => by
      have hne : y ≠ x := fun e => h1 (e ▸ hy)
      exact (List.mem_erase_of_ne hne).mpr (hs y (List.mem_cons_of_mem _ hy))
    rw [List.length_erase_of_mem hx] at ih
    have hp : 0 < t.length := List.length_pos_of_mem hx
    rw [List.length_cons]
    omega
/-! ### edges -/
abbrev Edge := Int × Int
/-- a before b -/
def Before (a b : Edge) : Prop := a.1 < b.1 ∨ (a.1 = b.1 ∧ a.2 < b.2)
instance (a b : Edge) : Decidable (Before a b) := by unfold Before; infer_instance
theorem before_irr (a : Edge) : ¬ Before a a := by unfold Before; omega
theorem before_asym {a b : Edge} (h : Before a b) : ¬ Before b a := by unfold Before at *; omega
theorem before_trans {a b c : Edge} (h : Before a b) (k : Before b c) : Before a c := by unfold Before at *; omega
theorem before_tri (a b : Edge) : Before a b ∨ a = b ∨ Before b a := by
  obtain ⟨a1, a2⟩ := a
  obtain ⟨b1, b2⟩ := b
  unfold Before
  simp only [Prod.mk.injEq]
  omega
/-- ns: the edges of es, ascending, each once -/
def IsNorm (es ns : List Edge) : Prop := ns.Pairwise Before ∧ ∀ e, e ∈ ns ↔ e ∈ es
theorem asc_uniq : ∀ {ns ms : List Edge}, ns.Pairwise Before → ms.Pairwise Before → (∀ e, e ∈ ns ↔ e ∈ ms) → ns = ms
  | [], [], _, _, _ => rfl
  | [], y :: t, _, _, h => absurd ((h y).mpr List.mem_cons_self) (by simp)
  | x :: r, [], _, _, h => absurd ((h x).mp List.mem_cons_self) (by simp)
  | x :: r, y :: t, hn, hm, h => by
    obtain ⟨n1, n2⟩ := List.pairwise_cons.mp hn
    obtain ⟨m1, m2⟩ := List.pairwise_cons.mp hm
    have e : x = y := by
      rcases List.mem_cons.mp ((h x).mp List.mem_cons_self) with q | q
      · exact q
      · rcases List.mem_cons.mp ((h y).mpr List.mem_cons_self) with p | p
        · exact p.symm
        · exact absurd (n1 y p) (before_asym (m1 x q))
    subst e
    rw [asc_uniq n2 m2 fun e => ⟨fun q => ?_, fun q => ?_⟩]
    · rcases List.mem_cons.mp ((h e).mp (List.mem_cons_of_mem _ q)) with p | p
      · exact absurd (n1 e q) (p ▸ before_irr e)
      · exact p
    · rcases List.mem_cons.mp ((h e).mpr (List.mem_cons_of_mem _ q)) with p | p
      · exact absurd (m1 e q) (p ▸ before_irr e)
      · exact p
theorem norm_uniq {es ns ms : List Edge} (h : IsNorm es ns) (k : IsNorm es ms) : ns = ms := asc_uniq h.1 k.1 fun e => (h.2 e).trans (k.2 e).symm
/-- an edge put in its place -/
def put (e : Edge) : List Edge → List Edge
  | [] => [e]
  | x :: r => if e = x then x :: r else if Before e x then e :: x :: r else x :: put e r
theorem mem_put (e f : Edge) : ∀ l : List Edge, f ∈ put e l ↔ f = e ∨ f ∈ l
  | [] => by simp [put]
  | x :: r => by
    unfold put
    split
    · rename_i h
      subst h
      simp only [List.mem_cons]
      constructor
      · exact fun q => .inr q
      · rintro (q | q)
        · exact .inl q
        · exact q
    · split
      · simp only [List.mem_cons]
      · simp only [List.mem_cons, mem_put e f r]
        constructor
        · rintro (q | q | q)
          · exact .inr (.inl q)
          · exact .inl q
          · exact .inr (.inr q)
        · rintro (q | q | q)
          · exact .inr (.inl q)
          · exact .inl q
          · exact .inr (.inr q)
theorem asc_put (e : Edge) : ∀ {l : List Edge}, l.Pairwise Before → (put e l).Pairwise Before
  | [], _ => by simp [put]
  | x :: r, h => by
    obtain ⟨h1, h2⟩ := List.pairwise_cons.mp h
    unfold put
    split
    · exact h
    · rename_i ne
      split
      · rename_i hb
        refine List.pairwise_cons.mpr ⟨fun y hy => ?_, h⟩
        rcases List.mem_cons.mp hy with q | q
        · exact q ▸ hb
        · exact before_trans hb (h1 y q)
      · rename_i hb
        refine List.pairwise_cons.mpr ⟨fun y hy => ?_, asc_put e h2⟩
        rcases (mem_put e y r).mp hy with q | q
        · subst q
          rcases before_tri x y with p | p | p
          · exact p
          · exact absurd p.symm ne
          · exact absurd p hb
        · exact h1 y q
def norm : List Edge → List Edge
  | [] => []
  | e :: r => put e (norm r)
theorem norm_is : ∀ es : List Edge, IsNorm es (norm es)
  | [] => ⟨List.Pairwise.nil, fun e => Iff.rfl⟩
  | x :: r => by
    obtain ⟨h1, h2⟩ := norm_is r
    refine ⟨asc_put x h1, fun e => ?_⟩
    show e ∈ put x (norm r) ↔ _
    rw [mem_put, h2, List.mem_cons]
theorem norm_of {es ns : List Edge} (h : IsNorm es ns) : ns = norm es := norm_uniq h (norm_is es)
theorem norm_asc {ns : List Edge} (h : ns.Pairwise Before) : norm ns = ns := norm_uniq (norm_is ns) ⟨h, fun _ => Iff.rfl⟩
theorem norm_nodup (es : List Edge) : (norm es).Nodup := (norm_is es).1.imp fun {a b} h (e : a = b) => before_irr b (by rw [e] at h; exact h)
theorem norm_len (es : List Edge) : (norm es).length ≤ es.length := le_of_sub _ _ (norm_nodup es) fun e h => ((norm_is es).2 e).mp h
theorem mem_norm {es : List Edge} {e : Edge} (h : e ∈ norm es) : e ∈ es := ((norm_is es).2 e).mp h
/-- the edges in the order of their first places -/
def firsts : List Edge → List Edge → List Edge
  | acc, [] => acc
  | acc, e :: r => firsts (if e ∈ acc then acc else acc ++ [e]) r
theorem mem_firsts : ∀ (es acc : List Edge) (e : Edge), e ∈ firsts acc es ↔ e ∈ acc ∨ e ∈ es
  | [], acc, e => by simp [firsts]
  | x :: r, acc, e => by
    unfold firsts
    rw [mem_firsts r]
    split
    · rename_i h
      simp only [List.mem_cons]
      constructor
      · rintro (q | q)
        · exact .inl q
        · exact .inr (.inr q)
      · rintro (q | q | q)
        · exact .inl q
        · exact .inl (q ▸ h)
        · exact .inr q
    · simp only [List.mem_append, List.mem_cons, List.not_mem_nil, or_false]
      constructor
      · rintro ((q | q) | q)
        · exact .inl q
        · exact .inr (.inl q)
        · exact .inr (.inr q)
      · rintro (q | q | q)
        · exact .inl (.inl q)
        · exact .inl (.inr q)
        · exact .inr q
theorem nodup_firsts : ∀ (es acc : List Edge), acc.Nodup → (firsts acc es).Nodup
  | [], _, h => h
  | x :: r, acc, h => by
    unfold firsts
    refine nodup_firsts r _ ?_
    split
    · exact h
    · rename_i hx
      refine List.nodup_append.mpr ⟨h, by simp, fun a ha b hb e => ?_⟩
      have hb' : b = x := by simpa using hb
      exact hx (hb' ▸ e ▸ ha)
theorem len_firsts : ∀ (es acc : List Edge), (firsts acc es).length ≤ acc.length + es.length
  | [], _ => Nat.le_refl _
  | x :: r, acc => by
    unfold firsts
    have h := len_firsts r (if x ∈ acc then acc else acc ++ [x])
    rw [List.length_cons]
    split at h
    · rw [if_pos (by assumption)]
      omega
    · rw [if_neg (by assumption)]
      rw [List.length_append, List.length_singleton] at h
      omega
theorem firsts_snoc (x : Edge) : ∀ (es acc : List Edge), firsts acc (es ++ [x]) = if x ∈ firsts acc es then firsts acc es else firsts acc es ++ [x]
  | [], _ => rfl
  | y :: r, acc => firsts_snoc x r _
/-- any ascending arrangement of the first places -/
theorem norm_firsts {es ys : List Edge} (hp : ys.Perm (firsts [] es)) (ha : ys.Pairwise fun a b => a.1 < b.1 ∨ (a.1 = b.1 ∧ a.2 ≤ b.2)) : ys = norm es := by
  have hn : ys.Nodup := hp.nodup_iff.mpr (nodup_firsts es [] List.nodup_nil)
  refine norm_of ⟨?_, fun e => ?_⟩
  · have h2 := List.Pairwise.and ha hn
    refine h2.imp fun {a b} h => ?_
    obtain ⟨a1, a2⟩ := a
    obtain ⟨b1, b2⟩ := b
    obtain ⟨h1, h2⟩ := h
    simp only [ne_eq, Prod.mk.injEq] at h2
    unfold Before
    simp only at h1 ⊢
    omega
  · rw [hp.mem_iff, mem_firsts]
    simp
/-! ### chains -/
def lastI (c : List Int) : Int := c.getLastD 0
/-- each chain that is a longer one of c -/
def grow (es : List Edge) (c : List Int) : List (List Int) := (es.filter fun e => decide (e.1 = lastI c) && !decide (e.2 ∈ c)).map fun e => c ++ [e.2]
def growAll (es : List Edge) (cs : List (List Int)) : List (List Int) := cs.flatMap (grow es)
def chains (size : Nat) (es : List Edge) : Nat → List (List Int)
  | 0 => (List.range size).map fun (i : Nat) => [(i : Int)]
  | n + 1 => growAll es (chains size es n)
theorem lt_len : ∀ {xs ys : List Int} (a b : Int), xs < ys → xs.length = ys.length → xs ++ [a] < ys ++ [b]
  | [], [], _, _, h, _ => absurd h (List.lt_irrefl _)
  | x :: xs, y :: ys, a, b, h, e => by
    rw [List.cons_lt_cons_iff] at h
    rw [List.cons_append, List.cons_append, List.cons_lt_cons_iff]
    rcases h with h | ⟨h1, h2⟩
    · exact .inl h
    · exact .inr ⟨h1, lt_len a b h2 (by simpa using e)⟩
theorem lt_snoc : ∀ (xs : List Int) {a b : Int}, a < b → xs ++ [a] < xs ++ [b]
  | [], a, b, h => by
    rw [List.nil_append, List.nil_append, List.cons_lt_cons_iff]
    exact .inl h
  | x :: xs, a, b, h => by
    rw [List.cons_append, List.cons_append, List.cons_lt_cons_iff]
    exact .inr ⟨rfl, lt_snoc xs h⟩
/-- ascending chains of n + 1 cells -/
structure Asc (n : Nat) (cs : List (List Int)) : Prop where
  asc : cs.Pairwise (· < ·)
  len : ∀ c ∈ cs, c.length = n + 1
theorem mem_grow {es : List Edge} {c d : List Int} (h : d ∈ grow es c) : ∃ e ∈ es, d = c ++ [e.2] := by
  obtain ⟨e, he, rfl⟩ := List.mem_map.mp h
  exact ⟨e, (List.mem_filter.mp he).1, rfl⟩
theorem asc_grow {es : List Edge} (hs : es.Pairwise Before) {n : Nat} {cs : List (List Int)} (h : Asc n cs) : Asc (n + 1) (growAll es cs) := by
  refine ⟨List.pairwise_flatMap.mpr ⟨fun c _ => ?_, ?_⟩, fun d hd => ?_⟩
  · refine List.pairwise_map.mpr ?_
    have hf : (es.filter fun e => decide (e.1 = lastI c) && !decide (e.2 ∈ c)).Pairwise Before := hs.filter _
    refine hf.imp_of_mem fun {a b} ha hb hab => ?_
    have e1 : a.1 = lastI c := by
      have q := (List.mem_filter.mp ha).2
      simp only [Bool.and_eq_true, decide_eq_true_eq] at q
      exact q.1
    have e2 : b.1 = lastI c := by
      have q := (List.mem_filter.mp hb).2
      simp only [Bool.and_eq_true, decide_eq_true_eq] at q
      exact q.1
    refine lt_snoc c ?_
    unfold Before at hab
    omega
  · refine h.asc.imp_of_mem fun {c d} hc hd hcd => fun x hx y hy => ?_
    obtain ⟨e, _, rfl⟩ := mem_grow hx
    obtain ⟨f, _, rfl⟩ := mem_grow hy
    exact lt_len _ _ hcd ((h.len c hc).trans (h.len d hd).symm)
  · obtain ⟨c, hc, hd⟩ := List.mem_flatMap.mp hd
    obtain ⟨e, _, rfl⟩ := mem_grow hd
    rw [List.length_append, h.len c hc]
    rfl
theorem asc_range (size : Nat) : Asc 0 ((List.range size).map fun (i : Nat) => [(i : Int)]) := by
  refine ⟨List.pairwise_map.mpr ?_, fun c hc => ?_⟩
  · refine List.pairwise_lt_range.imp fun {a b} h => ?_
    rw [List.cons_lt_cons_iff]
    exact .inl (Int.ofNat_lt.mpr h)
  · obtain ⟨i, _, rfl⟩ := List.mem_map.mp hc
    rfl
theorem asc_chains {size : Nat} {es : List Edge} (hs : es.Pairwise Before) : ∀ n, Asc n (chains size es n)
  | 0 => asc_range size
  | n + 1 => asc_grow hs (asc_chains hs n)
theorem len_grow (es : List Edge) (c : List Int) : (grow es c).length ≤ es.length := by
  unfold grow
  rw [List.length_map]
  exact List.length_filter_le _ _
theorem len_growAll (es : List Edge) : ∀ cs : List (List Int), (growAll es cs).length ≤ cs.length * es.length
  | [] => Nat.zero_le _
  | c :: cs => by
    have ih := len_growAll es cs
    have h := len_grow es c
    show (grow es c ++ growAll es cs).length ≤ (cs.length + 1) * es.length
    rw [List.length_append, Nat.add_mul, Nat.one_mul]
    omega
theorem len_chains {size : Nat} {es : List Edge} (hz : size ≤ 9) (he : es.length ≤ 24) : ∀ n, (chains size es n).length ≤ 9 * 24 ^ n
  | 0 => by
    show ((List.range size).map _).length ≤ _
    rw [List.length_map, List.length_range]
    omega
  | n + 1 => by
    have ih := len_chains hz he n
    have h := len_growAll es (chains size es n)
    have h2 : (chains size es n).length * es.length ≤ (9 * 24 ^ n) * 24 := Nat.mul_le_mul ih he
    show (growAll es (chains size es n)).length ≤ _
    rw [Nat.pow_succ, ← Nat.mul_assoc]
    omega
/-- cells that are no strangers -/
def Within (size : Nat) (es : List Edge) : Prop := ∀ e ∈ es, 0 ≤ e.1 ∧ e.1 < (size : Int) ∧ 0 ≤ e.2 ∧ e.2 < (size : Int) ∧ e.1 ≠ e.2
theorem cells_chains {size : Nat} {es : List Edge} (hw : Within size es) : ∀ (n : Nat) (c : List Int), c ∈ chains size es n → ∀ i ∈ c, 0 ≤ i ∧ i < (size : Int)
  | 0, c, hc, i, hi => by
    obtain ⟨k, hk, rfl⟩ := List.mem_map.mp hc
    have e : i = (k : Int) := by simpa using hi
    have hk' := List.mem_range.mp hk
    omega
  | n + 1, c, hc, i, hi => by
    obtain ⟨d, hd, hc⟩ := List.mem_flatMap.mp hc
    obtain ⟨e, he, rfl⟩ := mem_grow hc
    rcases List.mem_append.mp hi with q | q
    · exact cells_chains hw n d hd i q
    · have e' : i = e.2 := by simpa using q
      have := hw e he
      omega
/-- sorted again they are as they were -/
theorem sort_asc {n : Nat} {cs : List (List Int)} (h : Asc n cs) : cs.mergeSort (fun a b => decide (a ≤ b)) = cs :=
  List.mergeSort_of_pairwise (h.asc.imp fun {a b} q => decide_eq_true (List.le_of_lt q))
/-! ### names -/
def letters : Str := "abcdefghijklmnopqrstuvwxyz"
def sign (c : Nat) : Str := ⟨#[c]⟩
def signs : List Str := letters.cps.toList.map sign
theorem signs_len : signs.length = 26 := by decide +kernel
theorem signs_nodup : signs.Nodup := by decide +kernel
theorem letters_len : letters.length = 26 := by decide +kernel
/-- 1 to 8 letters -/
def Name (x : Str) : Prop := 1 ≤ x.length ∧ x.length ≤ 8 ∧ ∀ c ∈ x.cps.toList, c ∈ letters.cps.toList
instance (x : Str) : Decidable (Name x) := by unfold Name; infer_instance
theorem name_sign {c : Nat} (h : c ∈ letters.cps.toList) : Name (sign c) := ⟨Nat.le_refl _, by show 1 ≤ 8; decide, fun d hd => by
  have e : d = c := by simpa [sign] using hd
  rw [e]
  exact h⟩
theorem small_letters : ∀ c ∈ letters.cps.toList, c < 16 ^ 8 := by decide +kernel
/-- some letter is no name of few -/
theorem fresh_sign {taken : List Str} (h : taken.length < 26) : ∃ x ∈ signs, x ∉ taken := by
  by_cases q : ∀ x ∈ signs, x ∈ taken
  · have := le_of_sub signs taken signs_nodup q
    rw [signs_len] at this
    omega
  · refine Classical.byContradiction fun k => q fun x hx => Classical.byContradiction fun n => k ⟨x, hx, n⟩
/-- the texts of a list, each once, in the order of their first places -/
def onces : List Str → List Str → List Str
  | acc, [] => acc
  | acc, x :: r => onces (if x ∈ acc then acc else acc ++ [x]) r
theorem onces_len : ∀ (xs acc : List Str), (onces acc xs).length ≤ acc.length + xs.length
  | [], _ => Nat.le_refl _
  | x :: r, acc => by
    unfold onces
    have h := onces_len r (if x ∈ acc then acc else acc ++ [x])
    rw [List.length_cons]
    split at h
    · rw [if_pos (by assumption)]
      omega
    · rw [if_neg (by assumption)]
      rw [List.length_append, List.length_singleton] at h
      omega
theorem onces_full : ∀ (xs acc : List Str), acc.Nodup → acc.length + xs.length ≤ (onces acc xs).length → xs.Nodup ∧ ∀ x ∈ xs, x ∉ acc
  | [], _, _, _ => ⟨List.nodup_nil, fun _ h => absurd h (by simp)⟩
  | x :: r, acc, hn, h => by
    unfold onces at h
    by_cases hx : x ∈ acc
    · rw [if_pos hx] at h
      have := onces_len r acc
      rw [List.length_cons] at h
      omega
    · rw [if_neg hx] at h
      have hn' : (acc ++ [x]).Nodup := List.nodup_append.mpr ⟨hn, by simp, fun a ha b hb e => by
        have hb' : b = x := by simpa using hb
        exact hx (hb' ▸ e ▸ ha)⟩
      obtain ⟨h1, h2⟩ := onces_full r (acc ++ [x]) hn' (by
        rw [List.length_append, List.length_singleton]
        rw [List.length_cons] at h
        omega)
      refine ⟨List.nodup_cons.mpr ⟨fun q => h2 x q (by simp), h1⟩, fun y hy => ?_⟩
      rcases List.mem_cons.mp hy with q | q
      · exact q ▸ hx
      · exact fun z => h2 y q (List.mem_append_left _ z)
theorem onces_nodup {xs : List Str} (h : xs.length ≤ (onces [] xs).length) : xs.Nodup := (onces_full xs [] List.nodup_nil (by simpa using h)).1
/-! ### arrows -/
abbrev Row := Str × List Edge
structure GoodRow (size : Nat) (r : Row) : Prop where
  name : Name r.1
  few : r.2.length ≤ 24
  win : Within size r.2
  asc : r.2.Pairwise Before
structure Good (size : Nat) (rs : List Row) : Prop where
  few : rs.length ≤ 6
  names : (rs.map (·.1)).Nodup
  rows : ∀ r ∈ rs, GoodRow size r
theorem Within.mono {m n : Nat} {es : List Edge} (h : Within m es) (k : m ≤ n) : Within n es := fun e he => by
  have := h e he
  omega
theorem GoodRow.mono {m n : Nat} {r : Row} (h : GoodRow m r) (k : m ≤ n) : GoodRow n r := ⟨h.name, h.few, h.win.mono k, h.asc⟩
theorem Good.mono {m n : Nat} {rs : List Row} (h : Good m rs) (k : m ≤ n) : Good n rs := ⟨h.few, h.names, fun r hr => (h.rows r hr).mono k⟩
end Cw

/-! Rules of our own over the layer: sorted rows of whole numbers, repr of data, an own ==, the base's __init__ called off an own class. -/
namespace Cw
open PySem PySem.Spec PyProof.Rows L2
section
variable {X : Cx}
/-! ### sorted(rows), rows of whole numbers, any number of them -/
def rowD (r : List Int) : PyData := .tuple (r.map .int)
theorem rowD_lt (r s : List Int) : PySem.W.dataLt (rowD r) (rowD s) = decide (r < s) := by
  unfold rowD
  rw [PySem.W.dataLt_tuple]
  exact PySem.W.dataLt_ints r s
theorem rowD_le {β : Type} (f : β → List Int) : PySem.W.dataLe false (fun b => rowD (f b)) = fun p q => decide (f p ≤ f q) := by
  funext p q
  show (!PySem.W.dataLt (rowD (f q)) (rowD (f p))) = _
  rw [rowD_lt]
  by_cases h : f q < f p
  · rw [decide_eq_true h, decide_eq_false fun r => List.not_lt.mpr r h]
    rfl
  · rw [decide_eq_false h, decide_eq_true (List.not_lt.mp h)]
    rfl
theorem rowD_alike (r s : List Int) : PySem.W.alike (rowD r) (rowD s) = true := by
  unfold rowD
  simpa only [PySem.W.alike] using PySem.W.alike_ints r s
theorem rowD_depth (r : List Int) : (rowD r).depth = 1 := by
  unfold rowD
  simp only [PyData.depth, PySem.W.depth_ints]
def refsOf (ts : List (Addr × List Int)) : List V := ts.map fun t => V.ref t.1
theorem refs_are : ∀ {ts : List (Addr × List Int)} {us : List Value}, Vals (refsOf ts) us → PySem.W.EachIs (fun v (t : Addr × List Int) => v = Value.ref t.1) us ts
  | [], _, .nil => .nil
  | _ :: _, _, .cons r t => .cons r (refs_are t)
theorem are_refs : ∀ {us : List Value} {ts : List (Addr × List Int)}, PySem.W.EachIs (fun v (t : Addr × List Int) => v = Value.ref t.1) us ts → Vals (refsOf ts) us
  | _, _, .nil => .nil
  | _, _, .cons r t => .cons r (are_refs t)
theorem each_len {α β : Type} {R : α → β → Prop} : ∀ {as : List α} {bs : List β}, PySem.W.EachIs R as bs → as.length = bs.length
  | _, _, .nil => rfl
  | _, _, .cons _ t => by rw [List.length_cons, List.length_cons, each_len t]
theorem each_read {h : Heap} {ts : List (Addr × List Int)} (all : ∀ t ∈ ts, ∃ as, Reads h (.ref t.1) (rowD t.2) as) : ∀ {us : List Value} {ls : List (Addr × List Int)}, (∀ t ∈ ls, t ∈ ts) → PySem.W.EachIs (fun v (t : Addr × List Int) => v = Value.ref t.1) us ls →
    PySem.W.EachIs (fun v (t : Addr × List Int) => ∃ as, Reads h v (rowD t.2) as) us ls
  | [], [], _, .nil => .nil
  | _ :: _, b :: _, s, .cons r t => .cons (r ▸ all b (s b List.mem_cons_self)) (each_read all (fun x hx => s x (List.mem_cons_of_mem _ hx)) t)
theorem dp_ints {K : PySem.W.Frag} {H : Hp} : ∀ r : List Int, DpAll K H (r.map V.int) (r.map .int)
  | [] => .nil
  | i :: r => .cons (.int i) (dp_ints r)
def byRow (s t : Addr × List Int) : Bool := decide (s.2 ≤ t.2)
/-- xs a list of tuples of whole numbers, none empty: a new list, ascending -/
def rSortRows (K : PySem.W.Frag) : List V → Hp → VK → Prop := fun vs H Q => ∃ (a : Addr) (ts : List (Addr × List Int)), vs = [V.ref a] ∧ SqL K H a (refsOf ts) ∧ (∀ t ∈ ts, SqT K H t.1 (t.2.map V.int) ∧ t.2 ≠ []) ∧
  ∀ p, H p = none → Q (.ref p) (upd H p (.lst (refsOf (ts.mergeSort byRow))))
theorem cr_sortRows (hu : X.A.units + 64 < cLine) : CallR X (.builtin "sorted") (rSortRows X.K) := by
  intro pins s σ H vs us Q I r h
  obtain ⟨a, ts, rfl, hs, ht, q⟩ := h
  rw [Vals.ref1 r]
  obtain ⟨its, rv, pl, hz⟩ := I.list hs
  have e := refs_are rv
  have hread : ∀ t ∈ ts, ∃ as, Reads s.heap (.ref t.1) (rowD t.2) as := fun t m => Dp.reads I (rowD t.2) (.ref t.1) (.ref t.1) (.tup (ht t m).1 (dp_ints t.2)) rfl
  have hlen : ts.length ≤ sizeLine := by
    unfold refsOf at hz
    rw [List.length_map] at hz
    exact hz
  refine PySem.W.sorted_data (enc := fun t : Addr × List Int => rowD t.2) pl.isList e (each_read hread (fun _ m => m) e) (PySem.W.AllAlike.of fun b b' => rowD_alike b.2 b'.2) (.inl fun d hd => ?_) hlen (fun b _ => ?_) fun out ho eo => ?_
  · obtain ⟨b, hb, rfl⟩ := List.mem_map.mp hd
    have hne := (ht b hb).2
    obtain ⟨b1, b2⟩ := b
    cases b2 with
    | nil => exact absurd rfl hne
    | cons i r => exact ⟨_, _, rfl⟩
  · have := rowD_depth b.2
    omega
  · rw [rowD_le (β := Addr × List Int) fun t => t.2] at eo
    obtain ⟨c, hc⟩ := PyProof.Rows.sortedAll_at s.heap its out.toArray
    have hl : (refsOf (ts.mergeSort byRow)).length ≤ sizeLine := by
      unfold refsOf
      rw [List.length_map, List.length_mergeSort]
      exact hlen
    exact ⟨.ref _, _, I.laid (t' := s.toks) (a := s.heap.objs.size + 1) (o := .lst (refsOf (ts.mergeSort byRow))) (fun _ _ => PyProof.Rows.sortedAll_old) (Nat.le_succ _) ⟨hl, out, c, are_refs eo, hc⟩, rfl, q _ (I.hok.fresh (Nat.le_succ _))⟩
/-! ### repr of data -/
def rRepr (K : PySem.W.Frag) : List V → Hp → VK → Prop := fun xs H Q => ∃ (a : Addr) (d : PyData), xs = [.ref a] ∧ Dp K H (.ref a) d ∧ d.showable = true ∧ d.hasDict = false ∧ d.depth ≤ 50 ∧ d.shown.length ≤ sizeLine ∧ Q (.str d.shown) H
theorem cr_repr (hg : X.A.guards = some []) (hu : X.A.units + 64 < cLine) : CallR X (.builtin "repr") (rRepr X.K) := by
  intro pins s σ H xs us Q I r h
  obtain ⟨a, d, rfl, hd, h1, h2, h3, h4, q⟩ := h
  rw [Vals.ref1 r]
  obtain ⟨as, rd⟩ := Dp.reads I d _ (.ref a) hd rfl
  exact repr_of_reads' rd h1 (PyData.noDict_hsm h2) hg (by omega) (fun _ _ e => e) (fun h' u tk k => ⟨.str _, H, I.kept (t' := tk) k, ⟨u, rfl⟩, q⟩) h4
/-! ### a == b by the class's own __eq__ -/
def rEqIns (C : Addr) (sp : Sp) (E : XK) : R2 := fun x y H Q => ∃ (a b dx dy : Addr) (fs gs : List (Str × V)), x = .ref a ∧ y = .ref b ∧ H a = some (.ins C dx fs) ∧ H b = some (.ins C dy gs) ∧ sp [.ref a, .ref b] H (fun v H' => (∃ k, v = .bl k) ∧ Q v H') E
theorem op_eqIns {CX : CXT} {C f : Addr} {fd : FuncData} {ps : List Str} {sp : Sp} {n : Nat} {E : XK} (F : FnOk X.prog X.w X.K X.mg X.base CX n f fd ps sp) (hr : Room n X.A)
    (hs : PySem.W.findIn X.K (.ref C) "__eq__" = some (some (.ref f))) (hf : PySem.W.isFn X.K (.ref f) = true) (hb : Binds X.K fd ps []) (hx : Passes CX X E) : OpR X (compareOp .Eq) (rEqIns C sp E) := by
  intro pins s σ H x y v u Q I rx ry h
  obtain ⟨a, b, dx, dy, fs, gs, rfl, rfl, ha, hb', hsp⟩ := h
  obtain rfl : v = Value.ref a := rx
  obtain rfl : u = Value.ref b := ry
  obtain ⟨_, O, _⟩ := ins_get I.hok ha
  obtain ⟨_, O', _⟩ := ins_get I.hok hb'
  obtain ⟨_, J, _⟩ := O.look
  obtain ⟨_, J', _⟩ := O'.look
  obtain ⟨_, fr⟩ := I.fr
  show wpAny (model X.prog X.w) X.A (richCompare .Eq (.ref a) (.ref b)) _ _ s
  refine PySem.W.cmp_K (op := .Eq) (tb := .ref C) hr.units0 fr I.ok.mod.kin J J'.type (by simp [PySem.W.notFirst]) hs hf ?_
  refine thn (run_fn F hr hb .nil hx I (vs := [.ref a, .ref b]) (.cons rfl (.cons rfl .nil)) hsp) fun w s' hw => ?_
  obtain ⟨z, H', I', rz, ⟨k, rfl⟩, q⟩ := hw
  obtain rfl : w = Value.bool k := rz
  exact ⟨.bl k, H', I', rfl, q⟩
/-! ### Base.__init__(self, ..), Base an own class under ValueError -/
theorem pe_baseInit {e : Expr} {es : List Expr} {ta : TA} {p1 p2 pos : Pos} {pl : Sem Bool} {x : Str} {W : Addr} (hg : Gl X x) (hm : X.mg x = some (.ref W)) (rd : PySem.W.readsIn X.K W (.type "type") = true)
    (ga : PySem.W.specialIn X.K (.ref W) "__getattribute__" = some (some (.builtin "type.__getattribute__"))) (vV : PySem.W.findCls X.K (.ref W) (.type "type") "__init__" = some (.val (.builtin "ValueError.__init__"))) (ha : PA X (e :: es) ta)
    (hdb : (x == ("__debug__" : Str)) = false := by decide)
    (hc : eval (.Call (.Attribute (.Name x p1) "__init__" p2) (e :: es) [] pos) X.env = (do
      let o ← eval (.Name x p1) X.env
      standAt p2.atName
      let (g, first) ← holding [o] (getMethod o "__init__" pl)
      callWith pos g first (backTo pos (starEach (e :: es) X.env)) (backToKw pos (keywordEach [] X.env))) := by rfl)
    (he : starEach (e :: es) X.env = (false, eval e X.env) :: starEach es X.env := by rfl) (hpl : (backTo pos (starEach es X.env)).any (·.1) = false := by rfl) :
    PE X (.Call (.Attribute (.Name x p1) "__init__" p2) (e :: es) [] pos) (tVeI X.K ta) := by
  refine ⟨fun pins s σ H Q I h => ?_⟩
  refine PySem.W.methodCall_KW (ld_glob I hg hm ?_ hdb) hc
  refine PySem.W.method_cls I.kIn ga (PySem.W.cls_value I.kIn rd vV (by decide +kernel) ?_)
  refine PyProof.Rows.callWith_method1 (thn (ha.run pos pins _ σ H _ (I.tok _) h) fun us s1 ⟨vs, H1, I1, r1, a, C, ws, ev, hl, T, ea, q⟩ => ?_) he hpl
  subst ev
  cases r1 with
  | @cons _ u _ ur ra rw' =>
    obtain rfl : u = Value.ref a := ra
    refine oinit_ok T I1 ea ?_ fun s' J => ⟨.non, H1, J, rfl, q⟩
    have := Paired.length rw'
    rw [sizeLine_eq]
    omega
end
end Cw

/-! Defs that are called where no repr is under way (guards known to be none): what repr of a container asks. -/
namespace Cw
open PySem PySem.Spec PyProof.Rows L2
/-- a def's promise, kept wherever no container's repr is under way -/
structure FnG (P : Program) (w : World) (K : PySem.W.Frag) (mg : Str → Option Value) (base : Heap) (k : Nat) (f : Addr) (fd : FuncData) (ps : List Str) (sp : Sp) : Prop where
  len : ∀ vs H Q E, sp vs H Q E → vs.length = ps.length
  run : ∀ (A : Around) (outer : List Env) (s : Shared) (H : Hp) (args : Args) (us : List Value) (vs : List V) (Q : VK) (E : XK), Room k A → A.guards = some [] → Env0 P w K mg base A outer s H → BindsTo s fd args (ps.zip us) → Vals vs us → sp vs H Q E →
    codeAny (model P w) A (.call (.ref f) args) (CR CX0 outer P w H s Q E) s
section
variable {P : Program} {w : World} {K : PySem.W.Frag} {mg : Str → Option Value} {base : Heap}
theorem FnG.of {x qual : Str} {st : Stmt} {f : Addr} {fd : FuncData} {N ps : List Str} {k : Nat} {sp : Sp} (F : Fun K x qual st f fd) (S : FnScope N ps (defScope st)) (len : ∀ vs H Q E, sp vs H Q E → vs.length = ps.length)
    (body : ∀ (cdv : Value) (A : Around) (outer : List Env) (s : Shared) (H : Hp) (vs : List V) (Q : VK) (E : XK), Room k (A.deeper (envOfC qual (defScope st) s.heap.objs.size f cdv)) → A.guards = some [] → sp vs H Q E →
      ∃ t, PSs (cxOf CX0 P w K mg base N qual (defScope st) f cdv A outer s H E).nox (defBody st) t ∧ t { nx := fun _ H' => Q .non H', rt := Q } (start N vs) H) : FnG P w K mg base (k + 1) f fd ps sp := by
  obtain ⟨oc, od, kV, doc, pm, an, cdv, ct, osl, rfl, lk, hcd⟩ := F.ex
  refine ⟨len, fun A outer s H args us vs Q E hr hg e0 hb r hsp => ?_⟩
  have KX : K.In s.heap := e0.mod.kin.keeps fun b o e => (e0.bs b o e).1
  have noLim : s.heap.NoLimit := e0.mod.nolimit.keeps fun b o e => (e0.bs b o e).1
  refine codeAny_call_function hr.depth (KX _ _ lk) rfl S.co S.gen rfl (PySem.W.codeRec_of KX hcd) (hb _ _ _ _ ?_)
  refine wpAny_newFunctionEnv_cells S.kind (fun y hy => (S.par y.1 (List.of_mem_zip hy).1).elim .inl fun q => .inr ⟨q, PySem.W.cellsFrom_some _ _ _ (.inl q)⟩) fun env he s1 x => ?_
  subst he
  refine ⟨noLim.keeps x.toInCall.keep, codeAny_func ?_⟩
  obtain ⟨t, ht, hq⟩ := body cdv A outer s H vs Q E (hr.deeper _) hg hsp
  have I : Inv (cxOf CX0 P w K mg base N qual (defScope st) f cdv A outer s H E) [] (start N vs) H s1 := inv_start S hr.hd e0 (len _ _ _ _ hsp) r x
  refine wpAny_mono (ht.nox.run [] s1 (start N vs) H _ I hq) (fun fl s' hs => ?_) fun e s' z => z
  have out : ∀ {σ' : L2.St} {H' : Hp} {v : V} {u : Value}, Inv (cxOf CX0 P w K mg base N qual (defScope st) f cdv A outer s H E) [] σ' H' s' → RelV v u → Q v H' → CE outer P w H s Q u s' :=
    fun {σ' H' v u} J rv q => ⟨v, H', J.os, J.bare, J.base, J.hok, rv, q⟩
  cases fl with
  | ret u =>
    obtain ⟨v, σ', H', J, rv, q⟩ := hs
    exact out J rv q
  | next =>
    obtain ⟨σ', H', J, q⟩ := hs
    exact out (v := V.non) (u := Value.none) J rfl q
  | brk =>
    obtain ⟨_, _, _, z⟩ := hs
    exact z.elim
  | cont =>
    obtain ⟨_, _, _, z⟩ := hs
    exact z.elim
end
section
variable {X : Cx} {k : Nat} {f : Addr} {fd : FuncData} {ps : List Str} {sp : Sp} {x : Str} {p pos : Pos} {e : Expr} {es : List Expr} {t : TA}
/-- f(e, ..), every parameter given -/
theorem pe_callG (F : FnG X.prog X.w X.K X.mg X.base k f fd ps sp) (hr : Room k X.A) (hgd : X.A.guards = some []) (hg : Gl X x) (hm : X.mg x = some (.ref f)) (hk : PySem.W.keepIn X.K (.ref f) = true) (hb : Binds X.K fd ps [])
    (ha : PA X (e :: es) t) (hdb : (x == ("__debug__" : Str)) = false := by decide) (he : starEach (e :: es) X.env = (false, eval e X.env) :: starEach es X.env := by rfl) (hpl : (backTo pos (starEach es X.env)).any (·.1) = false := by rfl) :
    PE X (.Call (.Name x p) (e :: es) [] pos) (tCall sp [] E0 t) := by
  refine ⟨fun pins s σ H Q I h => ?_⟩
  refine wpAny_Call_Name_kw (ld_glob I hg hm ?_ hdb)
  refine PySem.W.callWith_K (h₀ := X.base) I.ok.mod.kin hk (thn (ha.run pos pins s σ H _ I h) fun us s1 ⟨vs, H1, I1, r, q⟩ => ⟨I1.kIn, ?_⟩) he hpl
  have q : sp vs H1 Q E0 := by
    have z : sp (vs ++ []) H1 Q E0 := q
    rw [List.append_nil] at z
    exact z
  have hl : (us ++ []).length = ps.length := by
    rw [List.append_nil, ← r.length]
    exact F.len _ _ _ _ q
  have hb1 := hb s1 us I1.kIn hl
  rw [List.append_nil] at hb1
  refine wpAny_call (codeAny_mono (F.run X.A X.stack s1 H1 ⟨us, []⟩ us vs Q E0 hr hgd I1.env0 hb1 r q) fun r s' hq => ?_)
  cases r with
  | error e => exact False.elim hq
  | ok fl =>
    cases fl with
    | ret u => exact I1.after hq
    | next => exact False.elim hq
    | brk => exact False.elim hq
    | cont => exact False.elim hq
end
/-! ### the end: the law called, nothing under way -/
theorem end_call {P : Program} {w : World} {K : PySem.W.Frag} {mg mb : Str → Option Value} {k : Nat} {fa a : Addr} {fd : FuncData} {x : Str} {sp : Sp} {s₁ : Shared} {vs : List Value} {ns : List Int}
    (KX : K.In s₁.heap) (hns : s₁.heap.Ns mainGlobals mg) (hb : s₁.heap.Ns builtinsNs mb) (hbb : ∀ x : Str, x ≠ "__name__" → mb x = bootBuiltins x) (hlim : s₁.heap.NoLimit) (hg : s₁.gens = #[])
    (ha : s₁.heap.get? a = some { cls := .type "list", data := .seq vs.toArray }) (hi : IntsAre vs ns) (hl : ns.length ≤ sizeLine) (hr : Room k callerA)
    (F : ∀ base : Heap, K.In base → base.Ns mainGlobals mg → FnG P w K mg base k fa fd [x] sp) (hbind : ∀ (s : Shared) (u : Value), BindsTo s fd ⟨[u], []⟩ [(x, u)])
    (hsp : ∀ H : Hp, Only H → SqL K H a (ns.map V.int) → sp [.ref a] H (fun v _ => v = .bl true) E0) :
    codeAny (model P w) callerA (.call (.ref fa) ⟨[.ref a], []⟩) (fun r s' => r = .ok (.ret (.bool true)) ∧ OldK s₁.heap s'.heap ∧ s'.os = s₁.os ∧ AllBare s'.gens) s₁ := by
  have rv := vals_ints hi
  have lenV := hi.length
  have go : ∀ H : Hp, Only H → SqL K H a (ns.map V.int) → HOk P w H s₁.heap → (∀ b, H b ≠ none → b = a ∧ K.lookup a = none) →
      codeAny (model P w) callerA (.call (.ref fa) ⟨[.ref a], []⟩) (fun r s' => r = .ok (.ret (.bool true)) ∧ OldK s₁.heap s'.heap ∧ s'.os = s₁.os ∧ AllBare s'.gens) s₁ := by
    intro H hO hS hok hA
    -- what stands outside the script is not tracked
    have un : ∀ {b : Addr} {o : Obj}, s₁.heap.get? b = some o → (o.data ≠ .seq vs.toArray ∨ K.lookup b = some o) → H b = none := fun {b o} e d => by
      refine Classical.byContradiction fun q => ?_
      obtain ⟨eb, ek⟩ := hA b q
      subst eb
      rcases d with d | d
      · rw [ha] at e
        cases e
        exact d rfl
      · rw [ek] at d
        cases d
    have nsB : ∀ {b : Addr} {m : Str → Option Value}, s₁.heap.Ns b m → (hidT s₁.heap H).Ns b m := fun {b m} ⟨o, es, ep, e, d, r⟩ => ⟨o, es, ep, hidT_get e (un e (.inl (by rw [d]; intro z; cases z))), d, r⟩
    have kB : K.In (hidT s₁.heap H) := fun b o e => hidT_get (KX b o e) (un (KX b o e) (.inr e))
    have hM : Mod K mg (hidT s₁.heap H) := ⟨kB, nsB hns, ⟨mb, nsB hb, hbb⟩, let ⟨mc, h1, h2⟩ := hlim; ⟨mc, nsB h1, h2⟩⟩
    have e0 : Env0 P w K mg (hidT s₁.heap H) callerA [] s₁ H := ⟨rfl, hM, fun b o e => of_hidT e, Nat.le_of_eq (hidT_size _ _), trivial, fun b hb => absurd (show b ∈ ([] : List Addr) from hb) (by simp), hok, .of_eq hg⟩
    refine codeAny_mono ((F _ kB (nsB hns)).run callerA [] s₁ H ⟨[.ref a], []⟩ [.ref a] [.ref a] _ _ hr rfl e0 (hbind s₁ (.ref a)) (.cons rfl .nil) (hsp H hO hS)) fun r s' h => ?_
    cases r with
    | error e => exact False.elim h
    | ok fl =>
      cases fl with
      | next => exact False.elim h
      | brk => exact False.elim h
      | cont => exact False.elim h
      | ret u =>
        obtain ⟨v, H', os, bare, u1, hok', r', q⟩ := h
        have q' : v = .bl true := q
        subst q'
        obtain rfl : u = Value.bool true := r'
        refine ⟨rfl, OldK.of_keep fun b o e => ?_, os, bare⟩
        rcases hO b with z | ⟨ob, xs, z⟩
        · exact u1.keep b o e z (by intro q; exact absurd (show b ∈ ([] : List Addr) from q) (by simp)) (by simp)
        · obtain ⟨e1, _⟩ := hok b _ z
          obtain ⟨e2, _⟩ := hok' b _ (u1.frzs b ob _ z)
          rw [e] at e1
          cases e1
          exact e2
  cases hk : K.lookup a with
  | some o =>
    have e := KX a o hk
    rw [ha] at e
    cases e
    exact go (fun _ => none) (fun _ => .inl rfl) (.inr ⟨_, vs.toArray, _, hk, rfl, rfl, rfl, by rw [List.size_toArray, lenV]; exact hl, by simpa using rv⟩) (fun b u z => by cases (show (none : Option HO) = some u from z)) fun b z => absurd rfl z
  | none =>
    refine go (fun b => if b = a then some (.frz { cls := .type "list", data := .seq vs.toArray } (.lst (ns.map V.int))) else none) (fun b => ?_) (.inl (.inr ⟨{ cls := .type "list", data := .seq vs.toArray }, if_pos rfl⟩)) (fun b u z => ?_) fun b z => ?_
    · by_cases hb : b = a
      · exact .inr ⟨_, _, if_pos hb⟩
      · exact .inl (if_neg hb)
    · by_cases hb : b = a
      · cases (if_pos hb).symm.trans z
        subst hb
        exact ⟨ha, by rw [List.length_map]; exact hl, vs, _, rv, ha⟩
      · cases (if_neg hb).symm.trans z
    · by_cases hb : b = a
      · exact ⟨hb, hk⟩
      · exact absurd (if_neg hb) z
theorem end_of {l : PySem.W.OpenLaw} {n k : Nat} {q : Program} {loose : List Str} {XP : (Str → Option Value) → Heap → Prop} {YP : World → Heap → Prop} {d : DefRec} {K : Params → PySem.W.Frag} {sp : PySem.W.Frag → Sp} {x : Str}
    (hn : l.most = some n) (hn2 : n ≤ sizeLine) (hdf : d.params.defaults = []) (hr : Room k callerA) (hY : ∀ (w : World) (h : Heap), YP w h → (K w.params).In h)
    (F : ∀ (w : World) (mg : Str → Option Value) (fa : Addr) (h : Heap), (K w.params).In h → h.Ns mainGlobals mg → mg d.name = some (.ref fa) →
      ∃ fd : FuncData, (∀ (s : Shared) (u : Value), BindsTo s fd ⟨[u], []⟩ [(x, u)]) ∧ ∀ base : Heap, (K w.params).In base → base.Ns mainGlobals mg → FnG l.prog w (K w.params) mg base k fa fd [x] (sp (K w.params)))
    (hsp : ∀ (K : PySem.W.Frag) (H : Hp) (a : Addr) (ns : List Int), ns.length ≤ n → SqL K H a (ns.map V.int) → sp K [.ref a] H (fun v _ => v = .bl true) E0) :
    PySem.W.WalkO q loose XP YP l.row.toRowW d [] (fun f vs => PySem.call f vs) := by
  refine Att.attach_call hn hdf fun w s₀ s₁ mg mb fa o pm cd doc a vs ns G Y ho hd hcd hmg hobj hints hlen hg => ?_
  have KX := hY w _ Y
  obtain ⟨fd, hb, hF⟩ := F w mg fa _ KX G.T.g hmg
  exact end_call KX G.T.g G.T.b G.T.builtins G.T.nolimit hg hobj hints (Nat.le_trans hlen hn2) hr hF hb fun H _ hS => hsp (K w.params) H a ns hlen hS
end Cw

/-! try with several clauses that bear names; len(set(texts)). -/
namespace Cw
open PySem PySem.Spec PyProof.Rows L2
/-! ### several clauses «except X as n» -/
/-- a clause: the class that it names, its name's slot, its suite's reading -/
structure Clause where
  cls : Value
  slot : Nat
  suite : Addr → Value → Option Addr → TS
/-- what the clauses wish of an exception of the body, one after another -/
def wAll (K : PySem.W.Frag) (Wout : WX) (D : Ends) : List Clause → WX
  | [] => Wout
  | c :: r => fun cls d σ H => ∃ b, PySem.W.exmOne K cls c.cls = some b ∧
      (b = true → ∀ a, H a = none → c.suite a cls d { nx := fun σ' H' => D.nx (σ'.set c.slot none) H', rt := D.rt, bk := fun σ' H' => D.bk (σ'.set c.slot none) H', ct := fun σ' H' => D.ct (σ'.set c.slot none) H' } (σ.set c.slot (some (.ref a))) H) ∧
      (b = false → wAll K Wout D r cls d σ H)
inductive ClausesOk (X : Cx) : List ExceptHandler → List Clause → Prop
  | nil : ClausesOk X [] []
  | cons {x n : Str} {c : Value} {i : Nat} {ts : Addr → Value → Option Addr → TS} {b₀ : Stmt} {suite : List Stmt} {np pos' : Pos} {hds : List ExceptHandler} {l : List Clause} (hc : Names X x c) (hi : X.N[i]? = some n) (hln : X.env.kindOf n = some .local)
      (hsu : ∀ (a : Addr) (oe : Obj) (cls : Value) (d : Option Addr) (pn : List (Addr × Obj)), Zc cls d oe → (∃ vs, oe.data = .fields vs) → PSs (X.suite a ((a, oe) :: pn)) (b₀ :: suite) (ts a cls d)) (r : ClausesOk X hds l) :
      ClausesOk X (.ExceptHandler (some (.Name x np)) (some n) (b₀ :: suite) pos' :: hds) (⟨c, i, ts⟩ :: l)
section
variable {X : Cx} {body : List Stmt} {h₀ : ExceptHandler} {hds : List ExceptHandler} {l : List Clause} {pos : Pos} {tb : WX → TS} {Wout : WX}
theorem ps_try_all (hs : X.stack = X.env :: X.outer) (hf : X.env.frame = some X.env.locals) (hN : X.N.Nodup) (tk : Takes X Wout)
    (hb : ∀ (W : WX) (pn : List (Addr × Obj)) (xe : Value → Shared → Prop), Takes (X.tr pn xe) W → PassesOwn (model X.prog X.w) X.A X.env xe → PSs (X.tr pn xe) body (tb W))
    (hh : ClausesOk X (h₀ :: hds) l) : PS X (.Try body (h₀ :: hds) [] [] pos) (fun D σ H => tb (wAll X.K Wout D l) D σ H) := by
  refine ⟨fun pins s σ H D I h => ?_⟩
  have ok := I.ok
  have hfr : X.A.frames = some (X.env :: X.outer) := by rw [ok.frames, hs]
  refine wpAny_Try_except ?_
  refine wpAny_mono ((hb (wAll X.K Wout D l) (X.pn ++ pins) (fun e s₁ => wpAny (model X.prog X.w) X.A (noteFrame e X.env) (fun _ s₂ => wpAny (model X.prog X.w) X.A (setFlight e none) (fun _ s₃ =>
    wpAny (model X.prog X.w) X.A (handleBy e X.env (h₀ :: hds)) (SP X pins D) X.xe s₃) X.xe s₂) X.xe s₁) (fun u s' xx => ?_) PassesOwn.looking).run [] s σ H D (I.toTry _) h) (fun f s1 hsp => ?_) (fun e s1 he => he)
  · obtain ⟨a, B, sI, pins', σ', H', cls, d, rfl, J', nb, up, sky, na, os, ag, w⟩ := xx
    have J : Inv X pins σ' H' sI := J'.ofTry ok
    have skyX : Sky B (X.env :: X.outer) a (Zc cls d) X.env.locals s'.heap := by rw [← hs]; exact sky
    show wpAny (model X.prog X.w) X.A (noteFrame (.ref a) X.env) _ _ _
    refine Sky.land Zc.steady hfr hf skyX fun h3 fl3 up3 => ?_
    have J3 : Inv X pins σ' H' { s' with heap := h3 } := J.landed nb fl3.1 (up.trans up3) os ag
    obtain ⟨oe3, vs3, he3, hz3, hd3⟩ := fl3.there
    have nfr : a ∉ frs (X.env :: X.outer) := fun hm => by
      obtain ⟨_, o', e', hnf⟩ := fl3.2.2.1.mem hm
      rw [he3] at e'
      cases e'
      exact hnf _ hd3
    have nL : a ≠ X.env.locals := fun z => nfr (List.mem_filterMap.mpr ⟨X.env, List.mem_cons_self, by rw [hf, z]⟩)
    have nF : a ∉ X.fs := fun hm => by
      obtain ⟨e, he, q⟩ := List.mem_filterMap.mp hm
      exact nfr (List.mem_filterMap.mpr ⟨e, List.mem_cons_of_mem _ he, q⟩)
    have S3 := J3.suite he3 hd3 na nL nF
    -- clause by clause
    have go : ∀ {hs' : List ExceptHandler} {l' : List Clause}, ClausesOk X hs' l' → wAll X.K Wout D l' cls d σ' H' →
        wpAny (model X.prog X.w) X.A (handleBy (.ref a) X.env hs') (SP X pins D) X.xe { s' with heap := h3 } := by
      intro hs' l' hk
      induction hk with
      | nil =>
        intro w
        refine wpAny_handleBy_nil ?_
        obtain ⟨k1, k2, k3, oe, vs, T, oT, ts', he, hz, hd, h1, hr⟩ := id fl3
        unfold PySem.passOn
        refine wpAny_bind (wpAny_field he hd h1 ?_)
        rw [if_neg (show ¬ ((Value.ref T == Value.none) = true) from by simp)]
        have fin : wpAny (model X.prog X.w) X.A (setFlight (.ref a) X.env.frame) (fun _ s4 => wpAny (model X.prog X.w) X.A (throw (.ref a) : Sem Flow) (SP X pins D) X.xe s4) X.xe { s' with heap := h3 } := by
          rw [hf]
          refine HandSPX.setFlight_upZ fl3 fun h4 hh4 up4 => wpAny_throw (tk _ _ ?_)
          exact ⟨a, B, sI, pins, σ', H', cls, d, rfl, J, nb, (up.trans up3).trans up4, .inr (.inr (by rw [hs]; exact hh4)), na, os, ag, w⟩
        first
          | exact wpAny_bind (wpAny_pure (wpAny_bind fin))
          | exact wpAny_bind fin
      | @cons x n c i ts b₀ suite np pos' hds2 l2 hc hi hln hsu r ih =>
        intro w
        obtain ⟨b, hb1, yes, no⟩ := w
        refine wpAny_handleBy_cons (codeAny_handlers_test ?_) (by intro q; cases q)
        have LT : PySem.W.Looks (model X.prog X.w) h3 (typeOf (.ref a)) cls := fun A Q E s k q => wpAny_typeOf_ref (k _ _ he3) (by rw [hz3.1]; exact q)
        have LM := PySem.W.exm_one (M := model X.prog X.w) (J3.kIn) LT hb1
        have test : ∀ {Q : Value → Shared → Prop} {E : Value → Shared → Prop}, Q c { s' with heap := h3 } → wpAny (model X.prog X.w) (X.A.mark (some (.ref a))) (eval (.Name x np) X.env) Q E { s' with heap := h3 } := fun {Q E} q => by
          obtain ⟨hg, hdbg, hm | ⟨hm, hv, hnn⟩⟩ := hc
          · exact ld_glob (X := X.suite a ((a, oe3) :: (X.pn ++ pins))) S3 hg hm q hdbg
          · exact ld_blt (X := X.suite a ((a, oe3) :: (X.pn ++ pins))) S3 hg hm hv q hnn hdbg
        refine test (LM.here ?_)
        cases b with
        | true =>
          refine codeAny_handlers_suite_as ?_
          refine HandSPX.lands_againZ fl3 fun h4 fl4 up4 => ?_
          have J4 : Inv X pins σ' H' { s' with heap := h4 } := J.landed nb fl4.1 ((up.trans up3).trans up4) os ag
          obtain ⟨oe4, vs4, he4, hz4, hd4⟩ := fl4.there
          have S4 := J4.suite he4 hd4 na nL nF
          refine store_ok (X := X.suite a ((a, oe4) :: (X.pn ++ pins))) (v := .ref a) S4 hN hi (.inl hln) rfl (fun s5 S5 => ?_) (.inr hln)
          refine wpAny_mono ((hsu a oe4 cls d (X.pn ++ pins) hz4 ⟨_, hd4⟩).run [] s5 _ H' _ S5 (yes rfl a na)) (fun f s6 hsp => ?_) (fun _ _ z => False.elim z)
          have fin : ∀ {σ6 : L2.St} {H6 : Hp} {Q : Shared → Prop}, Inv (X.suite a ((a, oe4) :: (X.pn ++ pins))) [] σ6 H6 s6 → (∀ s7, Inv X pins (σ6.set i none) H6 s7 → Q s7) →
              wpAny (model X.prog X.w) X.A (do bindName X.env n .none; unbindBehindTheSuite X.env n pos') (fun _ s7 => Q s7) X.xe s6 := fun {σ6 H6 Q} S6 hq => gone_ok (S6.unsuite ok) hN hi hln hq
          cases f with
          | next =>
            obtain ⟨σ6, H6, S6, q6⟩ := hsp
            exact fin S6 fun s7 J7 => ⟨_, _, J7, q6⟩
          | brk =>
            obtain ⟨σ6, H6, S6, q6⟩ := hsp
            exact fin S6 fun s7 J7 => ⟨_, _, J7, q6⟩
          | cont =>
            obtain ⟨σ6, H6, S6, q6⟩ := hsp
            exact fin S6 fun s7 J7 => ⟨_, _, J7, q6⟩
          | ret u =>
            obtain ⟨v6, σ6, H6, S6, r6, q6⟩ := hsp
            exact fin S6 fun s7 J7 => ⟨_, _, _, J7, r6, q6⟩
        | false =>
          show wpAny _ X.A (handleBy (.ref a) X.env hds2) _ _ _
          exact ih (no rfl)
    exact go hh w
  · cases f with
    | next =>
      obtain ⟨σ', H', J', q⟩ := hsp
      exact wpAny_execs_nil ⟨σ', H', J'.ofTry ok, q⟩
    | brk =>
      obtain ⟨σ', H', J', q⟩ := hsp
      exact ⟨σ', H', J'.ofTry ok, q⟩
    | cont =>
      obtain ⟨σ', H', J', q⟩ := hsp
      exact ⟨σ', H', J'.ofTry ok, q⟩
    | ret u =>
      obtain ⟨v, σ', H', J', r, q⟩ := hsp
      exact ⟨v, σ', H', J'.ofTry ok, r, q⟩
end
/-! ### set(texts), fewer than 64 -/
theorem onces_snoc (x : Str) : ∀ (xs acc : List Str), onces acc (xs ++ [x]) = if x ∈ onces acc xs then onces acc xs else onces acc xs ++ [x]
  | [], _ => rfl
  | y :: r, acc => onces_snoc x r _
def isIn (ys : List Str) (k : Str) : Bool := decide (k ∈ ys)
section
variable {prog : Program} {w : World} {A : Around} {R : Result → Shared → Prop} {I : Addr} {fp wr : List Addr} {G : Array GenState → Array GenState → Prop} {n : Nat} {P : Nat → Value → Prop} {St' : Nat → Shared → Prop}
/-- the set's filling, text by text -/
theorem fill_texts (W : WalksS prog w A.in1 I fp wr G n P St') (D : Addr) (hD : D ∉ fp) (xs : List Str) (hsz : xs.length = n) (few : n < 64) (hval : ∀ i v, P i v → ∃ t, v = .str (xs.getD i Str.empty) t) :
    ∀ (k i : Nat) (s : Shared), n - i = k → i ≤ n → St' i s → s.heap.SetOf (PySem.strKind prog w) D (isIn (onces [] (xs.take i))) (onces [] (xs.take i)).length →
      (∀ s', Moved (D :: wr) G s s' → s'.heap.SetOf (PySem.strKind prog w) D (isIn (onces [] (xs.take n))) (onces [] (xs.take n)).length → R (.ok (.ret .none)) s') →
      codeAny (model prog w) A (.builtin "set.update.loop" ⟨[.ref D, .ref I], []⟩) R s := by
  have nw : D ∉ wr := fun h => hD (W.sub _ h)
  have sub : ∀ b ∈ wr, b ∈ D :: wr := fun b hb => List.mem_cons_of_mem _ hb
  intro k
  induction k with
  | zero =>
    intro i s hk hi hst hS hR
    obtain rfl : i = n := by omega
    refine codeAny_builtin PyProof.Rows.F.entry_set_update_loop ?_
    rw [Around.under_plainId PyProof.Rows.F.plain_set_update_loop _]
    show wpAny _ A.in1 (pyNext (.ref I) >>= _) _ _ s
    refine wpAny_bind (W.done s _ _ hst fun s' hm => wpAny_pure (hR s' (hm.mono sub) ?_))
    obtain ⟨o, es, ep, t, ho, q⟩ := hS
    exact ⟨o, es, ep, t, hm.heap D _ nw ho, q⟩
  | succ k ih =>
    intro i s hk hi hst hS hR
    have hlt : i < n := by omega
    refine codeAny_builtin PyProof.Rows.F.entry_set_update_loop ?_
    rw [Around.under_plainId PyProof.Rows.F.plain_set_update_loop _]
    show wpAny _ A.in1 (pyNext (.ref I) >>= _) _ _ s
    refine wpAny_bind (W.item i s _ _ hlt hst fun v s' hP hst' hm => ?_)
    obtain ⟨t, rfl⟩ := hval i v hP
    generalize hx : xs.getD i Str.empty = x
    have hS2 : s'.heap.SetOf (PySem.strKind prog w) D (isIn (onces [] (xs.take i))) (onces [] (xs.take i)).length := by
      obtain ⟨o, es, ep, tb, ho, q⟩ := hS
      exact ⟨o, es, ep, tb, hm.heap D _ nw ho, q⟩
    have step : onces [] (xs.take (i + 1)) = if x ∈ onces [] (xs.take i) then onces [] (xs.take i) else onces [] (xs.take i) ++ [x] := by
      have e : xs[i]? = some x := by
        have hl : i < xs.length := by omega
        rw [← hx, List.getElem?_eq_getElem hl, List.getD_eq_getElem?_getD, List.getElem?_eq_getElem hl]
        rfl
      rw [List.take_add_one, e]
      exact onces_snoc x _ []
    have hlen : (onces [] (xs.take i)).length ≤ i := by
      have q := onces_len (xs.take i) []
      rw [List.length_take] at q
      simp only [List.length_nil] at q
      omega
    show wpAny _ A.in1 (holding [Value.str x t] (setAdd D (.str x t)) >>= _) _ _ s'
    refine wpAny_bind (wpAny_holding ?_)
    unfold setAdd
    refine wpAny_holding ?_
    refine wpAny_bind ((PySem.strKind prog w).pyHash (k := x) (strKind_is _ _ _ _) ?_)
    refine wpAny_setAddHashed_of (knd := PySem.strKind prog w) (s := { s' with toks := s'.toks + 1 }) (strKind_is _ _ _ _) rfl hS2 (by unfold scanBound; omega) fun h' sb hS3 => ?_
    have hS4 : h'.SetOf (PySem.strKind prog w) D (isIn (onces [] (xs.take (i + 1)))) (onces [] (xs.take (i + 1))).length := by
      rw [step]
      refine SetOf_congr hS3 (fun k' => ?_) ?_
      · unfold isIn
        by_cases m : x ∈ onces [] (xs.take i)
        · rw [if_pos m]
          by_cases e : k' = x
          · subst e
            simp [m]
          · simp [e]
        · rw [if_neg m]
          by_cases e : k' = x
          · subst e
            simp
          · simp [e]
      · unfold isIn
        by_cases m : x ∈ onces [] (xs.take i)
        · rw [if_pos m, if_pos (by simpa using m)]
        · rw [if_neg m, if_neg (by simpa using m), List.length_append, List.length_singleton]
    refine wpAny_pure ⟨plainId_quiet PyProof.Rows.F.plain_set_update_loop _, ih (i + 1) _ (by omega) hlt (W.frame _ s' _ _ hst' (Nat.le_succ _) fun b hb o e => ?_) hS4 fun s'' hm'' hS'' => ?_⟩
    · exact (sb.2 b fun h => hD (h ▸ hb)).trans e
    · exact hR s'' (Moved.trans W.gtrans ((hm.mono sub).then_heap (Nat.le_succ _) fun b o hb e => (sb.2 b fun h => hb (h ▸ List.mem_cons_self)).trans e) hm'') hS''
end
end Cw

/-! set(texts) called, and its length. -/
namespace Cw
open PySem PySem.Spec PyProof.Rows L2
def bareSet (led : Bool) : Obj := { cls := .type "set", dict := none, data := .set #[] 0 (.fresh 0 0 led) }
section
variable {prog : Program} {w : World} {A : Around} {E : Value → Shared → Prop} {s : Shared}
theorem set_texts {l : Addr} {items : Array Value} {xs : List Str} {Q : Value → Shared → Prop}
    (hh : A.handled = none) (hl : s.heap.IsList l items) (hi : PyProof.Rows.StrsAre items.toList xs) (few : xs.length < 64)
    (h : ∀ (h' : Heap) (tk : Nat), h'.SetOf (PySem.strKind prog w) s.heap.objs.size (isIn (onces [] xs)) (onces [] xs).length →
      (∀ b o, b < s.heap.objs.size → s.heap.get? b = some o → h'.get? b = some o) → Q (.ref s.heap.objs.size) { s with heap := h', toks := tk }) :
    wpAny (model prog w) A (call (.type "set") [.ref l]) Q E s := by
  obtain ⟨c, tl, hmro⟩ := PySem.F.called_set.mro
  have hmade := PySem.F.called_set.made
  have hsub := PySem.F.called_set.sub
  refine wpAny_call (codeAny_of_tree ?_)
  show wpAny _ _ (callAny (.type "set") _) _ _ _
  refine wpAny_pure ⟨Code.quiet_builtin _ (by decide +kernel), codeAny_builtin PySem.F.entry_type_call ?_⟩
  rw [Around.under_plain (weight_type_call_type "set" [.ref l] []) rfl]
  have h1 := PySem.F.called_set.notType
  have h2 := PySem.F.called_set.canCreate
  have hct := PySem.F.typeCall_set_1 (.ref l)
  repeat (any_goals (first | assumption | wp_step))
  refine codeAny_mono (code_set_new_1 (.ref l) (E := E) (Q₁ := fun obj s₁ => ∃ led : Bool, obj = .ref s.heap.objs.size ∧ s₁ = { s with heap := s.heap.push (bareSet led) }) fun led => ⟨led, rfl, rfl⟩) fun r s₁ hr => ?_
  cases r with
  | error e => exact hr
  | ok fl =>
    cases fl with
    | ret obj =>
      obtain ⟨led, rfl, rfl⟩ := hr
      have hS : (s.heap.push (bareSet led)).get? s.heap.objs.size = some (bareSet led) := Heap.get?_push_size _ rfl
      have hT : Shared.TypeIs { s with heap := s.heap.push (bareSet led) } (.ref s.heap.objs.size) "set" := ⟨_, hS, rfl⟩
      have hli := PySem.F.called_set.init.lookup
      have hbi := PySem.F.called_set.init.bind (.ref s.heap.objs.size)
      repeat (any_goals (first | assumption | wp_step))
      refine codeAny_mono (codeAny_call_builtin (R := wants (fun r s₂ => r = .none ∧ ∃ h' tk, s₂ = { s with heap := h', toks := tk } ∧
          h'.SetOf (PySem.strKind prog w) s.heap.objs.size (isIn (onces [] xs)) (onces [] xs).length ∧
          (∀ b o, b < s.heap.objs.size → s.heap.get? b = some o → h'.get? b = some o)) E) PySem.F.called_set.init.plain PySem.F.entry_set_init (check_set_init_1 hT ?_)) fun r₂ s₂ hr₂ => ?_
      · obtain ⟨ol, hol, hcl, nl, hdl⟩ := hl
        obtain ⟨ocls, odict, odata, oslots⟩ := ol
        simp only at hcl hdl
        subst hcl; subst hdl
        have hol' : (s.heap.push (bareSet led)).get? l = some { cls := .type "list", dict := odict, data := .seq items nl, slots := oslots } := Heap.get?_push_of_some _ hol
        have hsls := PySem.F.sub_list_set
        have hslf := PySem.F.sub_list_frozenset
        have hne : (Value.type "list" == Value.type "dict") = false := by decide
        have hl1 : (s.heap.push (bareSet led)).IsList l items := ⟨_, hol', rfl, nl, rfl⟩
        unfold Builtin.«set.__init__» noKeywords Builtin.Frozenset.updateFrom
        generalize hPI : pyIter = PI
        wp_walk
        subst hPI
        refine wpAny_pyIter_list hl1 ?_
        refine wpAny_bind (wpAny_runValue ?_)
        have hlS : l < s.heap.objs.size := Heap.lt_size hol
        have hh3 : A.in1.in1.in1.handled = none := by simp [hh]
        have sz : (s.heap.push (bareSet led)).objs.size = s.heap.objs.size + 1 := Heap.size_push ..
        have neI : l ≠ (s.heap.push (bareSet led)).objs.size := by
          rw [sz]
          exact Nat.ne_of_lt (Nat.lt_succ_of_lt hlS)
        have nfp : s.heap.objs.size ∉ [(s.heap.push (bareSet led)).objs.size, l] := by
          rw [sz]
          simp only [List.mem_cons, List.not_mem_nil, or_false, not_or]
          exact ⟨Nat.ne_of_lt (Nat.lt_succ_self _), Nat.ne_of_gt hlS⟩
        have hsz : xs.length = items.size := by rw [← StrsAre.len_eq hi, Array.length_toList]
        refine fill_texts ((Walks.list hh3 _ l neI items).toS) s.heap.objs.size nfp xs hsz (hsz ▸ few) (fun i v hv => SS.strs_at hi i v (by rw [Array.getElem?_toList]; exact hv)) (items.size - 0) 0 _ (by omega) (Nat.zero_le _)
          ⟨⟨_, Heap.get?_push_size _ rfl, rfl, rfl⟩, (hl1.push _)⟩ ?_ ?_
        · have hget : ((s.heap.push (bareSet led)).push { cls := .type "list_iterator", data := .fields #[.ref l, .int 0 0] }).get? s.heap.objs.size = some (bareSet led) := Heap.get?_push_of_some _ hS
          exact PyProof.Rows.SetOf_congr ((PyProof.Rows.setObjOf_fresh (knd := PySem.strKind prog w) led).setOf hget (by unfold scanBound; omega)) (fun _ => rfl) rfl
        · intro s' hm hS'
          obtain ⟨h', g', d', tk', os'⟩ := s'
          obtain rfl : g' = s.gens := hm.gens
          obtain rfl : d' = s.drawn := hm.drawn
          obtain rfl : os' = s.os := hm.os
          rw [← hsz, List.take_length] at hS'
          show wpAny _ _ _ _ _ _
          refine wpAny_pure ?_
          show wpAny _ _ (ret Value.none) _ _ _
          refine wpAny_pure ⟨rfl, h', tk', rfl, hS', fun b o hb e => ?_⟩
          refine hm.heap b o ?_ (Heap.get?_push_of_some _ (Heap.get?_push_of_some _ e))
          rw [sz]
          simp only [List.mem_cons, List.not_mem_nil, or_false, not_or]
          exact ⟨Nat.ne_of_lt hb, Nat.ne_of_lt (Nat.lt_succ_of_lt hb)⟩
      · cases r₂ with
        | error e => exact hr₂
        | ok fl₂ =>
          cases fl₂ with
          | ret r =>
            obtain ⟨rfl, h', tk, rfl, hS', hk'⟩ := hr₂
            repeat (any_goals (first | assumption | wp_step))
            exact h _ _ hS' hk'
          | _ => exact hr₂.elim
    | _ => exact hr.elim
end
section
variable {X : Cx}
/-- len(set(xs)), xs a list of texts -/
def tLenOnce (K : PySem.W.Frag) (ta : TE) : TE := fun σ H Q => ta σ H fun x H1 => ∃ (l : Addr) (xs : List Str), x = .ref l ∧ SqL K H1 l (xs.map V.str) ∧ xs.length < 64 ∧ Q (.int (onces [] xs).length) H1
theorem pe_lenOnce {a : Expr} {ta : TE} {p p2 q pos : Pos} (hc : X.calm = true) (hg : Gl X "len") (hm : X.mg "len" = none) (hg2 : Gl X "set") (hm2 : X.mg "set" = none) (ha : PE X a ta)
    (na : starEach [a] X.env = (false, eval a X.env) :: starEach [] X.env := by rfl) : PE X (.Call (.Name "len" p) [.Call (.Name "set" p2) [a] [] q] [] pos) (tLenOnce X.K ta) := by
  refine ⟨fun pins s σ H Q I h => ?_⟩
  refine Call_ (ld_blt I hg hm boot_len ?_)
  refine PyProof.Rows.callWith_builtin1 (PyProof.Rows.args_cons ?_ rfl) rfl rfl
  refine Call_ (ld_blt I hg2 hm2 boot_set ?_)
  refine PyProof.Rows.callWith_type1 (PyProof.Rows.args_cons (thn (ha.run pins s σ H _ I h) fun v s1 ⟨x, H1, I1, r1, q1⟩ => PyProof.Rows.args_nil ?_) na) na rfl
  obtain ⟨l, xs, rfl, hq, few, q1⟩ := q1
  obtain rfl : v = Value.ref l := r1
  obtain ⟨its, r, pl, hz⟩ := I1.list hq
  refine set_texts (I1.ok.hd hc) pl.isList (by simpa using strsAre_of r) few fun h' tk hS hk => ?_
  refine PyProof.Rows.args_nil ?_
  obtain ⟨o, es, ep, t, ho, hex, hd, _, _, _, hf, hn⟩ := hS
  have I2 : Inv X pins σ H1 { s1 with heap := h', toks := tk } := I1.kept fun b o e => hk b o (Heap.lt_size e) e
  have le : (onces [] xs).length ≤ xs.length := by simpa using onces_len xs []
  exact call_len_set ho hex hd hf (by rw [hn]; omega) ⟨.int (onces [] xs).length, H1, I2.tok _, ⟨_, by rw [hn]⟩, q1⟩
end
end Cw

/-! The text by places; each def's names; what the top leaves. -/
namespace Cw
open PySem PySem.Spec PyProof.Rows L2
def top (i : Nat) : Stmt := PySem.Challenge.pw_cutworths_k07_whole_arrows_and_all_their.main.body.getD i (.Pass ⟨0, 0, 0, 0⟩)
abbrev sBadI : Stmt := inClass (top 2) 0
abbrev sNoI : Stmt := inClass (top 3) 0
abbrev sLenI : Stmt := inClass (top 4) 0
abbrev sName : Stmt := top 10
abbrev sNum : Stmt := top 11
abbrev sSeq : Stmt := top 12
abbrev sEdge : Stmt := top 13
abbrev sArrow : Stmt := top 14
abbrev sInit : Stmt := inClass (top 15) 0
abbrev sEq : Stmt := inClass (top 15) 1
abbrev sEdges : Stmt := inClass (top 15) 2
abbrev sReach : Stmt := inClass (top 15) 3
abbrev sLonger : Stmt := top 16
abbrev sChains : Stmt := top 17
abbrev lHand : Stmt := top 19
abbrev lMixed : Stmt := top 20
abbrev lTake : Stmt := top 21
abbrev lPick : Stmt := top 22
abbrev lSame : Stmt := top 23
abbrev lName : Stmt := top 24
abbrev lNames : Stmt := top 25
abbrev lEdges : Stmt := top 26
abbrev lArrows : Stmt := top 27
abbrev lChains : Stmt := top 28
abbrev lAsked : Stmt := top 29
abbrev lRight : Stmt := top 30
abbrev lLaw : Stmt := top 31
theorem cNoI : FnScope ["self", "arrow"] ["self", "arrow"] (defScope sNoI) := ⟨rfl, rfl, rfl, by decide +kernel, rfl, by decide +kernel, by decide +kernel⟩
theorem cLenI : FnScope ["self", "length"] ["self", "length"] (defScope sLenI) := ⟨rfl, rfl, rfl, by decide +kernel, rfl, by decide +kernel, by decide +kernel⟩
theorem cName : FnScope ["thing", "sign"] ["thing"] (defScope sName) := ⟨rfl, rfl, rfl, by decide +kernel, rfl, by decide +kernel, by decide +kernel⟩
theorem cNum : FnScope ["thing", "low", "high"] ["thing", "low", "high"] (defScope sNum) := ⟨rfl, rfl, rfl, by decide +kernel, rfl, by decide +kernel, by decide +kernel⟩
theorem cSeq : FnScope ["thing", "low", "high"] ["thing", "low", "high"] (defScope sSeq) := ⟨rfl, rfl, rfl, by decide +kernel, rfl, by decide +kernel, by decide +kernel⟩
theorem cEdge : FnScope ["size", "edge", "at"] ["size", "edge", "at"] (defScope sEdge) := ⟨rfl, rfl, rfl, by decide +kernel, rfl, by decide +kernel, by decide +kernel⟩
theorem cArrow : FnScope ["size", "earlier", "arrow", "at", "found", "edge", "couple"] ["size", "earlier", "arrow", "at"] (defScope sArrow) := ⟨rfl, rfl, rfl, by decide +kernel, rfl, by decide +kernel, by decide +kernel⟩
theorem cInit : FnScope ["self", "size", "arrows", "rows", "at", "earlier", "row"] ["self", "size", "arrows"] (defScope sInit) := ⟨rfl, rfl, rfl, by decide +kernel, rfl, by decide +kernel, by decide +kernel⟩
theorem cEq : FnScope ["self", "other"] ["self", "other"] (defScope sEq) := ⟨rfl, rfl, rfl, by decide +kernel, rfl, by decide +kernel, by decide +kernel⟩
theorem cEdges : FnScope ["self", "arrow", "name", "edges"] ["self", "arrow"] (defScope sEdges) := ⟨rfl, rfl, rfl, by decide +kernel, rfl, by decide +kernel, by decide +kernel⟩
theorem cReach : FnScope ["self", "arrow", "cell", "source", "target"] ["self", "arrow", "cell"] (defScope sReach) := ⟨rfl, rfl, rfl, by decide +kernel, rfl, by decide +kernel, by decide +kernel⟩
theorem cLonger : FnScope ["board", "arrow", "chains", "longer", "chain", "target"] ["board", "arrow", "chains"] (defScope sLonger) := ⟨rfl, rfl, rfl, by decide +kernel, rfl, by decide +kernel, by decide +kernel⟩
theorem cChains : FnScope ["board", "arrow", "length", "chains", "turn", "cell"] ["board", "arrow", "length"] (defScope sChains) := ⟨rfl, rfl, rfl, by decide +kernel, rfl, by decide +kernel, by decide +kernel⟩
theorem dHand : FnScope ["_law_script", "_law_total", "_law_cells", "_law_cell"] ["_law_script"] (defScope lHand) := ⟨rfl, rfl, rfl, by decide +kernel, rfl, by decide +kernel, by decide +kernel⟩
theorem dMixed : FnScope ["_law_number", "_law_turn", "_law_once", "_law_twice"] ["_law_number", "_law_turn"] (defScope lMixed) := ⟨rfl, rfl, rfl, by decide +kernel, rfl, by decide +kernel, by decide +kernel⟩
theorem dTake : FnScope ["_law_hand_here", "_law_many", "_law_cell", "_law_rest"] ["_law_hand_here", "_law_many"] (defScope lTake) := ⟨rfl, rfl, rfl, by decide +kernel, rfl, by decide +kernel, by decide +kernel⟩
theorem dPick : FnScope ["_law_hand_here", "_law_things"] ["_law_hand_here", "_law_things"] (defScope lPick) := ⟨rfl, rfl, rfl, by decide +kernel, rfl, by decide +kernel, by decide +kernel⟩
theorem dSame : FnScope ["_law_told", "_law_due"] ["_law_told", "_law_due"] (defScope lSame) := ⟨rfl, rfl, rfl, by decide +kernel, rfl, by decide +kernel, by decide +kernel⟩
theorem dName : FnScope ["_law_hand_here", "_law_taken", "_law_letters", "_law_way", "_law_name_here", "_law_k", "_law_letter"] ["_law_hand_here", "_law_taken"] (defScope lName) := ⟨rfl, rfl, rfl, by decide +kernel, rfl, by decide +kernel, by decide +kernel⟩
theorem dNames : FnScope ["_law_hand_here", "_law_many", "_law_taken", "_law_k"] ["_law_hand_here", "_law_many"] (defScope lNames) := ⟨rfl, rfl, rfl, by decide +kernel, rfl, by decide +kernel, by decide +kernel⟩
theorem dEdges : FnScope ["_law_hand_here", "_law_size", "_law_many", "_law_edges_here", "_law_k", "_law_source"] ["_law_hand_here", "_law_size", "_law_many"] (defScope lEdges) := ⟨rfl, rfl, rfl, by decide +kernel, rfl, by decide +kernel, by decide +kernel⟩
theorem dArrows : FnScope ["_law_hand_here", "_law_size", "_law_many", "_law_counts", "_law_name_here"] ["_law_hand_here", "_law_size", "_law_many", "_law_counts"] (defScope lArrows) := ⟨rfl, rfl, rfl, by decide +kernel, rfl, by decide +kernel, by decide +kernel⟩
theorem dChains : FnScope ["_law_size", "_law_edges_here", "_law_length", "_law_rows", "_law_k", "_law_longer", "_law_row", "_law_cell", "_law_edge"] ["_law_size", "_law_edges_here", "_law_length"] (defScope lChains) := ⟨rfl, rfl, rfl, by decide +kernel, rfl, by decide +kernel, by decide +kernel⟩
theorem dAsked : FnScope ["_law_board", "_law_arrow", "_law_length", "_law_told", "raised"] ["_law_board", "_law_arrow", "_law_length"] (defScope lAsked) := ⟨rfl, rfl, rfl, by decide +kernel, rfl, by decide +kernel, by decide +kernel⟩
theorem dRight : FnScope ["_law_hand_here", "_law_board", "_law_names_here", "_law_strange", "_law_length", "_law_one", "_law_name_here"] ["_law_hand_here", "_law_board", "_law_names_here"] (defScope lRight) := ⟨rfl, rfl, rfl, by decide +kernel, rfl, by decide +kernel, by decide +kernel⟩
theorem dLaw : FnScope ["_law_script", "_law_hand_here", "_law_size", "_law_arrows_here", "_law_name_here", "_law_edges_here", "_law_due", "_law_given", "_law_board", "_law_k", "_law_row", "_law_length", "_law_told", "_law_other", "_law_rows", "_law_edge"] ["_law_script"] (defScope lLaw) :=
  ⟨rfl, rfl, rfl, by decide +kernel, rfl, by decide +kernel, by decide +kernel⟩
/-- the built-in names that the text leaves as they are -/
structure Free (mg : Str → Option Value) : Prop where
  isi : mg "isinstance" = none
  str : mg "str" = none
  int : mg "int" = none
  bool : mg "bool" = none
  list : mg "list" = none
  tuple : mg "tuple" = none
  len : mg "len" = none
  all : mg "all" = none
  sorted : mg "sorted" = none
  range : mg "range" = none
  abs : mg "abs" = none
  repr : mg "repr" = none
  set : mg "set" = none
/-! ### heaps -/
/-- a list or a tuple -/
def Sq (K : PySem.W.Frag) (H : Hp) (a : Addr) (xs : List V) : Prop := SqL K H a xs ∨ SqT K H a xs
theorem sqT_same {K : PySem.W.Frag} {H H' : Hp} {a : Addr} {xs : List V} (e : Same H H') (h : SqT K H a xs) : SqT K H' a xs := by
  rcases h with (h | ⟨o, h⟩) | h
  · exact .inl (.inl (e _ _ h))
  · exact .inl (.inr ⟨o, e _ _ h⟩)
  · exact .inr h
theorem Sq.same {K : PySem.W.Frag} {H H' : Hp} {a : Addr} {xs : List V} (e : Same H H') (h : Sq K H a xs) : Sq K H' a xs := h.elim (fun h => .inl (e.seq h)) fun h => .inr (sqT_same e h)
theorem same_new {H : Hp} {p : Addr} {o : HO} (h : H p = none) : Same H (upd H p o) := fun b x e => by
  rw [upd_ne (ne_of_none e h)]
  exact e
/-- all but what stands at h is as it was -/
def But (h : Addr) (H H' : Hp) : Prop := ∀ b o, b ≠ h → H b = some o → H' b = some o
theorem But.refl (h : Addr) (H : Hp) : But h H H := fun _ _ _ e => e
theorem But.trans {h : Addr} {H H1 H2 : Hp} (a : But h H H1) (b : But h H1 H2) : But h H H2 := fun c o n e => b c o n (a c o n e)
theorem But.of {h : Addr} {H H' : Hp} (e : Same H H') : But h H H' := fun b o _ q => e b o q
theorem But.upd {h : Addr} {H : Hp} {o : HO} : But h H (upd H h o) := fun b x n e => by
  rw [upd_ne n]
  exact e
theorem But.seq {K : PySem.W.Frag} {h : Addr} {H H' : Hp} {a : Addr} {xs : List V} (e : But h H H') (n : a ≠ h) (q : SqL K H a xs) : SqL K H' a xs := by
  rcases q with (q | ⟨o, q⟩) | q
  · exact .inl (.inl (e _ _ n q))
  · exact .inl (.inr ⟨o, e _ _ n q⟩)
  · exact .inr q
/-- all that is no list is as it was -/
def NoL (H H' : Hp) : Prop := ∀ b o, (∀ xs, o ≠ .lst xs) → H b = some o → H' b = some o
theorem NoL.refl (H : Hp) : NoL H H := fun _ _ _ e => e
theorem NoL.trans {H H1 H2 : Hp} (a : NoL H H1) (b : NoL H1 H2) : NoL H H2 := fun c o n e => b c o n (a c o n e)
theorem NoL.of {H H' : Hp} (e : Same H H') : NoL H H' := fun b o _ q => e b o q
theorem NoL.but {h : Addr} {H H' : Hp} {xs : List V} (e : But h H H') (l : H h = some (.lst xs)) : NoL H H' := fun b o n q => e b o (fun z => by
  rw [z, l] at q
  exact n xs (Option.some.inj q).symm) q
theorem NoL.lst {H : Hp} {a : Addr} {xs ys : List V} (l : H a = some (.lst xs)) : NoL H (upd H a (.lst ys)) := NoL.but But.upd l
theorem NoL.seqT {K : PySem.W.Frag} {H H' : Hp} {a : Addr} {xs : List V} (e : NoL H H') (q : SqT K H a xs) : SqT K H' a xs := by
  rcases q with (q | ⟨o, q⟩) | q
  · exact .inl (.inl (e _ _ (fun _ z => by cases z) q))
  · exact .inl (.inr ⟨o, e _ _ (fun _ z => by cases z) q⟩)
  · exact .inr q
/-! ### data -/
mutual
def noList : PyData → Bool
  | .list _ | .dict _ => false
  | .tuple ds => noLists ds
  | .none | .bool _ | .int _ | .str _ => true
def noLists : List PyData → Bool
  | [] => true
  | d :: ds => noList d && noLists ds
end
section
variable {K : PySem.W.Frag} {H H' : Hp}
mutual
theorem Dp.same (e : Same H H') : ∀ {v : V} {d : PyData}, Dp K H v d → Dp K H' v d
  | _, _, .non => .non
  | _, _, .bl b => .bl b
  | _, _, .int i => .int i
  | _, _, .str x => .str x
  | _, _, .lst q h => .lst (e.seq q) (DpAll.same e h)
  | _, _, .tup q h => .tup (sqT_same e q) (DpAll.same e h)
theorem DpAll.same (e : Same H H') : ∀ {vs : List V} {ds : List PyData}, DpAll K H vs ds → DpAll K H' vs ds
  | _, _, .nil => .nil
  | _, _, .cons h t => .cons (Dp.same e h) (DpAll.same e t)
end
mutual
theorem Dp.noL (e : NoL H H') : ∀ {v : V} {d : PyData}, noList d = true → Dp K H v d → Dp K H' v d
  | _, _, _, .non => .non
  | _, _, _, .bl b => .bl b
  | _, _, _, .int i => .int i
  | _, _, _, .str x => .str x
  | _, _, n, .lst _ _ => by simp [noList] at n
  | _, _, n, .tup q h => .tup (e.seqT q) (DpAll.noL e (by simpa [noList] using n) h)
theorem DpAll.noL (e : NoL H H') : ∀ {vs : List V} {ds : List PyData}, noLists ds = true → DpAll K H vs ds → DpAll K H' vs ds
  | _, _, _, .nil => .nil
  | _, _, n, .cons h t => by
    have n' := Bool.and_eq_true_iff.mp (by simpa [noLists] using n)
    exact .cons (Dp.noL e n'.1 h) (DpAll.noL e n'.2 t)
end
theorem DpAll.get : ∀ {vs : List V} {ds : List PyData} {i : Nat} {v : V}, DpAll K H vs ds → vs[i]? = some v → ∃ d, ds[i]? = some d ∧ Dp K H v d
  | _, _, _, _, .nil, e => by simp at e
  | _, _, 0, _, .cons h _, e => by
    simp at e
    subst e
    exact ⟨_, rfl, h⟩
  | _, _, i + 1, v, .cons _ t, e => by
    obtain ⟨d, h1, h2⟩ := DpAll.get (i := i) (v := v) t (by simpa using e)
    exact ⟨d, by simpa using h1, h2⟩
theorem DpAll.len : ∀ {vs : List V} {ds : List PyData}, DpAll K H vs ds → vs.length = ds.length
  | _, _, .nil => rfl
  | _, _, .cons _ t => by rw [List.length_cons, List.length_cons, DpAll.len t]
theorem DpAll.snoc : ∀ {vs : List V} {ds : List PyData} {v : V} {d : PyData}, DpAll K H vs ds → Dp K H v d → DpAll K H (vs ++ [v]) (ds ++ [d])
  | _, _, _, _, .nil, h => .cons h .nil
  | _, _, _, _, .cons h t, q => .cons h (DpAll.snoc t q)
theorem dp_tup {a : Addr} {ds : List PyData} (h : Dp K H (.ref a) (.tuple ds)) : ∃ xs, SqT K H a xs ∧ DpAll K H xs ds := by
  cases h with
  | tup q h => exact ⟨_, q, h⟩
theorem dp_ref {v : V} {ds : List PyData} (h : Dp K H v (.tuple ds)) : ∃ a xs, v = .ref a ∧ SqT K H a xs ∧ DpAll K H xs ds := by
  cases h with
  | tup q h => exact ⟨_, _, rfl, q, h⟩
end
def edgeD (e : Edge) : PyData := .tuple [.int e.1, .int e.2]
def edgesD (es : List Edge) : PyData := .tuple (es.map edgeD)
def arrowD (r : Row) : PyData := .tuple [.str r.1, edgesD r.2]
def dueD (rs : List Row) : PyData := .tuple (rs.map arrowD)
theorem noList_edges : ∀ es : List Edge, noLists (es.map edgeD) = true
  | [] => by simp [noLists]
  | e :: es => by
    have := noList_edges es
    simp [noLists, noList, edgeD, this]
theorem noList_rows : ∀ rs : List Row, noLists (rs.map arrowD) = true
  | [] => by simp [noLists]
  | r :: rs => by
    have := noList_rows rs
    have h2 := noList_edges r.2
    simp [noLists, noList, arrowD, edgesD, this, h2]
theorem noList_due (rs : List Row) : noList (dueD rs) = true := by
  unfold dueD
  simpa [noList] using noList_rows rs
/-! ### the board -/
theorem sa_ : ¬ (("size" : Str) = "arrows") := by decide +kernel
theorem as_ : ¬ (("arrows" : Str) = "size") := by decide +kernel
def bf (size : Nat) (p : Addr) : List (Str × V) := putF "arrows" (.ref p) (putF "size" (.int size) [])
theorem bf_size (size : Nat) (p : Addr) : (bf size p).lookup ("size" : Str) = some (.int size) := by
  unfold bf
  rw [lookup_putF, if_neg sa_, lookup_putF, if_pos rfl]
theorem bf_arrows (size : Nat) (p : Addr) : (bf size p).lookup ("arrows" : Str) = some (.ref p) := by
  unfold bf
  rw [lookup_putF, if_pos rfl]
theorem bf_no (size : Nat) (p : Addr) {m : Str} (h1 : ¬ m = "arrows") (h2 : ¬ m = "size") : (bf size p).lookup m = none := by
  unfold bf
  rw [lookup_putF, if_neg h1, lookup_putF, if_neg h2]
  all_goals rfl
/-- at b a board of so many cells with these arrows, b's class at C -/
def BoardAt (K : PySem.W.Frag) (C : Addr) (H : Hp) (b : Addr) (size : Nat) (rs : List Row) : Prop := ∃ (dx p : Addr), H b = some (.ins C dx (bf size p)) ∧ Dp K H (.ref p) (dueD rs)
theorem BoardAt.same {K : PySem.W.Frag} {C b : Addr} {H H' : Hp} {size : Nat} {rs : List Row} (e : Same H H') (h : BoardAt K C H b size rs) : BoardAt K C H' b size rs := by
  obtain ⟨dx, p, h1, h2⟩ := h
  exact ⟨dx, p, e _ _ h1, Dp.same e h2⟩
theorem BoardAt.noL {K : PySem.W.Frag} {C b : Addr} {H H' : Hp} {size : Nat} {rs : List Row} (e : NoL H H') (h : BoardAt K C H b size rs) : BoardAt K C H' b size rs := by
  obtain ⟨dx, p, h1, h2⟩ := h
  exact ⟨dx, p, e _ _ (fun _ z => by cases z) h1, Dp.noL e (noList_due rs) h2⟩
end Cw

/-! is_number, is_sequence, is_name, the errors' __init__. -/
namespace Cw
open PySem PySem.Spec PyProof.Rows L2
section
variable {P : Program} {w : World} {K : PySem.W.Frag} {mg : Str → Option Value} {base : Heap}
/-! ### is_number -/
def numIn : V → Int → Int → Bool
  | .int i, lo, hi => decide (lo ≤ i) && decide (i ≤ hi)
  | _, _, _ => false
def Plain : V → Prop
  | .non | .bl _ | .int _ | .str _ => True
  | _ => False
def spNum : Sp := fun vs H Q _ => ∃ (x : V) (lo hi : Int), vs = [x, .int lo, .int hi] ∧ Plain x ∧ Q (.bl (numIn x lo hi)) H
theorem ok_num {f : Addr} {fd : FuncData} {k : Nat} (F : Fun K "is_number" "is_number" sNum f fd) (T : Free mg) : FnOk P w K mg base CX0 (k + 1) f fd ["thing", "low", "high"] spNum := by
  refine F.ok cNum (fun vs H Q E h => ?_) (fun cdv A outer s H vs Q E hr h => ?_)
  · obtain ⟨x, lo, hi, rfl, _⟩ := h
    rfl
  · obtain ⟨x, lo, hi, rfl, hp, q⟩ := h
    refine ⟨_, pss_one (ps_ret (pe_and (pe_callB call_isi (by rfl) T.isi boot_isinstance (pa_cons (pv 0) (pa_cons (pe_bltn (v := .ty "int") (by rfl) T.int boot_int rfl) pa_nil)))
      (pe_and (pe_not (pe_callB call_isi (by rfl) T.isi boot_isinstance (pa_cons (pv 0) (pa_cons (pe_bltn (v := .ty "bool") (by rfl) T.bool boot_bool rfl) pa_nil))))
      (pe_one (pe_chain op_le op_le (pv 1) (pv 0) (pv 2)))))), ?_⟩
    cases x with
    | non => exact ⟨_, rfl, _, _, _, _, false, rfl, .ty "int", .base .non, kit_ty (by decide +kernel), false, rfl, iteF q⟩
    | bl b => exact ⟨_, rfl, _, _, _, _, true, rfl, .ty "int", .base (.bl b), kit_ty (by decide +kernel), true, rfl, iteT ⟨_, rfl, _, _, _, _, true, rfl, .ty "bool", .base (.bl b), kit_ty (by decide +kernel), true, rfl, false, rfl, iteF q⟩⟩
    | str z => exact ⟨_, rfl, _, _, _, _, false, rfl, .ty "int", .base (.str z), kit_ty (by decide +kernel), false, rfl, iteF q⟩
    | int i =>
      refine ⟨_, rfl, _, _, _, _, true, rfl, .ty "int", .base (.int i), kit_ty (by decide +kernel), true, rfl, iteT ⟨_, rfl, _, _, _, _, false, rfl, .ty "bool", .base (.int i), kit_ty (by decide +kernel), false, rfl, true, rfl, iteT ⟨_, rfl, _, rfl, _, _, rfl, rfl, _, rfl, ?_⟩⟩⟩
      have q' : Q (.bl (decide (lo ≤ i) && decide (i ≤ hi))) H := q
      cases h : decide (lo ≤ i) with
      | true =>
        rw [h, Bool.true_and] at q'
        exact iteT ⟨_, rfl, _, _, rfl, rfl, q'⟩
      | false =>
        rw [h, Bool.false_and] at q'
        exact iteF q'
    | _ => exact hp.elim
/-! ### is_sequence -/
def spSeq (K : PySem.W.Frag) : Sp := fun vs H Q _ => ∃ (a : Addr) (xs : List V) (lo hi : Int), vs = [.ref a, .int lo, .int hi] ∧ (H a = some (.lst xs) ∨ H a = some (.tup xs)) ∧ ∀ H', Same H H' → Q (.bl (decide (lo ≤ xs.length) && decide ((xs.length : Int) ≤ hi))) H'
theorem ok_seq {f : Addr} {fd : FuncData} {k : Nat} (F : Fun K "is_sequence" "is_sequence" sSeq f fd) (T : Free mg) : FnOk P w K mg base CX0 (k + 1) f fd ["thing", "low", "high"] (spSeq K) := by
  refine F.ok cSeq (fun vs H Q E h => ?_) (fun cdv A outer s H vs Q E hr h => ?_)
  · obtain ⟨a, xs, lo, hi, rfl, _⟩ := h
    rfl
  · obtain ⟨a, xs, lo, hi, rfl, hq, q⟩ := h
    refine ⟨_, pss_one (ps_ret (pe_and (pe_callB call_isiT (by rfl) T.isi boot_isinstance (pa_cons (pv 0) (pa_cons (pe_tup (pa_cons (pe_bltn (v := .ty "list") (by rfl) T.list boot_list rfl) (pa_cons (pe_bltn (v := .ty "tuple") (by rfl) T.tuple boot_tuple rfl) pa_nil))) pa_nil)))
      (pe_one (pe_chain op_le op_le (pv 1) (pe_callB call_len_seq (by rfl) T.len PySem.boot_len (pa_cons (pv 0) pa_nil)) (pv 2))))), ?_⟩
    refine ⟨_, rfl, (by show 2 ≤ sizeLine; decide), fun t ht => ?_⟩
    have sm := same_new (o := .tup [.ty "list", .ty "tuple"]) ht
    have cl : Paired ClsV [V.ty "list", V.ty "tuple"] [Value.type "list", Value.type "tuple"] := .cons (.ty _) (.cons (.ty _) .nil)
    have lenS : SqL K (upd H t (.tup [.ty "list", .ty "tuple"])) a xs ∨ SqT K (upd H t (.tup [.ty "list", .ty "tuple"])) a xs := hq.elim (fun h => .inl (.of (sm _ _ h))) fun h => .inr (.of (sm _ _ h))
    rcases hq with h | h
    · refine ⟨_, _, _, .type "list", _, true, rfl, upd_same, cl, .base (.lst (sm _ _ h)), kitAny_cons (b := true) (kit_ty (by decide +kernel)) (fun z => by cases z) (fun _ => rfl), true, rfl, iteT ⟨_, rfl, _, rfl, _, _, rfl, lenS, _, _, rfl, rfl, _, rfl, ?_⟩⟩
      have q' := q _ sm
      cases h : decide (lo ≤ (xs.length : Int)) with
      | true =>
        rw [h, Bool.true_and] at q'
        exact iteT ⟨_, rfl, _, _, rfl, rfl, q'⟩
      | false =>
        rw [h, Bool.false_and] at q'
        exact iteF q'
    · refine ⟨_, _, _, .type "tuple", _, true, rfl, upd_same, cl, .base (.tup (sm _ _ h)), kitAny_cons (b := false) (kit_ty (by decide +kernel)) (fun _ => kitAny_cons (b := true) (kit_ty (by decide +kernel)) (fun z => by cases z) (fun _ => rfl)) (fun z => by cases z), true, rfl, iteT ⟨_, rfl, _, rfl, _, _, rfl, lenS, _, _, rfl, rfl, _, rfl, ?_⟩⟩
      have q' := q _ sm
      cases h : decide (lo ≤ (xs.length : Int)) with
      | true =>
        rw [h, Bool.true_and] at q'
        exact iteT ⟨_, rfl, _, _, rfl, rfl, q'⟩
      | false =>
        rw [h, Bool.false_and] at q'
        exact iteF q'
/-! ### is_name -/
def spName : Sp := fun vs H Q _ => ∃ (z : Str), vs = [.str z] ∧ Name z ∧ ∀ H', Same H H' → Q (.bl true) H'
theorem ok_name {f : Addr} {fd : FuncData} {k : Nat} (F : Fun K "is_name" "is_name" sName f fd) (T : Free mg) : FnOk P w K mg base CX0 (k + 1) f fd ["thing"] spName := by
  refine F.ok cName (fun vs H Q E h => ?_) (fun cdv A outer s H vs Q E hr h => ?_)
  · obtain ⟨z, rfl, _⟩ := h
    rfl
  · obtain ⟨z, rfl, hz, q⟩ := h
    refine ⟨_, pss_cons (ps_if (PW.pt (pw_or (pt_not (pt_val (pe_callB call_isi (by rfl) T.isi boot_isinstance (pa_cons (pv 0) (pa_cons (pe_bltn (v := .ty "str") (by rfl) T.str boot_str rfl) pa_nil)))))
        (pw_or1 (pt_not (pt_chain op_le op_le pe_int (pe_callB call_len_str (by rfl) T.len PySem.boot_len (pa_cons (pv 0) pa_nil)) pe_int))))) (pss_one (ps_ret pe_bl)) pss_nil)
      (pss_one (ps_ret (pe_callB (cr_all rfl) (by rfl) T.all boot_all (pa_cons (pe_lc (own := [("sign", 1)]) (g := gName 1) (tt := tYes) rfl cName.nd (pi_str (pv 0)) (blkOk_by (N := ["thing", "sign"]) (sc := defScope sName) (by decide +kernel))
        (fun _ _ _ _ _ => pg_name (i := 1) cName.nd rfl (Or.inl rfl)) (fun _ _ _ _ _ => pts_nil) (fun _ _ _ _ _ => pe_cmpR op_in_sign (pv 1) pe_str rfl)) pa_nil)))), ?_⟩
    have hlen : z.length ≤ sizeLine := Nat.le_trans hz.2.1 (by decide)
    refine ⟨_, rfl, _, _, _, _, true, rfl, .ty "str", .base (.str z), kit_ty (by decide +kernel), true, rfl, iteF ?_⟩
    refine ⟨_, rfl, _, rfl, hlen, _, _, rfl, rfl, _, rfl, ?_⟩
    have h1 : decide ((1 : Int) ≤ (z.length : Int)) = true := decide_eq_true (by have := hz.1; omega)
    have h2 : decide ((z.length : Int) ≤ (8 : Int)) = true := decide_eq_true (by have := hz.2.1; omega)
    rw [h1]
    refine iteT ⟨_, _, rfl, rfl, ?_⟩
    refine ⟨true, congrArg V.bl h2, iteF ?_⟩
    -- all([sign in letters for sign in thing])
    refine ⟨_, rfl, _, rfl, fun D hD => lc_it walk_str (fun i H' => Same H H' ∧ ∃ bs : List Bool, H' D = some (.lst (bs.map V.bl)) ∧ bs.length = i ∧ bs.all id = true) ⟨same_new hD, [], upd_same, rfl, rfl⟩ (fun _ _ _ _ => trivial) (fun i x H1 H2 hi hP hY => ?_) fun H1 hP => ?_⟩
    · obtain ⟨rfl, c, hc, rfl⟩ := hY
      obtain ⟨s1, bs, hb, hl, ha⟩ := hP
      have hin : c ∈ letters.cps.toList := hz.2.2 c (by
        rw [Array.mem_toList_iff]
        exact Array.mem_of_getElem? hc)
      refine ⟨rfl, _, rfl, c, letters, rfl, rfl, _, hb, ?_, ?_⟩
      · rw [List.length_map, hl]
        exact Nat.lt_of_lt_of_le hi hlen
      · rw [decide_eq_true hin]
        refine ⟨fun b o e => ?_, bs ++ [true], ?_, ?_, ?_⟩
        · rw [upd_ne (ne_of_none e hD)]
          exact s1 b o e
        · rw [upd_same, List.map_append]
          rfl
        · rw [List.length_append, hl]
          rfl
        · rw [List.all_append, ha]
          rfl
    · obtain ⟨s1, bs, hb, hl, ha⟩ := hP
      refine ⟨D, bs, rfl, .of hb, ?_⟩
      rw [ha]
      exact q _ s1
end
end Cw

/-! Rows of whole numbers as they stand on the heap; edges as data. -/
namespace Cw
open PySem PySem.Spec PyProof.Rows L2
/-- a tracked list or tuple -/
def At (H : Hp) (a : Addr) (xs : List V) : Prop := H a = some (.lst xs) ∨ H a = some (.tup xs)
theorem At.same {H H' : Hp} {a : Addr} {xs : List V} (e : Same H H') (h : At H a xs) : At H' a xs := h.elim (fun h => .inl (e _ _ h)) fun h => .inr (e _ _ h)
theorem At.ix {K : PySem.W.Frag} {H : Hp} {a : Addr} {xs : List V} {j : Nat} {v : V} {Q : VK} (h : At H a xs) (e : xs[j]? = some v) (q : Q v H) : rIx K (.ref a) (.int (j : Int)) H Q :=
  h.elim (fun h => .inl ⟨a, xs, (j : Int), v, rfl, rfl, .of h, atI_nat e, q⟩) fun h => .inr (.inl ⟨a, xs, (j : Int), v, rfl, rfl, .of h, atI_nat e, q⟩)
/-- xs: references to tuples, the rows rs -/
inductive RowsAt (H : Hp) : List V → List (List Int) → Prop
  | nil : RowsAt H [] []
  | cons {a : Addr} {r : List Int} {xs : List V} {rs : List (List Int)} : H a = some (.tup (r.map V.int)) → RowsAt H xs rs → RowsAt H (.ref a :: xs) (r :: rs)
section
variable {K : PySem.W.Frag} {H H' : Hp}
theorem RowsAt.noL (e : NoL H H') : ∀ {xs : List V} {rs : List (List Int)}, RowsAt H xs rs → RowsAt H' xs rs
  | _, _, .nil => .nil
  | _, _, .cons h t => .cons (e _ _ (fun _ z => by cases z) h) (RowsAt.noL e t)
theorem RowsAt.same (e : Same H H') {xs : List V} {rs : List (List Int)} (h : RowsAt H xs rs) : RowsAt H' xs rs := h.noL (.of e)
theorem RowsAt.len : ∀ {xs : List V} {rs : List (List Int)}, RowsAt H xs rs → xs.length = rs.length
  | _, _, .nil => rfl
  | _, _, .cons _ t => by rw [List.length_cons, List.length_cons, t.len]
theorem RowsAt.snoc {a : Addr} {r : List Int} (h : H a = some (.tup (r.map V.int))) : ∀ {xs : List V} {rs : List (List Int)}, RowsAt H xs rs → RowsAt H (xs ++ [.ref a]) (rs ++ [r])
  | _, _, .nil => .cons h .nil
  | _, _, .cons q t => .cons q (RowsAt.snoc h t)
theorem RowsAt.get : ∀ {xs : List V} {rs : List (List Int)} {i : Nat} {x : V}, RowsAt H xs rs → xs[i]? = some x → ∃ a r, x = .ref a ∧ rs[i]? = some r ∧ H a = some (.tup (r.map V.int))
  | _, _, _, _, .nil, e => by simp at e
  | _, _, 0, _, .cons h _, e => by
    simp at e
    subst e
    exact ⟨_, _, rfl, rfl, h⟩
  | _, _, i + 1, x, .cons _ t, e => by
    obtain ⟨a, r, h1, h2, h3⟩ := RowsAt.get (i := i) (x := x) t (by simpa using e)
    exact ⟨a, r, h1, by simpa using h2, h3⟩
theorem RowsAt.pairs : ∀ {xs : List V} {rs : List (List Int)}, RowsAt H xs rs → ∃ ts : List (Addr × List Int), xs = refsOf ts ∧ rs = ts.map (·.2) ∧ ∀ t ∈ ts, H t.1 = some (.tup (t.2.map V.int))
  | _, _, .nil => ⟨[], rfl, rfl, fun _ h => absurd h (by simp)⟩
  | _, _, .cons (a := a) (r := r) h t => by
    obtain ⟨ts, e1, e2, e3⟩ := t.pairs
    refine ⟨(a, r) :: ts, by rw [e1]; rfl, by rw [e2]; rfl, fun x hx => ?_⟩
    rcases List.mem_cons.mp hx with q | q
    · rw [q]
      exact h
    · exact e3 x q
theorem rows_of : ∀ {ts : List (Addr × List Int)}, (∀ t ∈ ts, H t.1 = some (.tup (t.2.map V.int))) → RowsAt H (refsOf ts) (ts.map (·.2))
  | [], _ => .nil
  | t :: ts, h => .cons (h t List.mem_cons_self) (rows_of fun x hx => h x (List.mem_cons_of_mem _ hx))
theorem RowsAt.dp : ∀ {xs : List V} {rs : List (List Int)}, RowsAt H xs rs → DpAll K H xs (rs.map rowD)
  | _, _, .nil => .nil
  | _, _, .cons h t => .cons (.tup (.of h) (dp_ints _)) t.dp
end
def leRow (a b : List Int) : Bool := decide (a ≤ b)
/-- for sorted(xs): the rows with their places -/
theorem RowsAt.sorts {K : PySem.W.Frag} {H : Hp} {xs : List V} {rs : List (List Int)} (hr : RowsAt H xs rs) (hne : ∀ r ∈ rs, r ≠ []) :
    ∃ ts : List (Addr × List Int), xs = refsOf ts ∧ (∀ t ∈ ts, SqT K H t.1 (t.2.map V.int) ∧ t.2 ≠ []) ∧ RowsAt H (refsOf (ts.mergeSort byRow)) (rs.mergeSort leRow) := by
  obtain ⟨ts, rfl, rfl, ht⟩ := hr.pairs
  refine ⟨ts, rfl, fun t m => ⟨.of (ht t m), hne _ (List.mem_map.mpr ⟨t, m, rfl⟩)⟩, ?_⟩
  have e : (ts.mergeSort byRow).map (·.2) = (ts.map (·.2)).mergeSort leRow := List.map_mergeSort fun a _ b _ => rfl
  rw [← e]
  exact rows_of fun t m => ht t (List.mem_mergeSort.mp m)
/-! ### edges -/
def edgeR (e : Edge) : List Int := [e.1, e.2]
theorem edgeR_D (e : Edge) : rowD (edgeR e) = edgeD e := rfl
theorem edgesR_D (es : List Edge) : (es.map edgeR).map rowD = es.map edgeD := by
  rw [List.map_map]
  rfl
theorem edgeR_le (a b : Edge) : leRow (edgeR a) (edgeR b) = decide (a.1 < b.1 ∨ (a.1 = b.1 ∧ a.2 ≤ b.2)) := by
  obtain ⟨a1, a2⟩ := a
  obtain ⟨b1, b2⟩ := b
  unfold leRow edgeR
  refine decide_eq_decide.mpr ?_
  show ¬ ([b1, b2] < [a1, a2]) ↔ _
  rw [List.cons_lt_cons_iff, List.cons_lt_cons_iff]
  have z : ¬ (([] : List Int) < []) := List.lt_irrefl _
  simp only [z, and_false, or_false]
  omega
/-- the first places sorted: the edges' ascending list -/
theorem sort_firsts (es : List Edge) : ((firsts [] es).map edgeR).mergeSort leRow = (norm es).map edgeR := by
  have e : ((firsts [] es).mergeSort fun a b => leRow (edgeR a) (edgeR b)).map edgeR = ((firsts [] es).map edgeR).mergeSort leRow := List.map_mergeSort fun a _ b _ => rfl
  rw [← e]
  refine congrArg (List.map edgeR) (norm_firsts (List.mergeSort_perm _ _) ?_)
  refine (List.pairwise_mergeSort (fun a b c h1 h2 => ?_) (fun a b => ?_) _).imp fun {a b} h => ?_
  · rw [edgeR_le, decide_eq_true_eq] at *
    omega
  · rw [edgeR_le, edgeR_le, Bool.or_eq_true, decide_eq_true_eq, decide_eq_true_eq]
    omega
  · rw [edgeR_le, decide_eq_true_eq] at h
    exact h
theorem edge_eqv (e f : Edge) : PyData.eqv (edgeD e) (edgeD f) = decide (e = f) := by
  obtain ⟨a, b⟩ := e
  obtain ⟨c, d⟩ := f
  have h : PyData.eqv (edgeD (a, b)) (edgeD (c, d)) = ((a == c) && ((b == d) && true)) := by simp only [edgeD, PyData.eqv, PyData.eqvAll]
  rw [h, Bool.and_true]
  by_cases h1 : a = c
  · by_cases h2 : b = d
    · simp [h1, h2]
    · simp [h1, h2]
  · simp [h1]
theorem any_edge (e : Edge) : ∀ es : List Edge, ((es.map edgeD).any fun z => PyData.eqv z (edgeD e)) = decide (e ∈ es)
  | [] => by simp
  | f :: es => by
    rw [List.map_cons, List.any_cons, any_edge e es, edge_eqv]
    by_cases h : f = e
    · simp [h]
    · simp [h, Ne.symm h]
theorem shaped_edge (e : Edge) : SeqAt.shaped (edgeD e) = true := by
  simp [SeqAt.shaped, edgeD, PyData.canLay0, PyData.canLayAll0, PyData.depth, PyData.depthAll]
theorem lay_edges : ∀ es : List Edge, PyData.canLayAll0 (es.map edgeD) = true
  | [] => by simp [PyData.canLayAll0]
  | e :: es => by simp [PyData.canLayAll0, PyData.canLay0, edgeD, lay_edges es]
theorem depth_edges : ∀ es : List Edge, PyData.depthAll (es.map edgeD) ≤ 1
  | [] => by simp [PyData.depthAll]
  | e :: es => by
    have h := depth_edges es
    have h2 : (edgeD e).depth = 1 := by simp [edgeD, PyData.depth, PyData.depthAll]
    simp only [List.map_cons, PyData.depthAll]
    omega
theorem shaped_edges (es : List Edge) : SeqAt.shaped (.list (es.map edgeD)) = true := by
  have h := depth_edges es
  unfold SeqAt.shaped
  rw [Bool.and_eq_true]
  refine ⟨by simp only [PyData.canLay0]; exact lay_edges es, decide_eq_true ?_⟩
  simp only [PyData.depth]
  omega
/-- v an edge, listed or a tuple -/
def EdgeV (H : Hp) (v : V) (e : Edge) : Prop := ∃ a, v = .ref a ∧ At H a [.int e.1, .int e.2]
theorem EdgeV.same {H H' : Hp} {v : V} {e : Edge} (s : Same H H') (h : EdgeV H v e) : EdgeV H' v e := by
  obtain ⟨a, h1, h2⟩ := h
  exact ⟨a, h1, h2.same s⟩
def EdgesV (H : Hp) (v : V) (es : List Edge) : Prop := ∃ a xs, v = .ref a ∧ At H a xs ∧ Paired (EdgeV H) xs es
theorem paired_len {α β : Type} {R : α → β → Prop} : ∀ {as : List α} {bs : List β}, Paired R as bs → as.length = bs.length
  | _, _, .nil => rfl
  | _, _, .cons _ t => by rw [List.length_cons, List.length_cons, paired_len t]
theorem paired_get {α β : Type} {R : α → β → Prop} : ∀ {as : List α} {bs : List β} {i : Nat} {a : α}, Paired R as bs → as[i]? = some a → ∃ b, bs[i]? = some b ∧ R a b
  | _, _, _, _, .nil, e => by simp at e
  | _, _, 0, _, .cons h _, e => by
    simp at e
    subst e
    exact ⟨_, rfl, h⟩
  | _, _, i + 1, a, .cons _ t, e => by
    obtain ⟨b, h1, h2⟩ := paired_get (i := i) (a := a) t (by simpa using e)
    exact ⟨b, by simpa using h1, h2⟩
theorem paired_imp {α β : Type} {R S : α → β → Prop} (f : ∀ a b, R a b → S a b) : ∀ {as : List α} {bs : List β}, Paired R as bs → Paired S as bs
  | _, _, .nil => .nil
  | _, _, .cons h t => .cons (f _ _ h) (paired_imp f t)
theorem paired_snoc {α β : Type} {R : α → β → Prop} {a : α} {b : β} (h : R a b) : ∀ {as : List α} {bs : List β}, Paired R as bs → Paired R (as ++ [a]) (bs ++ [b])
  | _, _, .nil => .cons h .nil
  | _, _, .cons q t => .cons q (paired_snoc h t)
theorem EdgesV.same {H H' : Hp} {v : V} {es : List Edge} (s : Same H H') (h : EdgesV H v es) : EdgesV H' v es := by
  obtain ⟨a, xs, h1, h2, h3⟩ := h
  exact ⟨a, xs, h1, h2.same s, paired_imp (fun _ _ q => EdgeV.same s q) h3⟩
/-- v an arrow -/
def ArrowV (H : Hp) (v : V) (r : Row) : Prop := ∃ a u, v = .ref a ∧ At H a [.str r.1, u] ∧ EdgesV H u r.2
theorem ArrowV.same {H H' : Hp} {v : V} {r : Row} (s : Same H H') (h : ArrowV H v r) : ArrowV H' v r := by
  obtain ⟨a, u, h1, h2, h3⟩ := h
  exact ⟨a, u, h1, h2.same s, h3.same s⟩
def ArrowsV (H : Hp) (v : V) (rs : List Row) : Prop := ∃ a xs, v = .ref a ∧ At H a xs ∧ Paired (ArrowV H) xs rs
/-- what is asked of an arrow that is to be taken into a board -/
structure FitRow (size : Nat) (r : Row) : Prop where
  name : Name r.1
  few : r.2.length ≤ 24
  win : Within size r.2
theorem GoodRow.fit {size : Nat} {r : Row} (h : GoodRow size r) : FitRow size r := ⟨h.name, h.few, h.win⟩
end Cw

/-! How a def is called by its name; checked_edge, checked_arrow. -/
namespace Cw
open PySem PySem.Spec PyProof.Rows L2
/-- the module's def x keeps sp -/
structure Def (P : Program) (w : World) (K : PySem.W.Frag) (mg : Str → Option Value) (base : Heap) (k : Nat) (x : Str) (sp : Sp) : Prop where
  ex : ∃ (f : Addr) (fd : FuncData) (ps : List Str), mg x = some (.ref f) ∧ PySem.W.keepIn K (.ref f) = true ∧ Binds K fd ps [] ∧ FnOk P w K mg base CX0 k f fd ps sp
section
variable {X : Cx} {k : Nat} {x : Str} {sp : Sp} {p pos : Pos} {e : Expr} {es : List Expr} {t : TA}
theorem pe_def (c : Def X.prog X.w X.K X.mg X.base k x sp) (hr : Room k X.A) (hg : Gl X x) (ha : PA X (e :: es) t) (hdb : (x == ("__debug__" : Str)) = false := by decide)
    (he : starEach (e :: es) X.env = (false, eval e X.env) :: starEach es X.env := by rfl) (hpl : (backTo pos (starEach es X.env)).any (·.1) = false := by rfl) : PE X (.Call (.Name x p) (e :: es) [] pos) (tCall sp [] E0 t) := by
  obtain ⟨f, fd, ps, g, kp, b, F⟩ := c.ex
  exact pe_call F hr hg g kp b .nil pass0 ha hdb he hpl
/-- what a for walks: a list or a tuple -/
def iSeq (K : PySem.W.Frag) (tl : TE) : TI := fun σ H R => tl σ H fun x H1 => ∃ a, x = .ref a ∧ (((∃ xs, SqL K H1 a xs) ∧ R (Itl K a) H1) ∨ ((∃ xs, SqT K H1 a xs) ∧ R (Itt K a) H1))
theorem pi_seq {tg l : Expr} {tl : TE} (hl : PE X l tl) : PI X tg l (iSeq X.K tl) := by
  refine ⟨fun pins s σ H R I h => ?_⟩
  refine thn (hl.run pins s σ H _ I h) fun v s1 ⟨x, H1, I1, r1, a, e, q⟩ => ?_
  subst e
  obtain rfl : v = Value.ref a := r1
  have fp : ∀ b ∈ [s1.heap.objs.size], FpOk X pins H1 b := fun b hb => by
    obtain rfl : b = s1.heap.objs.size := by simpa using hb
    exact I1.fpOk (Nat.le_refl _) (I1.hok.fresh (Nat.le_refl _))
  rcases q with ⟨⟨xs, hq⟩, q⟩ | ⟨⟨xs, hq⟩, q⟩
  · obtain ⟨its, _, pl, _⟩ := I1.list hq
    exact wpAny_pyIter_list pl.isList ⟨s1.heap.objs.size, [s1.heap.objs.size], _, _, H1, rfl, I1.kept (t' := s1.toks) fun b o e => Heap.get?_push_of_some _ e, turn_list a _, ⟨_, Heap.get?_push_size _ rfl, rfl, rfl⟩, fp, q⟩
  · obtain ⟨its, _, pt, _⟩ := I1.tuple hq
    exact wpAny_pyIter_tuple (show s1.heap.IsTuple a its.toArray from pt) ⟨s1.heap.objs.size, [s1.heap.objs.size], _, _, H1, rfl, I1.kept (t' := s1.toks) fun b o e => Heap.get?_push_of_some _ e, turn_tuple a _, ⟨_, Heap.get?_push_size _ rfl, rfl, rfl⟩, fp, q⟩
end
/-- a loop's question -/
def Loop (J : It) (g : TG) (tb : TS) (D : Ends) (σ : L2.St) (H : Hp) : Prop := ∃ W : Nat → Nat → L2.St → Hp → Prop, (∃ m, W 0 m σ H) ∧ ∀ i m σ H, W i m σ H →
  (J.stop i H ∧ D.nx σ H) ∨ (J.go i H ∧ ∃ N : L2.St → Hp → Prop, (∀ σ' H', N σ' H' → ∃ m', m' < m ∧ W (i + 1) m' σ' H') ∧ ∀ x H', J.yld i H x H' → g x σ H' fun σ2 H2 => tb { D with nx := N, ct := N, bk := D.nx } σ2 H2)
theorem for_at {K : PySem.W.Frag} {a : Addr} {xs : List V} {g : TG} {tb : TS} {D : Ends} {σ : L2.St} {H : Hp} (hA : At H a xs) (Pv : Nat → L2.St → Hp → Prop) (h0 : Pv 0 σ H) (hk : ∀ i σ H', i ≤ xs.length → Pv i σ H' → ∀ o, H a = some o → H' a = some o)
    (hs : ∀ i x σ H, xs[i]? = some x → Pv i σ H → g x σ H fun σ2 H2 => tb { D with nx := Pv (i + 1), ct := Pv (i + 1), bk := D.nx } σ2 H2) (hd : ∀ σ H, Pv xs.length σ H → D.nx σ H) :
    ((∃ ys, SqL K H a ys) ∧ Loop (Itl K a) g tb D σ H) ∨ ((∃ ys, SqT K H a ys) ∧ Loop (Itt K a) g tb D σ H) :=
  hA.elim (fun h => .inl ⟨⟨_, .of h⟩, for_list (xs := xs) Pv h0 (fun i σ H' hi p => .of (hk i σ H' hi p _ h)) hs hd⟩) fun h => .inr ⟨⟨_, .of h⟩, for_tup (xs := xs) Pv h0 (fun i σ H' hi p => .of (hk i σ H' hi p _ h)) hs hd⟩
theorem in_strs (n : Str) : ∀ ns : List Str, inV (.str n) (ns.map V.str) = decide (n ∈ ns)
  | [] => by simp [inV]
  | m :: ns => by
    have ih := in_strs n ns
    unfold inV at ih ⊢
    rw [List.map_cons, List.any_cons, ih]
    have e : eqV (.str m) (.str n) = decide (m = n) := Bool.beq_eq_decide_eq m n
    rw [e]
    by_cases h : m = n
    · simp [h]
    · simp [h, Ne.symm h]
theorem flat_strs' : ∀ ns : List Str, (ns.map V.str).all flatV = true
  | [] => rfl
  | n :: ns => by rw [List.map_cons, List.all_cons, flat_strs' ns]; rfl
section
variable {P : Program} {w : World} {K : PySem.W.Frag} {mg : Str → Option Value} {base : Heap}
/-! ### checked_edge -/
def spEdge : Sp := fun vs H Q _ => ∃ (size : Nat) (v t : V) (e : Edge), vs = [.int size, v, t] ∧ EdgeV H v e ∧ Within size [e] ∧ ∀ H' p, Same H H' → H p = none → H' p = some (.tup [.int e.1, .int e.2]) → Q (.ref p) H'
theorem ok_edge {f : Addr} {fd : FuncData} (F : Fun K "checked_edge" "checked_edge" sEdge f fd) (DS : Def P w K mg base 1 "is_sequence" (spSeq K)) (DN : Def P w K mg base 1 "is_number" spNum) : FnOk P w K mg base CX0 2 f fd ["size", "edge", "at"] spEdge := by
  refine F.ok cEdge (fun vs H Q E h => ?_) (fun cdv A outer s H vs Q E hr h => ?_)
  · obtain ⟨size, v, t, e, rfl, _⟩ := h
    rfl
  · obtain ⟨size, v, t, e, rfl, ⟨a, rfl, hA⟩, hw, q⟩ := h
    have hw := hw e List.mem_cons_self
    refine ⟨_, pss_cons (ps_if (pt_not (pt_val (pe_def DS hr (by rfl) (pa_cons (pv 1) (pa_cons pe_int (pa_cons pe_int pa_nil)))))) pss_never pss_nil)
      (pss_cons (ps_if (PW.pt (pw_or (pt_not (pt_val (pe_def DN hr (by rfl) (pa_cons (pe_ix ix_seq (pv 1) pe_int (fun _ _ => rfl)) (pa_cons pe_int (pa_cons (pe_op op_sub (pv 0) pe_int) pa_nil))))))
          (pw_or (pt_not (pt_val (pe_def DN hr (by rfl) (pa_cons (pe_ix ix_seq (pv 1) pe_int (fun _ _ => rfl)) (pa_cons pe_int (pa_cons (pe_op op_sub (pv 0) pe_int) pa_nil))))))
          (pw_or1 (pt_cmpR op_eq (pe_ix ix_seq (pv 1) pe_int (fun _ _ => rfl)) (pe_ix ix_seq (pv 1) pe_int (fun _ _ => rfl)) (nomark _)))))) pss_never pss_nil)
      (pss_one (ps_ret (pe_tup (pa_cons (pe_ix ix_seq (pv 1) pe_int (fun _ _ => rfl)) (pa_cons (pe_ix ix_seq (pv 1) pe_int (fun _ _ => rfl)) pa_nil)))))), ?_⟩
    have n1 : numIn (.int e.1) 0 ((size : Int) - 1) = true := by
      show (decide (0 ≤ e.1) && decide (e.1 ≤ (size : Int) - 1)) = true
      rw [decide_eq_true (by omega : 0 ≤ e.1), decide_eq_true (by omega : e.1 ≤ (size : Int) - 1)]
      rfl
    have n2 : numIn (.int e.2) 0 ((size : Int) - 1) = true := by
      show (decide (0 ≤ e.2) && decide (e.2 ≤ (size : Int) - 1)) = true
      rw [decide_eq_true (by omega : 0 ≤ e.2), decide_eq_true (by omega : e.2 ≤ (size : Int) - 1)]
      rfl
    refine ⟨_, rfl, a, _, 2, 2, rfl, hA, fun H1 s1 => ⟨true, rfl, ?_⟩⟩
    have hA1 := hA.same s1
    refine iteF ?_
    refine ⟨_, rfl, hA1.ix (j := 0) rfl ⟨_, rfl, _, _, rfl, rfl, _, 0, _, rfl, trivial, true, congrArg V.bl n1, iteF ?_⟩⟩
    refine ⟨_, rfl, hA1.ix (j := 1) rfl ⟨_, rfl, _, _, rfl, rfl, _, 0, _, rfl, trivial, true, congrArg V.bl n2, iteF ?_⟩⟩
    refine ⟨_, rfl, hA1.ix (j := 0) rfl ⟨_, rfl, hA1.ix (j := 1) rfl ⟨rfl, false, congrArg V.bl (decide_eq_false fun z => hw.2.2.2.2 (V.int.inj z)), iteF ?_⟩⟩⟩
    refine ⟨_, rfl, hA1.ix (j := 0) rfl ⟨_, rfl, hA1.ix (j := 1) rfl ⟨(by show 2 ≤ sizeLine; decide), fun p hp => ?_⟩⟩⟩
    exact q _ p (s1.trans (same_new hp)) (s1.free hp) upd_same
end
end Cw

/-! checked_arrow. -/
namespace Cw
open PySem PySem.Spec PyProof.Rows L2
/-- the module's numbers -/
structure Nums (mg : Str → Option Value) : Prop where
  cells : ∃ t, mg "MOST_CELLS" = some (.int 9 t)
  arrows : ∃ t, mg "MOST_ARROWS" = some (.int 6 t)
  edges : ∃ t, mg "MOST_EDGES" = some (.int 24 t)
  length : ∃ t, mg "MOST_LENGTH" = some (.int 4 t)
theorem hu65 {A : Around} {k : Nat} (hr : Room k A) : A.units + 65 < cLine := by
  have := hr.un
  omega
theorem hu64 {A : Around} {k : Nat} (hr : Room k A) : A.units + 64 < cLine := by
  have := hr.un
  omega
theorem take_snoc {α : Type} {l : List α} {i : Nat} {x : α} (h : l[i]? = some x) : l.take (i + 1) = l.take i ++ [x] := by
  rw [List.take_add_one, h]
  rfl
theorem mem_at {α : Type} {l : List α} {i : Nat} {x : α} (h : l[i]? = some x) : x ∈ l := List.mem_of_getElem? h
section
variable {P : Program} {w : World} {K : PySem.W.Frag} {mg : Str → Option Value} {base : Heap}
def spArrow (K : PySem.W.Frag) : Sp := fun vs H Q _ => ∃ (size : Nat) (e : Addr) (v t : V) (ns : List Str) (r : Row), vs = [.int size, .ref e, v, t] ∧ H e = some (.lst (ns.map V.str)) ∧ ArrowV H v r ∧ FitRow size r ∧ r.1 ∉ ns ∧
  ∀ H' p, Same H H' → H p = none → Dp K H' (.ref p) (arrowD (r.1, norm r.2)) → Q (.ref p) H'
theorem ok_arrow {f : Addr} {fd : FuncData} (F : Fun K "checked_arrow" "checked_arrow" sArrow f fd) (T : Free mg) (TN : Nums mg) (DS : Def P w K mg base 1 "is_sequence" (spSeq K)) (DM : Def P w K mg base 1 "is_name" spName) (DE : Def P w K mg base 2 "checked_edge" spEdge) :
    FnOk P w K mg base CX0 3 f fd ["size", "earlier", "arrow", "at"] (spArrow K) := by
  refine F.ok cArrow (fun vs H Q E h => ?_) (fun cdv A outer s H vs Q E hr h => ?_)
  · obtain ⟨size, e, v, t, ns, r, rfl, _⟩ := h
    rfl
  · obtain ⟨size, e, v, t, ns, r, rfl, hE, ⟨a, u, rfl, hA, b, xs, rfl, hB, hp⟩, hf, hn, q⟩ := h
    obtain ⟨t24, h24⟩ := TN.edges
    have hr1 : Room 1 _ := hr.mono (by decide)
    have hlen := paired_len hp
    refine ⟨_, pss_cons (ps_if (pt_not (pt_val (pe_def DS hr1 (by rfl) (pa_cons (pv 2) (pa_cons pe_int (pa_cons pe_int pa_nil)))))) pss_never pss_nil)
      (pss_cons (ps_if (PW.pt (pw_or (pt_not (pt_val (pe_def DM hr1 (by rfl) (pa_cons (pe_ix ix_seq (pv 2) pe_int (fun _ _ => rfl)) pa_nil)))) (pw_or1 (pt_cmpR op_in_seq (pe_ix ix_seq (pv 2) pe_int (fun _ _ => rfl)) (pv 1) rfl)))) pss_never pss_nil)
      (pss_cons (ps_if (pt_not (pt_val (pe_def DS hr1 (by rfl) (pa_cons (pe_ix ix_seq (pv 2) pe_int (fun _ _ => rfl)) (pa_cons pe_int (pa_cons (pe_glob (v := .int 24) (by rfl) h24 ⟨_, rfl⟩) pa_nil)))))) pss_never pss_nil)
      (pss_cons (ps_set (i := 4) cArrow.nd rfl (Or.inl rfl) (pe_lst pa_nil))
      (pss_cons (ps_for PassesOwn.never rfl (pi_seq (pe_ix ix_seq (pv 2) pe_int (fun _ _ => rfl))) (pg_name (i := 5) cArrow.nd rfl (Or.inl rfl))
        (pss_cons (ps_set (i := 6) cArrow.nd rfl (Or.inl rfl) (pe_def DE hr (by rfl) (pa_cons (pv 0) (pa_cons (pv 5) (pa_cons (pv 3) pa_nil)))))
        (pss_one (ps_if (pt_cmpR (op_notInD (hu65 hr)) (pv 6) (pv 4) rfl) (pss_one (ps_expr (pe_bm PySem.F.plainAttrs_list PySem.F.slot_list_append PySem.F.type_list_append mt_append (pv 4) (pa_cons (pv 6) pa_nil)))) pss_nil))))
      (pss_one (ps_ret (pe_tup (pa_cons (pe_ix ix_seq (pv 2) pe_int (fun _ _ => rfl)) (pa_cons (pe_callTy call_tuple_of (by rfl) T.tuple boot_tuple (pa_cons (pe_callB (cr_sortRows (hu64 hr)) (by rfl) T.sorted boot_sorted (pa_cons (pv 4) pa_nil)) pa_nil)) pa_nil))))))))), ?_⟩
    -- the three looks
    refine ⟨_, rfl, a, _, 2, 2, rfl, hA, fun H1 s1 => ⟨true, rfl, iteF ?_⟩⟩
    have hA1 := hA.same s1
    refine ⟨_, rfl, hA1.ix (j := 0) rfl ⟨r.1, rfl, hf.name, fun H2 s2 => ⟨true, rfl, iteF ?_⟩⟩⟩
    have s12 := s1.trans s2
    have hA2 := hA.same s12
    refine ⟨_, rfl, hA2.ix (j := 0) rfl ⟨_, rfl, e, ns.map V.str, rfl, .inl (.of (s12 _ _ hE)), rfl, flat_strs' ns, false, congrArg V.bl ((in_strs r.1 ns).trans (decide_eq_false hn)), iteF ?_⟩⟩
    have few : (decide ((0 : Int) ≤ (xs.length : Int)) && decide ((xs.length : Int) ≤ 24)) = true := by
      have h1 := hf.few
      rw [decide_eq_true (by omega), decide_eq_true (by omega)]
      rfl
    refine ⟨_, rfl, hA2.ix (j := 1) rfl ⟨b, xs, 0, 24, rfl, hB.same s12, fun H3 s3 => ⟨true, congrArg V.bl few, iteF ?_⟩⟩⟩
    have s13 := s12.trans s3
    have hA3 := hA.same s13
    have hB3 := hB.same s13
    -- found = []
    refine ⟨Nat.zero_le _, fun fo nfo => ?_⟩
    have s4 : Same H3 (upd H3 fo (.lst [])) := same_new nfo
    refine ⟨_, rfl, (hA3.same s4).ix (j := 1) rfl ⟨b, rfl, ?_⟩⟩
    refine for_at (hB3.same s4) (fun i σ H' => ∃ v5 v6 ys, σ = [some (.int size), some (.ref e), some (.ref a), some t, some (.ref fo), v5, v6] ∧ Same H3 H' ∧ H' fo = some (.lst ys) ∧ RowsAt H' ys ((firsts [] (r.2.take i)).map edgeR))
      ⟨none, none, [], rfl, s4, upd_same, .nil⟩ (fun i σ H' _ ⟨_, _, _, _, sm, _⟩ o ho => sm _ _ ?_) ?_ ?_
    · rcases hB3 with z | z <;> rw [upd_ne (ne_of_none z nfo)] at ho <;> exact ho
    · -- a turn
      rintro i x σ H' hx ⟨v5, v6, ys, rfl, sm, hfo, hy⟩
      obtain ⟨e1, he1, hev⟩ := paired_get hp hx
      have hin := mem_at he1
      have hil : i < r.2.length := (List.getElem?_eq_some_iff.mp he1).1
      refine ⟨_, rfl, _, rfl, _, rfl, size, x, t, e1, rfl, hev.same (s13.trans sm), fun f hf' => hf.win f (by
        obtain rfl : f = e1 := by simpa using hf'
        exact hin), fun H4 p s5 np hp4 => ?_⟩
      have hfo4 := s5 _ _ hfo
      have hy4 := hy.same s5
      have dpe : Dp K H4 (.ref p) (edgeD e1) := .tup (.of hp4) (.cons (.int _) (.cons (.int _) .nil))
      have dpl : Dp K H4 (.ref fo) (.list ((firsts [] (r.2.take i)).map edgeD)) := .lst (.of hfo4) (by
        rw [← edgesR_D]
        exact hy4.dp)
      have lenF : (firsts [] (r.2.take i)).length ≤ 24 := by
        have h1 := len_firsts (r.2.take i) []
        rw [List.length_take] at h1
        have h2 := hf.few
        simp only [List.length_nil] at h1
        omega
      have more := firsts_snoc e1 (r.2.take i) []
      rw [← take_snoc he1] at more
      refine ⟨_, rfl, _, rfl, edgeD e1, _, dpe, dpl, shaped_edge e1, shaped_edges _, !decide (e1 ∈ firsts [] (r.2.take i)), congrArg V.bl (by rw [any_edge]), ?_⟩
      by_cases m : e1 ∈ firsts [] (r.2.take i)
      · rw [decide_eq_true m]
        refine iteF ⟨_, _, ys, rfl, sm.trans s5, hfo4, ?_⟩
        rw [more, if_pos m]
        exact hy4
      · rw [decide_eq_false m]
        have nfop : fo ≠ p := ne_of_none hfo np
        refine iteT ⟨_, rfl, .inl ⟨rfl, _, .of hfo4⟩, _, rfl, fo, ys, .ref p, rfl, rfl, hfo4, ?_, ?_⟩
        · have := hy4.len
          rw [List.length_map] at this
          rw [sizeLine_eq]
          omega
        · refine ⟨_, _, ys ++ [.ref p], rfl, fun c o ho => ?_, upd_same, ?_⟩
          · rw [upd_ne (ne_of_none ho nfo)]
            exact s5 _ _ (sm _ _ ho)
          · rw [more, if_neg m, List.map_append]
            refine RowsAt.snoc ?_ (hy4.noL (.lst hfo4))
            rw [upd_ne nfop.symm]
            exact hp4
    · -- behind the loop
      rintro σ H' ⟨v5, v6, ys, rfl, sm, hfo, hy⟩
      have full : r.2.take xs.length = r.2 := by
        rw [hlen]
        exact List.take_length
      rw [full] at hy
      refine ⟨_, rfl, (hA3.same sm).ix (j := 0) rfl ?_⟩
      obtain ⟨ts, rfl, hts, hz⟩ := hy.sorts (K := K) fun x hx => by
        obtain ⟨e1, _, rfl⟩ := List.mem_map.mp hx
        intro z
        cases z
      rw [sort_firsts] at hz
      refine ⟨_, rfl, fo, ts, rfl, .of hfo, hts, fun p1 np1 => ?_⟩
      generalize refsOf (ts.mergeSort byRow) = zs at hz ⊢
      · have s6 := same_new (o := .lst zs) np1
        refine ⟨p1, zs, rfl, .inl ⟨.of upd_same, fun p2 np2 => ?_⟩⟩
        have s7 := same_new (o := .tup zs) np2
        refine ⟨(by show 2 ≤ sizeLine; decide), fun p3 np3 => ?_⟩
        have s8 := same_new (o := .tup [.str r.1, .ref p2]) np3
        have s48 := (s6.trans s7).trans s8
        refine q _ p3 (fun c o ho => s48 _ _ (sm _ _ (s13 _ _ ho))) ?_ ?_
        · exact (s13.trans (sm.trans (s6.trans s7))).free np3
        · refine .tup (.of upd_same) (.cons (.str _) (.cons (.tup (.of (s8 _ _ upd_same)) ?_) .nil))
          have h9 := RowsAt.dp (K := K) (hz.same s48)
          rw [edgesR_D] at h9
          exact h9
end
end Cw

/-! Board.__init__, Board.__eq__, the errors' __init__. -/
namespace Cw
open PySem PySem.Spec PyProof.Rows L2
/-- the tuples are as they were -/
def Tups (H H' : Hp) : Prop := ∀ b xs, (H b = some (.tup xs) → H' b = some (.tup xs)) ∧ ∀ o, H b = some (.frz o (.tup xs)) → H' b = some (.frz o (.tup xs))
theorem Tups.noL {H H' : Hp} (e : NoL H H') : Tups H H' := fun b xs => ⟨fun h => e _ _ (fun _ z => by cases z) h, fun o h => e _ _ (fun _ z => by cases z) h⟩
theorem Tups.trans {H H1 H2 : Hp} (a : Tups H H1) (b : Tups H1 H2) : Tups H H2 := fun c xs => ⟨fun h => (b c xs).1 ((a c xs).1 h), fun o h => (b c xs).2 o ((a c xs).2 o h)⟩
theorem Tups.ins {H : Hp} {b C dx : Addr} {fs gs : List (Str × V)} (h : H b = some (.ins C dx fs)) : Tups H (upd H b (.ins C dx gs)) := fun c xs => by
  refine ⟨fun q => ?_, fun o q => ?_⟩
  · rw [upd_ne fun z => by rw [z, h] at q; cases q]
    exact q
  · rw [upd_ne fun z => by rw [z, h] at q; cases q]
    exact q
section
variable {K : PySem.W.Frag} {H H' : Hp}
theorem Tups.seqT {a : Addr} {xs : List V} (e : Tups H H') (q : SqT K H a xs) : SqT K H' a xs := by
  rcases q with (q | ⟨o, q⟩) | q
  · exact .inl (.inl ((e _ _).1 q))
  · exact .inl (.inr ⟨o, (e _ _).2 o q⟩)
  · exact .inr q
mutual
theorem Dp.tups (e : Tups H H') : ∀ {v : V} {d : PyData}, noList d = true → Dp K H v d → Dp K H' v d
  | _, _, _, .non => .non
  | _, _, _, .bl b => .bl b
  | _, _, _, .int i => .int i
  | _, _, _, .str x => .str x
  | _, _, n, .lst _ _ => by simp [noList] at n
  | _, _, n, .tup q h => .tup (e.seqT q) (DpAll.tups e (by simpa [noList] using n) h)
theorem DpAll.tups (e : Tups H H') : ∀ {vs : List V} {ds : List PyData}, noLists ds = true → DpAll K H vs ds → DpAll K H' vs ds
  | _, _, _, .nil => .nil
  | _, _, n, .cons h t => by
    have n' := Bool.and_eq_true_iff.mp (by simpa [noLists] using n)
    exact .cons (Dp.tups e n'.1 h) (DpAll.tups e n'.2 t)
end
end
theorem At.ixz {K : PySem.W.Frag} {H : Hp} {a : Addr} {xs : List V} {z : Int} {j : Nat} {v : V} {Q : VK} (h : At H a xs) (ez : z = (j : Int)) (e : xs[j]? = some v) (q : Q v H) : rIx K (.ref a) (.int z) H Q := by
  subst ez
  exact h.ix e q
/-! ### data of a whole board -/
def normR (r : Row) : Row := (r.1, norm r.2)
theorem small_110000 : ∀ c ∈ letters.cps.toList, c < 0x110000 := by decide +kernel
theorem name_ok {x : Str} (h : Name x) : PyData.strOk x = true := by
  unfold PyData.strOk
  rw [Array.all_eq_true_iff_forall_mem]
  exact fun c hc => decide_eq_true (small_110000 c (h.2.2 c (Array.mem_toList_iff.mpr hc)))
theorem lay_rows : ∀ rs : List Row, (∀ r ∈ rs, Name r.1) → PyData.canLayAll0 (rs.map arrowD) = true
  | [], _ => by simp [PyData.canLayAll0]
  | r :: rs, h => by
    have h1 := name_ok (h r List.mem_cons_self)
    have h2 := lay_rows rs fun x hx => h x (List.mem_cons_of_mem _ hx)
    simp [PyData.canLayAll0, PyData.canLay0, arrowD, edgesD, lay_edges r.2, h1, h2]
theorem depth_rows : ∀ rs : List Row, PyData.depthAll (rs.map arrowD) ≤ 3
  | [] => by simp [PyData.depthAll]
  | r :: rs => by
    have h1 := depth_edges r.2
    have h2 := depth_rows rs
    have h3 : (arrowD r).depth = PyData.depthAll (r.2.map edgeD) + 1 + 1 := by simp [arrowD, edgesD, PyData.depth, PyData.depthAll]
    simp only [List.map_cons, PyData.depthAll]
    omega
theorem shaped_due {rs : List Row} (h : ∀ r ∈ rs, Name r.1) : SeqAt.shaped (dueD rs) = true := by
  have h1 := depth_rows rs
  unfold SeqAt.shaped dueD
  rw [Bool.and_eq_true]
  refine ⟨by simp only [PyData.canLay0]; exact lay_rows rs h, decide_eq_true ?_⟩
  simp only [PyData.depth]
  omega
/-- what the text says of Board, its class at C -/
structure BoardC (K : PySem.W.Frag) (mg : Str → Option Value) (C : Addr) : Prop where
  g : mg "Board" = some (.ref C)
  cl : Cls K C
  nS : NoAttr K C "size"
  nA : NoAttr K C "arrows"
  ha : PySem.W.findIn K (.ref C) "__class__" = some (some (.builtin "object.__class__"))
  hn : PySem.W.specialIn K (.builtin "object.__class__") "__get__" = some (some (.builtin "getset_descriptor.__get__"))
  htk : PySem.W.takesIn K (.builtin "object.__class__") = some true
  hm : PySem.W.mroIn K C (.type "object") = some true
  me : PySem.W.kitOne K (.ref C) (.ref C) = some true
/-- a method of the class at C -/
structure Mtd (P : Program) (w : World) (K : PySem.W.Frag) (mg : Str → Option Value) (base : Heap) (CX : CXT) (C : Addr) (k : Nat) (m : Str) (sp : Sp) : Prop where
  ex : ∃ (f : Addr) (fd : FuncData) (ps : List Str), Meth K C m f ∧ Binds K fd ps [] ∧ FnOk P w K mg base CX k f fd ps sp
/-- its making -/
structure Made (P : Program) (w : World) (K : PySem.W.Frag) (mg : Str → Option Value) (base : Heap) (C : Addr) (k : Nat) (sp : Sp) : Prop where
  ex : ∃ (f : Addr) (fd : FuncData) (ps : List Str), Mk K C f ∧ Binds K fd ps [] ∧ FnOk P w K mg base CX0 k f fd ps sp
section
variable {P : Program} {w : World} {K : PySem.W.Frag} {mg : Str → Option Value} {base : Heap}
/-! ### Board.__init__ -/
def spInit (K : PySem.W.Frag) (C : Addr) : Sp := fun vs H Q _ => ∃ (b dx : Addr) (size : Nat) (v : V) (rs : List Row), vs = [.ref b, .int size, v] ∧ 1 ≤ size ∧ size ≤ 9 ∧ H b = some (.ins C dx []) ∧ ArrowsV H v rs ∧ rs.length ≤ 6 ∧ (rs.map (·.1)).Nodup ∧ (∀ r ∈ rs, FitRow size r) ∧
  ∀ H', But b H H' → BoardAt K C H' b size (rs.map normR) → Q .non H'
theorem ok_init {f C : Addr} {fd : FuncData} (F : Fun K "__init__" "Board.__init__" sInit f fd) (T : Free mg) (TN : Nums mg) (TC : BoardC K mg C) (DS : Def P w K mg base 1 "is_sequence" (spSeq K)) (DN : Def P w K mg base 1 "is_number" spNum)
    (DA : Def P w K mg base 3 "checked_arrow" (spArrow K)) : FnOk P w K mg base CX0 4 f fd ["self", "size", "arrows"] (spInit K C) := by
  refine F.ok cInit (fun vs H Q E h => ?_) (fun cdv A outer s H vs Q E hr h => ?_)
  · obtain ⟨b, dx, size, v, rs, rfl, _⟩ := h
    rfl
  · obtain ⟨b, dx, size, v, rs, rfl, hz1, hz9, hb, ⟨a, xs, rfl, hA, hp⟩, h6, hnd, hfit, q⟩ := h
    obtain ⟨t9, h9⟩ := TN.cells
    obtain ⟨t6, h6'⟩ := TN.arrows
    have hr1 : Room 1 _ := hr.mono (by decide)
    have hlen := paired_len hp
    refine ⟨_, pss_cons (ps_if (pt_not (pt_val (pe_def DN hr1 (by rfl) (pa_cons (pv 1) (pa_cons pe_int (pa_cons (pe_glob (v := .int 9) (by rfl) h9 ⟨_, rfl⟩) pa_nil)))))) pss_never pss_nil)
      (pss_cons (ps_if (pt_not (pt_val (pe_def DS hr1 (by rfl) (pa_cons (pv 2) (pa_cons pe_int (pa_cons (pe_glob (v := .int 6) (by rfl) h6' ⟨_, rfl⟩) pa_nil)))))) pss_never pss_nil)
      (pss_cons (ps_set (i := 3) cInit.nd rfl (Or.inl rfl) (pe_lst pa_nil))
      (pss_cons (ps_for PassesOwn.never rfl (pi_range1 (by rfl) T.range (pa_cons (pe_callB call_len_seq (by rfl) T.len PySem.boot_len (pa_cons (pv 2) pa_nil)) pa_nil)) (pg_name (i := 4) cInit.nd rfl (Or.inl rfl))
        (pss_cons (ps_setLc (i := 5) (own := [("row", 6)]) (g := gName 6) (tt := tYes) rfl cInit.nd rfl rfl (sw_true rfl rfl rfl (by decide +kernel)) (pi_list (pv 3)) (blkOk_by (N := ["self", "size", "arrows", "rows", "at", "earlier", "row"]) (sc := defScope sInit) (by decide +kernel))
            (fun _ _ _ _ _ => pg_name (i := 6) cInit.nd rfl (Or.inl rfl)) (fun _ _ _ _ _ => pts_nil) (fun _ _ _ _ _ => pe_ix (r := rIx K) ix_seq (pv 6) pe_int (fun _ _ => rfl)))
        (pss_one (ps_expr (pe_bm PySem.F.plainAttrs_list PySem.F.slot_list_append PySem.F.type_list_append mt_append (pv 3) (pa_cons (pe_def DA hr (by rfl) (pa_cons (pv 1) (pa_cons (pv 5) (pa_cons (pe_ix ix_seq (pv 2) (pv 4) (fun _ _ => rfl)) (pa_cons (pv 4) pa_nil))))) pa_nil))))))
      (pss_cons (ps_fld (pv 0) (pv 1) rfl)
      (pss_one (ps_fld (pv 0) (pe_callTy call_tuple_of (by rfl) T.tuple boot_tuple (pa_cons (pv 3) pa_nil)) rfl)))))), ?_⟩
    have n1 : numIn (.int (size : Int)) 1 9 = true := by
      show (decide ((1 : Int) ≤ size) && decide ((size : Int) ≤ 9)) = true
      rw [decide_eq_true (by omega), decide_eq_true (by omega)]
      rfl
    refine ⟨_, rfl, _, 1, 9, rfl, trivial, true, congrArg V.bl n1, iteF ?_⟩
    have few : (decide ((0 : Int) ≤ (xs.length : Int)) && decide ((xs.length : Int) ≤ 6)) = true := by
      rw [decide_eq_true (by omega), decide_eq_true (by omega)]
      rfl
    refine ⟨_, rfl, a, xs, 0, 6, rfl, hA, fun H1 s1 => ⟨true, congrArg V.bl few, iteF ?_⟩⟩
    -- rows = []
    refine ⟨Nat.zero_le _, fun ro nro => ?_⟩
    have s2 : Same H1 (upd H1 ro (.lst [])) := same_new nro
    have hA2 := (hA.same s1).same s2
    refine ⟨_, rfl, a, xs, rfl, hA2.elim (fun h => .inl (.of h)) (fun h => .inr (.of h)), (xs.length : Int), rfl, by omega, by omega, ?_⟩
    refine for_range (lo := 0) (n := ((xs.length : Nat) : Int).toNat) (fun i σ H' => ∃ v4 v5 v6 ys, σ = [some (.ref b), some (.int size), some (.ref a), some (.ref ro), v4, v5, v6] ∧ Same H1 H' ∧ H' ro = some (.lst ys) ∧ DpAll K H' ys (((rs.take i).map normR).map arrowD))
      ⟨none, none, none, [], rfl, s2, upd_same, .nil⟩ ?_ ?_
    · rintro i σ H' hi ⟨v4, v5, v6, ys, rfl, sm, hro, hy⟩
      have hi' : i < xs.length := by omega
      obtain ⟨r, hri, har⟩ := paired_get hp (List.getElem?_eq_getElem hi')
      have hin := mem_at hri
      have lenY : ys.length = i := by
        have h1 := DpAll.len hy
        rw [List.length_map, List.length_map, List.length_take] at h1
        have h2 := (List.getElem?_eq_some_iff.mp hri).1
        omega
      -- earlier
      refine ⟨_, rfl, ro, rfl, ⟨_, .of hro⟩, fun D nD => lc_list (K := K) (a := ro) (xs := ys) (fun j H2 => Same H' H2 ∧ H2 D = some (.lst ((((rs.take i).map (·.1)).take j).map V.str)))
        ⟨same_new nD, upd_same⟩ (fun j H2 _ ⟨sx, _⟩ => .of (sx _ _ hro)) (fun j x H2 hx ⟨sx, hD⟩ => ?_) fun H2 ⟨sx, hD⟩ => ?_⟩
      · obtain ⟨d, hd, hdp⟩ := DpAll.get hy hx
        rw [List.getElem?_map, List.getElem?_map] at hd
        cases hrj : (rs.take i)[j]? with
        | none =>
          rw [hrj] at hd
          cases hd
        | some rj =>
          rw [hrj] at hd
          obtain rfl : arrowD (normR rj) = d := Option.some.inj hd
          obtain ⟨aj, us, rfl, hq, hus⟩ := dp_ref hdp
          cases hus with
          | @cons u1 _ _ _ hu1 hus2 =>
            cases hu1
            have hq2 : SqT K H2 aj _ := sqT_same sx hq
            refine ⟨rfl, _, rfl, .inr (.inl ⟨aj, _, 0, _, rfl, rfl, hq2, atI_nat (j := 0) rfl, _, hD, ?_, ?_⟩)⟩
            · rw [List.length_map, List.length_take, List.length_map, List.length_take, sizeLine_eq]
              omega
            · refine ⟨fun c o ho => ?_, ?_⟩
              · rw [upd_ne (ne_of_none ho nD)]
                exact sx _ _ ho
              · rw [upd_same, take_snoc (x := rj.1) (by rw [List.getElem?_map, hrj]; rfl), List.map_append]
                rfl
      · -- rows.append(checked_arrow(..))
        have nml : ((rs.take i).map (·.1)).length = ys.length := by rw [List.length_map, List.length_take, lenY]; omega
        have full : (((rs.take i).map (·.1)).take ys.length) = (rs.take i).map (·.1) := by
          rw [← nml]
          exact List.take_length
        rw [full] at hD
        have hro2 := sx _ _ hro
        have sm2 := sm.trans sx
        refine ⟨_, rfl, .inl ⟨rfl, _, .of hro2⟩, _, rfl, _, rfl, _, rfl, _, rfl, ((hA.same s1).same sm2).ixz (j := i) (by omega) (List.getElem?_eq_getElem hi') ⟨_, rfl, ?_⟩⟩
        have new : r.1 ∉ (rs.take i).map (·.1) := fun hm => by
          have e1 : (rs.map (·.1))[i]? = some r.1 := by rw [List.getElem?_map, hri]; rfl
          rw [List.map_take] at hm
          obtain ⟨j, hj, ej⟩ := List.mem_iff_getElem.mp hm
          rw [List.length_take] at hj
          rw [List.getElem_take] at ej
          obtain ⟨hi2, e2⟩ := List.getElem?_eq_some_iff.mp e1
          have := (List.getElem_inj hnd).mp (ej.trans e2.symm)
          omega
        refine ⟨size, D, _, _, (rs.take i).map (·.1), r, rfl, hD, (har.same s1).same sm2, hfit r hin, new, fun H3 p s3 np hdp => ?_⟩
        have hro3 := s3 _ _ hro2
        refine ⟨ro, ys, .ref p, rfl, rfl, hro3, by rw [lenY, sizeLine_eq]; omega, ?_⟩
        refine ⟨_, _, _, ys ++ [.ref p], rfl, fun c o ho => ?_, upd_same, ?_⟩
        · rw [upd_ne (ne_of_none ho nro)]
          exact s3 _ _ (sm2 _ _ ho)
        · rw [take_snoc hri, List.map_append, List.map_append]
          have y3 := DpAll.same (sx.trans s3) hy
          have nl : NoL H3 (upd H3 ro (.lst (ys ++ [.ref p]))) := .lst hro3
          refine DpAll.snoc (DpAll.noL nl (noList_rows _) y3) (Dp.noL nl ?_ hdp)
          simpa [noLists] using noList_rows [normR r]
    · -- the fields
      rintro σ H' ⟨v4, v5, v6, ys, rfl, sm, hro, hy⟩
      have full : rs.take ((xs.length : Nat) : Int).toNat = rs := List.take_of_length_le (by omega)
      rw [full] at hy
      have hb' := sm _ _ (s1 _ _ hb)
      refine ⟨_, rfl, _, rfl, b, C, dx, [], rfl, hb', TC.cl, TC.nS, (by show 0 < 1000; decide), ?_⟩
      have nbr : ro ≠ b := ne_of hro hb' (by intro z; cases z)
      refine ⟨_, rfl, ro, ys, rfl, .inl ⟨.of (by rw [upd_ne nbr]; exact hro), fun p np => ?_⟩⟩
      have npb : p ≠ b := fun z => by
        rw [z, upd_same] at np
        cases np
      refine ⟨_, rfl, b, C, dx, putF "size" (.int size) [], rfl, Eq.trans (upd_ne npb.symm) upd_same, TC.cl, TC.nA, (by show 1 < 1000; decide), ?_⟩
      refine q _ (fun c o nc ho => ?_) ⟨dx, p, upd_same, Dp.tup (xs := ys) (.of ?_) ?_⟩
      · rw [upd_ne nc, upd_ne (ne_of_none (show upd H' b _ c = some o by rw [upd_ne nc]; exact sm _ _ (s1 _ _ ho)) np), upd_ne nc]
        exact sm _ _ (s1 _ _ ho)
      · rw [upd_ne npb, upd_same]
      · refine DpAll.tups ?_ (noList_rows _) hy
        have t1 : Tups H' (upd H' b (.ins C dx (putF "size" (.int size) []))) := .ins hb'
        have t2 := Tups.noL (.of (same_new (o := .tup ys) np))
        refine (t1.trans t2).trans (.ins (fs := putF "size" (.int size) []) ?_)
        rw [upd_ne npb.symm, upd_same]
end
end Cw

/-! Board.__eq__; the errors' __init__; edges_of. -/
namespace Cw
open PySem PySem.Spec PyProof.Rows L2
section
variable {P : Program} {w : World} {K : PySem.W.Frag} {mg : Str → Option Value} {base : Heap}
/-! ### Board.__eq__ -/
def spEqB (K : PySem.W.Frag) (C : Addr) : Sp := fun vs H Q _ => ∃ (a b : Addr) (m n : Nat) (rs ss : List Row), vs = [.ref a, .ref b] ∧ BoardAt K C H a m rs ∧ BoardAt K C H b n ss ∧ (∀ r ∈ rs, Name r.1) ∧ (∀ r ∈ ss, Name r.1) ∧ Q (.bl (decide (m = n) && PyData.eqv (dueD rs) (dueD ss))) H
theorem ok_eqB {f C : Addr} {fd : FuncData} {k : Nat} (F : Fun K "__eq__" "Board.__eq__" sEq f fd) (T : Free mg) (TC : BoardC K mg C) : FnOk P w K mg base CX0 (k + 1) f fd ["self", "other"] (spEqB K C) := by
  refine F.ok cEq (fun vs H Q E h => ?_) (fun cdv A outer s H vs Q E hr h => ?_)
  · obtain ⟨a, b, m, n, rs, ss, rfl, _⟩ := h
    rfl
  · obtain ⟨a, b, m, n, rs, ss, rfl, ⟨da, pa, ha, dpa⟩, ⟨db, pb, hb, dpb⟩, na, nb, q⟩ := h
    refine ⟨_, pss_one (ps_ret (pe_and (pe_callB call_isi (by rfl) T.isi boot_isinstance (pa_cons (pv 1) (pa_cons (pe_glob (v := .ref C) (by rfl) TC.g rfl) pa_nil)))
      (pe_and (pe_cmpR op_eq (pe_fld (pv 0) rfl) (pe_fld (pv 1) rfl) (nomark _)) (pe_one (pe_cmpR (op_eqD (hu64 hr)) (pe_fld (pv 0) rfl) (pe_fld (pv 1) rfl) (nomark _)))))), ?_⟩
    refine ⟨_, rfl, _, _, .ref C, _, true, rfl, .own C, .base (.ins hb TC.cl TC.ha TC.hn TC.htk TC.hm), TC.me, true, rfl, iteT ?_⟩
    refine ⟨_, rfl, a, C, da, _, _, rfl, ha, TC.cl, TC.nS, bf_size _ _, _, rfl, b, C, db, _, _, rfl, hb, TC.cl, TC.nS, bf_size _ _, rfl, decide (m = n), congrArg V.bl (decide_eq_decide.mpr ⟨fun z => by injection z with z; omega, fun z => by rw [z]⟩), ?_⟩
    by_cases e : m = n
    · rw [decide_eq_true e]
      rw [decide_eq_true e, Bool.true_and] at q
      refine iteT ⟨_, rfl, a, C, da, _, _, rfl, ha, TC.cl, TC.nA, bf_arrows _ _, _, rfl, b, C, db, _, _, rfl, hb, TC.cl, TC.nA, bf_arrows _ _, _, _, dpa, dpb, shaped_due na, shaped_due nb, q⟩
    · rw [decide_eq_false e]
      rw [decide_eq_false e, Bool.false_and] at q
      exact iteF q
/-! ### the errors -/
/-- the errors' base, its class at W -/
structure BaseC (K : PySem.W.Frag) (mg : Str → Option Value) (W : Addr) : Prop where
  g : mg "WorthError" = some (.ref W)
  rd : PySem.W.readsIn K W (.type "type") = true
  ga : PySem.W.specialIn K (.ref W) "__getattribute__" = some (some (.builtin "type.__getattribute__"))
  vV : PySem.W.findCls K (.ref W) (.type "type") "__init__" = some (.val (.builtin "ValueError.__init__"))
/-- an error x with the one field f, its class at C -/
structure ErrC (K : PySem.W.Frag) (mg : Str → Option Value) (C : Addr) (x f : Str) : Prop where
  g : mg x = some (.ref C)
  ox : OexC K C
  nf : PySem.W.findIn K (.ref C) f = some none
  xf : XfC K C
  te : PySem.W.exmOne K (.ref C) (.ref C) = some true
def spErr (C : Addr) (f : Str) : Sp := fun vs H Q _ => ∃ (a : Addr) (v : V), vs = [.ref a, v] ∧ H a = some (exo a C none) ∧ ∀ d, H d = none → d ≠ a → Q .non (upd (upd H d (exd d [(f, v)])) a (exo a C (some d)))
theorem ok_noI {f C W : Addr} {fd : FuncData} {k : Nat} (F : Fun K "__init__" "NoArrow.__init__" sNoI f fd) (TW : BaseC K mg W) (TE : ErrC K mg C "NoArrow" "arrow") : FnOk P w K mg base CX0 (k + 1) f fd ["self", "arrow"] (spErr C "arrow") := by
  refine F.ok cNoI (fun vs H Q E h => ?_) (fun cdv A outer s H vs Q E hr h => ?_)
  · obtain ⟨a, v, rfl, _⟩ := h
    rfl
  · obtain ⟨a, v, rfl, ha, q⟩ := h
    refine ⟨_, pss_cons (ps_expr (pe_baseInit (by rfl) TW.g TW.rd TW.ga TW.vV (pa_cons (pv 0) (pa_cons pe_str pa_nil)))) (pss_one (ps_ost (pv 0) (pv 1))), ?_⟩
    exact ⟨_, rfl, a, C, _, rfl, (by show 1 ≤ 1000; decide), TE.ox, ha, _, rfl, _, rfl, a, C, rfl, TE.ox, TE.nf, .inl ⟨ha, fun d nd ne => q d nd ne⟩⟩
theorem ok_lenI {f C W : Addr} {fd : FuncData} {k : Nat} (F : Fun K "__init__" "BadLength.__init__" sLenI f fd) (TW : BaseC K mg W) (TE : ErrC K mg C "BadLength" "length") : FnOk P w K mg base CX0 (k + 1) f fd ["self", "length"] (spErr C "length") := by
  refine F.ok cLenI (fun vs H Q E h => ?_) (fun cdv A outer s H vs Q E hr h => ?_)
  · obtain ⟨a, v, rfl, _⟩ := h
    rfl
  · obtain ⟨a, v, rfl, ha, q⟩ := h
    refine ⟨_, pss_cons (ps_expr (pe_baseInit (by rfl) TW.g TW.rd TW.ga TW.vV (pa_cons (pv 0) (pa_cons pe_str pa_nil)))) (pss_one (ps_ost (pv 0) (pv 1))), ?_⟩
    exact ⟨_, rfl, a, C, _, rfl, (by show 1 ≤ 1000; decide), TE.ox, ha, _, rfl, _, rfl, a, C, rfl, TE.ox, TE.nf, .inl ⟨ha, fun d nd ne => q d nd ne⟩⟩
/-- an error's __init__ -/
structure ErrI (P : Program) (w : World) (K : PySem.W.Frag) (mg : Str → Option Value) (base : Heap) (C : Addr) (f : Str) : Prop where
  ex : ∃ (fI : Addr) (fd : FuncData) (ps : List Str), PySem.W.findIn K (.ref C) "__init__" = some (some (.ref fI)) ∧ PySem.W.typeIn K (.ref fI) = some (.type "function") ∧ Binds K fd ps [] ∧ FnOk P w K mg base CX0 1 fI fd ps (spErr C f)
section
variable {X : Cx}
/-- raise x(e) -/
theorem ps_err {C : Addr} {x f : Str} {W : WX} {e : Expr} {te : TE} {p pos pos2 : Pos} (hc : X.calm = true) (TE : ErrC X.K X.mg C x f) (TI : ErrI X.prog X.w X.K X.mg X.base C f) (hr : Room 2 X.A) (tk : Takes X W) (he : PE X e te) (hg : Gl X x)
    (hdb : (x == ("__debug__" : Str)) = false := by decide) (hs : starEach (e :: []) X.env = (false, eval e X.env) :: starEach [] X.env := by rfl) :
    PS X (.Raise (some (.Call (.Name x p) [e] [] pos)) none pos2) (fun _ σ H => tMkO C (spErr C f) [] (tCons te tNil) σ H fun cls d H' => W cls d σ H') := by
  obtain ⟨fI, fd, ps, h1, h2, hb, F⟩ := TI.ex
  exact ps_raise hc tk (pmk_oex TE.ox h1 h2 F hr hb .nil pass0 hg TE.g (pa_cons he pa_nil hs) hdb hs rfl)
end
/-- what its reading asks behind the argument's -/
theorem err_reads {C : Addr} {f : Str} {v : V} {H : Hp} {Q : XK} (q : ∀ d H', Same H H' → H' d = some (.xd [(f, v)]) → Q (.ref C) (some d) H') : [v].length ≤ 1000 ∧ ∀ a, H a = none → spErr C f (.ref a :: ([v] ++ [])) (upd H a (exo a C none))
    (fun u H2 => u = .non ∧ ∃ (d : Addr) (fs : List (Str × V)), H2 a = some (exo a C (some d)) ∧ H2 d = some (exd d fs) ∧ H d = none ∧ Q (.ref C) (some d) (upd (del H2 a) d (.xd fs))) (fun _ _ _ => False) := by
  refine ⟨by show 1 ≤ 1000; decide, fun a na => ⟨a, v, rfl, upd_same, fun d nd ne => ?_⟩⟩
  have nd' : H d = none := by
    rw [upd_ne ne] at nd
    exact nd
  refine ⟨rfl, d, _, upd_same, by rw [upd_ne ne, upd_same], nd', q d _ (fun c o ho => ?_) upd_same⟩
  have nca : c ≠ a := ne_of_none ho na
  have ncd : c ≠ d := ne_of_none ho nd'
  rw [upd_ne ncd, del_ne nca, upd_ne nca, upd_ne ncd, upd_ne nca]
  exact ho
/-! ### edges_of -/
/-- the first arrow of that name -/
def edgesFor (rs : List Row) (n : Str) : Option (List Edge) := (rs.find? fun r => decide (r.1 = n)).map (·.2)
theorem edgesFor_at : ∀ {rs : List Row} {i : Nat} {r : Row} {n : Str}, (∀ x ∈ rs.take i, x.1 ≠ n) → rs[i]? = some r → r.1 = n → edgesFor rs n = some r.2
  | [], _, _, _, _, h, _ => by simp at h
  | x :: rs, 0, r, n, _, h, e => by
    obtain rfl : x = r := by simpa using h
    simp [edgesFor, e]
  | x :: rs, i + 1, r, n, h0, h, e => by
    have hx : x.1 ≠ n := h0 x (by simp)
    have ih := edgesFor_at (rs := rs) (i := i) (r := r) (n := n) (fun y hy => h0 y (by rw [List.take_succ_cons]; exact List.mem_cons_of_mem _ hy)) (by simpa using h) e
    unfold edgesFor at ih ⊢
    rw [List.find?_cons_of_neg (by simpa using hx)]
    exact ih
theorem edgesFor_none {rs : List Row} {n : Str} (h : ∀ x ∈ rs, x.1 ≠ n) : edgesFor rs n = none := by
  unfold edgesFor
  rw [List.find?_eq_none.mpr fun x hx => by simpa using h x hx]
  rfl
theorem edgesFor_mem {rs : List Row} {r : Row} (hn : (rs.map (·.1)).Nodup) (h : r ∈ rs) : edgesFor rs r.1 = some r.2 := by
  obtain ⟨i, hi, e⟩ := List.mem_iff_getElem.mp h
  refine edgesFor_at (i := i) (fun x hx z => ?_) (List.getElem?_eq_some_iff.mpr ⟨hi, e⟩) rfl
  obtain ⟨j, hj, ej⟩ := List.mem_iff_getElem.mp hx
  rw [List.length_take] at hj
  rw [List.getElem_take] at ej
  have h1 : (rs.map (·.1))[j]'(by rw [List.length_map]; omega) = (rs.map (·.1))[i]'(by rw [List.length_map]; exact hi) := by
    rw [List.getElem_map, List.getElem_map, ej, e, z]
  have := (List.getElem_inj hn).mp h1
  omega
theorem edgesFor_not {rs : List Row} {n : Str} (h : n ∉ rs.map (·.1)) : edgesFor rs n = none := edgesFor_none fun x hx z => h (z ▸ List.mem_map.mpr ⟨x, hx, rfl⟩)
def spEdges (K : PySem.W.Frag) (C CN : Addr) : Sp := fun vs H Q E => ∃ (b : Addr) (size : Nat) (rs : List Row) (n : Str), vs = [.ref b, .str n] ∧ BoardAt K C H b size rs ∧
  (∀ es v, edgesFor rs n = some es → Dp K H v (edgesD es) → Q v H) ∧ (edgesFor rs n = none → ∀ d H', Same H H' → H' d = some (.xd [("arrow", .str n)]) → E (.ref CN) (some d) H')
theorem ok_edges {f C CN : Addr} {fd : FuncData} (F : Fun K "edges_of" "Board.edges_of" sEdges f fd) (TC : BoardC K mg C) (TE : ErrC K mg CN "NoArrow" "arrow") (TI : ErrI P w K mg base CN "arrow") :
    FnOk P w K mg base (L2.CX P w) 3 f fd ["self", "arrow"] (spEdges K C CN) := by
  refine F.okX cEdges (fun vs H Q E h => ?_) (fun cdv A outer s H vs Q E hr h => ?_)
  · obtain ⟨b, size, rs, n, rfl, _⟩ := h
    rfl
  · obtain ⟨b, size, rs, n, rfl, ⟨dx, p, hb, hdp⟩, q1, q2⟩ := h
    obtain ⟨xs, hxs, hall⟩ := dp_tup hdp
    refine ⟨_, pss_cons (ps_for (passes_of rfl) rfl (pi_tup (pe_fld (pv 0) rfl)) (pg_tup rfl (pgs_cons (pg_name (i := 2) cEdges.nd rfl (Or.inl rfl)) (pgs_cons (pg_name (i := 3) cEdges.nd rfl (Or.inl rfl)) pgs_nil)))
        (pss_one (ps_if (pt_cmpR op_eq (pv 2) (pv 1) (nomark _)) (pss_one (ps_ret (pv 3))) pss_nil)))
      (pss_one (ps_err rfl TE TI hr (takes_of rfl rfl rfl rfl) (pv 1) (by rfl))), ?_⟩
    have lenX := DpAll.len hall
    rw [List.length_map] at lenX
    refine ⟨_, rfl, b, C, dx, _, _, rfl, hb, TC.cl, TC.nA, bf_arrows _ _, p, rfl, ⟨xs, hxs⟩, for_tup (K := K) (a := p) (xs := xs) (fun i σ H' => H' = H ∧ (∃ v2 v3, σ = [some (.ref b), some (.str n), v2, v3]) ∧ ∀ x ∈ rs.take i, x.1 ≠ n)
      ⟨rfl, ⟨none, none, rfl⟩, fun x hx => by simp at hx⟩ (fun i σ H' _ ⟨e, _⟩ => e ▸ hxs) ?_ ?_⟩
    · rintro i x σ H' hx ⟨rfl, ⟨v2, v3, rfl⟩, hno⟩
      obtain ⟨d, hd, hdx⟩ := DpAll.get hall hx
      rw [List.getElem?_map] at hd
      cases hri : rs[i]? with
      | none =>
        rw [hri] at hd
        cases hd
      | some r =>
        rw [hri] at hd
        obtain rfl : arrowD r = d := Option.some.inj hd
        obtain ⟨a, us, rfl, hq, hus⟩ := dp_ref hdx
        cases hus with
        | cons h1 h2 =>
          cases h1
          cases h2 with
          | @cons u2 _ _ _ hu2 h3 =>
            cases h3
            refine ⟨a, _, rfl, hq, rfl, _, _, rfl, _, _, rfl, rfl, ?_⟩
            refine ⟨_, rfl, _, rfl, rfl, _, rfl, ?_⟩
            by_cases e : r.1 = n
            · refine ite2 (fun _ => ⟨_, rfl, q1 r.2 u2 (edgesFor_at hno hri e) hu2⟩) fun z => absurd (decide_eq_true (by rw [e])) z
            · refine ite2 (fun z => absurd (by have := of_decide_eq_true z; injection this) e) fun _ => ⟨rfl, ⟨_, _, rfl⟩, fun y hy => ?_⟩
              rw [take_snoc hri] at hy
              rcases List.mem_append.mp hy with z | z
              · exact hno y z
              · obtain rfl : y = r := by simpa using z
                exact e
    · rintro σ H' ⟨rfl, ⟨v2, v3, rfl⟩, hno⟩
      rw [lenX, List.take_length] at hno
      exact ⟨_, rfl, err_reads fun d H' sm hd => q2 (edgesFor_none hno) d H' sm hd⟩
end
end Cw

/-! reached_from; longer_chains. -/
namespace Cw
open PySem PySem.Spec PyProof.Rows L2
section
variable {X : Cx} {CX : CXT} {C : Addr} {k : Nat} {m : Str} {sp : Sp} {E : XK} {o e : Expr} {es : List Expr} {ta : TE} {t : TA} {apos pos : Pos}
/-- o.m(e, ..) by the method's promise -/
theorem pe_mtd {pl : Sem Bool} (c : Mtd X.prog X.w X.K X.mg X.base CX C k m sp) (cl : Cls X.K C) (hr : Room k X.A) (he : PE X o ta) (hx : Passes CX X E) (ha : PA X (e :: es) t)
    (hst : starEach (e :: es) X.env = (false, eval e X.env) :: starEach es X.env := by rfl) (hpl : (backTo pos (starEach es X.env)).any (·.1) = false := by rfl)
    (ht : eval (.Call (.Attribute o m apos) (e :: es) [] pos) X.env = (do
      let ov ← eval o X.env
      standAt apos.atName
      let (f, first) ← holding [ov] (getMethod ov m pl)
      callWith pos f first (backTo pos (starEach (e :: es) X.env)) (backToKw pos (keywordEach [] X.env))) := by rfl) :
    PE X (.Call (.Attribute o m apos) (e :: es) [] pos) (tMeth C m sp [] E ta t) := by
  obtain ⟨f, fd, ps, hm, hb, F⟩ := c.ex
  exact pe_meth he cl hm F hr hb .nil hx ha hst hpl ht
end
/-- the targets of the edges that leave c -/
def reach (es : List Edge) (c : Int) : List Int := (es.filter fun e => decide (e.1 = c)).map (·.2)
theorem reach_len (es : List Edge) (c : Int) : (reach es c).length ≤ es.length := by
  unfold reach
  rw [List.length_map]
  exact List.length_filter_le _ _
theorem reach_snoc {es : List Edge} {i : Nat} {e : Edge} {c : Int} (h : es[i]? = some e) : reach (es.take (i + 1)) c = if e.1 = c then reach (es.take i) c ++ [e.2] else reach (es.take i) c := by
  unfold reach
  rw [take_snoc h, List.filter_append, List.map_append]
  by_cases q : e.1 = c
  · rw [if_pos q, List.filter_cons_of_pos (by simpa using q)]
    rfl
  · rw [if_neg q, List.filter_cons_of_neg (by simpa using q)]
    simp
theorem grow_reach (es : List Edge) (c : List Int) : grow es c = ((reach es (lastI c)).filter fun t => !decide (t ∈ c)).map fun t => c ++ [t] := by
  unfold grow reach
  rw [List.filter_map, List.filter_filter, List.map_map]
  congr 1
  refine List.filter_congr fun e _ => ?_
  show (decide (e.1 = lastI c) && !decide (e.2 ∈ c)) = ((!decide (e.2 ∈ c)) && decide (e.1 = lastI c))
  rw [Bool.and_comm]
section
variable {P : Program} {w : World} {K : PySem.W.Frag} {mg : Str → Option Value} {base : Heap}
/-! ### reached_from -/
def spReach (K : PySem.W.Frag) (C : Addr) : Sp := fun vs H Q _ => ∃ (b : Addr) (size : Nat) (rs : List Row) (n : Str) (c : Int) (es : List Edge), vs = [.ref b, .str n, .int c] ∧ BoardAt K C H b size rs ∧ edgesFor rs n = some es ∧ es.length ≤ 24 ∧
  ∀ H' p, Same H H' → H p = none → H' p = some (.tup ((reach es c).map V.int)) → Q (.ref p) H'
theorem no_edges_of (size : Nat) (p : Addr) : (bf size p).lookup ("edges_of" : Str) = none := bf_no size p (by decide +kernel) (by decide +kernel)
theorem no_reached (size : Nat) (p : Addr) : (bf size p).lookup ("reached_from" : Str) = none := bf_no size p (by decide +kernel) (by decide +kernel)
theorem ok_reach {f C CN : Addr} {fd : FuncData} (F : Fun K "reached_from" "Board.reached_from" sReach f fd) (T : Free mg) (TC : BoardC K mg C) (ME : Mtd P w K mg base (L2.CX P w) C 3 "edges_of" (spEdges K C CN)) :
    FnOk P w K mg base CX0 4 f fd ["self", "arrow", "cell"] (spReach K C) := by
  refine F.ok cReach (fun vs H Q E h => ?_) (fun cdv A outer s H vs Q E hr h => ?_)
  · obtain ⟨b, size, rs, n, c, es, rfl, _⟩ := h
    rfl
  · obtain ⟨b, size, rs, n, c, es, rfl, hB, hes, hl, q⟩ := h
    refine ⟨_, pss_one (ps_ret (pe_callTy call_tuple_of (by rfl) T.tuple boot_tuple (pa_cons (pe_lc (own := [("source", 3), ("target", 4)]) (g := gTup K 2 (gCons (gName 3) (gCons (gName 4) gNil))) rfl cReach.nd
        (pi_tup (pe_mtd (E := E0) ME TC.cl hr (pv 0) passL (pa_cons (pv 1) pa_nil))) (blkOk_by (N := ["self", "arrow", "cell", "source", "target"]) (sc := defScope sReach) (by decide +kernel))
        (fun _ _ _ _ _ => pg_tup rfl (pgs_cons (pg_name (i := 3) cReach.nd rfl (Or.inl rfl)) (pgs_cons (pg_name (i := 4) cReach.nd rfl (Or.inl rfl)) pgs_nil)))
        (fun _ _ _ _ _ => pts_one (pt_cmpR (r := rEq) op_eq (pv 3) (pv 2) (nomark _))) (fun _ _ _ _ _ => pv 4)) pa_nil))), ?_⟩
    obtain ⟨dx, p, hb, hdp⟩ := id hB
    refine ⟨_, rfl, b, dx, _, rfl, hb, no_edges_of _ _, _, rfl, b, size, rs, n, rfl, hB, fun es' v e' dv => ?_, fun z => by rw [hes] at z; cases z⟩
    rw [hes] at e'
    obtain rfl := Option.some.inj e'
    obtain ⟨a, xs, rfl, hxs, hall⟩ := dp_ref dv
    have lenX := DpAll.len hall
    rw [List.length_map] at lenX
    refine ⟨a, rfl, ⟨xs, hxs⟩, fun D nD => lc_tup (K := K) (a := a) (xs := xs) (fun i H' => Same H H' ∧ H' D = some (.lst ((reach (es.take i) c).map V.int)))
      ⟨same_new nD, upd_same⟩ (fun i H' _ ⟨sm, _⟩ => sqT_same sm hxs) (fun i x H' hx ⟨sm, hD⟩ => ?_) fun H' ⟨sm, hD⟩ => ?_⟩
    · obtain ⟨d, hd, hdx⟩ := DpAll.get hall hx
      rw [List.getElem?_map] at hd
      cases hei : es[i]? with
      | none =>
        rw [hei] at hd
        cases hd
      | some e =>
        rw [hei] at hd
        obtain rfl : edgeD e = d := Option.some.inj hd
        obtain ⟨ae, us, rfl, hq, hus⟩ := dp_ref (Dp.same sm hdx)
        cases hus with
        | cons h1 h2 =>
          cases h1
          cases h2 with
          | cons h2 h3 =>
            cases h2
            cases h3
            refine ⟨ae, _, rfl, hq, rfl, _, _, rfl, _, _, rfl, rfl, rfl, ?_⟩
            refine ⟨_, rfl, _, rfl, rfl, _, rfl, ?_⟩
            rw [reach_snoc hei]
            have lenR : (reach (es.take i) c).length ≤ 24 := by
              have h1 := reach_len (es.take i) c
              rw [List.length_take] at h1
              omega
            by_cases z : e.1 = c
            · rw [decide_eq_true (by rw [z])]
              refine iteT ⟨_, rfl, _, hD, ?_, ?_⟩
              · rw [List.length_map, sizeLine_eq]
                omega
              · refine ⟨fun a o ho => ?_, ?_⟩
                · rw [upd_ne (ne_of_none ho nD)]
                  exact sm _ _ ho
                · rw [upd_same, if_pos z, List.map_append]
                  rfl
            · rw [decide_eq_false (fun y => z (V.int.inj y))]
              refine iteF ⟨sm, ?_⟩
              rw [if_neg z]
              exact hD
    · have full : es.take xs.length = es := by
        rw [lenX]
        exact List.take_length
      rw [full] at hD
      refine ⟨D, _, rfl, .inl ⟨.of hD, fun p np => ?_⟩⟩
      exact q _ p (sm.trans (same_new np)) (sm.free np) upd_same
/-! ### longer_chains -/
def spLonger (K : PySem.W.Frag) (C : Addr) : Sp := fun vs H Q _ => ∃ (b : Addr) (size : Nat) (rs : List Row) (n : Str) (es : List Edge) (l : Addr) (xs : List V) (cs : List (List Int)), vs = [.ref b, .str n, .ref l] ∧ BoardAt K C H b size rs ∧ edgesFor rs n = some es ∧ es.length ≤ 24 ∧
  H l = some (.lst xs) ∧ RowsAt H xs cs ∧ (∀ c ∈ cs, c ≠ [] ∧ c.length ≤ 9) ∧ cs.length ≤ 10000 ∧ ∀ H' p ys, Same H H' → H p = none → H' p = some (.lst ys) → RowsAt H' ys (growAll es cs) → Q (.ref p) H'
theorem in_ints (n : Int) : ∀ ns : List Int, inV (.int n) (ns.map V.int) = decide (n ∈ ns)
  | [] => by simp [inV]
  | m :: ns => by
    have ih := in_ints n ns
    unfold inV at ih ⊢
    rw [List.map_cons, List.any_cons, ih]
    have e : eqV (.int m) (.int n) = decide (m = n) := Bool.beq_eq_decide_eq m n
    rw [e]
    by_cases h : m = n
    · simp [h]
    · simp [h, Ne.symm h]
theorem flat_ints' : ∀ ns : List Int, (ns.map V.int).all flatV = true
  | [] => rfl
  | n :: ns => by rw [List.map_cons, List.all_cons, flat_ints' ns]; rfl
theorem last_at {c : List Int} (h : c ≠ []) : atI (c.map V.int) (-1) = some (.int (lastI c)) := by
  have e : c = c.dropLast ++ [c.getLast h] := (List.dropLast_concat_getLast h).symm
  have e2 : lastI c = c.getLast h := by
    unfold lastI
    rw [List.getLastD_eq_getLast?, List.getLast?_eq_some_getLast h]
    rfl
  rw [e2]
  generalize c.getLast h = z at e
  rw [e, List.map_append]
  exact atI_last _ _
/-- a chain's longer ones so far -/
def partG (es : List Edge) (c : List Int) (j : Nat) : List (List Int) := (((reach es (lastI c)).take j).filter fun t => !decide (t ∈ c)).map fun t => c ++ [t]
theorem partG_snoc {es : List Edge} {c : List Int} {j : Nat} {t : Int} (h : (reach es (lastI c))[j]? = some t) : partG es c (j + 1) = if t ∈ c then partG es c j else partG es c j ++ [c ++ [t]] := by
  unfold partG
  rw [take_snoc h, List.filter_append, List.map_append]
  by_cases q : t ∈ c
  · rw [if_pos q, List.filter_cons_of_neg (by simpa using q)]
    simp
  · rw [if_neg q, List.filter_cons_of_pos (by simpa using q)]
    rfl
theorem partG_full (es : List Edge) (c : List Int) : partG es c (reach es (lastI c)).length = grow es c := by
  unfold partG
  rw [List.take_length, grow_reach]
theorem partG_len (es : List Edge) (c : List Int) (j : Nat) : (partG es c j).length ≤ es.length := by
  unfold partG
  rw [List.length_map]
  have h1 := List.length_filter_le (fun t => !decide (t ∈ c)) ((reach es (lastI c)).take j)
  rw [List.length_take] at h1
  have h2 := reach_len es (lastI c)
  omega
theorem ok_longer {f C : Addr} {fd : FuncData} (F : Fun K "longer_chains" "longer_chains" sLonger f fd) (TC : BoardC K mg C) (MR : Mtd P w K mg base CX0 C 4 "reached_from" (spReach K C)) :
    FnOk P w K mg base CX0 5 f fd ["board", "arrow", "chains"] (spLonger K C) := by
  refine F.ok cLonger (fun vs H Q E h => ?_) (fun cdv A outer s H vs Q E hr h => ?_)
  · obtain ⟨b, size, rs, n, es, l, xs, cs, rfl, _⟩ := h
    rfl
  · obtain ⟨b, size, rs, n, es, l, xs, cs, rfl, hB, hes, hl, hL, hrows, hcs, hlen, q⟩ := h
    refine ⟨_, pss_cons (ps_set (i := 3) cLonger.nd rfl (Or.inl rfl) (pe_lst pa_nil))
      (pss_cons (ps_for PassesOwn.never rfl (pi_list (pv 2)) (pg_name (i := 4) cLonger.nd rfl (Or.inl rfl))
        (pss_one (ps_for PassesOwn.never rfl (pi_tup (pe_mtd (E := E0) MR TC.cl hr (pv 0) pass0 (pa_cons (pv 1) (pa_cons (pe_ix ix_tup (pv 4) (pe_un un_neg pe_int) (fun _ _ => rfl)) pa_nil)))) (pg_name (i := 5) cLonger.nd rfl (Or.inl rfl))
          (pss_one (ps_if (pt_cmpR op_notIn_seq (pv 5) (pv 4) rfl) (pss_one (ps_expr (pe_bm PySem.F.plainAttrs_list PySem.F.slot_list_append PySem.F.type_list_append mt_append (pv 3) (pa_cons (pe_op op_catT (pv 4) (pe_tup (pa_cons (pv 5) pa_nil))) pa_nil)))) pss_nil)))))
      (pss_one (ps_ret (pv 3)))), ?_⟩
    have lenX := hrows.len
    refine ⟨Nat.zero_le _, fun lo nlo => ?_⟩
    refine ⟨_, rfl, l, rfl, ⟨xs, .of (same_new nlo _ _ hL)⟩, for_list (K := K) (a := l) (xs := xs) (fun i σ H' => ∃ v4 v5 ys, σ = [some (.ref b), some (.str n), some (.ref l), some (.ref lo), v4, v5] ∧ Same H H' ∧ H' lo = some (.lst ys) ∧ RowsAt H' ys (growAll es (cs.take i)))
      ⟨none, none, [], rfl, same_new nlo, upd_same, .nil⟩ (fun i σ H' _ ⟨_, _, _, _, sm, _⟩ => .of (sm _ _ hL)) ?_ ?_⟩
    · rintro i x σ H' hx ⟨v4, v5, ys, rfl, sm, hlo, hy⟩
      obtain ⟨ac, c, rfl, hci, hac⟩ := hrows.get hx
      have hc := hcs c (mem_at hci)
      have hil : i < cs.length := (List.getElem?_eq_some_iff.mp hci).1
      have hB' := hB.same sm
      obtain ⟨dx, p, hb, _⟩ := id hB'
      have hac' := sm _ _ hac
      refine ⟨_, rfl, b, dx, _, rfl, hb, no_reached _ _, _, rfl, _, rfl, _, rfl, ac, _, _, _, rfl, rfl, .of hac', last_at hc.1, ?_⟩
      refine ⟨b, size, rs, n, lastI c, es, rfl, hB', hes, hl, fun H2 rp s2 nrp hrp => ?_⟩
      have hlo2 := s2 _ _ hlo
      have hy2 := hy.same s2
      have lenP : ∀ j, (growAll es (cs.take i) ++ partG es c j).length ≤ 240024 := fun j => by
        have h1 := len_growAll es (cs.take i)
        have h2 := partG_len es c j
        rw [List.length_take] at h1
        rw [List.length_append]
        have h3 : min i cs.length * es.length ≤ 10000 * 24 := Nat.mul_le_mul (by omega) hl
        omega
      refine ⟨rp, rfl, ⟨_, .of hrp⟩, for_tup (K := K) (a := rp) (xs := (reach es (lastI c)).map V.int) (fun j σ H3 => ∃ v5 ys, σ = [some (.ref b), some (.str n), some (.ref l), some (.ref lo), some (.ref ac), v5] ∧ But lo H2 H3 ∧ H3 lo = some (.lst ys) ∧ RowsAt H3 ys (growAll es (cs.take i) ++ partG es c j))
        ⟨v5, ys, rfl, .refl _ _, hlo2, by simpa [partG] using hy2⟩ (fun j σ H3 _ ⟨_, _, _, bt, _⟩ => .of (bt _ _ (ne_of_none hlo nrp).symm hrp)) ?_ ?_⟩
      · rintro j x σ H3 hx3 ⟨v5, ys, rfl, bt, hlo3, hy3⟩
        rw [List.getElem?_map] at hx3
        cases htj : (reach es (lastI c))[j]? with
        | none =>
          rw [htj] at hx3
          cases hx3
        | some t =>
          rw [htj] at hx3
          obtain rfl : V.int t = x := Option.some.inj hx3
          have nac : ac ≠ lo := ne_of hac' hlo (by intro z; cases z)
          have hac3 := bt _ _ nac (s2 _ _ hac')
          have snoc := partG_snoc htj
          refine ⟨_, rfl, _, rfl, ac, c.map V.int, rfl, .inr (.of hac3), rfl, flat_ints' c, !decide (t ∈ c), congrArg V.bl (by rw [← in_ints t c]; rfl), ?_⟩
          by_cases m : t ∈ c
          · rw [decide_eq_true m]
            refine iteF ⟨_, ys, rfl, bt, hlo3, ?_⟩
            rw [snoc, if_pos m]
            exact hy3
          · rw [decide_eq_false m]
            refine iteT ⟨_, rfl, .inl ⟨rfl, _, .of hlo3⟩, _, rfl, _, rfl, (by show 1 ≤ sizeLine; decide), fun tp ntp => ?_⟩
            have st := same_new (o := .tup [.int t]) ntp
            refine ⟨ac, tp, c.map V.int, [.int t], rfl, rfl, .of (st _ _ hac3), .of upd_same, by simpa using hc.1, ?_, (fun z => by cases z), fun _ np nnp => ?_⟩
            · rw [List.length_map, sizeLine_eq]
              have := hc.2
              simp only [List.length_singleton]
              omega
            · have st2 := st.trans (same_new (o := .tup (c.map V.int ++ [.int t])) nnp)
              have hlo4 := st2 _ _ hlo3
              refine ⟨lo, ys, .ref np, rfl, rfl, hlo4, ?_, ?_⟩
              · have h1 := hy3.len
                have h2 := lenP j
                rw [sizeLine_eq]
                omega
              · refine ⟨_, ys ++ [.ref np], rfl, bt.trans ((But.of st2).trans .upd), upd_same, ?_⟩
                rw [snoc, if_neg m, ← List.append_assoc]
                have nl := NoL.lst (ys := ys ++ [.ref np]) hlo4
                refine RowsAt.snoc ?_ ((hy3.same st2).noL nl)
                refine nl _ _ (fun _ z => by cases z) ?_
                rw [upd_same, List.map_append]
                rfl
      · rintro σ H3 ⟨v5, ys, rfl, bt, hlo3, hy3⟩
        rw [List.length_map, partG_full] at hy3
        refine ⟨_, _, ys, rfl, fun a o ho => ?_, hlo3, ?_⟩
        · have na : a ≠ lo := ne_of_none ho nlo
          exact bt _ _ na (s2 _ _ (sm _ _ ho))
        · rw [take_snoc hci]
          unfold growAll at hy3 ⊢
          rw [List.flatMap_append]
          simpa using hy3
    · rintro σ H' ⟨v4, v5, ys, rfl, sm, hlo, hy⟩
      have full : cs.take xs.length = cs := by
        rw [lenX]
        exact List.take_length
      rw [full] at hy
      exact ⟨_, rfl, q _ lo ys sm nlo hlo hy⟩
end
end Cw

/-! chains_of. -/
namespace Cw
open PySem PySem.Spec PyProof.Rows L2
theorem edgesFor_in {rs : List Row} {n : Str} {es : List Edge} (h : edgesFor rs n = some es) : ∃ r ∈ rs, r.1 = n ∧ r.2 = es := by
  unfold edgesFor at h
  cases e : rs.find? (fun r => decide (r.1 = n)) with
  | none =>
    rw [e] at h
    cases h
  | some r =>
    rw [e] at h
    have h2 := List.find?_some e
    exact ⟨r, List.mem_of_find?_eq_some e, of_decide_eq_true h2, Option.some.inj h⟩
section
variable {P : Program} {w : World} {K : PySem.W.Frag} {mg : Str → Option Value} {base : Heap}
def spChains (K : PySem.W.Frag) (C CN CL : Addr) : Sp := fun vs H Q E => ∃ (b : Addr) (size : Nat) (rs : List Row) (n : Str) (v : V), vs = [.ref b, .str n, v] ∧ BoardAt K C H b size rs ∧ size ≤ 9 ∧ Good size rs ∧ Plain v ∧
  (edgesFor rs n = none → ∀ d H', Same H H' → H' d = some (.xd [("arrow", .str n)]) → E (.ref CN) (some d) H') ∧
  (∀ es, edgesFor rs n = some es → numIn v 1 4 = false → ∀ d H', Same H H' → H' d = some (.xd [("length", v)]) → E (.ref CL) (some d) H') ∧
  ∀ es (j : Nat), edgesFor rs n = some es → v = .int ((j + 1 : Nat) : Int) → j ≤ 3 → ∀ H' p ys, Same H H' → H' p = some (.tup ys) → RowsAt H' ys (chains size es j) → Q (.ref p) H'
theorem num_get {v : V} (h : numIn v 1 4 = true) : ∃ j : Nat, v = .int ((j + 1 : Nat) : Int) ∧ j ≤ 3 := by
  cases v with
  | int i =>
    have h := Bool.and_eq_true_iff.mp h
    have h1 := of_decide_eq_true h.1
    have h2 := of_decide_eq_true h.2
    exact ⟨(i - 1).toNat, by congr 1; omega, by omega⟩
  | _ => cases h
theorem ok_chains {f C CN CL : Addr} {fd : FuncData} (F : Fun K "chains_of" "chains_of" sChains f fd) (T : Free mg) (TN : Nums mg) (TC : BoardC K mg C) (TE : ErrC K mg CL "BadLength" "length") (TI : ErrI P w K mg base CL "length") (ME : Mtd P w K mg base (L2.CX P w) C 3 "edges_of" (spEdges K C CN))
    (DN : Def P w K mg base 1 "is_number" spNum) (DL : Def P w K mg base 5 "longer_chains" (spLonger K C)) : FnOk P w K mg base (L2.CX P w) 6 f fd ["board", "arrow", "length"] (spChains K C CN CL) := by
  refine F.okX cChains (fun vs H Q E h => ?_) (fun cdv A outer s H vs Q E hr h => ?_)
  · obtain ⟨b, size, rs, n, v, rfl, _⟩ := h
    rfl
  · obtain ⟨b, size, rs, n, v, rfl, hB, hz, hG, hv, q1, q2, q3⟩ := h
    obtain ⟨t4, h4⟩ := TN.length
    have hr3 : Room 3 _ := hr.mono (by decide)
    have hr2 : Room 2 _ := hr.mono (by decide)
    have hr1 : Room 1 _ := hr.mono (by decide)
    refine ⟨_, pss_cons (ps_expr (pe_mtd (E := E) ME TC.cl hr3 (pv 0) (passes_call (takes_of rfl rfl rfl rfl) (fun _ _ _ _ h => h)) (pa_cons (pv 1) pa_nil)))
      (pss_cons (ps_if (pt_not (pt_val (pe_def DN hr1 (by rfl) (pa_cons (pv 2) (pa_cons pe_int (pa_cons (pe_glob (v := .int 4) (by rfl) h4 ⟨_, rfl⟩) pa_nil)))))) (pss_one (ps_err rfl TE TI hr2 (takes_of rfl rfl rfl rfl) (pv 2) (by rfl))) pss_nil)
      (pss_cons (ps_setLc (i := 3) (own := [("cell", 5)]) (g := gName 5) (tt := tYes) rfl cChains.nd rfl rfl (sw_true rfl rfl rfl (by decide +kernel)) (pi_range1 (by rfl) T.range (pa_cons (pe_fld (pv 0) rfl) pa_nil)) (blkOk_by (N := ["board", "arrow", "length", "chains", "turn", "cell"]) (sc := defScope sChains) (by decide +kernel))
          (fun _ _ _ _ _ => pg_name (i := 5) cChains.nd rfl (Or.inl rfl)) (fun _ _ _ _ _ => pts_nil) (fun _ _ _ _ _ => pe_tup (pa_cons (pv 5) pa_nil)))
      (pss_cons (ps_for (passes_of rfl) rfl (pi_range1 (by rfl) T.range (pa_cons (pe_op op_sub (pv 2) pe_int) pa_nil)) (pg_name (i := 4) cChains.nd rfl (Or.inl rfl))
        (pss_one (ps_set (i := 3) cChains.nd rfl (Or.inl rfl) (pe_def DL (hr.mono (by decide)) (by rfl) (pa_cons (pv 0) (pa_cons (pv 1) (pa_cons (pv 3) pa_nil)))))))
      (pss_one (ps_ret (pe_callTy call_tuple_of (by rfl) T.tuple boot_tuple (pa_cons (pv 3) pa_nil))))))), ?_⟩
    obtain ⟨dx, p, hb, hdp⟩ := id hB
    refine ⟨_, rfl, b, dx, _, rfl, hb, no_edges_of _ _, _, rfl, b, size, rs, n, rfl, hB, fun es u hes _ => ?_, q1⟩
    obtain ⟨r, hr', rfl, rfl⟩ := edgesFor_in hes
    have gr := hG.rows r hr'
    refine ⟨_, rfl, _, 1, 4, rfl, hv, ?_⟩
    cases hn : numIn v 1 4 with
    | false => exact ⟨false, rfl, iteT ⟨_, rfl, err_reads fun d H' sm hd => q2 r.2 hes hn d H' sm hd⟩⟩
    | true =>
      obtain ⟨j, rfl, hj⟩ := num_get hn
      refine ⟨true, rfl, iteF ?_⟩
      refine ⟨_, rfl, b, C, dx, _, _, rfl, hb, TC.cl, TC.nS, bf_size _ _, (size : Int), rfl, by omega, by omega, fun D nD => lc_range (lo := 0) (n := ((size : Nat) : Int).toNat) (fun i H' => Same H H' ∧ ∃ ys, H' D = some (.lst ys) ∧ RowsAt H' ys ((List.range i).map fun (i : Nat) => [(i : Int)]))
        ⟨same_new nD, [], upd_same, .nil⟩ (fun i H' hi ⟨sm, ys, hD, hy⟩ => ?_) fun H' ⟨sm, ys, hD, hy⟩ => ?_⟩
      · refine ⟨rfl, _, rfl, (by show 1 ≤ sizeLine; decide), fun p np => ?_⟩
        have st := same_new (o := .tup [.int (0 + (i : Int))]) np
        have lenY := hy.len
        rw [List.length_map, List.length_range] at lenY
        refine ⟨ys, st _ _ hD, by rw [sizeLine_eq]; omega, fun a o ho => ?_, _, upd_same, ?_⟩
        · rw [upd_ne (ne_of_none ho nD)]
          exact st _ _ (sm _ _ ho)
        · rw [List.range_succ, List.map_append]
          have nl := NoL.lst (ys := ys ++ [.ref p]) (st _ _ hD)
          refine RowsAt.snoc (nl _ _ (fun _ z => by cases z) ?_) ((hy.same st).noL nl)
          rw [upd_same, Int.zero_add]
          rfl
      · have es0 : (List.range ((size : Nat) : Int).toNat).map (fun (i : Nat) => [(i : Int)]) = chains size r.2 0 := by
          rw [Int.toNat_natCast]
          rfl
        rw [es0] at hy
        refine ⟨_, rfl, _, _, rfl, rfl, (((j + 1 : Nat) : Int) - 1), rfl, by omega, by omega, ?_⟩
        refine for_range (lo := 0) (n := (((j + 1 : Nat) : Int) - 1).toNat) (fun i σ H' => ∃ l v4 v5 xs, σ = [some (.ref b), some (.str r.1), some (.int ((j + 1 : Nat) : Int)), some (.ref l), v4, v5] ∧ Same H H' ∧ H' l = some (.lst xs) ∧ RowsAt H' xs (chains size r.2 i))
          ⟨D, none, none, ys, rfl, sm, hD, hy⟩ ?_ ?_
        · rintro i σ H2 hi ⟨l, v4, v5, xs, rfl, s2, hl, hx⟩
          have asc := asc_chains (size := size) gr.asc i
          refine ⟨_, rfl, _, rfl, _, rfl, b, size, rs, r.1, r.2, l, xs, chains size r.2 i, rfl, hB.same s2, hes, gr.few, hl, hx, fun c hc => ?_, ?_, fun H3 p3 ys3 s3 np3 hp3 hy3 => ?_⟩
          · have h1 := asc.2 c hc
            refine ⟨fun z => ?_, by omega⟩
            rw [z] at h1
            simp at h1
          · have h1 := len_chains hz gr.few (size := size) i
            have h2 : 24 ^ i ≤ 24 ^ 2 := Nat.pow_le_pow_right (by decide) (by omega)
            omega
          · exact ⟨p3, _, _, ys3, rfl, s2.trans s3, hp3, hy3⟩
        · rintro σ H2 ⟨l, v4, v5, xs, rfl, s2, hl, hx⟩
          have ej : (((j + 1 : Nat) : Int) - 1).toNat = j := by omega
          rw [ej] at hx
          refine ⟨_, rfl, l, xs, rfl, .inl ⟨.of hl, fun p np => ?_⟩⟩
          have st := same_new (o := .tup xs) np
          exact q3 r.2 j hes rfl hj _ p xs (s2.trans st) upd_same (hx.same st)
end
end Cw

/-! The law's hand: _law_hand, _law_mixed, _law_take, _law_pick. -/
namespace Cw
open PySem PySem.Spec PyProof.Rows L2
/-- a hand at h, its cells at c -/
def HandAt (H : Hp) (h c : Addr) : Prop := ∃ (i : Nat) (r t : Int) (cs : List Int), H h = some (.lst [.ref c, .int (i : Int), .int r, .int t]) ∧ H c = some (.lst (cs.map V.int))
theorem HandAt.same {H H' : Hp} {h c : Addr} (e : Same H H') (q : HandAt H h c) : HandAt H' h c := by
  obtain ⟨i, r, t, cs, h1, h2⟩ := q
  exact ⟨i, r, t, cs, e _ _ h1, e _ _ h2⟩
theorem HandAt.ne {H : Hp} {h c : Addr} (q : HandAt H h c) : c ≠ h := fun z => by
  obtain ⟨i, r, t, cs, h1, h2⟩ := q
  rw [z, h1] at h2
  cases cs with
  | nil => cases h2
  | cons a b => cases h2
theorem HandAt.but {H H' : Hp} {h c x : Addr} (e : But x H H') (n1 : h ≠ x) (n2 : c ≠ x) (q : HandAt H h c) : HandAt H' h c := by
  obtain ⟨i, r, t, cs, h1, h2⟩ := q
  exact ⟨i, r, t, cs, e _ _ n1 h1, e _ _ n2 h2⟩
theorem HandAt.at {H : Hp} {h c : Addr} (q : HandAt H h c) : (∃ xs, H h = some (.lst xs)) ∧ ∃ ys, H c = some (.lst ys) := by
  obtain ⟨i, r, t, cs, h1, h2⟩ := q
  exact ⟨⟨_, h1⟩, _, h2⟩
section
variable {K : PySem.W.Frag} {H : Hp} {h : Addr} {a0 a1 a2 a3 : V} {Q : VK}
theorem hix0 (e : H h = some (.lst [a0, a1, a2, a3])) (q : Q a0 H) : rIx K (.ref h) (.int 0) H Q := .inl ⟨h, _, 0, a0, rfl, rfl, .of e, rfl, q⟩
theorem hix1 (e : H h = some (.lst [a0, a1, a2, a3])) (q : Q a1 H) : rIx K (.ref h) (.int 1) H Q := .inl ⟨h, _, 1, a1, rfl, rfl, .of e, rfl, q⟩
theorem hix2 (e : H h = some (.lst [a0, a1, a2, a3])) (q : Q a2 H) : rIx K (.ref h) (.int 2) H Q := .inl ⟨h, _, 2, a2, rfl, rfl, .of e, rfl, q⟩
theorem hix3 (e : H h = some (.lst [a0, a1, a2, a3])) (q : Q a3 H) : rIx K (.ref h) (.int 3) H Q := .inl ⟨h, _, 3, a3, rfl, rfl, .of e, rfl, q⟩
end
section
variable {P : Program} {w : World} {K : PySem.W.Frag} {mg : Str → Option Value} {base : Heap}
/-! ### _law_hand -/
def spHand (K : PySem.W.Frag) : Sp := fun vs H Q _ => ∃ (a : Addr) (ns : List Int), vs = [.ref a] ∧ SqL K H a (ns.map V.int) ∧ ns.length ≤ 63 ∧ ∀ H' h c, Same H H' → H h = none → H c = none → HandAt H' h c → Q (.ref h) H'
theorem ok_hand {f : Addr} {fd : FuncData} (F : Fun K "_law_hand" "_law_hand" lHand f fd) (T : Free mg) : FnOk P w K mg base CX0 1 f fd ["_law_script"] (spHand K) := by
  refine F.ok dHand (fun vs H Q E h => ?_) (fun cdv A outer s H vs Q E hr h => ?_)
  · obtain ⟨a, ns, rfl, _⟩ := h
    rfl
  · obtain ⟨a, ns, rfl, hS, hl, q⟩ := h
    refine ⟨_, pss_cons (ps_set (i := 1) dHand.nd rfl (Or.inl rfl) (pe_op op_add pe_int (pe_callB call_len_seq (by rfl) T.len PySem.boot_len (pa_cons (pv 0) pa_nil))))
      (pss_cons (ps_set (i := 2) dHand.nd rfl (Or.inl rfl) (pe_lst pa_nil))
      (pss_cons (ps_for PassesOwn.never rfl (pi_list (pv 0)) (pg_name (i := 3) dHand.nd rfl (Or.inl rfl))
        (pss_cons (ps_set (i := 1) dHand.nd rfl (Or.inl rfl) (pe_op op_mod (pe_callTy call_int1 (by rfl) T.int boot_int (pa_cons (pe_op op_add (pe_op op_add (pe_op op_mul (pv 1) pe_int) (pe_op op_mul (pe_callTy call_int1 (by rfl) T.int boot_int (pa_cons (pv 3) pa_nil)) pe_int)) pe_int) pa_nil)) pe_int))
        (pss_one (ps_expr (pe_bm PySem.F.plainAttrs_list PySem.F.slot_list_append PySem.F.type_list_append mt_append (pv 2) (pa_cons (pe_callB call_abs (by rfl) T.abs boot_abs (pa_cons (pe_callTy call_int1 (by rfl) T.int boot_int (pa_cons (pv 3) pa_nil)) pa_nil)) pa_nil))))))
      (pss_one (ps_ret (pe_lst (pa_cons (pv 2) (pa_cons pe_int (pa_cons pe_int (pa_cons (pv 1) pa_nil))))))))), ?_⟩
    refine ⟨_, rfl, a, _, rfl, .inl hS, _, _, rfl, rfl, Nat.zero_le _, fun c nc => ?_⟩
    refine ⟨_, rfl, a, rfl, ⟨_, (same_new nc).seq hS⟩, for_list (K := K) (a := a) (xs := ns.map V.int) (fun i σ H' => ∃ (t : Int) (cs : List Int) (v : Option V), σ = [some (.ref a), some (.int t), some (.ref c), v] ∧ Same H H' ∧ H' c = some (.lst (cs.map V.int)) ∧ cs.length = i)
      ⟨_, [], none, rfl, same_new nc, upd_same, rfl⟩ (fun i σ H' _ ⟨_, _, _, _, sm, _⟩ => sm.seq hS) ?_ ?_⟩
    · rintro i y σ H' hi ⟨t, cs, v, rfl, sm, hc, hcl⟩
      have hi63 := (List.getElem?_eq_some_iff.mp hi).1
      rw [List.length_map] at hi63
      obtain ⟨u, rfl⟩ : ∃ u, y = V.int u := by
        rw [List.getElem?_map] at hi
        cases e : ns[i]? with
        | none =>
          rw [e] at hi
          cases hi
        | some u =>
          rw [e] at hi
          exact ⟨u, (Option.some.inj hi).symm⟩
      refine ⟨_, rfl, _, _, rfl, rfl, .inr ⟨by decide, by decide⟩, _, rfl, .inl ⟨_, rfl, _, _, rfl, rfl, .inr ⟨by decide, by decide⟩, _, _, rfl, rfl, _, _, rfl, rfl, .inl ⟨_, rfl, _, _, rfl, rfl, (by show (0 : Int) < 2147483563; decide), ?_⟩⟩⟩
      refine ⟨_, rfl, .inl ⟨rfl, _, .of hc⟩, _, rfl, .inl ⟨_, rfl, _, rfl, c, _, _, rfl, rfl, hc, ?_, ?_⟩⟩
      · rw [List.length_map, sizeLine_eq]
        omega
      · refine ⟨_, cs ++ [if u < 0 then -u else u], _, rfl, fun b o e => ?_, ?_, ?_⟩
        · rw [upd_ne (ne_of_none e nc)]
          exact sm _ _ e
        · rw [upd_same, List.map_append]
          rfl
        · rw [List.length_append, hcl]
          rfl
    · rintro σ H' ⟨t, cs, v, rfl, sm, hc, hcl⟩
      refine ⟨_, rfl, _, rfl, (by show 4 ≤ sizeLine; decide), fun h nh => ?_⟩
      have st := same_new (o := .lst [.ref c, .int 0, .int 0, .int t]) nh
      exact q _ h c (sm.trans st) (sm.free nh) nc ⟨0, 0, t, cs, upd_same, st _ _ hc⟩
/-! ### _law_mixed -/
def spMixed : Sp := fun vs H Q _ => ∃ a b : Int, vs = [.int a, .int b] ∧ ∀ z : Int, Q (.int z) H
theorem ok_mixed {f : Addr} {fd : FuncData} (F : Fun K "_law_mixed" "_law_mixed" lMixed f fd) (T : Free mg) : FnOk P w K mg base CX0 1 f fd ["_law_number", "_law_turn"] spMixed := by
  refine F.ok dMixed (fun vs H Q E h => ?_) (fun cdv A outer s H vs Q E hr h => ?_)
  · obtain ⟨a, b, rfl, _⟩ := h
    rfl
  · obtain ⟨a, b, rfl, q⟩ := h
    refine ⟨_, pss_cons (ps_set (i := 2) dMixed.nd rfl (Or.inl rfl) (pe_op op_mod (pe_callTy call_int1 (by rfl) T.int boot_int (pa_cons (pe_op op_add (pe_op op_add (pe_op op_mul (pv 0) pe_int) (pe_op op_mul (pv 1) pe_int)) pe_int) pa_nil)) pe_int))
      (pss_cons (ps_set (i := 3) dMixed.nd rfl (Or.inl rfl) (pe_op op_mod (pe_callTy call_int1 (by rfl) T.int boot_int (pa_cons (pe_op op_add (pe_op op_add (pe_op op_mul (pv 2) (pv 2)) (pe_op op_mul (pv 1) pe_int)) (pe_op op_fdiv (pv 2) pe_int)) pa_nil)) pe_int))
      (pss_one (ps_ret (pe_op op_fdiv (pe_callTy call_int1 (by rfl) T.int boot_int (pa_cons (pe_op op_mod (pe_callTy call_int1 (by rfl) T.int boot_int (pa_cons (pe_op op_add (pe_op op_mul (pv 3) pe_int) (pe_op op_fdiv (pv 2) pe_int)) pa_nil)) pe_int) pa_nil)) pe_int)))), ?_⟩
    refine ⟨_, rfl, _, _, rfl, rfl, .inr ⟨by decide, by decide⟩, _, rfl, _, _, rfl, rfl, .inr ⟨by decide, by decide⟩, _, _, rfl, rfl, _, _, rfl, rfl, .inl ⟨_, rfl, _, _, rfl, rfl, (by show (0 : Int) < 2147483399; decide), ?_⟩⟩
    have z1 : -(2 ^ 64) < (a * 40692 + b * 6421 + 15487) % 2147483399 ∧ (a * 40692 + b * 6421 + 15487) % 2147483399 < 2 ^ 64 := by omega
    refine ⟨_, rfl, _, rfl, _, _, rfl, rfl, .inl z1, _, rfl, _, _, rfl, rfl, .inr ⟨by decide, by decide⟩, _, _, rfl, rfl, _, rfl, _, _, rfl, rfl, ⟨by decide, by decide⟩, _, _, rfl, rfl, .inl ⟨_, rfl, _, _, rfl, rfl, (by show (0 : Int) < 2147483563; decide), ?_⟩⟩
    refine ⟨_, rfl, _, _, rfl, rfl, .inr ⟨by decide, by decide⟩, _, rfl, _, _, rfl, rfl, ⟨by decide, by decide⟩, _, _, rfl, rfl, .inl ⟨_, rfl, _, _, rfl, rfl, (by show (0 : Int) < 2147483549; decide), .inl ⟨_, rfl, _, _, rfl, rfl, ⟨by decide, by decide⟩, ?_⟩⟩⟩
    exact q _
/-! ### _law_take -/
def spTake : Sp := fun vs H Q _ => ∃ (h c : Addr) (m : Nat), vs = [.ref h, .int (m : Int)] ∧ HandAt H h c ∧ 1 ≤ m ∧ m < 1000000 ∧ ∀ (j : Nat) H', j < m → But h H H' → HandAt H' h c → Q (.int (j : Int)) H'
theorem ok_take {f : Addr} {fd : FuncData} (F : Fun K "_law_take" "_law_take" lTake f fd) (T : Free mg) (DM : Def P w K mg base 1 "_law_mixed" spMixed) : FnOk P w K mg base CX0 2 f fd ["_law_hand_here", "_law_many"] spTake := by
  refine F.ok dTake (fun vs H Q E h => ?_) (fun cdv A outer s H vs Q E hr h => ?_)
  · obtain ⟨h, c, m, rfl, _⟩ := h
    rfl
  · obtain ⟨h, c, m, rfl, hH, hm1, hm2, q⟩ := h
    have fin : ∀ (z : Int) (H' : Hp), But h H H' → HandAt H' h c → Q (.int (z % (m : Int))) H' := fun z H' b1 b2 => by
      have h1 := Int.emod_nonneg z (show (m : Int) ≠ 0 by omega)
      have h2 := Int.emod_lt_of_pos z (show 0 < (m : Int) by omega)
      have e : z % (m : Int) = ((z % (m : Int)).toNat : Int) := (Int.toNat_of_nonneg h1).symm
      rw [e]
      exact q _ H' (by omega) b1 b2
    have nch := hH.ne
    have pm : (0 : Int) < (m : Int) := by omega
    refine ⟨_, pss_cons (ps_if (PW.pt (pw_and (pt_cmpR op_eq (pe_ix ix_seq (pv 0) pe_int (fun _ _ => rfl)) pe_int (nomark _)) (pw_and1 (pt_cmpR op_lt (pe_ix ix_seq (pv 0) pe_int (fun _ _ => rfl)) (pe_callB call_len_seq (by rfl) T.len PySem.boot_len (pa_cons (pe_ix ix_seq (pv 0) pe_int (fun _ _ => rfl)) pa_nil)) (nomark _)))))
        (pss_cons (ps_set (i := 2) dTake.nd rfl (Or.inl rfl) (pe_ix ix_seq (pe_ix ix_seq (pv 0) pe_int (fun _ _ => rfl)) (pe_ix ix_seq (pv 0) pe_int (fun _ _ => rfl)) (fun _ _ => rfl)))
        (pss_cons (ps_asg (pe_op op_add (pe_ix ix_seq (pv 0) pe_int (fun _ _ => rfl)) pe_int) (pg_sub (pv 0) pe_int set_list))
        (pss_cons (ps_if (pt_cmpR op_lt (pv 2) (pe_op op_pow pe_int pe_int) (nomark _)) (pss_one (ps_ret (pe_op op_mod (pe_callTy call_int1 (by rfl) T.int boot_int (pa_cons (pe_def DM hr (by rfl) (pa_cons (pe_op op_mod (pe_callTy call_int1 (by rfl) T.int boot_int (pa_cons (pe_op op_add (pe_op op_mul (pv 2) pe_int) (pe_ix ix_seq (pv 0) pe_int (fun _ _ => rfl))) pa_nil)) pe_int) (pa_cons (pe_ix ix_seq (pv 0) pe_int (fun _ _ => rfl)) pa_nil))) pa_nil)) (pv 1)))) pss_nil)
        (pss_one (ps_asg (pv 2) (pg_sub (pv 0) pe_int set_list)))))) pss_nil)
      (pss_cons (ps_if (pt_cmpR op_gt (pe_ix ix_seq (pv 0) pe_int (fun _ _ => rfl)) pe_int (nomark _))
        (pss_cons (ps_set (i := 3) dTake.nd rfl (Or.inl rfl) (pe_ix ix_seq (pv 0) pe_int (fun _ _ => rfl)))
        (pss_cons (ps_asg (pe_op op_fdiv (pe_callTy call_int1 (by rfl) T.int boot_int (pa_cons (pv 3) pa_nil)) (pv 1)) (pg_sub (pv 0) pe_int set_list))
        (pss_one (ps_ret (pe_op op_mod (pe_callTy call_int1 (by rfl) T.int boot_int (pa_cons (pv 3) pa_nil)) (pv 1)))))) pss_nil)
      (pss_cons (ps_asg (pe_op op_mod (pe_callTy call_int1 (by rfl) T.int boot_int (pa_cons (pe_op op_add (pe_ix ix_seq (pv 0) pe_int (fun _ _ => rfl)) pe_int) pa_nil)) pe_int) (pg_sub (pv 0) pe_int set_list))
      (pss_one (ps_ret (pe_op op_mod (pe_callTy call_int1 (by rfl) T.int boot_int (pa_cons (pe_def DM hr (by rfl) (pa_cons (pe_ix ix_seq (pv 0) pe_int (fun _ _ => rfl)) (pa_cons (pe_ix ix_seq (pv 0) pe_int (fun _ _ => rfl)) pa_nil))) pa_nil)) (pv 1)))))), ?_⟩
    obtain ⟨i0, r0, t0, cs, hh0, hc0⟩ := hH
    have b0 : But h H H := .refl _ _
    have store : ∀ {H' : Hp} {ys : List V}, But h H H' → But h H (upd H' h (.lst ys)) := fun b => b.trans .upd
    have cell : ∀ {H' : Hp} {ys : List V}, H' c = some (.lst (cs.map V.int)) → upd H' h (.lst ys) c = some (.lst (cs.map V.int)) := fun e => by
      rw [upd_ne nch]
      exact e
    refine ⟨_, rfl, hix2 hh0 ⟨rfl, _, rfl, ?_⟩⟩
    by_cases z : r0 = 0
    · rw [z] at hh0
      rw [decide_eq_true (show V.int r0 = V.int 0 by rw [z])]
      refine iteT ⟨_, rfl, hix1 hh0 ⟨_, rfl, hix0 hh0 ⟨c, _, rfl, .inl (.of hc0), _, _, rfl, rfl, _, rfl, ?_⟩⟩⟩
      by_cases y : (i0 : Int) < ((cs.map V.int).length : Int)
      · rw [decide_eq_true y]
        rw [List.length_map] at y
        obtain ⟨u, hu⟩ : ∃ u, (cs.map V.int)[i0]? = some (V.int u) := ⟨cs[i0]'(by omega), by rw [List.getElem?_map, List.getElem?_eq_getElem (by omega)]; rfl⟩
        refine iteT ⟨_, rfl, hix0 hh0 ⟨_, rfl, hix1 hh0 (At.ix (.inl hc0) hu ?_)⟩⟩
        refine ⟨_, rfl, hix1 hh0 ⟨_, _, rfl, rfl, _, rfl, h, _, 1, 1, rfl, rfl, hh0, rfl, ?_⟩⟩
        have hh1 : upd H h (.lst [.ref c, .int ((i0 : Int) + 1), .int 0, .int t0]) h = some (.lst [.ref c, .int ((i0 + 1 : Nat) : Int), .int 0, .int t0]) := upd_same
        refine ⟨_, rfl, _, _, rfl, rfl, ⟨by decide, by decide, by decide⟩, _, _, rfl, rfl, _, rfl, ite2 (fun _ => ?_) (fun _ => ?_)⟩
        · refine ⟨_, rfl, _, _, rfl, rfl, .inr ⟨by decide, by decide⟩, _, rfl, hix3 hh1 ⟨_, _, rfl, rfl, .inl ⟨_, rfl, _, _, rfl, rfl, (by show (0 : Int) < 2147483563; decide), _, rfl, hix1 hh1 ⟨_, _, rfl, fun z => .inl ⟨_, rfl, _, rfl, _, _, rfl, rfl, pm, ?_⟩⟩⟩⟩⟩
          exact fin _ _ (store b0) ⟨_, _, _, cs, hh1, cell hc0⟩
        · refine ⟨_, rfl, _, rfl, h, _, 2, 2, rfl, rfl, hh1, rfl, ?_⟩
          have hh2 : upd (upd H h (.lst [.ref c, .int ((i0 : Int) + 1), .int 0, .int t0])) h (.lst [.ref c, .int ((i0 + 1 : Nat) : Int), .int u, .int t0]) h = some (.lst [.ref c, .int ((i0 + 1 : Nat) : Int), .int u, .int t0]) := upd_same
          have hc2 := cell (ys := [.ref c, .int ((i0 + 1 : Nat) : Int), .int u, .int t0]) (cell (ys := [.ref c, .int ((i0 : Int) + 1), .int 0, .int t0]) hc0)
          have b2 : But h H (upd (upd H h (.lst [.ref c, .int ((i0 : Int) + 1), .int 0, .int t0])) h (.lst [.ref c, .int ((i0 + 1 : Nat) : Int), .int u, .int t0])) := store (store b0)
          refine ⟨_, rfl, hix2 hh2 ⟨_, _, rfl, rfl, _, rfl, ite2 (fun _ => ?_) (fun _ => ?_)⟩⟩
          · refine ⟨_, rfl, hix2 hh2 ⟨_, rfl, .inl ⟨_, rfl, _, rfl, _, _, rfl, rfl, ⟨pm, by show (m : Int) < 1073741824; omega⟩, _, rfl, h, _, 2, 2, rfl, rfl, hh2, rfl, ?_⟩⟩⟩
            refine ⟨_, rfl, .inl ⟨_, rfl, _, rfl, _, _, rfl, rfl, pm, ?_⟩⟩
            exact fin _ _ (store b2) ⟨_, _, _, cs, upd_same, cell hc2⟩
          · refine ⟨_, rfl, hix3 hh2 ⟨_, _, rfl, rfl, .inl ⟨_, rfl, _, _, rfl, rfl, (by show (0 : Int) < 2147483563; decide), _, rfl, h, _, 3, 3, rfl, rfl, hh2, rfl, ?_⟩⟩⟩
            refine ⟨_, rfl, hix3 upd_same ⟨_, rfl, hix1 upd_same ⟨_, _, rfl, fun z => .inl ⟨_, rfl, _, rfl, _, _, rfl, rfl, pm, ?_⟩⟩⟩⟩
            exact fin _ _ (store b2) ⟨_, _, _, cs, upd_same, cell hc2⟩
      · rw [decide_eq_false y]
        refine iteF ?_
        refine ⟨_, rfl, hix2 hh0 ⟨_, _, rfl, rfl, _, rfl, ite2 (fun _ => ?_) (fun _ => ?_)⟩⟩
        · refine ⟨_, rfl, hix2 hh0 ⟨_, rfl, .inl ⟨_, rfl, _, rfl, _, _, rfl, rfl, ⟨pm, by show (m : Int) < 1073741824; omega⟩, _, rfl, h, _, 2, 2, rfl, rfl, hh0, rfl, ?_⟩⟩⟩
          refine ⟨_, rfl, .inl ⟨_, rfl, _, rfl, _, _, rfl, rfl, pm, ?_⟩⟩
          exact fin _ _ (store b0) ⟨_, _, _, cs, upd_same, cell hc0⟩
        · refine ⟨_, rfl, hix3 hh0 ⟨_, _, rfl, rfl, .inl ⟨_, rfl, _, _, rfl, rfl, (by show (0 : Int) < 2147483563; decide), _, rfl, h, _, 3, 3, rfl, rfl, hh0, rfl, ?_⟩⟩⟩
          refine ⟨_, rfl, hix3 upd_same ⟨_, rfl, hix1 upd_same ⟨_, _, rfl, fun z => .inl ⟨_, rfl, _, rfl, _, _, rfl, rfl, pm, ?_⟩⟩⟩⟩
          exact fin _ _ (store b0) ⟨_, _, _, cs, upd_same, cell hc0⟩
    · rw [decide_eq_false (fun y => z (V.int.inj y))]
      refine iteF ?_
      refine ⟨_, rfl, hix2 hh0 ⟨_, _, rfl, rfl, _, rfl, ite2 (fun _ => ?_) (fun _ => ?_)⟩⟩
      · refine ⟨_, rfl, hix2 hh0 ⟨_, rfl, .inl ⟨_, rfl, _, rfl, _, _, rfl, rfl, ⟨pm, by show (m : Int) < 1073741824; omega⟩, _, rfl, h, _, 2, 2, rfl, rfl, hh0, rfl, ?_⟩⟩⟩
        refine ⟨_, rfl, .inl ⟨_, rfl, _, rfl, _, _, rfl, rfl, pm, ?_⟩⟩
        exact fin _ _ (store b0) ⟨_, _, _, cs, upd_same, cell hc0⟩
      · refine ⟨_, rfl, hix3 hh0 ⟨_, _, rfl, rfl, .inl ⟨_, rfl, _, _, rfl, rfl, (by show (0 : Int) < 2147483563; decide), _, rfl, h, _, 3, 3, rfl, rfl, hh0, rfl, ?_⟩⟩⟩
        refine ⟨_, rfl, hix3 upd_same ⟨_, rfl, hix1 upd_same ⟨_, _, rfl, fun z => .inl ⟨_, rfl, _, rfl, _, _, rfl, rfl, pm, ?_⟩⟩⟩⟩
        exact fin _ _ (store b0) ⟨_, _, _, cs, upd_same, cell hc0⟩
end
end Cw

/-! The law's _law_pick, _law_name, _law_names. -/
namespace Cw
open PySem PySem.Spec PyProof.Rows L2
/-! ### names -/
theorem empty_str : (("" : Str)) = Str.empty := by decide +kernel
theorem join_signs : ∀ {ys : List Str}, (∀ y ∈ ys, ∃ c ∈ letters.cps.toList, y = sign c) → (Str.join Str.empty ys).length = ys.length ∧ ∀ c ∈ (Str.join Str.empty ys).cps.toList, c ∈ letters.cps.toList
  | [], _ => ⟨rfl, fun c h => by
      have h' : c ∈ ([] : List Nat) := h
      cases h'⟩
  | [y], h => by
    obtain ⟨c, hc, rfl⟩ := h y List.mem_cons_self
    exact ⟨rfl, fun d hd => by
      have hd' : d ∈ [c] := hd
      rw [List.mem_singleton.mp hd']
      exact hc⟩
  | y :: z :: r, h => by
    obtain ⟨c, hc, rfl⟩ := h y List.mem_cons_self
    have ih := join_signs (ys := z :: r) fun x hx => h x (List.mem_cons_of_mem _ hx)
    have e : Str.join Str.empty (sign c :: z :: r) = sign c ++ Str.join Str.empty (z :: r) := by
      show sign c ++ Str.empty ++ Str.join Str.empty (z :: r) = _
      rw [Str.append_empty]
    rw [e]
    refine ⟨?_, fun d hd => ?_⟩
    · rw [Str.length_append, ih.1]
      show 1 + (r.length + 1) = r.length + 1 + 1
      omega
    · rw [Str.cps_append, Array.toList_append] at hd
      rcases List.mem_append.mp hd with q | q
      · have q' : d ∈ [c] := q
        rw [List.mem_singleton.mp q']
        exact hc
      · exact ih.2 d q
theorem name_join {ys : List Str} (h1 : 1 ≤ ys.length) (h8 : ys.length ≤ 8) (h : ∀ y ∈ ys, ∃ c ∈ letters.cps.toList, y = sign c) : Name (Txt.join "" ys) := by
  have e : Txt.join ("" : Str) ys = Str.join Str.empty ys := by
    rw [empty_str]
    exact StrLaws.glued_eq_join _ _
  rw [e]
  have q := join_signs h
  exact ⟨by rw [q.1]; exact h1, by rw [q.1]; exact h8, q.2⟩
theorem name_cut {z : Str} (h : Name z) {c : Nat} (hc : c ∈ letters.cps.toList) : Name (cutS z none (some 7) ++ sign c) ∧ (cutS z none (some 7)).length ≤ 7 := by
  have hz := h.2.1
  have e : (cutS z none (some 7)).cps.toList = z.cps.toList.take (min 7 z.length) := by
    have e7 : HT.sIx z.length z.length (some (7 : Int)) = min 7 z.length := HT.sIx_nat z.length z.length 7
    unfold cutS
    rw [e7, HT.sIx_none, List.drop_zero, Nat.sub_zero]
  have el : (cutS z none (some 7)).length = min 7 z.length := by
    show (cutS z none (some 7)).cps.size = _
    rw [← Array.length_toList, e, List.length_take]
    show min (min 7 z.length) z.cps.toList.length = _
    rw [Array.length_toList]
    show min (min 7 z.length) z.length = _
    omega
  refine ⟨⟨?_, ?_, fun d hd => ?_⟩, by omega⟩
  · rw [Str.length_append, el]
    show 1 ≤ min 7 z.length + 1
    omega
  · rw [Str.length_append, el]
    show min 7 z.length + 1 ≤ 8
    omega
  · rw [Str.cps_append, Array.toList_append, e] at hd
    rcases List.mem_append.mp hd with q | q
    · exact h.2.2 d (List.mem_of_mem_take q)
    · have q' : d ∈ [c] := q
      rw [List.mem_singleton.mp q']
      exact hc
theorem sum_signs : ∀ {zs : List Str}, (∀ z ∈ zs, ∃ ch ∈ letters.cps.toList, z = sign ch) → (zs.map (·.length)).sum ≤ zs.length
  | [], _ => Nat.le_refl _
  | z :: zs, h => by
    obtain ⟨c, _, rfl⟩ := h z List.mem_cons_self
    have ih := sum_signs (zs := zs) fun x hx => h x (List.mem_cons_of_mem _ hx)
    rw [List.map_cons, List.sum_cons, List.length_cons]
    show 1 + _ ≤ _
    omega
def words : List Str := ["and", "if", "row", "all", "stuck", "pass", "move", "none"]
theorem words_names : ∀ z ∈ words, Name z := by
  unfold Name
  decide +kernel
theorem lix {K : PySem.W.Frag} {H : Hp} {j : Nat} {Q : VK} (hj : j < 26) (q : ∀ ch ∈ letters.cps.toList, Q (.str (sign ch)) H) : rIx K (.str letters) (.int (j : Int)) H Q := by
  have hl : letters.cps.toList.length = 26 := by decide +kernel
  refine .inr (.inr ⟨letters, j, letters.cps.toList[j]'(by omega), rfl, rfl, by decide +kernel, atI_nat (List.getElem?_eq_getElem _), q _ (List.getElem_mem _)⟩)
section
variable {P : Program} {w : World} {K : PySem.W.Frag} {mg : Str → Option Value} {base : Heap}
/-! ### _law_pick -/
def spPick : Sp := fun vs H Q _ => ∃ (h c a : Addr) (xs : List V), vs = [.ref h, .ref a] ∧ HandAt H h c ∧ H a = some (.lst xs) ∧ a ≠ h ∧ 1 ≤ xs.length ∧ xs.length < 1000000 ∧ ∀ x H', x ∈ xs → But h H H' → HandAt H' h c → Q x H'
theorem ok_pick {f : Addr} {fd : FuncData} (F : Fun K "_law_pick" "_law_pick" lPick f fd) (T : Free mg) (DT : Def P w K mg base 2 "_law_take" spTake) : FnOk P w K mg base CX0 3 f fd ["_law_hand_here", "_law_things"] spPick := by
  refine F.ok dPick (fun vs H Q E h => ?_) (fun cdv A outer s H vs Q E hr h => ?_)
  · obtain ⟨h, c, a, xs, rfl, _⟩ := h
    rfl
  · obtain ⟨h, c, a, xs, rfl, hH, ha, ne, h1, h2, q⟩ := h
    refine ⟨_, pss_one (ps_ret (pe_ix ix_seq (pv 1) (pe_def DT hr (by rfl) (pa_cons (pv 0) (pa_cons (pe_callB call_len_seq (by rfl) T.len PySem.boot_len (pa_cons (pv 1) pa_nil)) pa_nil))) (fun _ _ => rfl))), ?_⟩
    refine ⟨_, rfl, _, rfl, _, rfl, a, _, rfl, .inl (.of ha), h, c, xs.length, rfl, hH, h1, h2, fun j H' hj bt hH' => ?_⟩
    exact At.ix (.inl (bt _ _ ne ha)) (List.getElem?_eq_getElem hj) (q _ H' (List.getElem_mem hj) bt hH')
/-! ### _law_name -/
def spLName : Sp := fun vs H Q _ => ∃ (h c a : Addr) (ns : List Str), vs = [.ref h, .ref a] ∧ HandAt H h c ∧ H a = some (.lst (ns.map V.str)) ∧ a ≠ h ∧ (∀ n ∈ ns, Name n) ∧ ns.length < 26 ∧ ∀ x H', Name x → x ∉ ns → But h H H' → HandAt H' h c → Q (.str x) H'
theorem lay_strs : ∀ {ns : List Str}, (∀ n ∈ ns, Name n) → PyData.canLayAll0 (ns.map PyData.str) = true
  | [], _ => by simp [PyData.canLayAll0]
  | n :: ns, h => by
    have h1 := name_ok (h n List.mem_cons_self)
    have h2 := lay_strs (ns := ns) fun x hx => h x (List.mem_cons_of_mem _ hx)
    simp [PyData.canLayAll0, PyData.canLay0, h1, h2]
theorem depth_strs : ∀ ns : List Str, PyData.depthAll (ns.map PyData.str) = 0
  | [] => by simp [PyData.depthAll]
  | n :: ns => by simp [PyData.depthAll, PyData.depth, depth_strs ns]
theorem shaped_strs {ns : List Str} (h : ∀ n ∈ ns, Name n) : SeqAt.shaped (.list (ns.map PyData.str)) = true := by
  unfold SeqAt.shaped
  rw [Bool.and_eq_true]
  refine ⟨by simp only [PyData.canLay0]; exact lay_strs h, decide_eq_true ?_⟩
  simp only [PyData.depth, depth_strs]
  omega
theorem dp_strs {K : PySem.W.Frag} {H : Hp} : ∀ ns : List Str, DpAll K H (ns.map V.str) (ns.map PyData.str)
  | [] => .nil
  | n :: ns => .cons (.str n) (dp_strs ns)
theorem eqv_nil (ns : List Str) : PyData.eqv (.list (ns.map PyData.str)) (.list []) = ns.isEmpty := by
  cases ns with
  | nil => simp [PyData.eqv, PyData.eqvAll]
  | cons n ns => simp [PyData.eqv, PyData.eqvAll]
theorem ok_lname {f : Addr} {fd : FuncData} (F : Fun K "_law_name" "_law_name" lName f fd) (T : Free mg) (DT : Def P w K mg base 2 "_law_take" spTake) (DP : Def P w K mg base 3 "_law_pick" spPick) : FnOk P w K mg base CX0 4 f fd ["_law_hand_here", "_law_taken"] spLName := by
  refine F.ok dName (fun vs H Q E h => ?_) (fun cdv A outer s H vs Q E hr h => ?_)
  · obtain ⟨h, c, a, ns, rfl, _⟩ := h
    rfl
  · obtain ⟨h, c, a, ns, rfl, hH, ha, ne, hns, h26, q⟩ := h
    have hr2 : Room 2 _ := hr.mono (by decide)
    refine ⟨_, pss_cons (ps_set (i := 2) dName.nd rfl (Or.inr rfl) pe_str)
      (pss_cons (ps_set (i := 3) dName.nd rfl (Or.inl rfl) (pe_def DT hr2 (by rfl) (pa_cons (pv 0) (pa_cons pe_int pa_nil))))
      (pss_cons (ps_if (pt_cmpR op_eq (pv 3) pe_int (nomark _)) (pss_one (ps_set (i := 4) dName.nd rfl (Or.inl rfl) (pe_ix ix_seq (pv 2) (pe_def DT hr2 (by rfl) (pa_cons (pv 0) (pa_cons pe_int pa_nil))) (fun _ _ => rfl))))
        (pss_one (ps_if (PW.pt (pw_and (pt_cmpR op_eq (pv 3) pe_int (nomark _)) (pw_and1 (pt_cmpR (op_neD (hu64 hr)) (pv 1) (pe_lst pa_nil) (nomark _)))))
          (pss_one (ps_set (i := 4) dName.nd rfl (Or.inl rfl) (pe_op op_add_str
            (pe_slice sl_str (pe_ix ix_seq (pv 1) (pe_def DT hr2 (by rfl) (pa_cons (pv 0) (pa_cons (pe_callB call_len_seq (by rfl) T.len PySem.boot_len (pa_cons (pv 1) pa_nil)) pa_nil))) (fun _ _ => rfl)) po_none (po_some pe_int))
            (pe_ix ix_seq (pv 2) (pe_def DT hr2 (by rfl) (pa_cons (pv 0) (pa_cons pe_int pa_nil))) (fun _ _ => rfl)))))
          (pss_one (ps_if (pt_cmpR op_eq (pv 3) pe_int (nomark _))
            (pss_one (ps_set (i := 4) dName.nd rfl (Or.inl rfl) (pe_def DP hr (by rfl) (pa_cons (pv 0) (pa_cons (pe_lst (pa_cons pe_str (pa_cons pe_str (pa_cons pe_str (pa_cons pe_str (pa_cons pe_str (pa_cons pe_str (pa_cons pe_str (pa_cons pe_str pa_nil))))))))) pa_nil)))))
            (pss_one (ps_set (i := 4) dName.nd rfl (Or.inl rfl) (pe_join pe_str (pe_lc (own := [("_law_k", 5)]) (g := gName 5) (tt := tYes) rfl dName.nd (pi_range1 (by rfl) T.range (pa_cons (pe_op op_add pe_int (pe_def DT hr2 (by rfl) (pa_cons (pv 0) (pa_cons pe_int pa_nil)))) pa_nil))
              (blkOk_by (N := ["_law_hand_here", "_law_taken", "_law_letters", "_law_way", "_law_name_here", "_law_k", "_law_letter"]) (sc := defScope lName) (by decide +kernel))
              (fun _ _ _ _ _ => pg_name (i := 5) dName.nd rfl (Or.inl rfl)) (fun _ _ _ _ _ => pts_nil) (fun _ _ _ _ _ => pe_ix (r := rIx K) ix_seq (pv 2) (pe_def DT hr2 (by rfl) (pa_cons (pv 0) (pa_cons pe_int pa_nil))) (fun _ _ => rfl)))))))))))
      (pss_cons (ps_if (pt_cmpR op_in_seq (pv 4) (pv 1) rfl)
        (pss_one (ps_ret (pe_ix ix_seq (pe_lc (own := [("_law_letter", 6)]) (g := gName 6) rfl dName.nd (pi_str (pv 2)) (blkOk_by (N := ["_law_hand_here", "_law_taken", "_law_letters", "_law_way", "_law_name_here", "_law_k", "_law_letter"]) (sc := defScope lName) (by decide +kernel))
          (fun _ _ _ _ _ => pg_name (i := 6) dName.nd rfl (Or.inl rfl)) (fun _ _ _ _ _ => pts_one (pt_cmpR (r := rIn K true) op_notIn_seq (pv 6) (pv 1) rfl)) (fun _ _ _ _ _ => pv 6)) pe_int (fun _ _ => rfl)))) pss_nil)
      (pss_one (ps_ret (pv 4)))))), ?_⟩
    refine ⟨_, rfl, h, c, 6, rfl, hH, by decide, by decide, fun way H1 hway b1 hH1 => ?_⟩
    have ha1 := b1 _ _ ne ha
    refine ⟨_, rfl, rfl, _, rfl, ?_⟩
    refine ite2 (fun _ => ?_) (fun _ => ?_)
    · refine ⟨_, rfl, _, rfl, h, c, 26, rfl, hH1, by decide, by decide, fun j H2 hj b2 hH2 => lix hj fun ch hch => ?_⟩
      have hx := name_sign hch
      have b02 := b1.trans b2
      have haz := b02 _ _ ne ha
      refine ⟨_, rfl, _, rfl, a, _, rfl, .inl (.of haz), rfl, flat_strs' ns, _, congrArg V.bl (in_strs _ ns), ?_⟩
      refine ite2 (fun _ => ?_) (fun nin => ⟨_, rfl, q _ _ hx (by simpa using nin) b02 hH2⟩)
      refine ⟨_, rfl, _, rfl, fun D nD => lc_it walk_str (fun i Hy => Same H2 Hy ∧ Hy D = some (.lst (((signs.take i).filter fun z => !decide (z ∈ ns)).map V.str))) ⟨same_new nD, upd_same⟩ (fun _ _ _ _ => trivial) (fun i x Hy Hz hi hP hY => ?_) fun Hy hP => ?_⟩
      · obtain ⟨rfl, ch, hc, rfl⟩ := hY
        obtain ⟨sm, hD⟩ := hP
        have hsi : signs[i]? = some (sign ch) := by
          have hc' : letters.cps[i]? = some ch := hc
          unfold signs
          rw [List.getElem?_map, Array.getElem?_toList, hc']
          rfl
        refine ⟨rfl, _, rfl, _, rfl, a, _, rfl, .inl (.of (sm _ _ haz)), rfl, flat_strs' ns, !decide (sign ch ∈ ns), congrArg V.bl (congrArg not (in_strs (sign ch) ns)), ?_⟩
        have ln : ((signs.take i).filter fun z => !decide (z ∈ ns)).length ≤ 26 := by
          have l1 := List.length_filter_le (fun z => !decide (z ∈ ns)) (signs.take i)
          rw [List.length_take, signs_len] at l1
          omega
        by_cases m : sign ch ∈ ns
        · rw [decide_eq_true m]
          refine iteF ⟨sm, ?_⟩
          rw [take_snoc hsi, List.filter_append, List.filter_cons_of_neg (by simpa using m), List.filter_nil, List.append_nil]
          exact hD
        · rw [decide_eq_false m]
          refine iteT ⟨_, rfl, _, hD, ?_, fun b o ho => ?_, ?_⟩
          · rw [List.length_map, sizeLine_eq]
            omega
          · rw [upd_ne (ne_of_none ho nD)]
            exact sm _ _ ho
          · rw [upd_same, take_snoc hsi, List.filter_append, List.filter_cons_of_pos (by simpa using m), List.filter_nil, List.map_append]
            rfl
      · obtain ⟨sm, hD⟩ := hP
        have ez : letters.cps.size = signs.length := by decide +kernel
        have hD : Hy D = some (.lst (((signs.take letters.cps.size).filter fun z => !decide (z ∈ ns)).map V.str)) := hD
        rw [ez, List.take_length] at hD
        obtain ⟨y, hy1, hy2⟩ := fresh_sign (taken := ns) h26
        have hin : y ∈ signs.filter fun z => !decide (z ∈ ns) := List.mem_filter.mpr ⟨hy1, by simpa using hy2⟩
        generalize eL : (signs.filter fun z => !decide (z ∈ ns)) = L at hD hin
        cases L with
        | nil => cases hin
        | cons x L =>
          have hx1 : x ∈ signs.filter fun z => !decide (z ∈ ns) := by rw [eL]; exact List.mem_cons_self
          have hx2 := List.mem_filter.mp hx1
          obtain ⟨cx, hcx, rfl⟩ := List.mem_map.mp hx2.1
          exact At.ix (j := 0) (.inl hD) rfl (q _ _ (name_sign hcx) (by simpa using hx2.2) (b02.trans (.of sm)) (HandAt.same sm hH2))
    · refine ⟨_, rfl, rfl, _, rfl, ?_⟩
      have notBoth : ∀ (b : Bool) (G : Prop), G → (if b = true then G else G) := fun b G g => by cases b <;> exact g
      by_cases way1 : (V.int (way : Int)) = V.int 1
      case neg =>
        rw [decide_eq_false way1]
        refine iteF ?_
        refine ⟨_, rfl, rfl, _, rfl, ?_⟩
        refine ite2 (fun _ => ?_) (fun _ => ?_)
        · refine ⟨_, rfl, (by show 8 ≤ sizeLine; decide), fun lw nlw => ?_⟩
          have sw := same_new (o := .lst (words.map V.str)) nlw
          have nwh : lw ≠ h := fun z => by
            obtain ⟨xs, hx⟩ := (hH1).at.1
            rw [z, hx] at nlw
            cases nlw
          refine ⟨h, c, lw, words.map V.str, rfl, HandAt.same sw hH1, upd_same, nwh, by decide, by decide, fun x H3 hx3 b3 hH3 => ?_⟩
          obtain ⟨z, hz, rfl⟩ := List.mem_map.mp hx3
          have hx := words_names z hz
          have b03 := (b1.trans (.of sw)).trans b3
          have haz := b03 _ _ ne ha
          refine ⟨_, rfl, _, rfl, a, _, rfl, .inl (.of haz), rfl, flat_strs' ns, _, congrArg V.bl (in_strs _ ns), ?_⟩
          refine ite2 (fun _ => ?_) (fun nin => ⟨_, rfl, q _ _ hx (by simpa using nin) b03 hH3⟩)
          refine ⟨_, rfl, _, rfl, fun D nD => lc_it walk_str (fun i Hy => Same H3 Hy ∧ Hy D = some (.lst (((signs.take i).filter fun z => !decide (z ∈ ns)).map V.str))) ⟨same_new nD, upd_same⟩ (fun _ _ _ _ => trivial) (fun i x Hy Hz hi hP hY => ?_) fun Hy hP => ?_⟩
          · obtain ⟨rfl, ch, hc, rfl⟩ := hY
            obtain ⟨sm, hD⟩ := hP
            have hsi : signs[i]? = some (sign ch) := by
              have hc' : letters.cps[i]? = some ch := hc
              unfold signs
              rw [List.getElem?_map, Array.getElem?_toList, hc']
              rfl
            refine ⟨rfl, _, rfl, _, rfl, a, _, rfl, .inl (.of (sm _ _ haz)), rfl, flat_strs' ns, !decide (sign ch ∈ ns), congrArg V.bl (congrArg not (in_strs (sign ch) ns)), ?_⟩
            have ln : ((signs.take i).filter fun z => !decide (z ∈ ns)).length ≤ 26 := by
              have l1 := List.length_filter_le (fun z => !decide (z ∈ ns)) (signs.take i)
              rw [List.length_take, signs_len] at l1
              omega
            by_cases m : sign ch ∈ ns
            · rw [decide_eq_true m]
              refine iteF ⟨sm, ?_⟩
              rw [take_snoc hsi, List.filter_append, List.filter_cons_of_neg (by simpa using m), List.filter_nil, List.append_nil]
              exact hD
            · rw [decide_eq_false m]
              refine iteT ⟨_, rfl, _, hD, ?_, fun b o ho => ?_, ?_⟩
              · rw [List.length_map, sizeLine_eq]
                omega
              · rw [upd_ne (ne_of_none ho nD)]
                exact sm _ _ ho
              · rw [upd_same, take_snoc hsi, List.filter_append, List.filter_cons_of_pos (by simpa using m), List.filter_nil, List.map_append]
                rfl
          · obtain ⟨sm, hD⟩ := hP
            have ez : letters.cps.size = signs.length := by decide +kernel
            have hD : Hy D = some (.lst (((signs.take letters.cps.size).filter fun z => !decide (z ∈ ns)).map V.str)) := hD
            rw [ez, List.take_length] at hD
            obtain ⟨y, hy1, hy2⟩ := fresh_sign (taken := ns) h26
            have hin : y ∈ signs.filter fun z => !decide (z ∈ ns) := List.mem_filter.mpr ⟨hy1, by simpa using hy2⟩
            generalize eL : (signs.filter fun z => !decide (z ∈ ns)) = L at hD hin
            cases L with
            | nil => cases hin
            | cons x L =>
              have hx1 : x ∈ signs.filter fun z => !decide (z ∈ ns) := by rw [eL]; exact List.mem_cons_self
              have hx2 := List.mem_filter.mp hx1
              obtain ⟨cx, hcx, rfl⟩ := List.mem_map.mp hx2.1
              exact At.ix (j := 0) (.inl hD) rfl (q _ _ (name_sign hcx) (by simpa using hx2.2) (b03.trans (.of sm)) (HandAt.same sm hH3))
        · refine ⟨⟨_, rfl⟩, _, rfl, h, c, 8, rfl, hH1, by decide, by decide, fun k H3 hk b3 hH3 => ?_⟩
          refine ⟨_, _, rfl, rfl, (1 + (k : Int)), rfl, by omega, by omega, fun D nD => lc_range (lo := 0) (n := (1 + (k : Int)).toNat) (fun i Hu => But h H3 Hu ∧ HandAt Hu h c ∧ ∃ zs : List Str, Hu D = some (.lst (zs.map V.str)) ∧ zs.length = i ∧ ∀ z ∈ zs, ∃ ch ∈ letters.cps.toList, z = sign ch)
            ⟨.of (same_new nD), hH3.same (same_new nD), [], upd_same, rfl, fun _ z => by cases z⟩ (fun i Hu hi hP => ?_) fun Hu hP => ?_⟩
          · obtain ⟨by1, hHu, zs, hD, hzl, hz⟩ := hP
            refine ⟨rfl, _, rfl, _, rfl, h, c, 26, rfl, hHu, by decide, by decide, fun j Hz hj bz hHz => lix hj fun ch hch => ?_⟩
            obtain ⟨⟨xh, hxh⟩, xc, hxc⟩ := hH3.at
            have nDh : h ≠ D := ne_of_none hxh nD
            have nDc : c ≠ D := ne_of_none hxc nD
            have hDz := bz _ _ nDh.symm hD
            refine ⟨_, hDz, ?_, fun b o nb ho => ?_, HandAt.but .upd nDh nDc hHz, zs ++ [sign ch], ?_, ?_, ?_⟩
            · rw [List.length_map, sizeLine_eq]
              omega
            · rw [upd_ne (ne_of_none ho nD)]
              exact bz _ _ nb (by1 _ _ nb ho)
            · rw [upd_same, List.map_append]
              rfl
            · rw [List.length_append, hzl]
              rfl
            · intro z hz'
              rcases List.mem_append.mp hz' with y | y
              · exact hz z y
              · exact ⟨ch, hch, List.mem_singleton.mp y⟩
          · obtain ⟨by1, hHu, zs, hD, hzl, hz⟩ := hP
            have hl1 : 1 ≤ zs.length := by omega
            have hl8 : zs.length ≤ 8 := by omega
            have hx := name_join hl1 hl8 hz
            have b0u := (b1.trans b3).trans by1
            refine ⟨"", D, zs, rfl, rfl, .inl (.of hD), ?_, ?_⟩
            · have hs : (zs.map (·.length)).sum ≤ zs.length := sum_signs hz
              have he : ("" : Str).length = 0 := by decide +kernel
              rw [he]
              omega
            have haz := b0u _ _ ne ha
            refine ⟨_, rfl, _, rfl, a, _, rfl, .inl (.of haz), rfl, flat_strs' ns, _, congrArg V.bl (in_strs _ ns), ?_⟩
            refine ite2 (fun _ => ?_) (fun nin => ⟨_, rfl, q _ _ hx (by simpa using nin) b0u hHu⟩)
            refine ⟨_, rfl, _, rfl, fun D nD => lc_it walk_str (fun i Hy => Same Hu Hy ∧ Hy D = some (.lst (((signs.take i).filter fun z => !decide (z ∈ ns)).map V.str))) ⟨same_new nD, upd_same⟩ (fun _ _ _ _ => trivial) (fun i x Hy Hz hi hP hY => ?_) fun Hy hP => ?_⟩
            · obtain ⟨rfl, ch, hc, rfl⟩ := hY
              obtain ⟨sm, hD⟩ := hP
              have hsi : signs[i]? = some (sign ch) := by
                have hc' : letters.cps[i]? = some ch := hc
                unfold signs
                rw [List.getElem?_map, Array.getElem?_toList, hc']
                rfl
              refine ⟨rfl, _, rfl, _, rfl, a, _, rfl, .inl (.of (sm _ _ haz)), rfl, flat_strs' ns, !decide (sign ch ∈ ns), congrArg V.bl (congrArg not (in_strs (sign ch) ns)), ?_⟩
              have ln : ((signs.take i).filter fun z => !decide (z ∈ ns)).length ≤ 26 := by
                have l1 := List.length_filter_le (fun z => !decide (z ∈ ns)) (signs.take i)
                rw [List.length_take, signs_len] at l1
                omega
              by_cases m : sign ch ∈ ns
              · rw [decide_eq_true m]
                refine iteF ⟨sm, ?_⟩
                rw [take_snoc hsi, List.filter_append, List.filter_cons_of_neg (by simpa using m), List.filter_nil, List.append_nil]
                exact hD
              · rw [decide_eq_false m]
                refine iteT ⟨_, rfl, _, hD, ?_, fun b o ho => ?_, ?_⟩
                · rw [List.length_map, sizeLine_eq]
                  omega
                · rw [upd_ne (ne_of_none ho nD)]
                  exact sm _ _ ho
                · rw [upd_same, take_snoc hsi, List.filter_append, List.filter_cons_of_pos (by simpa using m), List.filter_nil, List.map_append]
                  rfl
            · obtain ⟨sm, hD⟩ := hP
              have ez : letters.cps.size = signs.length := by decide +kernel
              have hD : Hy D = some (.lst (((signs.take letters.cps.size).filter fun z => !decide (z ∈ ns)).map V.str)) := hD
              rw [ez, List.take_length] at hD
              obtain ⟨y, hy1, hy2⟩ := fresh_sign (taken := ns) h26
              have hin : y ∈ signs.filter fun z => !decide (z ∈ ns) := List.mem_filter.mpr ⟨hy1, by simpa using hy2⟩
              generalize eL : (signs.filter fun z => !decide (z ∈ ns)) = L at hD hin
              cases L with
              | nil => cases hin
              | cons x L =>
                have hx1 : x ∈ signs.filter fun z => !decide (z ∈ ns) := by rw [eL]; exact List.mem_cons_self
                have hx2 := List.mem_filter.mp hx1
                obtain ⟨cx, hcx, rfl⟩ := List.mem_map.mp hx2.1
                exact At.ix (j := 0) (.inl hD) rfl (q _ _ (name_sign hcx) (by simpa using hx2.2) (b0u.trans (.of sm)) (HandAt.same sm hHu))
      case pos =>
        rw [decide_eq_true way1]
        refine iteT ⟨_, rfl, Nat.zero_le _, fun l nl => ?_⟩
        have sl := same_new (o := .lst []) nl
        have ha2 := sl _ _ ha1
        refine ⟨.list (ns.map PyData.str), .list [], .lst (.of ha2) (dp_strs ns), .lst (.of upd_same) .nil, shaped_strs hns, by decide +kernel, !ns.isEmpty, congrArg V.bl (by rw [eqv_nil]), ?_⟩
        have hH2 := hH1.same sl
        have b02 := b1.trans (.of sl)
        cases e : ns.isEmpty with
        | true =>
          refine iteF ?_
          refine ⟨_, rfl, rfl, _, rfl, ?_⟩
          refine ite2 (fun _ => ?_) (fun _ => ?_)
          · refine ⟨_, rfl, (by show 8 ≤ sizeLine; decide), fun lw nlw => ?_⟩
            have sw := same_new (o := .lst (words.map V.str)) nlw
            have nwh : lw ≠ h := fun z => by
              obtain ⟨xs, hx⟩ := (hH2).at.1
              rw [z, hx] at nlw
              cases nlw
            refine ⟨h, c, lw, words.map V.str, rfl, HandAt.same sw hH2, upd_same, nwh, by decide, by decide, fun x H3 hx3 b3 hH3 => ?_⟩
            obtain ⟨z, hz, rfl⟩ := List.mem_map.mp hx3
            have hx := words_names z hz
            have b03 := (b02.trans (.of sw)).trans b3
            have haz := b03 _ _ ne ha
            refine ⟨_, rfl, _, rfl, a, _, rfl, .inl (.of haz), rfl, flat_strs' ns, _, congrArg V.bl (in_strs _ ns), ?_⟩
            refine ite2 (fun _ => ?_) (fun nin => ⟨_, rfl, q _ _ hx (by simpa using nin) b03 hH3⟩)
            refine ⟨_, rfl, _, rfl, fun D nD => lc_it walk_str (fun i Hy => Same H3 Hy ∧ Hy D = some (.lst (((signs.take i).filter fun z => !decide (z ∈ ns)).map V.str))) ⟨same_new nD, upd_same⟩ (fun _ _ _ _ => trivial) (fun i x Hy Hz hi hP hY => ?_) fun Hy hP => ?_⟩
            · obtain ⟨rfl, ch, hc, rfl⟩ := hY
              obtain ⟨sm, hD⟩ := hP
              have hsi : signs[i]? = some (sign ch) := by
                have hc' : letters.cps[i]? = some ch := hc
                unfold signs
                rw [List.getElem?_map, Array.getElem?_toList, hc']
                rfl
              refine ⟨rfl, _, rfl, _, rfl, a, _, rfl, .inl (.of (sm _ _ haz)), rfl, flat_strs' ns, !decide (sign ch ∈ ns), congrArg V.bl (congrArg not (in_strs (sign ch) ns)), ?_⟩
              have ln : ((signs.take i).filter fun z => !decide (z ∈ ns)).length ≤ 26 := by
                have l1 := List.length_filter_le (fun z => !decide (z ∈ ns)) (signs.take i)
                rw [List.length_take, signs_len] at l1
                omega
              by_cases m : sign ch ∈ ns
              · rw [decide_eq_true m]
                refine iteF ⟨sm, ?_⟩
                rw [take_snoc hsi, List.filter_append, List.filter_cons_of_neg (by simpa using m), List.filter_nil, List.append_nil]
                exact hD
              · rw [decide_eq_false m]
                refine iteT ⟨_, rfl, _, hD, ?_, fun b o ho => ?_, ?_⟩
                · rw [List.length_map, sizeLine_eq]
                  omega
                · rw [upd_ne (ne_of_none ho nD)]
                  exact sm _ _ ho
                · rw [upd_same, take_snoc hsi, List.filter_append, List.filter_cons_of_pos (by simpa using m), List.filter_nil, List.map_append]
                  rfl
            · obtain ⟨sm, hD⟩ := hP
              have ez : letters.cps.size = signs.length := by decide +kernel
              have hD : Hy D = some (.lst (((signs.take letters.cps.size).filter fun z => !decide (z ∈ ns)).map V.str)) := hD
              rw [ez, List.take_length] at hD
              obtain ⟨y, hy1, hy2⟩ := fresh_sign (taken := ns) h26
              have hin : y ∈ signs.filter fun z => !decide (z ∈ ns) := List.mem_filter.mpr ⟨hy1, by simpa using hy2⟩
              generalize eL : (signs.filter fun z => !decide (z ∈ ns)) = L at hD hin
              cases L with
              | nil => cases hin
              | cons x L =>
                have hx1 : x ∈ signs.filter fun z => !decide (z ∈ ns) := by rw [eL]; exact List.mem_cons_self
                have hx2 := List.mem_filter.mp hx1
                obtain ⟨cx, hcx, rfl⟩ := List.mem_map.mp hx2.1
                exact At.ix (j := 0) (.inl hD) rfl (q _ _ (name_sign hcx) (by simpa using hx2.2) (b03.trans (.of sm)) (HandAt.same sm hH3))
          · refine ⟨⟨_, rfl⟩, _, rfl, h, c, 8, rfl, hH2, by decide, by decide, fun k H3 hk b3 hH3 => ?_⟩
            refine ⟨_, _, rfl, rfl, (1 + (k : Int)), rfl, by omega, by omega, fun D nD => lc_range (lo := 0) (n := (1 + (k : Int)).toNat) (fun i Hu => But h H3 Hu ∧ HandAt Hu h c ∧ ∃ zs : List Str, Hu D = some (.lst (zs.map V.str)) ∧ zs.length = i ∧ ∀ z ∈ zs, ∃ ch ∈ letters.cps.toList, z = sign ch)
              ⟨.of (same_new nD), hH3.same (same_new nD), [], upd_same, rfl, fun _ z => by cases z⟩ (fun i Hu hi hP => ?_) fun Hu hP => ?_⟩
            · obtain ⟨by1, hHu, zs, hD, hzl, hz⟩ := hP
              refine ⟨rfl, _, rfl, _, rfl, h, c, 26, rfl, hHu, by decide, by decide, fun j Hz hj bz hHz => lix hj fun ch hch => ?_⟩
              obtain ⟨⟨xh, hxh⟩, xc, hxc⟩ := hH3.at
              have nDh : h ≠ D := ne_of_none hxh nD
              have nDc : c ≠ D := ne_of_none hxc nD
              have hDz := bz _ _ nDh.symm hD
              refine ⟨_, hDz, ?_, fun b o nb ho => ?_, HandAt.but .upd nDh nDc hHz, zs ++ [sign ch], ?_, ?_, ?_⟩
              · rw [List.length_map, sizeLine_eq]
                omega
              · rw [upd_ne (ne_of_none ho nD)]
                exact bz _ _ nb (by1 _ _ nb ho)
              · rw [upd_same, List.map_append]
                rfl
              · rw [List.length_append, hzl]
                rfl
              · intro z hz'
                rcases List.mem_append.mp hz' with y | y
                · exact hz z y
                · exact ⟨ch, hch, List.mem_singleton.mp y⟩
            · obtain ⟨by1, hHu, zs, hD, hzl, hz⟩ := hP
              have hl1 : 1 ≤ zs.length := by omega
              have hl8 : zs.length ≤ 8 := by omega
              have hx := name_join hl1 hl8 hz
              have b0u := (b02.trans b3).trans by1
              refine ⟨"", D, zs, rfl, rfl, .inl (.of hD), ?_, ?_⟩
              · have hs : (zs.map (·.length)).sum ≤ zs.length := sum_signs hz
                have he : ("" : Str).length = 0 := by decide +kernel
                rw [he]
                omega
              have haz := b0u _ _ ne ha
              refine ⟨_, rfl, _, rfl, a, _, rfl, .inl (.of haz), rfl, flat_strs' ns, _, congrArg V.bl (in_strs _ ns), ?_⟩
              refine ite2 (fun _ => ?_) (fun nin => ⟨_, rfl, q _ _ hx (by simpa using nin) b0u hHu⟩)
              refine ⟨_, rfl, _, rfl, fun D nD => lc_it walk_str (fun i Hy => Same Hu Hy ∧ Hy D = some (.lst (((signs.take i).filter fun z => !decide (z ∈ ns)).map V.str))) ⟨same_new nD, upd_same⟩ (fun _ _ _ _ => trivial) (fun i x Hy Hz hi hP hY => ?_) fun Hy hP => ?_⟩
              · obtain ⟨rfl, ch, hc, rfl⟩ := hY
                obtain ⟨sm, hD⟩ := hP
                have hsi : signs[i]? = some (sign ch) := by
                  have hc' : letters.cps[i]? = some ch := hc
                  unfold signs
                  rw [List.getElem?_map, Array.getElem?_toList, hc']
                  rfl
                refine ⟨rfl, _, rfl, _, rfl, a, _, rfl, .inl (.of (sm _ _ haz)), rfl, flat_strs' ns, !decide (sign ch ∈ ns), congrArg V.bl (congrArg not (in_strs (sign ch) ns)), ?_⟩
                have ln : ((signs.take i).filter fun z => !decide (z ∈ ns)).length ≤ 26 := by
                  have l1 := List.length_filter_le (fun z => !decide (z ∈ ns)) (signs.take i)
                  rw [List.length_take, signs_len] at l1
                  omega
                by_cases m : sign ch ∈ ns
                · rw [decide_eq_true m]
                  refine iteF ⟨sm, ?_⟩
                  rw [take_snoc hsi, List.filter_append, List.filter_cons_of_neg (by simpa using m), List.filter_nil, List.append_nil]
                  exact hD
                · rw [decide_eq_false m]
                  refine iteT ⟨_, rfl, _, hD, ?_, fun b o ho => ?_, ?_⟩
                  · rw [List.length_map, sizeLine_eq]
                    omega
                  · rw [upd_ne (ne_of_none ho nD)]
                    exact sm _ _ ho
                  · rw [upd_same, take_snoc hsi, List.filter_append, List.filter_cons_of_pos (by simpa using m), List.filter_nil, List.map_append]
                    rfl
              · obtain ⟨sm, hD⟩ := hP
                have ez : letters.cps.size = signs.length := by decide +kernel
                have hD : Hy D = some (.lst (((signs.take letters.cps.size).filter fun z => !decide (z ∈ ns)).map V.str)) := hD
                rw [ez, List.take_length] at hD
                obtain ⟨y, hy1, hy2⟩ := fresh_sign (taken := ns) h26
                have hin : y ∈ signs.filter fun z => !decide (z ∈ ns) := List.mem_filter.mpr ⟨hy1, by simpa using hy2⟩
                generalize eL : (signs.filter fun z => !decide (z ∈ ns)) = L at hD hin
                cases L with
                | nil => cases hin
                | cons x L =>
                  have hx1 : x ∈ signs.filter fun z => !decide (z ∈ ns) := by rw [eL]; exact List.mem_cons_self
                  have hx2 := List.mem_filter.mp hx1
                  obtain ⟨cx, hcx, rfl⟩ := List.mem_map.mp hx2.1
                  exact At.ix (j := 0) (.inl hD) rfl (q _ _ (name_sign hcx) (by simpa using hx2.2) (b0u.trans (.of sm)) (HandAt.same sm hHu))
        | false =>
          have pos : 1 ≤ ns.length := by
            cases ns with
            | nil => cases e
            | cons _ _ => exact Nat.succ_le_succ (Nat.zero_le _)
          refine iteT ⟨_, rfl, _, rfl, _, rfl, a, _, rfl, .inl (.of ha2), h, c, ns.length, (by rw [List.length_map]; rfl), hH2, pos, by omega, fun j H3 hj b3 hH3 => ?_⟩
          have ha3 := b3 _ _ ne ha2
          refine At.ix (.inl ha3) (v := .str ns[j]) (by rw [List.getElem?_map, List.getElem?_eq_getElem hj]; rfl) ?_
          have nz := hns _ (List.getElem_mem hj)
          refine ⟨7, rfl, _, rfl, ?_, ?_⟩
          · have := nz.2.1
            rw [sizeLine_eq]
            omega
          · refine ⟨_, rfl, _, rfl, h, c, 26, rfl, hH3, by decide, by decide, fun i H4 hi b4 hH4 => lix hi fun ch hch => ?_⟩
            have hx := (name_cut nz hch).1
            have lx := (name_cut nz hch).2
            have b04 := (b02.trans b3).trans b4
            refine ⟨_, _, rfl, rfl, ?_, ?_⟩
            · rw [sizeLine_eq]
              show _ + 1 ≤ 16777216
              omega
            · have haz := b04 _ _ ne ha
              refine ⟨_, rfl, _, rfl, a, _, rfl, .inl (.of haz), rfl, flat_strs' ns, _, congrArg V.bl (in_strs _ ns), ?_⟩
              refine ite2 (fun _ => ?_) (fun nin => ⟨_, rfl, q _ _ hx (by simpa using nin) b04 hH4⟩)
              refine ⟨_, rfl, _, rfl, fun D nD => lc_it walk_str (fun i Hy => Same H4 Hy ∧ Hy D = some (.lst (((signs.take i).filter fun z => !decide (z ∈ ns)).map V.str))) ⟨same_new nD, upd_same⟩ (fun _ _ _ _ => trivial) (fun i x Hy Hz hi hP hY => ?_) fun Hy hP => ?_⟩
              · obtain ⟨rfl, ch, hc, rfl⟩ := hY
                obtain ⟨sm, hD⟩ := hP
                have hsi : signs[i]? = some (sign ch) := by
                  have hc' : letters.cps[i]? = some ch := hc
                  unfold signs
                  rw [List.getElem?_map, Array.getElem?_toList, hc']
                  rfl
                refine ⟨rfl, _, rfl, _, rfl, a, _, rfl, .inl (.of (sm _ _ haz)), rfl, flat_strs' ns, !decide (sign ch ∈ ns), congrArg V.bl (congrArg not (in_strs (sign ch) ns)), ?_⟩
                have ln : ((signs.take i).filter fun z => !decide (z ∈ ns)).length ≤ 26 := by
                  have l1 := List.length_filter_le (fun z => !decide (z ∈ ns)) (signs.take i)
                  rw [List.length_take, signs_len] at l1
                  omega
                by_cases m : sign ch ∈ ns
                · rw [decide_eq_true m]
                  refine iteF ⟨sm, ?_⟩
                  rw [take_snoc hsi, List.filter_append, List.filter_cons_of_neg (by simpa using m), List.filter_nil, List.append_nil]
                  exact hD
                · rw [decide_eq_false m]
                  refine iteT ⟨_, rfl, _, hD, ?_, fun b o ho => ?_, ?_⟩
                  · rw [List.length_map, sizeLine_eq]
                    omega
                  · rw [upd_ne (ne_of_none ho nD)]
                    exact sm _ _ ho
                  · rw [upd_same, take_snoc hsi, List.filter_append, List.filter_cons_of_pos (by simpa using m), List.filter_nil, List.map_append]
                    rfl
              · obtain ⟨sm, hD⟩ := hP
                have ez : letters.cps.size = signs.length := by decide +kernel
                have hD : Hy D = some (.lst (((signs.take letters.cps.size).filter fun z => !decide (z ∈ ns)).map V.str)) := hD
                rw [ez, List.take_length] at hD
                obtain ⟨y, hy1, hy2⟩ := fresh_sign (taken := ns) h26
                have hin : y ∈ signs.filter fun z => !decide (z ∈ ns) := List.mem_filter.mpr ⟨hy1, by simpa using hy2⟩
                generalize eL : (signs.filter fun z => !decide (z ∈ ns)) = L at hD hin
                cases L with
                | nil => cases hin
                | cons x L =>
                  have hx1 : x ∈ signs.filter fun z => !decide (z ∈ ns) := by rw [eL]; exact List.mem_cons_self
                  have hx2 := List.mem_filter.mp hx1
                  obtain ⟨cx, hcx, rfl⟩ := List.mem_map.mp hx2.1
                  exact At.ix (j := 0) (.inl hD) rfl (q _ _ (name_sign hcx) (by simpa using hx2.2) (b04.trans (.of sm)) (HandAt.same sm hH4))
end
end Cw

/-! The law's _law_names, _law_edges, _law_arrows. -/
namespace Cw
open PySem PySem.Spec PyProof.Rows L2
section
variable {P : Program} {w : World} {K : PySem.W.Frag} {mg : Str → Option Value} {base : Heap}
/-! ### _law_names -/
def spNames : Sp := fun vs H Q _ => ∃ (h c : Addr) (m : Nat), vs = [.ref h, .int (m : Int)] ∧ HandAt H h c ∧ m ≤ 6 ∧
  ∀ H' t (ns : List Str), But h H H' → HandAt H' h c → H t = none → H' t = some (.lst (ns.map V.str)) → ns.length = m → ns.Nodup → (∀ n ∈ ns, Name n) → Q (.ref t) H'
theorem ok_names {f : Addr} {fd : FuncData} (F : Fun K "_law_names" "_law_names" lNames f fd) (T : Free mg) (DN : Def P w K mg base 4 "_law_name" spLName) : FnOk P w K mg base CX0 5 f fd ["_law_hand_here", "_law_many"] spNames := by
  refine F.ok dNames (fun vs H Q E h => ?_) (fun cdv A outer s H vs Q E hr h => ?_)
  · obtain ⟨h, c, m, rfl, _⟩ := h
    rfl
  · obtain ⟨h, c, m, rfl, hH, hm, q⟩ := h
    refine ⟨_, pss_cons (ps_set (i := 2) dNames.nd rfl (Or.inl rfl) (pe_lst pa_nil))
      (pss_cons (ps_for PassesOwn.never rfl (pi_range1 (by rfl) T.range (pa_cons (pv 1) pa_nil)) (pg_name (i := 3) dNames.nd rfl (Or.inl rfl))
        (pss_one (ps_expr (pe_bm PySem.F.plainAttrs_list PySem.F.slot_list_append PySem.F.type_list_append mt_append (pv 2) (pa_cons (pe_def DN hr (by rfl) (pa_cons (pv 0) (pa_cons (pv 2) pa_nil))) pa_nil)))))
      (pss_one (ps_ret (pv 2)))), ?_⟩
    refine ⟨Nat.zero_le _, fun t nt => ?_⟩
    obtain ⟨⟨xh, hxh⟩, xc, hxc⟩ := hH.at
    have nth : h ≠ t := ne_of_none hxh nt
    have ntc : c ≠ t := ne_of_none hxc nt
    refine ⟨_, rfl, (m : Int), rfl, by omega, by omega, for_range (lo := 0) (n := (m : Int).toNat) (fun i σ H' => ∃ v3 ns, σ = [some (.ref h), some (.int (m : Int)), some (.ref t), v3] ∧ But h H H' ∧ HandAt H' h c ∧ H' t = some (.lst (ns.map V.str)) ∧ ns.length = i ∧ ns.Nodup ∧ ∀ n ∈ ns, Name n)
      ⟨none, [], rfl, .of (same_new nt), hH.same (same_new nt), upd_same, rfl, List.nodup_nil, fun _ z => by cases z⟩ ?_ ?_⟩
    · rintro i σ H1 hi ⟨v3, ns, rfl, b1, hH1, ht, hl, hd, hn⟩
      refine ⟨_, rfl, .inl ⟨rfl, _, .of ht⟩, _, rfl, _, rfl, h, c, t, ns, rfl, hH1, ht, nth.symm, hn, by omega, fun x H2 nx nin b2 hH2 => ?_⟩
      have ht2 := b2 _ _ nth.symm ht
      refine ⟨t, _, .str x, rfl, rfl, ht2, ?_, ?_⟩
      · rw [List.length_map, sizeLine_eq]
        omega
      · refine ⟨_, ns ++ [x], rfl, fun b o nb ho => ?_, HandAt.but .upd nth ntc hH2, ?_, ?_, ?_, ?_⟩
        · rw [upd_ne (ne_of_none ho nt)]
          exact b2 _ _ nb (b1 _ _ nb ho)
        · rw [upd_same, List.map_append]
          rfl
        · rw [List.length_append, hl]
          rfl
        · refine List.nodup_append.mpr ⟨hd, List.pairwise_singleton _ _, fun a ha b hb e => ?_⟩
          rw [List.mem_singleton.mp hb] at e
          rw [e] at ha
          exact nin ha
        · intro n hn'
          rcases List.mem_append.mp hn' with y | y
          · exact hn n y
          · rw [List.mem_singleton.mp y]
            exact nx
    · rintro σ H1 ⟨v3, ns, rfl, b1, hH1, ht, hl, hd, hn⟩
      exact ⟨_, rfl, q H1 t ns b1 hH1 nt ht (by omega) hd hn⟩
/-! ### _law_edges -/
def spLEdges : Sp := fun vs H Q _ => ∃ (h c : Addr) (size m : Nat), vs = [.ref h, .int (size : Int), .int (m : Int)] ∧ HandAt H h c ∧ 1 ≤ size ∧ size ≤ 9 ∧ m ≤ 24 ∧
  ∀ H' a xs (es : List Edge), But h H H' → HandAt H' h c → H a = none → H' a = some (.lst xs) → RowsAt H' xs (es.map edgeR) → es.length ≤ m → Within size es → Q (.ref a) H'
theorem target_ok {s t size : Nat} (h1 : s < size) (h2 : t < size - 1) : Within size [((s : Int), ((s : Int) + 1 + (t : Int)) % (size : Int))] := fun e he => by
  rw [List.mem_singleton.mp he]
  have hz : (0 : Int) < (size : Int) := by omega
  by_cases c : s + 1 + t < size
  · have e1 : ((s : Int) + 1 + (t : Int)) % (size : Int) = (s : Int) + 1 + (t : Int) := Int.emod_eq_of_lt (by omega) (by omega)
    rw [e1]
    refine ⟨?_, ?_, ?_, ?_, ?_⟩ <;> show _ <;> simp only [] <;> omega
  · have e1 : ((s : Int) + 1 + (t : Int)) % (size : Int) = (s : Int) + 1 + (t : Int) - (size : Int) := by
      rw [← Int.sub_emod_right, Int.emod_eq_of_lt (by omega) (by omega)]
    rw [e1]
    refine ⟨?_, ?_, ?_, ?_, ?_⟩ <;> show _ <;> simp only [] <;> omega
theorem ok_ledges {f : Addr} {fd : FuncData} (F : Fun K "_law_edges" "_law_edges" lEdges f fd) (T : Free mg) (DT : Def P w K mg base 2 "_law_take" spTake) : FnOk P w K mg base CX0 3 f fd ["_law_hand_here", "_law_size", "_law_many"] spLEdges := by
  refine F.ok dEdges (fun vs H Q E h => ?_) (fun cdv A outer s H vs Q E hr h => ?_)
  · obtain ⟨h, c, size, m, rfl, _⟩ := h
    rfl
  · obtain ⟨h, c, size, m, rfl, hH, hz1, hz9, hm, q⟩ := h
    refine ⟨_, pss_cons (ps_set (i := 3) dEdges.nd rfl (Or.inl rfl) (pe_lst pa_nil))
      (pss_cons (ps_for PassesOwn.never rfl (pi_range1 (by rfl) T.range (pa_cons (pe_ifExp (pt_cmpR op_gt (pv 1) pe_int (nomark _)) (pv 2) pe_int) pa_nil)) (pg_name (i := 4) dEdges.nd rfl (Or.inl rfl))
        (pss_cons (ps_set (i := 5) dEdges.nd rfl (Or.inl rfl) (pe_def DT hr (by rfl) (pa_cons (pv 0) (pa_cons (pv 1) pa_nil))))
        (pss_one (ps_expr (pe_bm PySem.F.plainAttrs_list PySem.F.slot_list_append PySem.F.type_list_append mt_append (pv 3) (pa_cons (pe_tup (pa_cons (pv 5) (pa_cons (pe_op op_mod (pe_callTy call_int1 (by rfl) T.int boot_int (pa_cons (pe_op op_add (pe_op op_add (pv 5) pe_int) (pe_def DT hr (by rfl) (pa_cons (pv 0) (pa_cons (pe_op op_sub (pv 1) pe_int) pa_nil)))) pa_nil)) (pv 1)) pa_nil))) pa_nil))))))
      (pss_one (ps_ret (pv 3)))), ?_⟩
    refine ⟨Nat.zero_le _, fun a na => ?_⟩
    obtain ⟨⟨xh, hxh⟩, xc, hxc⟩ := hH.at
    have nah : h ≠ a := ne_of_none hxh na
    have nac : c ≠ a := ne_of_none hxc na
    have st := same_new (o := .lst []) na
    refine ⟨_, rfl, _, _, rfl, rfl, _, rfl, ite2 (fun z => ?_) (fun z => ?_)⟩
    · have z2 : 1 < size := by
        have := of_decide_eq_true z
        omega
      refine ⟨_, rfl, (m : Int), rfl, by omega, by omega, for_range (lo := 0) (n := (m : Int).toNat) (fun i σ H' => ∃ v4 v5 xs es, σ = [some (.ref h), some (.int (size : Int)), some (.int (m : Int)), some (.ref a), v4, v5] ∧ But h H H' ∧ HandAt H' h c ∧ H' a = some (.lst xs) ∧ RowsAt H' xs (es.map edgeR) ∧ es.length = i ∧ Within size es)
        ⟨none, none, [], [], rfl, .of st, hH.same st, upd_same, .nil, rfl, fun _ z => by cases z⟩ ?_ ?_⟩
      · rintro i σ H1 hi ⟨v4, v5, xs, es, rfl, b1, hH1, ha, hx, hl, hw⟩
        refine ⟨_, rfl, _, rfl, h, c, size, rfl, hH1, hz1, by omega, fun s H2 hs b2 hH2 => ?_⟩
        have ha2 := b2 _ _ nah.symm ha
        have nl2 := NoL.but b2 (hH1.at.1.choose_spec)
        refine ⟨_, rfl, .inl ⟨rfl, _, .of ha2⟩, _, rfl, _, rfl, _, _, rfl, rfl, _, rfl, _, rfl, _, _, rfl, rfl, h, c, size - 1, ?_, hH2, by omega, by omega, fun t H3 ht b3 hH3 => ?_⟩
        · rw [show ((size - 1 : Nat) : Int) = (size : Int) - 1 by omega]
          rfl
        · have ha3 := b3 _ _ nah.symm ha2
          have nl3 := NoL.but b3 (hH2.at.1.choose_spec)
          refine ⟨_, _, rfl, rfl, .inl ⟨_, rfl, _, rfl, _, _, rfl, rfl, (by show (0 : Int) < (size : Int); omega), (by show 2 ≤ sizeLine; decide), fun p np => ?_⟩⟩
          have st4 := same_new (o := .tup [.int (s : Int), .int (((s : Int) + 1 + (t : Int)) % (size : Int))]) np
          have ha4 := st4 _ _ ha3
          have lenX := hx.len
          rw [List.length_map] at lenX
          refine ⟨a, _, .ref p, rfl, rfl, ha4, ?_, ?_⟩
          · rw [sizeLine_eq]
            omega
          · refine ⟨_, _, xs ++ [.ref p], es ++ [((s : Int), ((s : Int) + 1 + (t : Int)) % (size : Int))], rfl, fun b o nb ho => ?_, HandAt.but .upd nah nac (hH3.same st4), upd_same, ?_, ?_, ?_⟩
            · rw [upd_ne (ne_of_none ho na)]
              exact st4 _ _ (b3 _ _ nb (b2 _ _ nb (b1 _ _ nb ho)))
            · rw [List.map_append]
              have nl := NoL.lst (ys := xs ++ [.ref p]) ha4
              refine RowsAt.snoc (nl _ _ (fun _ z => by cases z) ?_) ((((hx.noL nl2).noL nl3).same st4).noL nl)
              rw [upd_same]
              rfl
            · rw [List.length_append, hl]
              rfl
            · intro e he
              rcases List.mem_append.mp he with y | y
              · exact hw e y
              · exact target_ok hs ht e y
      · rintro σ H1 ⟨v4, v5, xs, es, rfl, b1, hH1, ha, hx, hl, hw⟩
        exact ⟨_, rfl, q H1 a xs es b1 hH1 na ha hx (by omega) hw⟩
    · refine ⟨0, rfl, by omega, by omega, for_range (lo := 0) (n := (0 : Int).toNat) (fun i σ H' => (∃ v4 v5, σ = [some (.ref h), some (.int (size : Int)), some (.int (m : Int)), some (.ref a), v4, v5]) ∧ H' = upd H a (.lst []))
        ⟨⟨none, none, rfl⟩, rfl⟩ (fun i σ H1 hi => absurd hi (by intro z; cases z)) ?_⟩
      rintro σ H1 ⟨⟨v4, v5, rfl⟩, rfl⟩
      exact ⟨_, rfl, q _ a [] [] (.of st) (hH.same st) na upd_same .nil (Nat.zero_le _) fun _ z => by cases z⟩
/-! ### _law_arrows -/
/-- v an arrow as the law drew it -/
def ArrowL (H : Hp) (v : V) (r : Row) : Prop := ∃ (p e : Addr) (ys : List V), v = .ref p ∧ H p = some (.tup [.str r.1, .ref e]) ∧ H e = some (.lst ys) ∧ RowsAt H ys (r.2.map edgeR)
theorem ArrowL.same {H H' : Hp} {v : V} {r : Row} (s : Same H H') (q : ArrowL H v r) : ArrowL H' v r := by
  obtain ⟨p, e, ys, h1, h2, h3, h4⟩ := q
  exact ⟨p, e, ys, h1, s _ _ h2, s _ _ h3, h4.same s⟩
/-- the same, its list new behind H0 -/
def ArrowF (H0 H : Hp) (v : V) (r : Row) : Prop := ∃ (p e : Addr) (ys : List V), v = .ref p ∧ H p = some (.tup [.str r.1, .ref e]) ∧ H0 e = none ∧ H e = some (.lst ys) ∧ RowsAt H ys (r.2.map edgeR)
theorem ArrowF.out {H0 H : Hp} {v : V} {r : Row} (q : ArrowF H0 H v r) : ArrowL H v r := by
  obtain ⟨p, e, ys, h1, h2, _, h3, h4⟩ := q
  exact ⟨p, e, ys, h1, h2, h3, h4⟩
theorem ArrowF.go {H0 H H' : Hp} {v : V} {r : Row} (n : NoL H H') (s : ∀ b o, H0 b = none → H b = some o → H' b = some o) (q : ArrowF H0 H v r) : ArrowF H0 H' v r := by
  obtain ⟨p, e, ys, h1, h2, h0, h3, h4⟩ := q
  exact ⟨p, e, ys, h1, n _ _ (fun _ z => by cases z) h2, h0, s _ _ h0 h3, h4.noL n⟩
def spLArrows : Sp := fun vs H Q _ => ∃ (h c l : Addr) (size m : Nat), vs = [.ref h, .int (size : Int), .int (m : Int), .ref l] ∧ HandAt H h c ∧ 1 ≤ size ∧ size ≤ 9 ∧ m ≤ 6 ∧ l ≠ h ∧ H l = some (.lst [.int 3, .int 6, .int 2, .int 12, .int 24, .int 1, .int 0]) ∧
  ∀ H' a xs (rs : List Row), But h H H' → HandAt H' h c → H' a = some (.lst xs) → Paired (ArrowL H') xs rs → rs.length ≤ 6 → (rs.map (·.1)).Nodup → (∀ r ∈ rs, FitRow size r) → Q (.ref a) H'
theorem ok_larrows {f : Addr} {fd : FuncData} (F : Fun K "_law_arrows" "_law_arrows" lArrows f fd) (DP : Def P w K mg base 3 "_law_pick" spPick) (DN : Def P w K mg base 5 "_law_names" spNames) (DE : Def P w K mg base 3 "_law_edges" spLEdges) :
    FnOk P w K mg base CX0 6 f fd ["_law_hand_here", "_law_size", "_law_many", "_law_counts"] spLArrows := by
  refine F.ok dArrows (fun vs H Q E h => ?_) (fun cdv A outer s H vs Q E hr h => ?_)
  · obtain ⟨h, c, l, size, m, rfl, _⟩ := h
    rfl
  · obtain ⟨h, c, l, size, m, rfl, hH, hz1, hz9, hm, nlh, hl, q⟩ := h
    have hr3 : Room 3 _ := hr.mono (by decide)
    refine ⟨_, pss_one (ps_ret (pe_lc (own := [("_law_name_here", 4)]) (g := gName 4) (tt := tYes) rfl dArrows.nd (pi_list (pe_def DN hr (by rfl) (pa_cons (pv 0) (pa_cons (pv 2) pa_nil)))) (blkOk_by (N := ["_law_hand_here", "_law_size", "_law_many", "_law_counts", "_law_name_here"]) (sc := defScope lArrows) (by decide +kernel))
      (fun _ _ _ _ _ => pg_name (i := 4) dArrows.nd rfl (Or.inl rfl)) (fun _ _ _ _ _ => pts_nil)
      (fun _ _ _ _ _ => pe_tup (pa_cons (pv 4) (pa_cons (pe_def DE hr3 (by rfl) (pa_cons (pv 0) (pa_cons (pv 1) (pa_cons (pe_def DP hr3 (by rfl) (pa_cons (pv 0) (pa_cons (pv 3) pa_nil))) pa_nil)))) pa_nil))))), ?_⟩
    refine ⟨_, rfl, _, rfl, h, c, m, rfl, hH, hm, fun H1 t ns b1 hH1 nt ht hnl hnd hnn => ?_⟩
    have hl1 := b1 _ _ nlh hl
    obtain ⟨⟨xh, hxh⟩, xc, hxc⟩ := hH1.at
    obtain ⟨⟨yh, hyh⟩, _⟩ := hH.at
    have nth : t ≠ h := (ne_of_none hyh nt).symm
    refine ⟨t, rfl, ⟨_, .of ht⟩, fun D nD => ?_⟩
    have nDh : h ≠ D := ne_of_none hxh nD
    have nDc : c ≠ D := ne_of_none hxc nD
    have sD := same_new (o := .lst []) nD
    refine lc_list (K := K) (a := t) (xs := ns.map V.str) (fun i Hy => But h H1 Hy ∧ HandAt Hy h c ∧ ∃ ys rs, Hy D = some (.lst ys) ∧ Paired (ArrowF (upd H1 D (.lst [])) Hy) ys rs ∧ rs.map (·.1) = ns.take i ∧ (∀ r ∈ rs, FitRow size r) ∧ ∀ b, Hy b = none → upd H1 D (.lst []) b = none)
      ⟨.of sD, hH1.same sD, [], [], upd_same, .nil, rfl, (fun _ z => by cases z), fun _ z => z⟩ (fun i Hy _ ⟨by1, _⟩ => .of (by1 _ _ nth ht)) (fun i x Hy hx hP => ?_) fun Hy hP => ?_
    · obtain ⟨by1, hHy, ys, rs, hD, hp, hrn, hfit, hfree⟩ := hP
      rw [List.getElem?_map] at hx
      cases hni : ns[i]? with
      | none =>
        rw [hni] at hx
        cases hx
      | some n =>
        rw [hni] at hx
        obtain rfl : V.str n = x := Option.some.inj hx
        have hli := by1 _ _ nlh hl1
        refine ⟨rfl, _, rfl, _, rfl, _, rfl, _, rfl, _, rfl, h, c, l, _, rfl, hHy, hli, nlh, by decide, by decide, fun k H2 hk b2 hH2 => ?_⟩
        obtain ⟨k, rfl, hk24⟩ : ∃ j : Nat, k = .int (j : Int) ∧ j ≤ 24 := by
          simp only [List.mem_cons, List.mem_singleton, List.not_mem_nil, or_false] at hk
          rcases hk with rfl | rfl | rfl | rfl | rfl | rfl | rfl
          · exact ⟨3, rfl, by decide⟩
          · exact ⟨6, rfl, by decide⟩
          · exact ⟨2, rfl, by decide⟩
          · exact ⟨12, rfl, by decide⟩
          · exact ⟨24, rfl, by decide⟩
          · exact ⟨1, rfl, by decide⟩
          · exact ⟨0, rfl, by decide⟩
        refine ⟨h, c, size, k, rfl, hH2, hz1, hz9, hk24, fun H3 e es ys' b3 hH3 ne he hes hel hew => ?_⟩
        have hD3 := b3 _ _ nDh.symm (b2 _ _ nDh.symm hD)
        have b23 := b2.trans b3
        obtain ⟨⟨zh, hzh⟩, _⟩ := hHy.at
        have nl23 := NoL.but b23 hzh
        refine ⟨(by show 2 ≤ sizeLine; decide), fun p np => ?_⟩
        have s4 := same_new (o := .tup [.str n, .ref e]) np
        have hD4 := s4 _ _ hD3
        have lenP := paired_len hp
        have lenR : rs.length ≤ 6 := by
          have h1 := congrArg List.length hrn
          rw [List.length_map, List.length_take] at h1
          omega
        refine ⟨ys, hD4, by rw [sizeLine_eq]; omega, fun b o nb ho => ?_, HandAt.but .upd nDh nDc (hH3.same s4), ys ++ [.ref p], rs ++ [(n, ys')], upd_same, ?_, ?_, ?_, ?_⟩
        · rw [upd_ne (ne_of_none ho nD)]
          exact s4 _ _ (b23 _ _ nb (by1 _ _ nb ho))
        · have nl := NoL.lst (ys := ys ++ [.ref p]) hD4
          have h0 : upd H1 D (.lst []) h ≠ none := by
            rw [sD _ _ hxh]
            intro z
            cases z
          have hD0 : upd H1 D (.lst []) D ≠ none := by
            rw [upd_same]
            intro z
            cases z
          have far : ∀ b o, upd H1 D (.lst []) b = none → Hy b = some o → upd (upd H3 p (.tup [.str n, .ref e])) D (.lst (ys ++ [.ref p])) b = some o := fun b o h1 h2 => by
            have n1 : b ≠ h := fun z => h0 (z ▸ h1)
            have n2 : b ≠ D := fun z => hD0 (z ▸ h1)
            rw [upd_ne n2]
            exact s4 _ _ (b23 _ _ n1 h2)
          have all : NoL Hy (upd (upd H3 p (.tup [.str n, .ref e])) D (.lst (ys ++ [.ref p]))) := (nl23.trans (.of s4)).trans nl
          refine paired_snoc ⟨p, e, es, rfl, nl _ _ (fun _ z => by cases z) upd_same, ?_, ?_, (hes.same s4).noL nl⟩ (paired_imp (fun _ _ z => ArrowF.go all far z) hp)
          · refine hfree e ?_
            have n1 : e ≠ h := fun z => by
              obtain ⟨⟨uh, huh⟩, _⟩ := hH2.at
              rw [z, huh] at ne
              cases ne
            cases eH : Hy e with
            | none => rfl
            | some o =>
              have := b2 _ _ n1 eH
              rw [this] at ne
              cases ne
          · have n2 : e ≠ D := fun z => by
              rw [z, b2 _ _ nDh.symm hD] at ne
              cases ne
            rw [upd_ne n2]
            exact s4 _ _ he
        · rw [List.map_append, hrn, take_snoc hni]
          rfl
        · intro r hr'
          rcases List.mem_append.mp hr' with y | y
          · exact hfit r y
          · rw [List.mem_singleton.mp y]
            exact ⟨hnn n (mem_at hni), Nat.le_trans hel hk24, hew⟩
        · intro b hb
          have n2 : b ≠ D := fun z => by
            rw [z, upd_same] at hb
            cases hb
          rw [upd_ne n2] at hb
          have hb3 := s4.free hb
          have n1 : b ≠ h := fun z => by
            obtain ⟨⟨uh, huh⟩, _⟩ := hH3.at
            rw [z, huh] at hb3
            cases hb3
          refine hfree b ?_
          cases eH : Hy b with
          | none => rfl
          | some o =>
            have := b23 _ _ n1 eH
            rw [this] at hb3
            cases hb3
    · obtain ⟨by1, hHy, ys, rs, hD, hp, hrn, hfit, _⟩ := hP
      rw [List.length_map, List.take_length] at hrn
      refine q Hy D ys rs (b1.trans by1) hHy hD (paired_imp (fun _ _ z => ArrowF.out z) hp) ?_ ?_ hfit
      · have h1 := congrArg List.length hrn
        rw [List.length_map] at h1
        omega
      · rw [hrn]
        exact hnd
end
end Cw

/-! Data that repr and == take: how long they are shown; _law_same. -/
namespace Cw
open PySem PySem.Spec PyProof.Rows L2
/-- d is shown within n signs, k deep -/
structure Sh (n k : Nat) (d : PyData) : Prop where
  len : d.shown.length ≤ n
  sh : d.showable = true
  lay : d.canLay0 = true
  dep : d.depth ≤ k
theorem Sh.mono {n m k j : Nat} {d : PyData} (h : Sh n k d) (a : n ≤ m) (b : k ≤ j) : Sh m j d := ⟨Nat.le_trans h.len a, h.sh, h.lay, Nat.le_trans h.dep b⟩
theorem join_le : ∀ ts : List Str, (Str.join ", " ts).length ≤ (ts.map fun t => t.length + 2).sum
  | [] => Nat.zero_le _
  | [x] => by
    show x.length ≤ x.length + 2 + 0
    omega
  | x :: y :: r => by
    have ih := join_le (y :: r)
    show (x ++ ", " ++ Str.join ", " (y :: r)).length ≤ _
    have e2 : ((", " : String) : Str).length = 2 := rfl
    rw [Str.length_append, Str.length_append, e2, List.map_cons, List.sum_cons]
    omega
theorem tupleText_le (ts : List Str) : (tupleText ts).length ≤ (ts.map fun t => t.length + 2).sum + 3 := by
  unfold tupleText
  rw [Str.length_append, Str.length_append]
  have e1 : ((("(" : String) : Str)).length = 1 := rfl
  have e3 : (((if ts.length == 1 then ",)" else ")" : String) : Str)).length ≤ 2 := by split <;> decide
  have := join_le ts
  omega
theorem shownAll_map : ∀ ds : List PyData, PyData.shownAll ds = ds.map PyData.shown
  | [] => by simp [PyData.shownAll]
  | d :: ds => by simp [PyData.shownAll, shownAll_map ds]
theorem sum_le {n : Nat} : ∀ {ds : List PyData}, (∀ d ∈ ds, d.shown.length ≤ n) → ((ds.map PyData.shown).map fun t => t.length + 2).sum ≤ ds.length * (n + 2)
  | [], _ => Nat.zero_le _
  | d :: ds, h => by
    have h1 := h d List.mem_cons_self
    have ih := sum_le (n := n) (ds := ds) fun x hx => h x (List.mem_cons_of_mem _ hx)
    rw [List.map_cons, List.map_cons, List.sum_cons, List.length_cons, Nat.add_mul]
    omega
theorem showAll : ∀ {ds : List PyData}, (∀ d ∈ ds, d.showable = true) → PyData.showableAll ds = true
  | [], _ => by simp [PyData.showableAll]
  | d :: ds, h => by
    have h1 := h d List.mem_cons_self
    have ih := showAll (ds := ds) fun x hx => h x (List.mem_cons_of_mem _ hx)
    simp [PyData.showableAll, h1, ih]
theorem layAll : ∀ {ds : List PyData}, (∀ d ∈ ds, d.canLay0 = true) → PyData.canLayAll0 ds = true
  | [], _ => by simp [PyData.canLayAll0]
  | d :: ds, h => by
    have h1 := h d List.mem_cons_self
    have ih := layAll (ds := ds) fun x hx => h x (List.mem_cons_of_mem _ hx)
    simp [PyData.canLayAll0, h1, ih]
theorem depAll {k : Nat} : ∀ {ds : List PyData}, (∀ d ∈ ds, d.depth ≤ k) → PyData.depthAll ds ≤ k
  | [], _ => by simp [PyData.depthAll]
  | d :: ds, h => by
    have h1 := h d List.mem_cons_self
    have ih := depAll (k := k) (ds := ds) fun x hx => h x (List.mem_cons_of_mem _ hx)
    simp only [PyData.depthAll]
    omega
theorem Sh.tuple {n k : Nat} {ds : List PyData} (h : ∀ d ∈ ds, Sh n k d) : Sh (ds.length * (n + 2) + 3) (k + 1) (.tuple ds) := by
  refine ⟨?_, ?_, ?_, ?_⟩
  · simp only [PyData.shown]
    rw [shownAll_map]
    have h1 := tupleText_le (ds.map PyData.shown)
    have h2 := sum_le (n := n) (ds := ds) fun d hd => (h d hd).len
    omega
  · simp only [PyData.showable]
    exact showAll fun d hd => (h d hd).sh
  · simp only [PyData.canLay0]
    exact layAll fun d hd => (h d hd).lay
  · simp only [PyData.depth]
    have := depAll (k := k) (ds := ds) fun d hd => (h d hd).dep
    omega
theorem Sh.tup {n k m : Nat} {ds : List PyData} (h : ∀ d ∈ ds, Sh n k d) (l : ds.length * (n + 2) + 3 ≤ m) : Sh m (k + 1) (.tuple ds) := (Sh.tuple h).mono l (Nat.le_refl _)
theorem Sh.pair {n k : Nat} {d e : PyData} (h1 : Sh n k d) (h2 : Sh n k e) : Sh (2 * n + 7) (k + 1) (.tuple [d, e]) := Sh.tup (fun x hx => by
  rcases List.mem_cons.mp hx with rfl | hx
  · exact h1
  · rw [List.mem_singleton.mp hx]
    exact h2) (by show 2 * (n + 2) + 3 ≤ _; omega)
theorem digit_len : ∀ k ∈ List.range 10, (PyData.shown (.int (k : Int))).length ≤ 1 ∧ PyData.showable (.int (k : Int)) = true := by decide +kernel
theorem sh_digit {i : Int} (h0 : 0 ≤ i) (h9 : i < 10) : Sh 1 0 (.int i) := by
  obtain ⟨k, rfl⟩ := Int.eq_ofNat_of_zero_le h0
  have h := digit_len k (List.mem_range.mpr (by omega))
  exact ⟨h.1, h.2, by simp [PyData.canLay0], by simp [PyData.depth]⟩
theorem sh_str {x : Str} (h1 : x.length ≤ 10) (h2 : ∀ c ∈ x.cps.toList, c < 0x110000) : Sh 102 0 (.str x) := by
  refine ⟨?_, by simp [PyData.showable], ?_, by simp [PyData.depth]⟩
  · simp only [PyData.shown]
    have := StrLaws.reprText_len x fun c hc => Nat.lt_trans (h2 c hc) (by decide)
    omega
  · simp only [PyData.canLay0]
    unfold PyData.strOk
    rw [Array.all_eq_true_iff_forall_mem]
    exact fun c hc => decide_eq_true (h2 c (Array.mem_toList_iff.mpr hc))
theorem sh_name {x : Str} (h : Name x) : Sh 102 0 (.str x) := sh_str (Nat.le_trans h.2.1 (by decide)) fun c hc => small_110000 c (h.2.2 c hc)
theorem sh_row {size : Nat} (hz : size ≤ 9) {c : List Int} (hl : c.length ≤ 4) (h : ∀ i ∈ c, 0 ≤ i ∧ i < (size : Int)) : Sh 15 1 (rowD c) := Sh.tup (fun d hd => by
  obtain ⟨i, hi, rfl⟩ := List.mem_map.mp hd
  have := h i hi
  exact sh_digit (by omega) (by omega)) (by rw [List.length_map]; omega)
theorem sh_edges {size : Nat} (hz : size ≤ 9) {es : List Edge} (hl : es.length ≤ 24) (h : Within size es) : Sh 267 2 (edgesD es) := Sh.tup (n := 9) (fun d hd => by
  obtain ⟨e, he, rfl⟩ := List.mem_map.mp hd
  have := h e he
  exact (Sh.pair (sh_digit (i := e.1) (by omega) (by omega)) (sh_digit (i := e.2) (by omega) (by omega))).mono (by decide) (Nat.le_refl _)) (by rw [List.length_map]; omega)
theorem sh_due {size : Nat} (hz : size ≤ 9) {rs : List Row} (h : Good size rs) : Sh 4000 4 (dueD rs) := Sh.tup (n := 541) (fun d hd => by
  obtain ⟨r, hr, rfl⟩ := List.mem_map.mp hd
  have g := h.rows r hr
  exact Sh.pair (n := 267) ((sh_name g.name).mono (by decide) (by decide)) (sh_edges hz g.few g.win)) (by
    rw [List.length_map]
    have := h.few
    omega)
theorem sh_chains {size : Nat} (hz : size ≤ 9) {es : List Edge} (hl : es.length ≤ 24) (ha : es.Pairwise Before) (h : Within size es) {n : Nat} (hn : n ≤ 3) : Sh 2200000 2 (.tuple ((chains size es n).map rowD)) := Sh.tup (n := 15) (fun d hd => by
  obtain ⟨c, hc, rfl⟩ := List.mem_map.mp hd
  have h1 := (asc_chains (size := size) ha n).2 c hc
  exact sh_row hz (by omega) (cells_chains h n c hc)) (by
    rw [List.length_map]
    have h1 := len_chains hz hl n
    have h2 : 24 ^ n ≤ 24 ^ 3 := Nat.pow_le_pow_right (by decide) hn
    omega)
theorem Sh.shaped {n : Nat} {d : PyData} (h : Sh n 40 d) : SeqAt.shaped d = true := by
  unfold SeqAt.shaped
  rw [Bool.and_eq_true]
  refine ⟨h.lay, decide_eq_true ?_⟩
  have := h.dep
  omega
section
variable {P : Program} {w : World} {K : PySem.W.Frag} {mg : Str → Option Value} {base : Heap}
/-! ### _law_same -/
def spSame (K : PySem.W.Frag) : Sp := fun vs H Q _ => ∃ (a b : Addr) (d : PyData), vs = [.ref a, .ref b] ∧ Dp K H (.ref a) d ∧ Dp K H (.ref b) d ∧ Sh 16000000 40 d ∧ Q (.bl true) H
theorem ok_same {f : Addr} {fd : FuncData} (F : Fun K "_law_same" "_law_same" lSame f fd) (T : Free mg) : FnG P w K mg base 1 f fd ["_law_told", "_law_due"] (spSame K) := by
  refine FnG.of F dSame (fun vs H Q E h => ?_) (fun cdv A outer s H vs Q E hr hg h => ?_)
  · obtain ⟨a, b, d, rfl, _⟩ := h
    rfl
  · obtain ⟨a, b, d, rfl, ha, hb, hd, q⟩ := h
    have hu := hu64 hr
    have eqs : PyData.eqv d d = true := SeqAt.eqv_refl d hd.lay
    refine ⟨_, pss_one (ps_ret (pe_and (pe_cmpR (op_eqD hu) (pv 0) (pv 1) (nomark _)) (pe_one (pe_cmpR op_eq (pe_callB (cr_repr hg hu) (by rfl) T.repr boot_repr (pa_cons (pv 0) pa_nil)) (pe_callB (cr_repr hg hu) (by rfl) T.repr boot_repr (pa_cons (pv 1) pa_nil)) (nomark _))))), ?_⟩
    have nd := PyData.hasDict_of_canLay d hd.lay
    have dep : d.depth ≤ 50 := Nat.le_trans hd.dep (by decide)
    have len : d.shown.length ≤ sizeLine := Nat.le_trans hd.len (by rw [sizeLine_eq]; decide)
    refine ⟨_, rfl, _, rfl, d, d, ha, hb, hd.shaped, hd.shaped, true, congrArg V.bl eqs, iteT ?_⟩
    refine ⟨_, rfl, a, d, rfl, ha, hd.sh, nd, dep, len, _, rfl, b, d, rfl, hb, hd.sh, nd, dep, len, rfl, ?_⟩
    show Q (.bl (decide _)) H
    rw [decide_eq_true rfl]
    exact q
end
end Cw

/-! _law_chains; _law_asked_chains. -/
namespace Cw
open PySem PySem.Spec PyProof.Rows L2
theorem grow_snoc {es : List Edge} {c : List Int} {i : Nat} {e : Edge} (h : es[i]? = some e) : grow (es.take (i + 1)) c = if e.1 = lastI c ∧ e.2 ∉ c then grow (es.take i) c ++ [c ++ [e.2]] else grow (es.take i) c := by
  unfold grow
  rw [take_snoc h, List.filter_append, List.map_append]
  by_cases q : e.1 = lastI c ∧ e.2 ∉ c
  · rw [if_pos q, List.filter_cons_of_pos (by simpa using q)]
    rfl
  · rw [if_neg q, List.filter_cons_of_neg (by simpa using q)]
    simp
theorem rows_ne {size : Nat} {es : List Edge} (ha : es.Pairwise Before) (n : Nat) : ∀ r ∈ chains size es n, r ≠ [] := fun r hr z => by
  have h1 := (asc_chains (size := size) ha n).2 r hr
  rw [z] at h1
  simp at h1
theorem rows_sorted {size : Nat} {es : List Edge} (ha : es.Pairwise Before) (n : Nat) : (chains size es n).mergeSort leRow = chains size es n := sort_asc (asc_chains (size := size) ha n)
theorem RowsAt.app {H : Hp} {ys : List V} {ss : List (List Int)} (q : RowsAt H ys ss) : ∀ {xs : List V} {rs : List (List Int)}, RowsAt H xs rs → RowsAt H (xs ++ ys) (rs ++ ss)
  | _, _, .nil => q
  | _, _, .cons h t => .cons h (RowsAt.app q t)
/-- a def that may raise, at x -/
structure DefX (P : Program) (w : World) (K : PySem.W.Frag) (mg : Str → Option Value) (base : Heap) (k : Nat) (x : Str) (sp : Sp) : Prop where
  ex : ∃ (f : Addr) (fd : FuncData) (ps : List Str), mg x = some (.ref f) ∧ PySem.W.keepIn K (.ref f) = true ∧ Binds K fd ps [] ∧ FnOk P w K mg base (L2.CX P w) k f fd ps sp
/-- a def called where nothing is under way, at x -/
structure DefG (P : Program) (w : World) (K : PySem.W.Frag) (mg : Str → Option Value) (base : Heap) (k : Nat) (x : Str) (sp : Sp) : Prop where
  ex : ∃ (f : Addr) (fd : FuncData) (ps : List Str), mg x = some (.ref f) ∧ PySem.W.keepIn K (.ref f) = true ∧ Binds K fd ps [] ∧ FnG P w K mg base k f fd ps sp
section
variable {X : Cx} {k : Nat} {x : Str} {sp : Sp} {p pos : Pos} {e : Expr} {es : List Expr} {t : TA} {E : L2.St → XK}
theorem pe_defS (c : DefX X.prog X.w X.K X.mg X.base k x sp) (hr : Room k X.A) (hg : Gl X x) (hx : ∀ σ, PassesAt (L2.CX X.prog X.w) X σ (E σ)) (ha : PA X (e :: es) t) (hdb : (x == ("__debug__" : Str)) = false := by decide)
    (he : starEach (e :: es) X.env = (false, eval e X.env) :: starEach es X.env := by rfl) (hpl : (backTo pos (starEach es X.env)).any (·.1) = false := by rfl) : PE X (.Call (.Name x p) (e :: es) [] pos) (tCallS sp E t) := by
  obtain ⟨f, fd, ps, g, kp, b, F⟩ := c.ex
  exact pe_callS F hr hg g kp b hx ha hdb he hpl
theorem pe_defG (c : DefG X.prog X.w X.K X.mg X.base k x sp) (hr : Room k X.A) (hgd : X.A.guards = some []) (hg : Gl X x) (ha : PA X (e :: es) t) (hdb : (x == ("__debug__" : Str)) = false := by decide)
    (he : starEach (e :: es) X.env = (false, eval e X.env) :: starEach es X.env := by rfl) (hpl : (backTo pos (starEach es X.env)).any (·.1) = false := by rfl) : PE X (.Call (.Name x p) (e :: es) [] pos) (tCall sp [] E0 t) := by
  obtain ⟨f, fd, ps, g, kp, b, F⟩ := c.ex
  exact pe_callG F hr hgd hg g kp b ha hdb he hpl
end
section
variable {P : Program} {w : World} {K : PySem.W.Frag} {mg : Str → Option Value} {base : Heap}
/-! ### _law_chains -/
def spLChains (K : PySem.W.Frag) : Sp := fun vs H Q _ => ∃ (size j : Nat) (v : V) (es : List Edge), vs = [.int (size : Int), v, .int ((j + 1 : Nat) : Int)] ∧ Dp K H v (edgesD es) ∧ es.Pairwise Before ∧ es.length ≤ 24 ∧ size ≤ 9 ∧ j ≤ 3 ∧
  ∀ H' p ys, Same H H' → H' p = some (.tup ys) → RowsAt H' ys (chains size es j) → Q (.ref p) H'
theorem ok_lchains {f : Addr} {fd : FuncData} (F : Fun K "_law_chains" "_law_chains" lChains f fd) (T : Free mg) : FnOk P w K mg base CX0 1 f fd ["_law_size", "_law_edges_here", "_law_length"] (spLChains K) := by
  refine F.ok dChains (fun vs H Q E h => ?_) (fun cdv A outer s H vs Q E hr h => ?_)
  · obtain ⟨size, j, v, es, rfl, _⟩ := h
    rfl
  · obtain ⟨size, j, v, es, rfl, hdp, hasc, hel, hz, hj, q⟩ := h
    obtain ⟨ea, exs, rfl, hexs, heall⟩ := dp_ref hdp
    have lenE := DpAll.len heall
    rw [List.length_map] at lenE
    refine ⟨_, pss_cons (ps_setLc (i := 3) (own := [("_law_cell", 7)]) (g := gName 7) (tt := tYes) rfl dChains.nd rfl rfl (sw_true rfl rfl rfl (by decide +kernel)) (pi_range1 (by rfl) T.range (pa_cons (pv 0) pa_nil)) (blkOk_by (N := ["_law_size", "_law_edges_here", "_law_length", "_law_rows", "_law_k", "_law_longer", "_law_row", "_law_cell", "_law_edge"]) (sc := defScope lChains) (by decide +kernel))
          (fun _ _ _ _ _ => pg_name (i := 7) dChains.nd rfl (Or.inl rfl)) (fun _ _ _ _ _ => pts_nil) (fun _ _ _ _ _ => pe_tup (pa_cons (pv 7) pa_nil)))
      (pss_cons (ps_for PassesOwn.never rfl (pi_range1 (by rfl) T.range (pa_cons (pe_op op_sub (pv 2) pe_int) pa_nil)) (pg_name (i := 4) dChains.nd rfl (Or.inl rfl))
        (pss_cons (ps_set (i := 5) dChains.nd rfl (Or.inl rfl) (pe_lst pa_nil))
        (pss_cons (ps_for PassesOwn.never rfl (pi_list (pv 3)) (pg_name (i := 6) dChains.nd rfl (Or.inr rfl))
          (pss_one (ps_expr (pe_bm PySem.F.plainAttrs_list PySem.F.slot_list_extend PySem.F.type_list_extend mt_extend (pv 5) (pa_cons (pe_lc (own := [("_law_edge", 8)]) (g := gName 8) rfl dChains.nd (pi_tup (pv 1)) (blkOk_by (N := ["_law_size", "_law_edges_here", "_law_length", "_law_rows", "_law_k", "_law_longer", "_law_row", "_law_cell", "_law_edge"]) (sc := defScope lChains) (by decide +kernel))
            (fun _ _ _ _ _ => pg_name (i := 8) dChains.nd rfl (Or.inl rfl))
            (fun _ _ _ _ _ => pts_one (PW.pt (pw_and (pt_cmpR (r := rEq) op_eq (pe_ix (r := rIx K) ix_seq (pv 8) pe_int (fun _ _ => rfl)) (pe_ix (r := rIx K) ix_seq (pv 6) (pe_un un_neg pe_int) (fun _ _ => rfl)) (nomark _)) (pw_and1 (pt_cmpR (r := rIn K true) op_notIn_seq (pe_ix (r := rIx K) ix_seq (pv 8) pe_int (fun _ _ => rfl)) (pv 6) rfl)))))
            (fun _ _ _ _ _ => pe_op (r := rCatT K) op_catT (pv 6) (pe_tup (pa_cons (pe_ix (r := rIx K) ix_seq (pv 8) pe_int (fun _ _ => rfl)) pa_nil)))) pa_nil)))))
        (pss_one (ps_set (i := 3) dChains.nd rfl (Or.inl rfl) (pe_callTy call_list_of (by rfl) T.list boot_list (pa_cons (pv 5) pa_nil)))))))
      (pss_one (ps_ret (pe_callTy call_tuple_of (by rfl) T.tuple boot_tuple (pa_cons (pe_callB (cr_sortRows (hu64 hr)) (by rfl) T.sorted boot_sorted (pa_cons (pv 3) pa_nil)) pa_nil))))), ?_⟩
    refine ⟨_, rfl, (size : Int), rfl, by omega, by omega, fun D nD => lc_range (lo := 0) (n := ((size : Nat) : Int).toNat) (fun i H' => Same H H' ∧ ∃ ys, H' D = some (.lst ys) ∧ RowsAt H' ys ((List.range i).map fun (i : Nat) => [(i : Int)]))
      ⟨same_new nD, [], upd_same, .nil⟩ (fun i H' hi ⟨sm, ys, hD, hy⟩ => ?_) fun H' ⟨sm, ys, hD, hy⟩ => ?_⟩
    · refine ⟨rfl, _, rfl, (by show 1 ≤ sizeLine; decide), fun p np => ?_⟩
      have st := same_new (o := .tup [.int (0 + (i : Int))]) np
      have lenY := hy.len
      rw [List.length_map, List.length_range] at lenY
      refine ⟨ys, st _ _ hD, by rw [sizeLine_eq]; omega, fun a o ho => ?_, _, upd_same, ?_⟩
      · rw [upd_ne (ne_of_none ho nD)]
        exact st _ _ (sm _ _ ho)
      · rw [List.range_succ, List.map_append]
        have nl := NoL.lst (ys := ys ++ [.ref p]) (st _ _ hD)
        refine RowsAt.snoc (nl _ _ (fun _ z => by cases z) ?_) ((hy.same st).noL nl)
        rw [upd_same, Int.zero_add]
        rfl
    · have es0 : (List.range ((size : Nat) : Int).toNat).map (fun (i : Nat) => [(i : Int)]) = chains size es 0 := by
        rw [Int.toNat_natCast]
        rfl
      rw [es0] at hy
      refine ⟨_, rfl, _, _, rfl, rfl, (((j + 1 : Nat) : Int) - 1), rfl, by omega, by omega, ?_⟩
      refine for_range (lo := 0) (n := (((j + 1 : Nat) : Int) - 1).toNat) (fun i σ H' => ∃ l v4 v5 v6 v7 v8 xs, σ = [some (.int (size : Int)), some (.ref ea), some (.int ((j + 1 : Nat) : Int)), some (.ref l), v4, v5, v6, v7, v8] ∧ Same H H' ∧ H' l = some (.lst xs) ∧ RowsAt H' xs (chains size es i))
        ⟨D, none, none, none, none, none, ys, rfl, sm, hD, hy⟩ ?_ ?_
      · rintro i σ H1 hi ⟨l, v4, v5, v6, v7, v8, xs, rfl, s1, hl, hx⟩
        have asc := asc_chains (size := size) hasc i
        have lenX := hx.len
        have lenC : (chains size es i).length ≤ 5184 := by
          have h1 := len_chains hz hel (size := size) i
          have h2 : 24 ^ i ≤ 24 ^ 2 := Nat.pow_le_pow_right (by decide) (by omega)
          omega
        refine ⟨Nat.zero_le _, fun lo nlo => ?_⟩
        have slo := same_new (o := .lst []) nlo
        refine ⟨_, rfl, l, rfl, ⟨xs, .of (slo _ _ hl)⟩, for_list (K := K) (a := l) (xs := xs) (fun r σ H2 => ∃ v6 v7 v8 ys, σ = [some (.int (size : Int)), some (.ref ea), some (.int ((j + 1 : Nat) : Int)), some (.ref l), some (.int (0 + (i : Int))), some (.ref lo), v6, v7, v8] ∧ Same H1 H2 ∧ H2 lo = some (.lst ys) ∧ RowsAt H2 ys (growAll es ((chains size es i).take r)))
          ⟨v6, v7, v8, [], rfl, slo, upd_same, .nil⟩ (fun r σ H2 _ ⟨_, _, _, _, _, s2, _⟩ => .of (s2 _ _ hl)) ?_ ?_⟩
        · rintro r x σ H2 hxr ⟨v6, v7, v8, ys, rfl, s2, hlo, hy⟩
          obtain ⟨ac, c, rfl, hcr, hac⟩ := hx.get hxr
          have hcl := asc.2 c (mem_at hcr)
          have hrl : r < (chains size es i).length := (List.getElem?_eq_some_iff.mp hcr).1
          have cne : c ≠ [] := fun z => by
            rw [z] at hcl
            simp at hcl
          have hac2 := s2 _ _ hac
          have hexs2 := sqT_same (s1.trans s2) hexs
          refine ⟨_, rfl, .inl ⟨rfl, _, .of hlo⟩, _, rfl, ea, rfl, ⟨exs, hexs2⟩, fun G nG => lc_tup (K := K) (a := ea) (xs := exs) (fun t H3 => Same H2 H3 ∧ ∃ gs, H3 G = some (.lst gs) ∧ RowsAt H3 gs (grow (es.take t) c))
            ⟨same_new nG, [], upd_same, .nil⟩ (fun t H3 _ ⟨s3, _⟩ => sqT_same s3 hexs2) (fun t x H3 hxt ⟨s3, gs, hG, hgs⟩ => ?_) fun H3 ⟨s3, gs, hG, hgs⟩ => ?_⟩
          · obtain ⟨d, hd, hdx⟩ := DpAll.get heall hxt
            rw [List.getElem?_map] at hd
            cases het : es[t]? with
            | none =>
              rw [het] at hd
              cases hd
            | some e =>
              rw [het] at hd
              obtain rfl : edgeD e = d := Option.some.inj hd
              obtain ⟨ae, us, rfl, hq, hus⟩ := dp_ref (Dp.same ((s1.trans s2).trans s3) hdx)
              cases hus with
              | cons h1 h2 =>
                cases h1
                cases h2 with
                | cons h2 h3 =>
                  cases h2
                  cases h3
                  have hac3 := s3 _ _ hac2
                  have snoc := grow_snoc (c := c) het
                  have gix : ∀ (m : Nat) (v : V) (Q' : VK), [V.int e.1, V.int e.2][m]? = some v → Q' v H3 → rIx K (.ref ae) (.int (m : Int)) H3 Q' := fun m v Q' e1 q' => .inr (.inl ⟨ae, _, (m : Int), v, rfl, rfl, hq, atI_nat e1, q'⟩)
                  have lix' : ∀ (Q' : VK), Q' (.int (lastI c)) H3 → rIx K (.ref ac) (.int (-1)) H3 Q' := fun Q' q' => .inr (.inl ⟨ac, _, -1, _, rfl, rfl, .of hac3, last_at cne, q'⟩)
                  have lenG : gs.length ≤ 24 := by
                    have h1 := hgs.len
                    have h2 := len_grow (es.take t) c
                    rw [List.length_take] at h2
                    omega
                  refine ⟨rfl, _, rfl, gix 0 _ _ rfl ⟨_, rfl, 1, rfl, lix' _ ⟨rfl, _, rfl, ?_⟩⟩⟩
                  by_cases z1 : e.1 = lastI c
                  · rw [decide_eq_true (by rw [z1])]
                    refine iteT ⟨_, rfl, gix 1 _ _ rfl ⟨_, rfl, ac, c.map V.int, rfl, .inr (.of hac3), rfl, flat_ints' c, !decide (e.2 ∈ c), congrArg V.bl (by rw [← in_ints e.2 c]; rfl), ?_⟩⟩
                    by_cases z2 : e.2 ∈ c
                    · rw [decide_eq_true z2]
                      refine iteF ⟨s3, gs, hG, ?_⟩
                      rw [snoc, if_neg (fun y => y.2 z2)]
                      exact hgs
                    · rw [decide_eq_false z2]
                      refine iteT ⟨_, rfl, _, rfl, gix 1 _ _ rfl ⟨(by show 1 ≤ sizeLine; decide), fun tp ntp => ?_⟩⟩
                      have st := same_new (o := .tup [.int e.2]) ntp
                      refine ⟨ac, tp, c.map V.int, [.int e.2], rfl, rfl, .of (st _ _ hac3), .of upd_same, by simpa using cne, ?_, (fun z => by cases z), fun _ np nnp => ?_⟩
                      · rw [List.length_map, sizeLine_eq]
                        simp only [List.length_singleton]
                        omega
                      · have st2 := st.trans (same_new (o := .tup (c.map V.int ++ [.int e.2])) nnp)
                        have hG4 := st2 _ _ hG
                        refine ⟨gs, hG4, by rw [sizeLine_eq]; omega, fun b o ho => ?_, _, upd_same, ?_⟩
                        · rw [upd_ne (ne_of_none ho nG)]
                          exact st2 _ _ (s3 _ _ ho)
                        · rw [snoc, if_pos ⟨z1, z2⟩]
                          have nl := NoL.lst (ys := gs ++ [.ref np]) hG4
                          refine RowsAt.snoc (nl _ _ (fun _ z => by cases z) ?_) ((hgs.same st2).noL nl)
                          rw [upd_same, List.map_append]
                          rfl
                  · rw [decide_eq_false (fun y => z1 (V.int.inj y))]
                    refine iteF (iteF ⟨s3, gs, hG, ?_⟩)
                    rw [snoc, if_neg (fun y => z1 y.1)]
                    exact hgs
          · have full : es.take exs.length = es := by
              rw [lenE]
              exact List.take_length
            rw [full] at hgs
            have hlo3 := s3 _ _ hlo
            have lenY := hy.len
            have lenG := hgs.len
            have l1 := len_growAll es ((chains size es i).take r)
            rw [List.length_take] at l1
            have l2 : min r (chains size es i).length * es.length ≤ 5184 * 24 := Nat.mul_le_mul (by omega) hel
            have l3 := len_grow es c
            refine ⟨lo, G, ys, gs, rfl, rfl, hlo3, hG, by rw [sizeLine_eq]; omega, ?_⟩
            refine ⟨_, _, _, ys ++ gs, rfl, fun b o ho => ?_, upd_same, ?_⟩
            · rw [upd_ne (ne_of_none ho nlo)]
              exact s3 _ _ (s2 _ _ ho)
            · have nl := NoL.lst (ys := ys ++ gs) hlo3
              rw [take_snoc hcr]
              have eg : growAll es ((chains size es i).take r ++ [c]) = growAll es ((chains size es i).take r) ++ grow es c := by
                unfold growAll
                rw [List.flatMap_append]
                simp
              rw [eg]
              exact RowsAt.app (hgs.noL nl) ((hy.same s3).noL nl)
        · rintro σ H2 ⟨v6, v7, v8, ys, rfl, s2, hlo, hy⟩
          have full : (chains size es i).take xs.length = chains size es i := by
            rw [lenX]
            exact List.take_length
          rw [full] at hy
          refine ⟨_, rfl, lo, ys, rfl, .inl (.of hlo), fun l2 nl2 => ?_⟩
          have st := same_new (o := .lst ys) nl2
          exact ⟨l2, _, _, _, _, _, ys, rfl, (s1.trans s2).trans st, upd_same, hy.same st⟩
      · rintro σ H1 ⟨l, v4, v5, v6, v7, v8, xs, rfl, s1, hl, hx⟩
        have ej : (((j + 1 : Nat) : Int) - 1).toNat = j := by omega
        rw [ej] at hx
        obtain ⟨ts, rfl, hts, hsort⟩ := hx.sorts (K := K) (rows_ne hasc j)
        rw [rows_sorted hasc] at hsort
        refine ⟨_, rfl, l, ts, rfl, .of hl, hts, fun p1 np1 => ?_⟩
        have sp1 := same_new (o := .lst (refsOf (ts.mergeSort byRow))) np1
        refine ⟨p1, refsOf (ts.mergeSort byRow), rfl, .inl ⟨.of upd_same, fun p2 np2 => ?_⟩⟩
        have sp2 := same_new (o := .tup (refsOf (ts.mergeSort byRow))) np2
        exact q _ p2 _ (s1.trans (sp1.trans sp2)) upd_same (hsort.same (sp1.trans sp2))
end
end Cw

/-! _law_asked_chains; _law_refusals_right. -/
namespace Cw
open PySem PySem.Spec PyProof.Rows L2
section
variable {P : Program} {w : World} {K : PySem.W.Frag} {mg : Str → Option Value} {base : Heap}
/-! ### _law_asked_chains -/
def spAsked (K : PySem.W.Frag) (C : Addr) : Sp := fun vs H Q _ => ∃ (b : Addr) (size : Nat) (rs : List Row) (n : Str) (v : V), vs = [.ref b, .str n, v] ∧ BoardAt K C H b size rs ∧ size ≤ 9 ∧ Good size rs ∧ Plain v ∧
  (edgesFor rs n = none → ∀ H' p, Same H H' → H' p = some (.tup [.str "NoArrow", .str n]) → Q (.ref p) H') ∧
  (∀ es, edgesFor rs n = some es → numIn v 1 4 = false → ∀ H' p, Same H H' → H' p = some (.tup [.str "BadLength", v]) → Q (.ref p) H') ∧
  ∀ es (j : Nat), edgesFor rs n = some es → v = .int ((j + 1 : Nat) : Int) → j ≤ 3 → ∀ H' p t ys, Same H H' → H' p = some (.tup [.str "told", .ref t]) → H' t = some (.tup ys) → RowsAt H' ys (chains size es j) → Q (.ref p) H'
theorem ok_asked {f C CN CL : Addr} {fd : FuncData} (F : Fun K "_law_asked_chains" "_law_asked_chains" lAsked f fd) (TN : ErrC K mg CN "NoArrow" "arrow") (TL : ErrC K mg CL "BadLength" "length") (tn : PySem.W.exmOne K (.ref CL) (.ref CN) = some false)
    (DC : DefX P w K mg base 6 "chains_of" (spChains K C CN CL)) : FnOk P w K mg base CX0 7 f fd ["_law_board", "_law_arrow", "_law_length"] (spAsked K C) := by
  refine F.ok dAsked (fun vs H Q E h => ?_) (fun cdv A outer s H vs Q E hr h => ?_)
  · obtain ⟨b, size, rs, n, v, rfl, _⟩ := h
    rfl
  · obtain ⟨b, size, rs, n, v, rfl, hB, hz, hG, hv, q1, q2, q3⟩ := h
    refine ⟨_, pss_cons (ps_try_all rfl rfl dAsked.nd takes0 (fun W pn xe tk _ => pss_one (ps_set (i := 3) dAsked.nd rfl (Or.inl rfl) (pe_defS DC hr (by rfl) (fun σ => L2.passAt tk σ) (pa_cons (pv 0) (pa_cons (pv 1) (pa_cons (pv 2) pa_nil))))))
        (.cons (i := 4) ⟨rfl, by decide, .inl TN.g⟩ rfl rfl (fun a oe cls d pn hz hf => pss_one (ps_ret (pe_tup (pa_cons pe_str (pa_cons (pe_xf TN.xf TN.nf hz hf (pv 4)) pa_nil)))))
        (.cons (i := 4) ⟨rfl, by decide, .inl TL.g⟩ rfl rfl (fun a oe cls d pn hz hf => pss_one (ps_ret (pe_tup (pa_cons pe_str (pa_cons (pe_xf TL.xf TL.nf hz hf (pv 4)) pa_nil))))) .nil)))
      (pss_one (ps_ret (pe_tup (pa_cons pe_str (pa_cons (pv 3) pa_nil))))), ?_⟩
    refine ⟨_, rfl, _, rfl, _, rfl, b, size, rs, n, v, rfl, hB, hz, hG, hv, fun hes d H1 s1 hd => ?_, fun es hes hn d H1 s1 hd => ?_, fun es j hes hj hj3 H1 p ys s1 hp hy => ?_⟩
    · refine ⟨true, TN.te, fun _ a na => ?_, fun z => by cases z⟩
      refine ⟨_, rfl, rfl, rfl, d, _, _, rfl, hd, rfl, (by show 2 ≤ sizeLine; decide), fun p np => ?_⟩
      exact q1 hes _ p (s1.trans (same_new np)) upd_same
    · refine ⟨false, tn, (fun z => by cases z), fun _ => ⟨true, TL.te, fun _ a na => ?_, fun z => by cases z⟩⟩
      refine ⟨_, rfl, rfl, rfl, d, _, _, rfl, hd, rfl, (by show 2 ≤ sizeLine; decide), fun p np => ?_⟩
      exact q2 es hes hn _ p (s1.trans (same_new np)) upd_same
    · refine ⟨_, rfl, (by show 2 ≤ sizeLine; decide), fun p2 np => ?_⟩
      have st := same_new (o := .tup [.str "told", .ref p]) np
      exact q3 es j hes hj hj3 _ p2 p ys (s1.trans st) upd_same (st _ _ hp) (hy.same st)
/-! ### _law_refusals_right -/
def spRight (K : PySem.W.Frag) (C : Addr) : Sp := fun vs H Q _ => ∃ (h c b l : Addr) (size : Nat) (rs : List Row), vs = [.ref h, .ref b, .ref l] ∧ HandAt H h c ∧ BoardAt K C H b size rs ∧ size ≤ 9 ∧ Good size rs ∧ H l = some (.lst ((rs.map (·.1)).map V.str)) ∧ l ≠ h ∧
  ∀ H', But h H H' → HandAt H' h c → Q (.bl true) H'
/-- a length that is refused -/
theorem odd_len {K : PySem.W.Frag} {v : V} (h : v ∈ [V.int 5, .int 0, .non, .str "1", .bl true]) : Plain v ∧ numIn v 1 4 = false ∧ ∃ d, Sh 102 0 d ∧ ∀ H, Dp K H v d := by
  simp only [List.mem_cons, List.mem_singleton, List.not_mem_nil, or_false] at h
  rcases h with rfl | rfl | rfl | rfl | rfl
  · exact ⟨trivial, rfl, .int 5, (sh_digit (by decide) (by decide)).mono (by decide) (Nat.le_refl _), fun H => .int 5⟩
  · exact ⟨trivial, rfl, .int 0, (sh_digit (by decide) (by decide)).mono (by decide) (Nat.le_refl _), fun H => .int 0⟩
  · exact ⟨trivial, rfl, .none, ⟨by decide +kernel, by simp [PyData.showable], by simp [PyData.canLay0], by simp [PyData.depth]⟩, fun H => .non⟩
  · exact ⟨trivial, rfl, .str "1", sh_str (by decide +kernel) (by decide +kernel), fun H => .str "1"⟩
  · exact ⟨trivial, rfl, .bool true, ⟨by decide +kernel, by simp [PyData.showable], by simp [PyData.canLay0], by simp [PyData.depth]⟩, fun H => .bl true⟩
theorem sh_word : Sh 102 0 (.str "NoArrow") ∧ Sh 102 0 (.str "BadLength") ∧ Sh 102 0 (.str "told") := ⟨sh_str (by decide +kernel) (by decide +kernel), sh_str (by decide +kernel) (by decide +kernel), sh_str (by decide +kernel) (by decide +kernel)⟩
theorem ok_right {f C : Addr} {fd : FuncData} (F : Fun K "_law_refusals_right" "_law_refusals_right" lRight f fd) (DP : Def P w K mg base 3 "_law_pick" spPick) (DN : Def P w K mg base 4 "_law_name" spLName) (DA : Def P w K mg base 7 "_law_asked_chains" (spAsked K C))
    (DS : DefG P w K mg base 1 "_law_same" (spSame K)) : FnG P w K mg base 8 f fd ["_law_hand_here", "_law_board", "_law_names_here"] (spRight K C) := by
  refine FnG.of F dRight (fun vs H Q E h => ?_) (fun cdv A outer s H vs Q E hr hg h => ?_)
  · obtain ⟨h, c, b, l, size, rs, rfl, _⟩ := h
    rfl
  · obtain ⟨h, c, b, l, size, rs, rfl, hH, hB, hz, hG, hl, nlh, q⟩ := h
    have hr4 : Room 4 _ := hr.mono (by decide)
    have hr3 : Room 3 _ := hr.mono (by decide)
    have hr1 : Room 1 _ := hr.mono (by decide)
    have hns : ∀ n ∈ rs.map (·.1), Name n := fun n hn => by
      obtain ⟨r, hr', rfl⟩ := List.mem_map.mp hn
      exact (hG.rows r hr').name
    have h6 : (rs.map (·.1)).length ≤ 6 := by
      rw [List.length_map]
      exact hG.few
    refine ⟨_, pss_cons (ps_set (i := 3) dRight.nd rfl (Or.inl rfl) (pe_def DP hr3 (by rfl) (pa_cons (pv 0) (pa_cons (pe_lst (pa_cons (pe_def DN hr4 (by rfl) (pa_cons (pv 0) (pa_cons (pv 2) pa_nil))) (pa_cons pe_str pa_nil))) pa_nil))))
      (pss_cons (ps_set (i := 4) dRight.nd rfl (Or.inl rfl) (pe_def DP hr3 (by rfl) (pa_cons (pv 0) (pa_cons (pe_lst (pa_cons pe_int (pa_cons pe_int (pa_cons pe_non (pa_cons pe_str (pa_cons pe_bl pa_nil)))))) pa_nil))))
      (pss_cons (ps_for PassesOwn.never rfl (pi_list (pe_lst (pa_cons pe_int (pa_cons (pv 4) pa_nil)))) (pg_name (i := 5) dRight.nd rfl (Or.inl rfl))
        (pss_one (ps_if (pt_not (pt_val (pe_defG DS hr1 hg (by rfl) (pa_cons (pe_def DA hr (by rfl) (pa_cons (pv 1) (pa_cons (pv 3) (pa_cons (pv 5) pa_nil)))) (pa_cons (pe_tup (pa_cons pe_str (pa_cons (pv 3) pa_nil))) pa_nil))))) (pss_one (ps_ret pe_bl)) pss_nil)))
      (pss_cons (ps_for PassesOwn.never rfl (pi_list (pv 2)) (pg_name (i := 6) dRight.nd rfl (Or.inl rfl))
        (pss_one (ps_if (pt_not (pt_val (pe_defG DS hr1 hg (by rfl) (pa_cons (pe_def DA hr (by rfl) (pa_cons (pv 1) (pa_cons (pv 6) (pa_cons (pv 4) pa_nil)))) (pa_cons (pe_tup (pa_cons pe_str (pa_cons (pv 4) pa_nil))) pa_nil))))) (pss_one (ps_ret pe_bl)) pss_nil)))
      (pss_one (ps_ret pe_bl))))), ?_⟩
    -- strange
    refine ⟨_, rfl, _, rfl, _, rfl, h, c, l, rs.map (·.1), rfl, hH, hl, nlh, hns, by omega, fun x H1 nx nin b1 hH1 => ⟨(by show 2 ≤ sizeLine; decide), fun pl npl => ?_⟩⟩
    have spl := same_new (o := .lst [.str x, .str ""]) npl
    have nph : pl ≠ h := fun z => by
      obtain ⟨⟨xs, hx⟩, _⟩ := hH1.at
      rw [z, hx] at npl
      cases npl
    refine ⟨h, c, pl, [.str x, .str ""], rfl, hH1.same spl, upd_same, nph, (by show 1 ≤ 2; decide), (by show 2 < 1000000; decide), fun y H2 hy b2 hH2 => ?_⟩
    obtain ⟨z, rfl, znin, zsh⟩ : ∃ z, y = .str z ∧ z ∉ rs.map (·.1) ∧ Sh 102 0 (.str z) := by
      simp only [List.mem_cons, List.mem_singleton, List.not_mem_nil, or_false] at hy
      rcases hy with rfl | rfl
      · exact ⟨x, rfl, nin, sh_name nx⟩
      · refine ⟨"", rfl, fun m => ?_, sh_str (by decide +kernel) (by decide +kernel)⟩
        have := (hns _ m).1
        have e : ("" : Str).length = 0 := by decide +kernel
        omega
    have b02 := (b1.trans (.of spl)).trans b2
    have hno := edgesFor_not znin
    -- length
    refine ⟨_, rfl, (by show 5 ≤ sizeLine; decide), fun pm npm => ?_⟩
    have spm := same_new (o := .lst [.int 5, .int 0, .non, .str "1", .bl true]) npm
    have nmh : pm ≠ h := fun z => by
      obtain ⟨⟨xs, hx⟩, _⟩ := hH2.at
      rw [z, hx] at npm
      cases npm
    refine ⟨h, c, pm, [.int 5, .int 0, .non, .str "1", .bl true], rfl, hH2.same spm, upd_same, nmh, by decide, by decide, fun v H3 hv b3 hH3 => ?_⟩
    obtain ⟨vp, vn, vd, vsh, vdp⟩ := odd_len (K := K) hv
    have b03 := (b02.trans (.of spm)).trans b3
    have nl03 : NoL H H3 := NoL.but b03 hH.at.1.choose_spec
    have hB3 := hB.noL nl03
    have hl3 := b03 _ _ nlh hl
    -- [2, length]
    refine ⟨_, rfl, (by show 2 ≤ sizeLine; decide), fun pn npn => ?_⟩
    have spn := same_new (o := .lst [.int 2, v]) npn
    refine ⟨pn, rfl, ⟨_, .of upd_same⟩, for_list (K := K) (a := pn) (xs := [.int 2, v]) (fun i σ H' => ∃ v5 v6, σ = [some (.ref h), some (.ref b), some (.ref l), some (.str z), some v, v5, v6] ∧ Same (upd H3 pn (.lst [.int 2, v])) H')
      ⟨_, _, rfl, fun _ _ e => e⟩ (fun i σ H' _ ⟨_, _, _, sm⟩ => .of (sm _ _ upd_same)) ?_ ?_⟩
    · rintro i y σ H' hi ⟨v5, v6, rfl, sm⟩
      have hy : Plain y := by
        have hm := mem_at hi
        simp only [List.mem_cons, List.mem_singleton, List.not_mem_nil, or_false] at hm
        rcases hm with rfl | rfl
        · trivial
        · exact vp
      refine ⟨_, rfl, _, rfl, _, rfl, b, size, rs, z, y, rfl, (hB3.same spn).same sm, hz, hG, hy, fun _ H4 p s4 hp => ?_, (fun es he => by rw [hno] at he; cases he), fun es j he => by rw [hno] at he; cases he⟩
      refine ⟨_, rfl, (by show 2 ≤ sizeLine; decide), fun p2 np2 => ?_⟩
      have s5 := same_new (o := .tup [.str "NoArrow", .str z]) np2
      refine ⟨p, p2, .tuple [.str "NoArrow", .str z], rfl, .tup (.of (s5 _ _ hp)) (.cons (.str _) (.cons (.str _) .nil)), .tup (.of upd_same) (.cons (.str _) (.cons (.str _) .nil)), (Sh.pair sh_word.1 zsh).mono (by decide) (by decide), ?_⟩
      exact ⟨true, rfl, iteF ⟨_, _, rfl, (sm.trans s4).trans s5⟩⟩
    · rintro σ H4 ⟨v5, v6, rfl, sm⟩
      have s4 : Same H3 H4 := spn.trans sm
      refine ⟨_, rfl, l, rfl, ⟨_, .of (s4 _ _ hl3)⟩, for_list (K := K) (a := l) (xs := (rs.map (·.1)).map V.str) (fun i σ H' => ∃ v5 v6, σ = [some (.ref h), some (.ref b), some (.ref l), some (.str z), some v, v5, v6] ∧ Same H3 H')
        ⟨_, _, rfl, s4⟩ (fun i σ H' _ ⟨_, _, _, sm⟩ => .of (sm _ _ hl3)) ?_ ?_⟩
      · rintro i y σ H' hi ⟨v5, v6, rfl, sm⟩
        obtain ⟨n, hn, rfl⟩ := List.mem_map.mp (mem_at hi)
        obtain ⟨r, hr', rfl⟩ := List.mem_map.mp hn
        have he := edgesFor_mem hG.names hr'
        refine ⟨_, rfl, _, rfl, _, rfl, b, size, rs, r.1, v, rfl, hB3.same sm, hz, hG, vp, (fun e => by rw [he] at e; cases e), fun es _ _ H4 p s4 hp => ?_, fun es j _ ev hj => ?_⟩
        · refine ⟨_, rfl, (by show 2 ≤ sizeLine; decide), fun p2 np2 => ?_⟩
          have s5 := same_new (o := .tup [.str "BadLength", v]) np2
          refine ⟨p, p2, .tuple [.str "BadLength", vd], rfl, .tup (.of (s5 _ _ hp)) (.cons (.str _) (.cons (vdp _) .nil)), .tup (.of upd_same) (.cons (.str _) (.cons (vdp _) .nil)), (Sh.pair sh_word.2.1 vsh).mono (by decide) (by decide), ?_⟩
          exact ⟨true, rfl, iteF ⟨_, _, rfl, (sm.trans s4).trans s5⟩⟩
        · rw [ev] at vn
          have vn : (decide ((1 : Int) ≤ ((j + 1 : Nat) : Int)) && decide (((j + 1 : Nat) : Int) ≤ 4)) = false := vn
          rw [decide_eq_true (by omega), decide_eq_true (by omega)] at vn
          cases vn
      · rintro σ H5 ⟨v5, v6, rfl, sm⟩
        exact q H5 (b03.trans (.of sm)) (hH3.same sm)
end
end Cw

/-! What the law reckons with: due rows, their edges sorted by a set, cuts and sums of tuples, boards made of them. -/
namespace Cw
open PySem PySem.Spec PyProof.Rows L2
/-! ### due rows -/
def RowT (H : Hp) (v : V) (r : Row) : Prop := ∃ (a b : Addr) (ys : List V), v = .ref a ∧ H a = some (.tup [.str r.1, .ref b]) ∧ H b = some (.tup ys) ∧ RowsAt H ys (r.2.map edgeR)
def DueAt (H : Hp) (a : Addr) (rs : List Row) : Prop := ∃ xs, H a = some (.tup xs) ∧ Paired (RowT H) xs rs
theorem RowT.noL {H H' : Hp} {v : V} {r : Row} (n : NoL H H') (q : RowT H v r) : RowT H' v r := by
  obtain ⟨a, b, ys, h1, h2, h3, h4⟩ := q
  exact ⟨a, b, ys, h1, n _ _ (fun _ z => by cases z) h2, n _ _ (fun _ z => by cases z) h3, h4.noL n⟩
theorem RowT.same {H H' : Hp} {v : V} {r : Row} (s : Same H H') (q : RowT H v r) : RowT H' v r := q.noL (.of s)
theorem DueAt.noL {H H' : Hp} {a : Addr} {rs : List Row} (n : NoL H H') (q : DueAt H a rs) : DueAt H' a rs := by
  obtain ⟨xs, h1, h2⟩ := q
  exact ⟨xs, n _ _ (fun _ z => by cases z) h1, paired_imp (fun _ _ z => RowT.noL n z) h2⟩
theorem DueAt.same {H H' : Hp} {a : Addr} {rs : List Row} (s : Same H H') (q : DueAt H a rs) : DueAt H' a rs := q.noL (.of s)
theorem paired_dp {K : PySem.W.Frag} {H : Hp} {R : V → Row → Prop} (f : ∀ v r, R v r → Dp K H v (arrowD r)) : ∀ {xs : List V} {rs : List Row}, Paired R xs rs → DpAll K H xs (rs.map arrowD)
  | _, _, .nil => .nil
  | _, _, .cons h t => .cons (f _ _ h) (paired_dp f t)
theorem RowT.dp {K : PySem.W.Frag} {H : Hp} {v : V} {r : Row} (q : RowT H v r) : Dp K H v (arrowD r) := by
  obtain ⟨a, b, ys, rfl, h2, h3, h4⟩ := q
  have h5 := RowsAt.dp (K := K) h4
  rw [edgesR_D] at h5
  exact .tup (.of h2) (.cons (.str _) (.cons (.tup (.of h3) h5) .nil))
theorem DueAt.dp {K : PySem.W.Frag} {H : Hp} {a : Addr} {rs : List Row} (q : DueAt H a rs) : Dp K H (.ref a) (dueD rs) := by
  obtain ⟨xs, h1, h2⟩ := q
  exact .tup (.of h1) (paired_dp (fun _ _ z => RowT.dp z) h2)
theorem rows_edges {H : Hp} : ∀ {ys : List V} {es : List Edge}, RowsAt H ys (es.map edgeR) → Paired (EdgeV H) ys es
  | _, [], .nil => .nil
  | _, e :: es, .cons (a := a) h t => .cons ⟨a, rfl, .inr h⟩ (rows_edges t)
theorem RowT.arrow {H : Hp} {v : V} {r : Row} (q : RowT H v r) : ArrowV H v r := by
  obtain ⟨a, b, ys, rfl, h2, h3, h4⟩ := q
  exact ⟨a, _, rfl, .inr h2, b, ys, rfl, .inr h3, rows_edges h4⟩
theorem DueAt.arrows {H : Hp} {a : Addr} {rs : List Row} (q : DueAt H a rs) : ArrowsV H (.ref a) rs := by
  obtain ⟨xs, h1, h2⟩ := q
  exact ⟨a, xs, rfl, .inr h1, paired_imp (fun _ _ z => RowT.arrow z) h2⟩
theorem arrows_list {H : Hp} {l : Addr} {xs : List V} {rs : List Row} (h : H l = some (.lst xs)) (q : Paired (RowT H) xs rs) : ArrowsV H (.ref l) rs := ⟨l, xs, rfl, .inl h, paired_imp (fun _ _ z => RowT.arrow z) q⟩
/-! ### rows in good order -/
theorem good_row {size : Nat} {r : Row} (h : FitRow size r) : GoodRow size (normR r) := ⟨h.name, Nat.le_trans (norm_len r.2) h.few, fun e he => h.win e (mem_norm he), (norm_is r.2).1⟩
theorem names_norm (rs : List Row) : (rs.map normR).map (·.1) = rs.map (·.1) := by
  rw [List.map_map]
  rfl
theorem good_norm {size : Nat} {rs : List Row} (h1 : rs.length ≤ 6) (h2 : (rs.map (·.1)).Nodup) (h3 : ∀ r ∈ rs, FitRow size r) : Good size (rs.map normR) := by
  refine ⟨?_, ?_, fun r hr => ?_⟩
  · rw [List.length_map]
    exact h1
  · rw [names_norm]
    exact h2
  · obtain ⟨q, hq, rfl⟩ := List.mem_map.mp hr
    exact good_row (h3 q hq)
theorem norm_good {size : Nat} : ∀ {rs : List Row}, (∀ r ∈ rs, GoodRow size r) → rs.map normR = rs
  | [], _ => rfl
  | r :: rs, h => by
    rw [List.map_cons, norm_good fun x hx => h x (List.mem_cons_of_mem _ hx)]
    have e : normR r = r := by
      unfold normR
      rw [norm_asc (h r List.mem_cons_self).asc]
    rw [e]
/-! ### tuple(sorted(set(a list of edges))) -/
theorem edges_keys {H : Hp} : ∀ {ys : List V} {es : List Edge}, RowsAt H ys (es.map edgeR) → ∃ ks : List (Addr × List Int), ys = ks.map (fun p => V.ref p.1) ∧ ks.map (·.2) = es.map edgeR ∧ ∀ p ∈ ks, H p.1 = some (.tup (p.2.map V.int)) := fun {ys es} h => by
  obtain ⟨ts, h1, h2, h3⟩ := h.pairs
  exact ⟨ts, h1, h2.symm, h3⟩
theorem sorted_keys {size : Nat} (hz : size ≤ 9) {es : List Edge} (hw : Within size es) {L : List (Addr × List Int)} (hm : ∀ c, c ∈ L.map (·.2) ↔ c ∈ es.map edgeR) (hn : (L.map (·.2)).Nodup) (hp : L.Pairwise fun q r => TS.code 64 q.2 ≤ TS.code 64 r.2) : L.map (·.2) = (norm es).map edgeR := by
  have back : ∀ c ∈ L.map (·.2), ∃ e ∈ es, edgeR e = c := fun c hc => by
    obtain ⟨e, h1, h2⟩ := List.mem_map.mp ((hm c).mp hc)
    exact ⟨e, h1, h2⟩
  let g : List Int → Edge := fun c => (c.getD 0 0, c.getD 1 0)
  have gr : ∀ e : Edge, g (edgeR e) = e := fun e => rfl
  have e1 : ((L.map (·.2)).map g).map edgeR = L.map (·.2) := by
    rw [List.map_map]
    conv => rhs; rw [← List.map_id (L.map (·.2))]
    refine List.map_congr_left fun c hc => ?_
    obtain ⟨e, _, rfl⟩ := back c hc
    show edgeR (g (edgeR e)) = edgeR e
    rw [gr]
  have e2 : (L.map (·.2)).map g = norm es := by
    refine norm_of ⟨?_, fun e => ⟨fun he => ?_, fun he => ?_⟩⟩
    · have hp2 : (L.map (·.2)).Pairwise fun a b => TS.code 64 a ≤ TS.code 64 b := List.pairwise_map.mpr hp
      have both := hp2.and hn
      refine List.pairwise_map.mpr ((List.Pairwise.and_mem.mp both).imp ?_)
      rintro a b ⟨ma, mb, hab, nab⟩
      obtain ⟨e, he, rfl⟩ := back a ma
      obtain ⟨f, hf, rfl⟩ := back b mb
      have w1 := hw e he
      have w2 := hw f hf
      rw [gr, gr]
      exact pair_lt hab nab ⟨by omega, by omega⟩ ⟨by omega, by omega⟩ ⟨by omega, by omega⟩ ⟨by omega, by omega⟩
    · obtain ⟨c, hc, rfl⟩ := List.mem_map.mp he
      obtain ⟨f, hf, rfl⟩ := back c hc
      rw [gr]
      exact hf
    · exact List.mem_map.mpr ⟨edgeR e, (hm _).mpr (List.mem_map.mpr ⟨e, he, rfl⟩), gr e⟩
  rw [← e2, e1]
def rTupOf (K : PySem.W.Frag) : List V → Hp → VK → Prop := fun xs H Q => ∃ p ys, xs = [.ref p] ∧ ((SqL K H p ys ∧ ∀ l, H l = none → Q (.ref l) (upd H l (.tup ys))) ∨ (SqT K H p ys ∧ Q (.ref p) H))
theorem set_reading {K : PySem.W.Frag} {P : Program} {w : World} {H : Hp} {l : Addr} {ys : List V} {es : List Edge} {size : Nat} {Q : VK} (hl : H l = some (.lst ys)) (hr : RowsAt H ys (es.map edgeR)) (hz : size ≤ 9) (hw : Within size es) (he : es.length ≤ 24)
    (q : ∀ H' p zs, Same H H' → H' p = some (.tup zs) → RowsAt H' zs ((norm es).map edgeR) → Q (.ref p) H') :
    rSetOfT K P w [.ref l] H fun x H1 => rSortedT K P w [x] H1 fun y H2 => rTupOf K [y] H2 Q := by
  obtain ⟨ks, rfl, hk2, hk3⟩ := edges_keys hr
  have hlen : ks.length = es.length := by
    have := congrArg List.length hk2
    rw [List.length_map, List.length_map] at this
    exact this
  refine ⟨l, ks, rfl, .of hl, fun p hp => .of (hk3 p hp), by omega, fun a L na hL1 hL2 => ?_⟩
  have s1 := same_new (o := SetTO P w a L) na
  have hL : ∀ p ∈ L, ∃ e ∈ es, edgeR e = p.2 := fun p hp => by
    have h1 : p.2 ∈ ks.map (·.2) := List.mem_map.mpr ⟨p, hL1 p hp, rfl⟩
    rw [hk2] at h1
    obtain ⟨e, h2, h3⟩ := List.mem_map.mp h1
    exact ⟨e, h2, h3⟩
  refine ⟨a, L, 2, 64, rfl, upd_same, fun p hp => .of (s1 _ _ (hk3 p (hL1 p hp))), by decide, fun p hp => ?_, fun L' p hperm hnd hfew hpw np => ?_⟩
  · obtain ⟨e, he', h3⟩ := hL p hp
    have w1 := hw e he'
    rw [← h3]
    refine ⟨rfl, fun m hm => ?_⟩
    have hm' : m = e.1 ∨ m = e.2 := by simpa [edgeR] using hm
    rcases hm' with rfl | rfl <;> omega
  · have s2 := same_new (o := .lst (L'.map fun q => V.ref q.1)) np
    refine ⟨p, _, rfl, .inl ⟨.of upd_same, fun t nt => ?_⟩⟩
    have s3 := same_new (o := .tup (L'.map fun q => V.ref q.1)) nt
    have s := (s1.trans s2).trans s3
    have hrows : L'.map (·.2) = (norm es).map edgeR := sorted_keys hz hw (fun c => by
      have e1 : c ∈ L'.map (·.2) ↔ c ∈ L.map (·.2) := (hperm.map (·.2)).mem_iff
      rw [e1, ← hk2]
      constructor
      · intro hc
        obtain ⟨p, hp, rfl⟩ := List.mem_map.mp hc
        exact List.mem_map.mpr ⟨p, hL1 p hp, rfl⟩
      · intro hc
        obtain ⟨p, hp, rfl⟩ := List.mem_map.mp hc
        exact hL2 p hp) hnd hpw
    refine q _ t _ s upd_same ?_
    rw [← hrows]
    exact rows_of (ts := L') fun p hp => s _ _ (hk3 p (hL1 p (hperm.mem_iff.mp hp)))
/-! ### cuts and sums of tuples -/
def cutL {α : Type} (xs : List α) (lo hi : Option Int) : List α := (xs.drop (HT.sIx xs.length 0 lo)).take (HT.sIx xs.length xs.length hi - HT.sIx xs.length 0 lo)
theorem paired_drop {α β : Type} {R : α → β → Prop} : ∀ (n : Nat) {as : List α} {bs : List β}, Paired R as bs → Paired R (as.drop n) (bs.drop n)
  | 0, _, _, h => h
  | n + 1, _, _, .nil => .nil
  | n + 1, _, _, .cons _ t => paired_drop n t
theorem paired_take {α β : Type} {R : α → β → Prop} : ∀ (n : Nat) {as : List α} {bs : List β}, Paired R as bs → Paired R (as.take n) (bs.take n)
  | 0, _, _, _ => .nil
  | n + 1, _, _, .nil => .nil
  | n + 1, _, _, .cons h t => .cons h (paired_take n t)
theorem paired_app {α β : Type} {R : α → β → Prop} {as2 : List α} {bs2 : List β} (q : Paired R as2 bs2) : ∀ {as : List α} {bs : List β}, Paired R as bs → Paired R (as ++ as2) (bs ++ bs2)
  | _, _, .nil => q
  | _, _, .cons h t => .cons h (paired_app q t)
theorem sl_due {K : PySem.W.Frag} {H : Hp} {a : Addr} {rs : List Row} {lo hi : Option Int} {Q : VK} (h : DueAt H a rs) (q : ∀ r H', Same H H' → DueAt H' r (cutL rs lo hi) → Q (.ref r) H') : rSlA K (.ref a) lo hi H Q := by
  obtain ⟨xs, h1, h2⟩ := id h
  have hl := paired_len h2
  have hp : Paired (RowT H) (cutV xs lo hi) (cutL rs lo hi) := by
    unfold cutV cutL
    rw [hl]
    exact paired_take _ (paired_drop _ h2)
  refine ⟨a, xs, rfl, .of h1, fun z => ?_, fun z p np => ?_⟩
  · refine q a H (fun _ _ e => e) ?_
    have e : cutL rs lo hi = rs := by
      unfold cutL
      rw [← hl, z.1, z.2, List.drop_zero, Nat.sub_zero, hl, List.take_length]
    rw [e]
    exact h
  · have s := same_new (o := .tup (cutV xs lo hi)) np
    exact q p _ s ⟨_, upd_same, paired_imp (fun _ _ z => RowT.same s z) hp⟩
theorem cat_due {K : PySem.W.Frag} {H : Hp} {a b : Addr} {rs ss : List Row} {Q : VK} (h : DueAt H a rs) (k : DueAt H b ss) (hz : rs.length + ss.length ≤ 1000) (q : ∀ r H', Same H H' → DueAt H' r (rs ++ ss) → Q (.ref r) H') : rCatA K (.ref a) (.ref b) H Q := by
  obtain ⟨xs, h1, h2⟩ := id h
  obtain ⟨ys, k1, k2⟩ := id k
  have hl := paired_len h2
  have kl := paired_len k2
  refine ⟨a, b, xs, ys, rfl, rfl, .of h1, .of k1, by rw [sizeLine_eq]; omega, fun z => ?_, fun _ z => ?_, fun _ _ p np => ?_⟩
  · rw [z] at hl
    have e : rs = [] := List.length_eq_zero_iff.mp hl.symm
    rw [e, List.nil_append] at q
    exact q b H (fun _ _ e => e) k
  · rw [z] at kl
    have e : ss = [] := List.length_eq_zero_iff.mp kl.symm
    rw [e, List.append_nil] at q
    exact q a H (fun _ _ e => e) h
  · have s := same_new (o := .tup (xs ++ ys)) np
    exact q p _ s ⟨_, upd_same, paired_imp (fun _ _ z => RowT.same s z) (paired_app k2 h2)⟩
/-! ### made boards -/
theorem made_same {H H' : Hp} {x dx : Addr} {o o' : HO} (nx : H x = none) (ndx : H dx = none) (b : But x (upd (upd H dx o) x o') H') : Same H H' := fun c u hc => by
  have n1 : c ≠ x := ne_of_none hc nx
  refine b c u n1 ?_
  rw [upd_ne n1, upd_ne (ne_of_none hc ndx)]
  exact hc
section
variable {X : Cx} {k : Nat} {x : Str} {C : Addr} {sp : Sp} {p pos : Pos} {e : Expr} {es : List Expr} {t : TA}
theorem pe_mkd (c : Made X.prog X.w X.K X.mg X.base C k sp) (hr : Room (k + 1) X.A) (hg : Gl X x) (hm : X.mg x = some (.ref C)) (ha : PA X (e :: es) t) (hdb : (x == ("__debug__" : Str)) = false := by decide)
    (he : starEach (e :: es) X.env = (false, eval e X.env) :: starEach es X.env := by rfl) (hpl : (backTo pos (starEach es X.env)).any (·.1) = false := by rfl) : PE X (.Call (.Name x p) (e :: es) [] pos) (tMake C sp [] E0 t) := by
  obtain ⟨f, fd, ps, M, b, F⟩ := c.ex
  exact pe_make M F hr hg hm b .nil pass0 ha hdb he hpl
end
/-- the board's making, as its reading asks it -/
theorem make_reading {K : PySem.W.Frag} {H : Hp} {C x dx : Addr} {size : Nat} {v : V} {rs : List Row} {G : VK} (nx : H x = none) (ndx : H dx = none) (h1 : 1 ≤ size) (h9 : size ≤ 9) (ha : ArrowsV H v rs) (h6 : rs.length ≤ 6) (hn : (rs.map (·.1)).Nodup) (hf : ∀ r ∈ rs, FitRow size r)
    (q : ∀ H', Same H H' → BoardAt K C H' x size (rs.map normR) → G .non H') : spInit K C (.ref x :: ([.int (size : Int), v] ++ [])) (upd (upd H dx (.own x)) x (.ins C dx [])) G E0 := by
  have s : Same H (upd (upd H dx (.own x)) x (.ins C dx [])) := made_same nx ndx (.refl _ _)
  obtain ⟨a, xs, rfl, hA, hp⟩ := ha
  exact ⟨x, dx, size, _, rs, rfl, h1, h9, upd_same, ⟨a, xs, rfl, hA.same s, paired_imp (fun _ _ z => ArrowV.same s z) hp⟩, h6, hn, hf, fun H' b hB => q H' (made_same nx ndx b) hB⟩
end Cw

/-! The lists that the law passes in and changes afterwards; names off due rows. -/
namespace Cw
open PySem PySem.Spec PyProof.Rows L2
/-! ### the given lists -/
def GivenV (Hs H : Hp) (g : Addr) (v : V) (r : Row) : Prop := ∃ (a e : Addr) (zs : List V), v = .ref a ∧ H a = some (.lst [.str r.1, .ref e]) ∧ Hs a = none ∧ a ≠ g ∧ H e = some (.lst zs) ∧ Hs e = none ∧ e ≠ g ∧ Paired (EdgeV H) zs r.2
theorem GivenV.same {Hs H H' : Hp} {g : Addr} {v : V} {r : Row} (s : Same H H') (q : GivenV Hs H g v r) : GivenV Hs H' g v r := by
  obtain ⟨a, e, zs, h1, h2, h3, h4, h5, h6, h7, h8⟩ := q
  exact ⟨a, e, zs, h1, s _ _ h2, h3, h4, s _ _ h5, h6, h7, paired_imp (fun _ _ z => EdgeV.same s z) h8⟩
theorem GivenV.arrow {Hs H : Hp} {g : Addr} {v : V} {r : Row} (q : GivenV Hs H g v r) : ArrowV H v r := by
  obtain ⟨a, e, zs, h1, h2, h3, h4, h5, h6, h7, h8⟩ := q
  exact ⟨a, _, h1, .inl h2, e, zs, rfl, .inl h5, h8⟩
/-- rows that are being changed -/
def RowM (Hs H : Hp) (g : Addr) (i : Nat) (v : V) : Prop := ∃ (a e : Addr) (s : Str) (zs : List Addr), v = .ref a ∧ H a = some (.lst [.str s, .ref e]) ∧ H e = some (.lst (zs.map V.ref)) ∧ Hs a = none ∧ Hs e = none ∧ a ≠ g ∧ e ≠ g ∧ zs.length ≤ 24 + i
theorem edge_refs {H : Hp} : ∀ {zs : List V} {es : List Edge}, Paired (EdgeV H) zs es → ∃ as : List Addr, zs = as.map V.ref
  | _, _, .nil => ⟨[], rfl⟩
  | _, _, .cons ⟨a, h, _⟩ t => by
    obtain ⟨as, h2⟩ := edge_refs t
    exact ⟨a :: as, by rw [h, h2]; rfl⟩
theorem GivenV.rowM {Hs H : Hp} {g : Addr} {v : V} {r : Row} (q : GivenV Hs H g v r) (hl : r.2.length ≤ 24) : RowM Hs H g 0 v := by
  obtain ⟨a, e, zs, h1, h2, h3, h4, h5, h6, h7, h8⟩ := q
  obtain ⟨as, rfl⟩ := edge_refs h8
  have h9 := paired_len h8
  rw [List.length_map] at h9
  exact ⟨a, e, r.1, as, h1, h2, h5, h3, h6, h4, h7, by omega⟩
theorem RowM.same {Hs H H' : Hp} {g : Addr} {i : Nat} {v : V} (s : Same H H') (q : RowM Hs H g i v) : RowM Hs H' g i v := by
  obtain ⟨a, e, n, zs, h1, h2, h3, h4⟩ := q
  exact ⟨a, e, n, zs, h1, s _ _ h2, s _ _ h3, h4⟩
theorem refs_not {s : Str} {e : Addr} {zs : List Addr} (h : ([.str s, .ref e] : List V) = zs.map V.ref) : False := by
  cases zs with
  | nil => cases h
  | cons a r => cases h
/-- a turn's changes -/
theorem rowM_step {Hs H : Hp} {g a e q : Addr} {i : Nat} {s : Str} {zs : List Addr} {o : HO} {xs : List V} (ha : H a = some (.lst [.str s, .ref e])) (he : H e = some (.lst (zs.map V.ref))) (sa : Hs a = none) (se : Hs e = none) (nag : a ≠ g) (neg : e ≠ g) (hz : zs.length ≤ 24 + i)
    (hs : Same Hs H) (nq : H q = none) (hr : ∀ v ∈ xs, RowM Hs H g i v) (hg : ∃ ys, H g = some (.lst ys)) :
    let H3 := upd (upd (upd H q o) e (.lst (zs.map V.ref ++ [.ref q]))) a (.lst [.str "changed", .ref e])
    Same Hs H3 ∧ NoL H H3 ∧ H3 g = H g ∧ ∀ v ∈ xs, RowM Hs H3 g (i + 1) v := by
  intro H3
  have nqa : q ≠ a := (ne_of_none ha nq).symm
  have nqe : q ≠ e := (ne_of_none he nq).symm
  have nae : a ≠ e := fun z => by
    rw [z, he] at ha
    exact refs_not (by injection ha with ha; injection ha with ha; exact ha.symm)
  obtain ⟨ys, hy⟩ := hg
  have ngq : g ≠ q := ne_of_none hy nq
  refine ⟨fun b u hb => ?_, fun b u nb hb => ?_, ?_, fun v hv => ?_⟩
  · have nba : b ≠ a := ne_of_none hb sa
    have nbe : b ≠ e := ne_of_none hb se
    show upd _ _ _ b = _
    rw [upd_ne nba, upd_ne nbe, upd_ne (ne_of_none (hs _ _ hb) nq)]
    exact hs _ _ hb
  · have nba : b ≠ a := fun z => by
      rw [z, ha] at hb
      exact nb _ (Option.some.inj hb).symm
    have nbe : b ≠ e := fun z => by
      rw [z, he] at hb
      exact nb _ (Option.some.inj hb).symm
    show upd _ _ _ b = _
    rw [upd_ne nba, upd_ne nbe, upd_ne (ne_of_none hb nq)]
    exact hb
  · show upd _ _ _ g = _
    rw [upd_ne nag.symm, upd_ne neg.symm, upd_ne ngq]
  · obtain ⟨a2, e2, s2, zs2, rfl, h2, h3, h4, h5, h6, h7, h8⟩ := hr v hv
    have n1 : a2 ≠ e := fun z => by
      rw [z, he] at h2
      exact refs_not (by injection h2 with h2; injection h2 with h2; exact h2.symm)
    have n2 : e2 ≠ a := fun z => by
      rw [z, ha] at h3
      exact refs_not (by injection h3 with h3; injection h3 with h3)
    have n3 : a2 ≠ q := ne_of_none h2 nq
    have n4 : e2 ≠ q := ne_of_none h3 nq
    have he3 : ∃ ws : List Addr, H3 e2 = some (.lst (ws.map V.ref)) ∧ ws.length ≤ 24 + (i + 1) := by
      by_cases c : e2 = e
      · refine ⟨zs ++ [q], ?_, ?_⟩
        · show upd _ _ _ e2 = _
          rw [upd_ne n2, c, upd_same, List.map_append]
          rfl
        · rw [List.length_append, List.length_singleton]
          omega
      · refine ⟨zs2, ?_, by omega⟩
        show upd _ _ _ e2 = _
        rw [upd_ne n2, upd_ne c, upd_ne n4]
        exact h3
    have ha3 : ∃ s3, H3 a2 = some (.lst [.str s3, .ref e2]) := by
      by_cases c : a2 = a
      · have ee : e2 = e := by
          rw [c, ha] at h2
          injection h2 with h2
          injection h2 with h2
          injection h2 with _ h2
          injection h2 with h2
          injection h2 with h2
          exact h2.symm
        refine ⟨"changed", ?_⟩
        show upd _ _ _ a2 = _
        rw [c, upd_same, ee]
      · refine ⟨s2, ?_⟩
        show upd _ _ _ a2 = _
        rw [upd_ne c, upd_ne n1, upd_ne n3]
        exact h2
    obtain ⟨ws, hw1, hw2⟩ := he3
    obtain ⟨s3, hs3⟩ := ha3
    exact ⟨a2, e2, s3, ws, rfl, hs3, hw1, h4, h5, h6, h7, hw2⟩
/-! ### [name for name, edges in rows] -/
theorem names_reading {K : PySem.W.Frag} {H : Hp} {a : Addr} {R : List Row} {i : Nat} {s0 s1 s2 s3 s4 s5 s6 s7 s8 s9 s10 s11 s12 s13 s14 s15 : Option V} {Q : VK} (hs : ([s0, s1, s2, s3, s4, s5, s6, s7, s8, s9, s10, s11, s12, s13, s14, s15] : L2.St)[i]? = some (some (.ref a)))
    (hD : DueAt H a R) (hl : R.length ≤ 1000) (q : ∀ H' D, Same H H' → H D = none → H' D = some (.lst ((R.map (·.1)).map V.str)) → Q (.ref D) H') :
    tLc (iTup K (tVar i)) (gTup K 2 (gCons (gName 4) (gCons (gName 5) gNil))) tYes (tVar 4) [4, 5] [s0, s1, s2, s3, s4, s5, s6, s7, s8, s9, s10, s11, s12, s13, s14, s15] H Q := by
  obtain ⟨xs, hx, hp⟩ := id hD
  have lenP := paired_len hp
  refine ⟨_, hs, a, rfl, ⟨xs, .of hx⟩, fun D nD => lc_tup (K := K) (a := a) (xs := xs) (fun j Hy => Same H Hy ∧ Hy D = some (.lst (((R.take j).map (·.1)).map V.str)))
    ⟨same_new nD, upd_same⟩ (fun j Hy _ ⟨sm, _⟩ => .of (sm _ _ hx)) (fun j x Hy hxj ⟨sm, hDy⟩ => ?_) fun Hy ⟨sm, hDy⟩ => ?_⟩
  · obtain ⟨r, hrj, hrow⟩ := paired_get hp hxj
    obtain ⟨p, b, ys, rfl, h2, h3, h4⟩ := RowT.same sm hrow
    have hjl : j < R.length := (List.getElem?_eq_some_iff.mp hrj).1
    refine ⟨p, _, rfl, .of h2, rfl, _, _, rfl, _, _, rfl, rfl, rfl, _, rfl, _, hDy, ?_, fun c o hc => ?_, ?_⟩
    · rw [List.length_map, List.length_map, List.length_take, sizeLine_eq]
      omega
    · rw [upd_ne (ne_of_none hc nD)]
      exact sm _ _ hc
    · rw [upd_same, take_snoc hrj, List.map_append, List.map_append]
      rfl
  · rw [lenP, List.take_length] at hDy
    exact q Hy D sm nD hDy
end Cw

/-! The law. -/
namespace Cw
open PySem PySem.Spec PyProof.Rows L2
theorem EdgeV.upd {H : Hp} {g : Addr} {ys : List V} {o : HO} {v : V} {e : Edge} (hg : H g = some (.lst ys)) (hy : ∃ as : List Addr, ys = as.map V.ref) (q : EdgeV H v e) : EdgeV (upd H g o) v e := by
  obtain ⟨a, rfl, hA⟩ := q
  obtain ⟨as, rfl⟩ := hy
  have n : a ≠ g := fun z => by
    rw [z] at hA
    rcases hA with h | h
    · rw [hg] at h
      cases as with
      | nil => cases h
      | cons _ _ => cases h
    · rw [hg] at h
      cases h
  refine ⟨a, rfl, ?_⟩
  unfold At
  rw [upd_ne n]
  exact hA
theorem given_refs {Hs H : Hp} {g : Addr} : ∀ {ys : List V} {rs : List Row}, Paired (GivenV Hs H g) ys rs → ∃ as : List Addr, ys = as.map V.ref
  | _, _, .nil => ⟨[], rfl⟩
  | _, _, .cons ⟨a, _, _, h, _⟩ t => by
    obtain ⟨as, h2⟩ := given_refs t
    exact ⟨a :: as, by rw [h, h2]; rfl⟩
theorem GivenV.upd {Hs H : Hp} {g : Addr} {ys : List V} {o : HO} {v : V} {r : Row} (hg : H g = some (.lst ys)) (hy : ∃ as : List Addr, ys = as.map V.ref) (q : GivenV Hs H g v r) : GivenV Hs (upd H g o) g v r := by
  obtain ⟨a, e, zs, h1, h2, h3, h4, h5, h6, h7, h8⟩ := q
  exact ⟨a, e, zs, h1, by rw [upd_ne h4]; exact h2, h3, h4, by rw [upd_ne h7]; exact h5, h6, h7, paired_imp (fun _ _ z => EdgeV.upd hg hy z) h8⟩
theorem PS.weak {X : Cx} {st : Stmt} {t t' : TS} (h : PS X st t) (w : ∀ D σ H, t' D σ H → t D σ H) : PS X st t' := ⟨fun pins s σ H D I q => h.run pins s σ H D I (w D σ H q)⟩
/-- the rows that are compared at last, as they are drawn -/
def t13 : TS := fun D σ H => ∃ (s0 s2 s3 s4 s5 s7 s8 s9 s10 s11 s12 s14 s15 : Option V) (h c du oa : Addr) (size : Nat) (R : List Row) (oxs : List V) (oes : List Edge), σ = [s0, some (.ref h), s2, s3, s4, s5, some (.ref du), s7, s8, s9, s10, s11, s12, some (.ref oa), s14, s15] ∧
  HandAt H h c ∧ DueAt H du R ∧ Good size R ∧ H oa = some (.lst oxs) ∧ RowsAt H oxs (oes.map edgeR) ∧ Within size oes ∧ oes.length ≤ 2 ∧ oa ≠ h ∧ size ≤ 9 ∧
  ∀ H' rp S, NoL H H' → DueAt H' rp S → (∀ r ∈ S, GoodRow size r) → S.length ≤ 7 → D.nx [s0, some (.ref h), s2, s3, s4, s5, some (.ref du), s7, s8, s9, s10, s11, s12, some (.ref oa), some (.ref rp), s15] H'
/-- .. and as they are taken -/
def t14 : TS := fun D σ H => ∃ (s0 s1 s2 s3 s4 s5 s7 s8 s9 s10 s11 s12 s13 s15 : Option V) (du rp : Addr) (size : Nat) (R S : List Row), σ = [s0, s1, s2, s3, s4, s5, some (.ref du), s7, s8, s9, s10, s11, s12, s13, some (.ref rp), s15] ∧
  DueAt H du R ∧ Good size R ∧ DueAt H rp S ∧ (∀ r ∈ S, GoodRow size r) ∧ S.length ≤ 7 ∧
  ∀ H' rp' S', Same H H' → DueAt H' rp' S' → Good size S' → D.nx [s0, s1, s2, s3, s4, s5, some (.ref du), s7, s8, s9, s10, s11, s12, s13, some (.ref rp'), s15] H'
theorem cutL_sub (R : List Row) (lo hi : Option Int) : (∀ r ∈ cutL R lo hi, r ∈ R) ∧ (cutL R lo hi).length ≤ R.length := by
  unfold cutL
  refine ⟨fun r hr => List.mem_of_mem_drop (List.mem_of_mem_take hr), ?_⟩
  rw [List.length_take, List.length_drop]
  omega
theorem cut_turn (R : List Row) : (cutL R (some 1) none ++ cutL R none (some 1)).length ≤ R.length := by
  have e1 : HT.sIx R.length 0 (some (1 : Int)) = min 1 R.length := HT.sIx_nat R.length 0 1
  have e2 : HT.sIx R.length R.length (some (1 : Int)) = min 1 R.length := HT.sIx_nat R.length R.length 1
  unfold cutL
  rw [List.length_append, List.length_take, List.length_drop, List.length_take, List.length_drop, e1, e2, HT.sIx_none, HT.sIx_none]
  omega
theorem other_name : Name "other" := by
  unfold Name
  decide +kernel
theorem num_true {k : Nat} (h : k ≤ 3) : numIn (.int ((k + 1 : Nat) : Int)) 1 4 = true := by
  show (decide ((1 : Int) ≤ ((k + 1 : Nat) : Int)) && decide (((k + 1 : Nat) : Int) ≤ 4)) = true
  rw [decide_eq_true (by omega), decide_eq_true (by omega)]
  rfl
def rListOf (K : PySem.W.Frag) : List V → Hp → VK → Prop := fun xs H Q => ∃ p ys, xs = [.ref p] ∧ (SqL K H p ys ∨ SqT K H p ys) ∧ ∀ l, H l = none → Q (.ref l) (upd H l (.lst ys))
def compScope : Stmt → Scope
  | .Assign _ (.ListComp _ _ sc _) _ => sc
  | _ => defScope lLaw
abbrev givenScope : Scope := compScope ((defBody lLaw).getD 4 (.Pass ⟨0, 0, 0, 0⟩))
abbrev NL : List Str := ["_law_script", "_law_hand_here", "_law_size", "_law_arrows_here", "_law_name_here", "_law_edges_here", "_law_due", "_law_given", "_law_board", "_law_k", "_law_row", "_law_length", "_law_told", "_law_other", "_law_rows", "_law_edge"]
section
variable {P : Program} {w : World} {K : PySem.W.Frag} {mg : Str → Option Value} {base : Heap}
/-- the class's own == -/
structure EqC (P : Program) (w : World) (K : PySem.W.Frag) (mg : Str → Option Value) (base : Heap) (C : Addr) : Prop where
  ex : ∃ (f : Addr) (fd : FuncData) (ps : List Str), PySem.W.findIn K (.ref C) "__eq__" = some (some (.ref f)) ∧ PySem.W.isFn K (.ref f) = true ∧ Binds K fd ps [] ∧ FnOk P w K mg base CX0 1 f fd ps (spEqB K C)
theorem op_eqB {X : Cx} {C : Addr} (c : EqC X.prog X.w X.K X.mg X.base C) (hr : Room 1 X.A) : OpR X (compareOp .Eq) (rEqIns C (spEqB X.K C) E0) := by
  obtain ⟨f, fd, ps, hs, hf, hb, F⟩ := c.ex
  exact op_eqIns F hr hs hf hb pass0
theorem eqB_reading {H : Hp} {C a b : Addr} {m n : Nat} {rs ss : List Row} {Q : VK} (ha : BoardAt K C H a m rs) (hb : BoardAt K C H b n ss) (na : ∀ r ∈ rs, Name r.1) (nb : ∀ r ∈ ss, Name r.1) (q : Q (.bl (decide (m = n) && PyData.eqv (dueD rs) (dueD ss))) H) : rEqIns C (spEqB K C) E0 (.ref a) (.ref b) H Q := by
  obtain ⟨dx, p, h1, h2⟩ := id ha
  obtain ⟨dy, r, h3, h4⟩ := id hb
  exact ⟨a, b, dx, dy, _, _, rfl, rfl, h1, h3, a, b, m, n, rs, ss, rfl, ha, hb, na, nb, ⟨_, rfl⟩, q⟩
def spLaw (K : PySem.W.Frag) : Sp := fun vs H Q _ => ∃ (a : Addr) (ns : List Int), vs = [.ref a] ∧ SqL K H a (ns.map V.int) ∧ ns.length ≤ 63 ∧ ∀ H', Q (.bl true) H'
theorem ok_law {f C : Addr} {fd : FuncData} (F : Fun K "law" "law" lLaw f fd) (T : Free mg) (TC : BoardC K mg C) (DH : Def P w K mg base 1 "_law_hand" (spHand K)) (DT : Def P w K mg base 2 "_law_take" spTake) (DP : Def P w K mg base 3 "_law_pick" spPick)
    (DE : Def P w K mg base 3 "_law_edges" spLEdges) (DAr : Def P w K mg base 6 "_law_arrows" spLArrows) (DC : Def P w K mg base 1 "_law_chains" (spLChains K)) (DA : Def P w K mg base 7 "_law_asked_chains" (spAsked K C)) (MB : Made P w K mg base C 4 (spInit K C)) (EB : EqC P w K mg base C)
    (DS : DefG P w K mg base 1 "_law_same" (spSame K)) (DR : DefG P w K mg base 8 "_law_refusals_right" (spRight K C)) : FnG P w K mg base 9 f fd ["_law_script"] (spLaw K) := by
  refine FnG.of F dLaw (fun vs H Q E h => ?_) (fun cdv A outer s H vs Q E hr hg h => ?_)
  · obtain ⟨a, ns, rfl, _⟩ := h
    rfl
  · obtain ⟨sa, ns, rfl, hS, hl63, q⟩ := h
    have hr7 : Room 7 _ := hr.mono (by decide)
    have hr6 : Room 6 _ := hr.mono (by decide)
    have hr5 : Room 5 _ := hr.mono (by decide)
    have hr3 : Room 3 _ := hr.mono (by decide)
    have hr2 : Room 2 _ := hr.mono (by decide)
    have hr1 : Room 1 _ := hr.mono (by decide)
    have hu := hu64 hr
    refine ⟨_, pss_cons (ps_set (i := 1) dLaw.nd rfl (Or.inl rfl) (pe_def DH hr1 (by rfl) (pa_cons (pv 0) pa_nil)))
      (pss_cons (ps_set (i := 2) dLaw.nd rfl (Or.inl rfl) (pe_def DP hr3 (by rfl) (pa_cons (pv 1) (pa_cons (pe_lst (pa_cons pe_int (pa_cons pe_int (pa_cons pe_int (pa_cons pe_int (pa_cons pe_int (pa_cons pe_int (pa_cons pe_int (pa_cons pe_int (pa_cons pe_int pa_nil)))))))))) pa_nil))))
      (pss_cons (ps_set (i := 3) dLaw.nd rfl (Or.inl rfl) (pe_def DAr hr6 (by rfl) (pa_cons (pv 1) (pa_cons (pv 2) (pa_cons (pe_def DP hr3 (by rfl) (pa_cons (pv 1) (pa_cons (pe_lst (pa_cons pe_int (pa_cons pe_int (pa_cons pe_int (pa_cons pe_int (pa_cons pe_int (pa_cons pe_int (pa_cons pe_int pa_nil)))))))) pa_nil)))
        (pa_cons (pe_lst (pa_cons pe_int (pa_cons pe_int (pa_cons pe_int (pa_cons pe_int (pa_cons pe_int (pa_cons pe_int (pa_cons pe_int pa_nil)))))))) pa_nil))))))
      (pss_cons (ps_set (i := 6) dLaw.nd rfl (Or.inl rfl) (pe_callTy call_tuple_of (by rfl) T.tuple boot_tuple (pa_cons (pe_lc (own := [("_law_name_here", 4), ("_law_edges_here", 5)]) (g := gTup K 2 (gCons (gName 4) (gCons (gName 5) gNil))) (tt := tYes) rfl dLaw.nd (pi_list (pv 3)) (blkOk_by (N := NL) (sc := defScope lLaw) (by decide +kernel))
          (fun _ _ _ _ _ => pg_tup rfl (pgs_cons (pg_name (i := 4) dLaw.nd rfl (Or.inl rfl)) (pgs_cons (pg_name (i := 5) dLaw.nd rfl (Or.inl rfl)) pgs_nil))) (fun _ _ _ _ _ => pts_nil)
          (fun _ _ _ _ _ => pe_tup (pa_cons (pv 4) (pa_cons (pe_callTy (r := rTupOf K) call_tuple_of (by rfl) T.tuple boot_tuple (pa_cons (pe_callB (r := rSortedT K P w) (cr_sortedT rfl) (by rfl) T.sorted boot_sorted (pa_cons (pe_callTy (r := rSetOfT K P w) (cr_setOfT rfl hu) (by rfl) T.set boot_set (pa_cons (pe_callTy (r := rListOf K) call_list_of (by rfl) T.list boot_list (pa_cons (pv 5) pa_nil)) pa_nil)) pa_nil)) pa_nil)) pa_nil)))) pa_nil)))
      (pss_cons (ps_setLc (i := 7) (own := [("_law_name_here", 4), ("_law_edges_here", 5)]) (g := gTup K 2 (gCons (gName 4) (gCons (gName 5) gNil))) (tt := tYes) rfl dLaw.nd rfl rfl (sw_true rfl rfl rfl (by decide +kernel)) (pi_list (pv 3)) (blkOk_by (N := NL) (sc := defScope lLaw) (by decide +kernel))
          (fun _ _ _ _ _ => pg_tup rfl (pgs_cons (pg_name (i := 4) dLaw.nd rfl (Or.inl rfl)) (pgs_cons (pg_name (i := 5) dLaw.nd rfl (Or.inl rfl)) pgs_nil))) (fun _ _ _ _ _ => pts_nil)
          (fun _ _ _ _ _ => pe_lst (pa_cons (pv 4) (pa_cons (pe_lc (own := [("_law_edge", 15)]) (wi := iList K (tVar 5)) (g := gName 15) (tt := tYes) rfl dLaw.nd (pi_list (pv 5)) (blkOk_by (N := NL) (sc := givenScope) (by decide +kernel))
            (fun _ _ _ _ _ => pg_name (i := 15) dLaw.nd rfl (Or.inl rfl)) (fun _ _ _ _ _ => pts_nil) (fun _ _ _ _ _ => pe_callTy (r := rListOf K) call_list_of (by rfl) T.list boot_list (pa_cons (pv 15) pa_nil))) pa_nil))))
      (pss_cons (ps_set (i := 8) dLaw.nd rfl (Or.inl rfl) (pe_mkd MB hr5 (by rfl) TC.g (pa_cons (pv 2) (pa_cons (pv 7) pa_nil))))
      (pss_cons (ps_for PassesOwn.never rfl (pi_range1 (by rfl) T.range (pa_cons (pe_callB call_len_seq (by rfl) T.len PySem.boot_len (pa_cons (pv 7) pa_nil)) pa_nil)) (pg_name (i := 9) dLaw.nd rfl (Or.inl rfl))
        (pss_cons (ps_set (i := 10) dLaw.nd rfl (Or.inl rfl) (pe_ix ix_seq (pv 7) (pv 9) (fun _ _ => rfl)))
        (pss_cons (ps_expr (pe_bm PySem.F.plainAttrs_list PySem.F.slot_list_append PySem.F.type_list_append mt_append (pe_ix ix_seq (pv 10) pe_int (fun _ _ => rfl)) (pa_cons (pe_lst (pa_cons pe_int (pa_cons pe_int pa_nil))) pa_nil)))
        (pss_one (ps_asg pe_str (pg_sub (pv 10) pe_int set_list))))))
      (pss_cons (ps_expr (pe_bm PySem.F.plainAttrs_list PySem.F.slot_list_append PySem.F.type_list_append mt_append (pv 7) (pa_cons pe_non pa_nil)))
      (pss_cons (ps_if (pt_not (pt_val (pe_defG DS hr1 hg (by rfl) (pa_cons (pe_tup (pa_cons (pe_fld (pv 8) rfl) (pa_cons (pe_fld (pv 8) rfl) pa_nil))) (pa_cons (pe_tup (pa_cons (pv 2) (pa_cons (pv 6) pa_nil))) pa_nil))))) (pss_one (ps_ret pe_bl)) pss_nil)
      (pss_cons (ps_for PassesOwn.never rfl (pi_tup (pv 6)) (pg_tup rfl (pgs_cons (pg_name (i := 4) dLaw.nd rfl (Or.inl rfl)) (pgs_cons (pg_name (i := 5) dLaw.nd rfl (Or.inl rfl)) pgs_nil)))
        (pss_one (ps_for PassesOwn.never rfl (pi_tup (pe_tup (pa_cons pe_int (pa_cons pe_int (pa_cons pe_int (pa_cons pe_int pa_nil)))))) (pg_name (i := 11) dLaw.nd rfl (Or.inl rfl))
          (pss_cons (ps_set (i := 12) dLaw.nd rfl (Or.inl rfl) (pe_def DA hr7 (by rfl) (pa_cons (pv 8) (pa_cons (pv 4) (pa_cons (pv 11) pa_nil)))))
          (pss_one (ps_if (pt_not (pt_val (pe_defG DS hr1 hg (by rfl) (pa_cons (pv 12) (pa_cons (pe_tup (pa_cons pe_str (pa_cons (pe_def DC hr1 (by rfl) (pa_cons (pv 2) (pa_cons (pv 5) (pa_cons (pv 11) pa_nil)))) pa_nil))) pa_nil))))) (pss_one (ps_ret pe_bl)) pss_nil))))))
      (pss_cons (ps_if (pt_not (pt_val (pe_defG DR hr hg (by rfl) (pa_cons (pv 1) (pa_cons (pv 8) (pa_cons (pe_lc (own := [("_law_name_here", 4), ("_law_edges_here", 5)]) (wi := iTup K (tVar 6)) (g := gTup K 2 (gCons (gName 4) (gCons (gName 5) gNil))) (tt := tYes) rfl dLaw.nd (pi_tup (pv 6)) (blkOk_by (N := NL) (sc := defScope lLaw) (by decide +kernel))
          (fun _ _ _ _ _ => pg_tup rfl (pgs_cons (pg_name (i := 4) dLaw.nd rfl (Or.inl rfl)) (pgs_cons (pg_name (i := 5) dLaw.nd rfl (Or.inl rfl)) pgs_nil))) (fun _ _ _ _ _ => pts_nil) (fun _ _ _ _ _ => pv 4)) pa_nil)))))) (pss_one (ps_ret pe_bl)) pss_nil)
      (pss_cons (ps_set (i := 13) dLaw.nd rfl (Or.inl rfl) (pe_def DE hr3 (by rfl) (pa_cons (pv 1) (pa_cons (pv 2) (pa_cons pe_int pa_nil)))))
      (pss_cons (PS.weak (t' := t13) (ps_set (i := 14) dLaw.nd rfl (Or.inl rfl) (pe_ifExp (pt_cmpR op_eq (pe_def DT hr2 (by rfl) (pa_cons (pv 1) (pa_cons pe_int pa_nil))) pe_int (nomark _))
          (pe_op op_catA (pe_slice sl_tupA (pv 6) (po_some pe_int) po_none) (pe_slice sl_tupA (pv 6) po_none (po_some pe_int)))
          (pe_op op_catA (pe_slice sl_tupA (pv 6) po_none (po_some (pe_un un_neg pe_int))) (pe_tup (pa_cons (pe_tup (pa_cons pe_str (pa_cons (pe_callTy (r := rTupOf K) call_tuple_of (by rfl) T.tuple boot_tuple (pa_cons (pe_callB (r := rSortedT K P w) (cr_sortedT rfl) (by rfl) T.sorted boot_sorted (pa_cons (pe_callTy (r := rSetOfT K P w) (cr_setOfT rfl hu) (by rfl) T.set boot_set (pa_cons (pv 13) pa_nil)) pa_nil)) pa_nil)) pa_nil))) pa_nil))))) ?w13)
      (pss_cons (PS.weak (t' := t14) (ps_if (PW.pt (pw_or (pt_cmpR op_gt (pe_callB call_len_seq (by rfl) T.len PySem.boot_len (pa_cons (pv 14) pa_nil)) pe_int (nomark _))
          (pw_or1 (pt_cmpR op_lt (pe_lenOnce rfl (by rfl) T.len (by rfl) T.set (pe_lc (own := [("_law_name_here", 4), ("_law_edges_here", 5)]) (wi := iTup K (tVar 14)) (g := gTup K 2 (gCons (gName 4) (gCons (gName 5) gNil))) (tt := tYes) rfl dLaw.nd (pi_tup (pv 14)) (blkOk_by (N := NL) (sc := defScope lLaw) (by decide +kernel))
            (fun _ _ _ _ _ => pg_tup rfl (pgs_cons (pg_name (i := 4) dLaw.nd rfl (Or.inl rfl)) (pgs_cons (pg_name (i := 5) dLaw.nd rfl (Or.inl rfl)) pgs_nil))) (fun _ _ _ _ _ => pts_nil) (fun _ _ _ _ _ => pv 4))) (pe_callB call_len_seq (by rfl) T.len PySem.boot_len (pa_cons (pv 14) pa_nil)) (nomark _)))))
        (pss_one (ps_set (i := 14) dLaw.nd rfl (Or.inl rfl) (pv 6))) pss_nil) ?w14)
      (pss_cons (ps_if (PW.pt (pw_or (pt_cmpR op_ne (pe_cmpR (op_eqB EB hr1) (pv 8) (pe_mkd MB hr5 (by rfl) TC.g (pa_cons (pv 2) (pa_cons (pv 14) pa_nil))) (nomark _)) (pe_cmpR (op_eqD hu) (pv 14) (pv 6) (nomark _)) (nomark _))
          (pw_or1 (pt_not (pt_cmpR (op_eqB EB hr1) (pv 8) (pe_mkd MB hr5 (by rfl) TC.g (pa_cons (pv 2) (pa_cons (pe_callTy call_list_of (by rfl) T.list boot_list (pa_cons (pv 6) pa_nil)) pa_nil))) (nomark _)))))) (pss_one (ps_ret pe_bl)) pss_nil)
      (pss_one (ps_ret (pe_or (pe_cmpR op_eq (pv 2) pe_int (nomark _)) (pe_one (pe_not (pe_cmpR (op_eqB EB hr1) (pv 8) (pe_mkd MB hr5 (by rfl) TC.g (pa_cons (pe_op op_add (pv 2) pe_int) (pa_cons (pv 6) pa_nil))) (nomark _))))))))))))))))))))), ?main⟩
    case w13 =>
      rintro D σ H0 ⟨s0, s2, s3, s4, s5, s7, s8, s9, s10, s11, s12, s14, s15, h, c, du, oa, size, R, oxs, oes, rfl, hH, hDue, hG, hoa, hor, how, hol, noh, hz9, q⟩
      have l6 := hG.few
      refine ⟨_, rfl, h, c, 2, rfl, hH, by decide, by decide, fun j H1 hj b1 hH1 => ⟨rfl, _, rfl, ite2 (fun _ => ?_) (fun _ => ?_)⟩⟩
      · have nl1 : NoL H0 H1 := NoL.but b1 hH.at.1.choose_spec
        refine ⟨_, rfl, 1, rfl, ?_⟩
        unfold L2.tNoPart
        refine sl_due (K := K) (hDue.noL nl1) fun r1 H2 t2 hd1 => ?_
        refine ⟨_, rfl, 1, rfl, sl_due (K := K) ((hDue.noL nl1).same t2) fun r2 H3 t3 hd2 => ?_⟩
        have c1 := cutL_sub R (some 1) none
        have c2 := cutL_sub R none (some 1)
        have c3 : (cutL R (some 1) none ++ cutL R none (some 1)).length ≤ 7 := by
          have e : (cutL R (some 1) none ++ cutL R none (some 1)).length ≤ R.length := cut_turn R
          omega
        refine cat_due (hd1.same t3) hd2 ?_ fun rp H4 t4 hrp => q H4 rp _ (nl1.trans (.of ((t2.trans t3).trans t4))) hrp (fun r hr => ?_) c3
        · rw [List.length_append] at c3
          omega
        · rcases List.mem_append.mp hr with y | y
          · exact hG.rows r (c1.1 r y)
          · exact hG.rows r (c2.1 r y)
      · have nl1 : NoL H0 H1 := NoL.but b1 hH.at.1.choose_spec
        refine ⟨_, rfl, 1, rfl, _, rfl, sl_due (hDue.noL nl1) fun r1 H2 t2 hd1 => ?_⟩
        have c1 := cutL_sub R none (some (-1))
        have hoa2 := t2 _ _ (b1 _ _ noh hoa)
        have hor2 := (hor.noL nl1).same t2
        refine ⟨_, rfl, ?_⟩
        unfold L2.tNil
        refine set_reading (K := K) (P := P) (w := w) (es := oes) (size := size) hoa2 hor2 hz9 how (by omega) fun H3 t zs t3 ht hzs => ?_
        refine ⟨(by show 2 ≤ sizeLine; decide), fun u1 nu1 => ⟨(by show 1 ≤ sizeLine; decide), fun u2 nu2 => ?_⟩⟩
        have t4 := same_new (o := .tup [.str "other", .ref t]) nu1
        have t5 := same_new (o := .tup [.ref u1]) nu2
        have t45 := t4.trans t5
        have hd2 : DueAt (upd (upd H3 u1 (.tup [.str "other", .ref t])) u2 (.tup [.ref u1])) u2 [("other", norm oes)] := ⟨_, upd_same, .cons ⟨u1, t, zs, rfl, t5 _ _ upd_same, t45 _ _ ht, hzs.same t45⟩ .nil⟩
        refine cat_due (hd1.same (t3.trans t45)) hd2 ?_ fun rp H4 t6 hrp => q H4 rp _ (nl1.trans (.of (((t2.trans t3).trans t45).trans t6))) hrp (fun r hr => ?_) ?_
        · have := c1.2
          simp only [List.length_singleton]
          omega
        · rcases List.mem_append.mp hr with y | y
          · exact hG.rows r (c1.1 r y)
          · rw [List.mem_singleton.mp y]
            exact good_row (r := ("other", oes)) ⟨other_name, Nat.le_trans hol (by decide), how⟩
        · have := c1.2
          rw [List.length_append, List.length_singleton]
          omega
    case w14 =>
      rintro D σ H0 ⟨s0, s1, s2, s3, s4, s5, s7, s8, s9, s10, s11, s12, s13, s15, du, rp, size, R, S, rfl, hDue, hG, hrp, hSg, hSl, q⟩
      obtain ⟨xs, hx, hp⟩ := id hrp
      have lenP := paired_len hp
      refine ⟨_, rfl, rp, xs, rfl, .inr (.of hx), _, _, rfl, rfl, _, rfl, ite2 (fun _ => ?_) (fun z => ?_)⟩
      · exact iteT ⟨_, rfl, q H0 du R (fun _ _ e => e) hDue hG⟩
      · have z6 : S.length ≤ 6 := by
          have z' : ¬ ((6 : Int) < (xs.length : Int)) := fun y => z (decide_eq_true y)
          omega
        unfold L2.tTest L2.tOp Cw.tLenOnce
        refine names_reading (i := 14) (R := S) rfl hrp (by omega) fun H1 D1 t1 nD1 hD1 => ?_
        have hx1 := t1 _ _ hx
        refine ⟨D1, S.map (·.1), rfl, .of hD1, by rw [List.length_map]; omega, _, rfl, rp, xs, rfl, .inr (.of hx1), _, _, rfl, rfl, _, rfl, ite2 (fun _ => ?_) (fun y => ?_)⟩
        · exact ⟨_, rfl, q H1 du R t1 (hDue.same t1) hG⟩
        · have y' : ¬ (((onces [] (S.map (·.1))).length : Int) < (xs.length : Int)) := fun e => y (decide_eq_true e)
          refine q H1 rp S t1 (hrp.same t1) ⟨z6, onces_nodup ?_, hSg⟩
          rw [List.length_map]
          omega
    case main =>
    -- the hand, the size, the arrows
    refine ⟨_, rfl, sa, ns, rfl, hS, hl63, fun H1 h c s1 nh nc hH1 => ?_⟩
    refine ⟨_, rfl, (by show 9 ≤ sizeLine; decide), fun p1 np1 => ?_⟩
    have sp1 := same_new (o := .lst [.int 3, .int 4, .int 5, .int 2, .int 6, .int 9, .int 8, .int 7, .int 1]) np1
    have n1h : p1 ≠ h := fun z => by
      obtain ⟨⟨xs, hx⟩, _⟩ := hH1.at
      rw [z, hx] at np1
      cases np1
    refine ⟨h, c, p1, [.int 3, .int 4, .int 5, .int 2, .int 6, .int 9, .int 8, .int 7, .int 1], rfl, hH1.same sp1, upd_same, n1h, by decide, by decide, fun vz H2 hvz b2 hH2 => ?_⟩
    obtain ⟨size, rfl, hz1, hz9⟩ : ∃ j : Nat, vz = .int (j : Int) ∧ 1 ≤ j ∧ j ≤ 9 := by
      simp only [List.mem_cons, List.mem_singleton, List.not_mem_nil, or_false] at hvz
      rcases hvz with rfl | rfl | rfl | rfl | rfl | rfl | rfl | rfl | rfl
      · exact ⟨3, rfl, by decide, by decide⟩
      · exact ⟨4, rfl, by decide, by decide⟩
      · exact ⟨5, rfl, by decide, by decide⟩
      · exact ⟨2, rfl, by decide, by decide⟩
      · exact ⟨6, rfl, by decide, by decide⟩
      · exact ⟨9, rfl, by decide, by decide⟩
      · exact ⟨8, rfl, by decide, by decide⟩
      · exact ⟨7, rfl, by decide, by decide⟩
      · exact ⟨1, rfl, by decide, by decide⟩
    refine ⟨_, rfl, _, rfl, _, rfl, (by show 7 ≤ sizeLine; decide), fun p2 np2 => ?_⟩
    have sp2 := same_new (o := .lst [.int 2, .int 1, .int 3, .int 6, .int 0, .int 4, .int 5]) np2
    have n2h : p2 ≠ h := fun z => by
      obtain ⟨⟨xs, hx⟩, _⟩ := hH2.at
      rw [z, hx] at np2
      cases np2
    refine ⟨h, c, p2, [.int 2, .int 1, .int 3, .int 6, .int 0, .int 4, .int 5], rfl, hH2.same sp2, upd_same, n2h, by decide, by decide, fun vm H3 hvm b3 hH3 => ?_⟩
    obtain ⟨m, rfl, hm6⟩ : ∃ j : Nat, vm = .int (j : Int) ∧ j ≤ 6 := by
      simp only [List.mem_cons, List.mem_singleton, List.not_mem_nil, or_false] at hvm
      rcases hvm with rfl | rfl | rfl | rfl | rfl | rfl | rfl
      · exact ⟨2, rfl, by decide⟩
      · exact ⟨1, rfl, by decide⟩
      · exact ⟨3, rfl, by decide⟩
      · exact ⟨6, rfl, by decide⟩
      · exact ⟨0, rfl, by decide⟩
      · exact ⟨4, rfl, by decide⟩
      · exact ⟨5, rfl, by decide⟩
    refine ⟨(by show 7 ≤ sizeLine; decide), fun p3 np3 => ?_⟩
    have sp3 := same_new (o := .lst [.int 3, .int 6, .int 2, .int 12, .int 24, .int 1, .int 0]) np3
    have n3h : p3 ≠ h := fun z => by
      obtain ⟨⟨xs, hx⟩, _⟩ := hH3.at
      rw [z, hx] at np3
      cases np3
    refine ⟨h, c, p3, size, m, rfl, hH3.same sp3, hz1, hz9, hm6, n3h, upd_same, fun H4 ar axs rs b4 hH4 har hpa hrl hrn hrf => ?_⟩
    -- due
    have hG := good_norm hrl hrn hrf
    have lenA := paired_len hpa
    refine ⟨_, rfl, ar, rfl, ⟨_, .of har⟩, fun D nD => lc_list (K := K) (a := ar) (xs := axs) (fun i Hy => Same H4 Hy ∧ ∃ ys, Hy D = some (.lst ys) ∧ Paired (RowT Hy) ys ((rs.take i).map normR))
      ⟨same_new nD, [], upd_same, .nil⟩ (fun i Hy _ ⟨sm, _⟩ => .of (sm _ _ har)) (fun i x Hy hx ⟨sm, ys, hDy, hpy⟩ => ?_) fun Hd ⟨sd, ys, hDy, hpy⟩ => ?_⟩
    · obtain ⟨r, hri, hrow⟩ := paired_get hpa hx
      obtain ⟨p, e, es, rfl, h2, h3, h4⟩ := ArrowL.same sm hrow
      have fr := hrf r (mem_at hri)
      have hil : i < rs.length := (List.getElem?_eq_some_iff.mp hri).1
      refine ⟨p, _, rfl, .of h2, rfl, _, _, rfl, _, _, rfl, rfl, rfl, _, rfl, _, rfl, e, es, rfl, .inl (.of h3), fun l nl => ?_⟩
      have sl := same_new (o := .lst es) nl
      unfold L2.tNil
      refine set_reading (K := K) (P := P) (w := w) (es := r.2) (size := size) upd_same (h4.same sl) hz9 fr.win fr.few fun H5 t zs s5 ht hzs => ?_
      refine ⟨(by show 2 ≤ sizeLine; decide), fun q1 nq1 => ?_⟩
      have sq := same_new (o := .tup [.str r.1, .ref t]) nq1
      have s6 := (sl.trans s5).trans sq
      have lenY := paired_len hpy
      rw [List.length_map, List.length_take] at lenY
      refine ⟨ys, s6 _ _ hDy, by rw [sizeLine_eq]; omega, fun b o ho => ?_, _, upd_same, ?_⟩
      · rw [upd_ne (ne_of_none ho nD)]
        exact s6 _ _ (sm _ _ ho)
      · rw [take_snoc hri, List.map_append]
        have nl2 := NoL.lst (ys := ys ++ [.ref q1]) (s6 _ _ hDy)
        have all : NoL Hy _ := (NoL.of s6).trans nl2
        refine paired_snoc ⟨q1, t, zs, rfl, nl2 _ _ (fun _ z => by cases z) upd_same, nl2 _ _ (fun _ z => by cases z) (sq _ _ ht), (hzs.same sq).noL nl2⟩ (paired_imp (fun _ _ z => RowT.noL all z) hpy)
    · rw [lenA, List.take_length] at hpy
      refine ⟨D, ys, rfl, .inl ⟨.of hDy, fun du ndu => ?_⟩⟩
      have sdu := same_new (o := .tup ys) ndu
      have hDue : DueAt (upd Hd du (.tup ys)) du (rs.map normR) := ⟨ys, upd_same, paired_imp (fun _ _ z => RowT.same sdu z) hpy⟩
      have s45 := sd.trans sdu
      have hH5 := hH4.same s45
      have har5 := s45 _ _ har
      have hpa5 : Paired (ArrowL (upd Hd du (.tup ys))) axs rs := paired_imp (fun _ _ z => ArrowL.same s45 z) hpa
      generalize upd Hd du (.tup ys) = H5 at hDue hH5 har5 hpa5 ⊢

      -- given
      refine ⟨_, rfl, ar, rfl, ⟨_, .of har5⟩, fun g ng => lc_list (K := K) (a := ar) (xs := axs) (fun i Hy => Same H5 Hy ∧ ∃ ys, Hy g = some (.lst ys) ∧ Paired (GivenV H5 Hy g) ys (rs.take i))
        ⟨same_new ng, [], upd_same, .nil⟩ (fun i Hy _ ⟨sm, _⟩ => .of (sm _ _ har5)) (fun i x Hy hx ⟨sm, ys, hgy, hpy⟩ => ?_) fun H6 ⟨s6, gs, hg6, hpg⟩ => ?_⟩
      · obtain ⟨r, hri, hrow⟩ := paired_get hpa5 hx
        obtain ⟨p, e0, es, rfl, h2, h3, h4⟩ := ArrowL.same sm hrow
        have hil : i < rs.length := (List.getElem?_eq_some_iff.mp hri).1
        refine ⟨p, _, rfl, .of h2, rfl, _, _, rfl, _, _, rfl, rfl, rfl, _, rfl, _, rfl, e0, rfl, ⟨_, .of h3⟩, fun D2 nD2 => lc_list (K := K) (a := e0) (xs := es) (fun j Hz => Same Hy Hz ∧ ∃ zs, Hz D2 = some (.lst zs) ∧ Paired (EdgeV Hz) zs (r.2.take j))
          ⟨same_new nD2, [], upd_same, .nil⟩ (fun j Hz _ ⟨sz, _⟩ => .of (sz _ _ h3)) (fun j x Hz hxj ⟨sz, zs, hD2, hpz⟩ => ?_) fun Hz ⟨sz, zs, hD2, hpz⟩ => ?_⟩
        · obtain ⟨ae, row, rfl, hrj, hae⟩ := h4.get hxj
          rw [List.getElem?_map] at hrj
          cases hej : r.2[j]? with
          | none =>
            rw [hej] at hrj
            cases hrj
          | some ed =>
            rw [hej] at hrj
            obtain rfl : edgeR ed = row := Option.some.inj hrj
            have hjl : j < r.2.length := (List.getElem?_eq_some_iff.mp hej).1
            have few := (hrf r (mem_at hri)).few
            have lenZ := paired_len hpz
            rw [List.length_take] at lenZ
            refine ⟨rfl, _, rfl, ae, _, rfl, .inr (.of (sz _ _ hae)), fun l nl => ?_⟩
            have sl := same_new (o := .lst ((edgeR ed).map V.int)) nl
            have hD2' := sl _ _ hD2
            refine ⟨zs, hD2', by rw [sizeLine_eq]; omega, fun b o ho => ?_, _, upd_same, ?_⟩
            · rw [upd_ne (ne_of_none ho nD2)]
              exact sl _ _ (sz _ _ ho)
            · rw [take_snoc hej]
              refine paired_snoc ⟨l, rfl, .inl ?_⟩ (paired_imp (fun _ _ z => EdgeV.upd hD2' (edge_refs (paired_imp (fun _ _ z => EdgeV.same sl z) hpz)) (EdgeV.same sl z)) hpz)
              have nlD : l ≠ D2 := (ne_of_none hD2 nl).symm
              rw [upd_ne nlD, upd_same]
              rfl
        · have lenE : es.length = r.2.length := by
            have := h4.len
            rw [List.length_map] at this
            exact this
          rw [lenE, List.take_length] at hpz
          refine ⟨(by show 2 ≤ sizeLine; decide), fun a na => ?_⟩
          have sa' := same_new (o := .lst [.str r.1, .ref D2]) na
          have syz := sz.trans sa'
          have hgz := syz _ _ hgy
          have lenY := paired_len hpy
          rw [List.length_take] at lenY
          have nag : a ≠ g := (ne_of_none (sz _ _ hgy) na).symm
          have nDg : D2 ≠ g := (ne_of_none hgy nD2).symm
          refine ⟨ys, hgz, by rw [sizeLine_eq]; omega, fun b o ho => ?_, _, upd_same, ?_⟩
          · rw [upd_ne (ne_of_none ho ng)]
            exact syz _ _ (sm _ _ ho)
          · rw [take_snoc hri]
            have refs : ∃ as : List Addr, ys = as.map V.ref := given_refs hpy
            refine paired_snoc ⟨a, D2, zs, rfl, ?_, (sm.trans sz).free na, nag, ?_, sm.free nD2, nDg, ?_⟩ (paired_imp (fun _ _ z => GivenV.upd hgz refs (GivenV.same syz z)) hpy)
            · rw [upd_ne nag, upd_same]
            · rw [upd_ne nDg]
              exact sa' _ _ hD2
            · exact paired_imp (fun _ _ z => EdgeV.upd hgz refs (EdgeV.same sa' z)) hpz
      · rw [lenA, List.take_length] at hpg
        have arrows : ArrowsV H6 (.ref g) rs := ⟨g, gs, rfl, .inl hg6, paired_imp (fun _ _ z => GivenV.arrow z) hpg⟩
        have lenG := paired_len hpg
        -- the board
        refine ⟨_, rfl, _, rfl, fun bo dbo nbo ndbo _ => make_reading nbo ndbo hz1 hz9 arrows hrl hrn hrf fun H7 s7 hB => ⟨rfl, ?_⟩⟩
        have hg7 := s7 _ _ hg6
        have rows7 : ∀ v ∈ gs, RowM H5 H7 g 0 v := fun v hv => by
          obtain ⟨i, hi, rfl⟩ := List.mem_iff_getElem.mp hv
          obtain ⟨r, hri, hrow⟩ := paired_get hpg (List.getElem?_eq_getElem hi)
          exact RowM.same s7 (GivenV.rowM hrow (hrf r (mem_at hri)).few)
        refine ⟨_, rfl, g, gs, rfl, .inl (.of hg7), (gs.length : Int), rfl, by omega, by omega, ?_⟩
        refine for_range (lo := 0) (n := ((gs.length : Nat) : Int).toNat) (fun i σ H' => ∃ v9 v10, σ = [some (.ref sa), some (.ref h), some (.int (size : Int)), some (.ref ar), none, none, some (.ref du), some (.ref g), some (.ref bo), v9, v10, none, none, none, none, none] ∧ Same H5 H' ∧ NoL H7 H' ∧ H' g = some (.lst gs) ∧ ∀ v ∈ gs, RowM H5 H' g i v)
          ⟨none, none, rfl, s6.trans s7, .refl _, hg7, rows7⟩ ?_ ?_
        · rintro i σ H8 hi ⟨v9, v10, rfl, s8, nl8, hg8, rows8⟩
          have hi' : i < gs.length := by omega
          obtain ⟨a, e, st, zs, hv, ha, he, sa5, se5, nag, neg, hzl⟩ := rows8 gs[i] (List.getElem_mem hi')
          have gi : gs[i]? = some (.ref a) := by rw [List.getElem?_eq_getElem hi', hv]
          refine ⟨_, rfl, _, rfl, At.ixz (.inl hg8) (j := i) (by omega) gi ?_⟩
          have nae : a ≠ e := fun z => by
            rw [z, he] at ha
            exact refs_not (by injection ha with ha; injection ha with ha; exact ha.symm)
          refine ⟨_, rfl, At.ix (j := 1) (.inl ha) rfl ⟨.inl ⟨rfl, _, .of he⟩, (by show 2 ≤ sizeLine; decide), fun q1 nq1 => ?_⟩⟩
          have sq := same_new (o := .lst [.int 0, .int 0]) nq1
          refine ⟨e, _, .ref q1, rfl, rfl, sq _ _ he, by rw [List.length_map, sizeLine_eq]; omega, ?_⟩
          refine ⟨_, rfl, a, [.str st, .ref e], 0, 0, rfl, rfl, ?_, rfl, ?_⟩
          · rw [upd_ne nae]
            exact sq _ _ ha
          · have stp := rowM_step (o := .lst [.int 0, .int 0]) (xs := gs) ha he sa5 se5 nag neg hzl s8 nq1 rows8 ⟨_, hg8⟩
            exact ⟨_, _, rfl, stp.1, nl8.trans stp.2.1, stp.2.2.1.trans hg8, stp.2.2.2⟩
        · rintro σ H8 ⟨v9, v10, rfl, s8, nl8, hg8, rows8⟩
          refine ⟨_, rfl, .inl ⟨rfl, _, .of hg8⟩, g, gs, .non, rfl, rfl, hg8, by rw [sizeLine_eq]; omega, ?_⟩
          have s9 : Same H5 (upd H8 g (.lst (gs ++ [.non]))) := fun b o ho => by
            rw [upd_ne (ne_of_none ho ng)]
            exact s8 _ _ ho
          have nl9 : NoL H7 (upd H8 g (.lst (gs ++ [.non]))) := nl8.trans (.lst hg8)
          have hH9 := hH5.same s9
          have hDue9 := hDue.same s9
          have hB9 := hB.noL nl9
          generalize upd H8 g (.lst (gs ++ [.non])) = H9 at hH9 hDue9 hB9 ⊢
          -- the fields
          obtain ⟨dx, pa, hb9, hdp9⟩ := id hB9
          refine ⟨_, rfl, bo, C, dx, _, _, rfl, hb9, TC.cl, TC.nS, bf_size _ _, _, rfl, bo, C, dx, _, _, rfl, hb9, TC.cl, TC.nA, bf_arrows _ _, (by show 2 ≤ sizeLine; decide), fun t1 nt1 => ?_⟩
          have st1 := same_new (o := .tup [.int (size : Int), .ref pa]) nt1
          refine ⟨_, rfl, _, rfl, (by show 2 ≤ sizeLine; decide), fun t2 nt2 => ?_⟩
          have st2 := same_new (o := .tup [.int (size : Int), .ref du]) nt2
          have st12 := st1.trans st2
          refine ⟨t1, t2, .tuple [.int (size : Int), dueD (rs.map normR)], rfl, .tup (.of (st2 _ _ upd_same)) (.cons (.int _) (.cons (Dp.same st12 hdp9) .nil)), .tup (.of upd_same) (.cons (.int _) (.cons (hDue9.same st12).dp .nil)),
            (Sh.pair ((sh_digit (i := (size : Int)) (by omega) (by omega)).mono (by decide) (by decide)) (sh_due hz9 hG)).mono (by decide) (by decide), true, rfl, iteF ?_⟩
          have hH10 := hH9.same st12
          have hDue10 := hDue9.same st12
          have hB10 := hB9.same st12
          generalize hR : rs.map normR = R at hG hDue10 hB10
          generalize upd (upd H9 t1 (.tup [.int (size : Int), .ref pa])) t2 (.tup [.int (size : Int), .ref du]) = H10 at hH10 hDue10 hB10 ⊢

          -- every chain of every arrow
          obtain ⟨dxs, hdu, hpd⟩ := id hDue10
          have lenD := paired_len hpd
          refine ⟨_, rfl, du, rfl, ⟨dxs, .of hdu⟩, for_tup (K := K) (a := du) (xs := dxs) (fun i σ H' => ∃ v4 v5 v9 v10 v11 v12, σ = [some (.ref sa), some (.ref h), some (.int (size : Int)), some (.ref ar), v4, v5, some (.ref du), some (.ref g), some (.ref bo), v9, v10, v11, v12, none, none, none] ∧ Same H10 H')
            ⟨_, _, _, _, _, _, rfl, fun _ _ e => e⟩ (fun i σ H' _ ⟨_, _, _, _, _, _, _, sm⟩ => .of (sm _ _ hdu)) ?_ ?_⟩
          · rintro i x σ H' hx ⟨v4, v5, v9', v10', v11, v12, rfl, sm⟩
            obtain ⟨r, hri, hrow⟩ := paired_get hpd hx
            obtain ⟨p, b, ys, rfl, h2, h3, h4⟩ := RowT.same sm hrow
            have gr := hG.rows r (mem_at hri)
            have he := edgesFor_mem hG.names (mem_at hri)
            refine ⟨p, _, rfl, .of h2, rfl, _, _, rfl, _, _, rfl, rfl, ?_⟩
            refine ⟨(by show 4 ≤ sizeLine; decide), fun tp ntp => ?_⟩
            have stp := same_new (o := .tup [.int 1, .int 2, .int 3, .int 4]) ntp
            refine ⟨tp, rfl, ⟨_, .of upd_same⟩, for_tup (K := K) (a := tp) (xs := [.int 1, .int 2, .int 3, .int 4]) (fun j σ H2 => ∃ v9 v10 v11 v12, σ = [some (.ref sa), some (.ref h), some (.int (size : Int)), some (.ref ar), some (.str r.1), some (.ref b), some (.ref du), some (.ref g), some (.ref bo), v9, v10, v11, v12, none, none, none] ∧ Same (upd H' tp (.tup [.int 1, .int 2, .int 3, .int 4])) H2)
              ⟨_, _, _, _, rfl, fun _ _ e => e⟩ (fun j σ H2 _ ⟨_, _, _, _, _, s2⟩ => .of (s2 _ _ upd_same)) ?_ ?_⟩
            · rintro j y σ H2 hj ⟨v9, v10, v11, v12, rfl, s2⟩
              obtain ⟨k, rfl, hk⟩ : ∃ k : Nat, y = .int ((k + 1 : Nat) : Int) ∧ k ≤ 3 := by
                have hm := mem_at hj
                simp only [List.mem_cons, List.mem_singleton, List.not_mem_nil, or_false] at hm
                rcases hm with rfl | rfl | rfl | rfl
                · exact ⟨0, rfl, by decide⟩
                · exact ⟨1, rfl, by decide⟩
                · exact ⟨2, rfl, by decide⟩
                · exact ⟨3, rfl, by decide⟩
              have s12 := stp.trans s2
              refine ⟨_, rfl, _, rfl, _, rfl, bo, size, R, r.1, _, rfl, (hB10.same sm).same s12, hz9, hG, trivial, (fun e => by rw [he] at e; cases e), (fun es _ ev => by rw [num_true hk] at ev; cases ev), fun es k' he' ev hk' H3 tl tt tys s3 htl hty hrows => ?_⟩
              have ee : es = r.2 := by
                rw [he] at he'
                exact (Option.some.inj he').symm
              have ek : k' = k := by
                injection ev with ev
                omega
              subst ee
              subst ek
              have s23 := s12.trans s3
              have hrowb : Dp K H3 (.ref b) (edgesD r.2) := by
                have h5 := RowsAt.dp (K := K) (h4.same s23)
                rw [edgesR_D] at h5
                exact .tup (.of (s23 _ _ h3)) h5
              refine ⟨_, rfl, _, rfl, _, rfl, _, rfl, size, k', .ref b, r.2, rfl, hrowb, gr.asc, gr.few, hz9, hk, fun H4 p4 cys s4 hp4 hcy => ⟨(by show 2 ≤ sizeLine; decide), fun p5 np5 => ?_⟩⟩
              have s5 := same_new (o := .tup [.str "told", .ref p4]) np5
              have s45 := s4.trans s5
              refine ⟨tl, p5, .tuple [.str "told", .tuple ((chains size r.2 k').map rowD)], rfl, .tup (.of (s45 _ _ htl)) (.cons (.str _) (.cons (.tup (.of (s45 _ _ hty)) (RowsAt.dp (hrows.same s45))) .nil)), .tup (.of upd_same) (.cons (.str _) (.cons (.tup (.of (s5 _ _ hp4)) (RowsAt.dp (hcy.same s5))) .nil)),
                (Sh.pair (n := 2200000) (k := 2) (sh_word.2.2.mono (by decide) (by decide)) (sh_chains hz9 gr.few gr.asc gr.win hk)).mono (by decide) (by decide), true, rfl, iteF ⟨_, _, _, _, rfl, (s2.trans s3).trans s45⟩⟩
            · rintro σ H2 ⟨v9, v10, v11, v12, rfl, s2⟩
              exact ⟨_, _, _, _, _, _, rfl, sm.trans (stp.trans s2)⟩
          · rintro σ H11 ⟨v4, v5, v9', v10', v11, v12, rfl, s11⟩
            have hH11 := hH10.same s11
            have hDue11 := hDue10.same s11
            have hB11 := hB10.same s11
            have l6 := hG.few
            -- the refusals
            refine ⟨_, rfl, _, rfl, names_reading (R := R) rfl hDue11 (by omega) fun H12 nl s12 nnl hnl => ?_⟩
            have hH12 := hH11.same s12
            have nnh : nl ≠ h := fun z => by
              obtain ⟨⟨xs, hx⟩, _⟩ := hH11.at
              rw [z, hx] at nnl
              cases nnl
            refine ⟨h, c, bo, nl, size, R, rfl, hH12, hB11.same s12, hz9, hG, hnl, nnh, fun H13 b13 hH13 => ⟨true, rfl, iteF ?_⟩⟩
            have nl13 : NoL H11 H13 := (NoL.of s12).trans (NoL.but b13 hH12.at.1.choose_spec)
            have hDue13 := hDue11.noL nl13
            have hB13 := hB11.noL nl13
            -- other
            refine ⟨_, rfl, _, rfl, h, c, size, 2, rfl, hH13, hz1, hz9, by decide, fun H14 oa oxs oes b14 hH14 noa hoa hor hol how => ?_⟩
            have nl14 : NoL H13 H14 := NoL.but b14 hH13.at.1.choose_spec
            have noh : oa ≠ h := fun z => by
              obtain ⟨⟨xs, hx⟩, _⟩ := hH13.at
              rw [z, hx] at noa
              cases noa
            have hDue14 := hDue13.noL nl14
            have hB14 := hB13.noL nl14
            refine ⟨_, _, _, _, _, _, _, _, _, _, _, _, _, h, c, du, oa, size, R, oxs, oes, rfl, hH14, hDue14, hG, hoa, hor, how, hol, noh, hz9, fun H15 rp S nl15 hrp hSg hSl => ?_⟩
            have hDue15 := hDue14.noL nl15
            have hB15 := hB14.noL nl15
            refine ⟨_, _, _, _, _, _, _, _, _, _, _, _, _, _, du, rp, size, R, S, rfl, hDue15, hG, hrp, hSg, hSl, fun H16 rp2 S2 s16 hrp2 hS2 => ?_⟩
            have hDue16 := hDue15.same s16
            have hB16 := hB15.same s16
            have nR : ∀ r ∈ R, Name r.1 := fun r hr => (hG.rows r hr).name
            have nS : ∀ r ∈ S2, Name r.1 := fun r hr => (hS2.rows r hr).name
            have fS : ∀ r ∈ S2, FitRow size r := fun r hr => (hS2.rows r hr).fit
            have fR : ∀ r ∈ R, FitRow size r := fun r hr => (hG.rows r hr).fit
            have eR : R.map normR = R := norm_good hG.rows
            have eS : S2.map normR = S2 := norm_good hS2.rows
            -- board == Board(size, rows) against rows == due
            refine ⟨_, rfl, _, rfl, _, rfl, fun b2 db2 nb2 ndb2 _ => make_reading nb2 ndb2 hz1 hz9 hrp2.arrows hS2.few hS2.names fS fun H17 s17 hb2 => ⟨rfl, ?_⟩⟩
            rw [eS] at hb2
            refine eqB_reading (hB16.same s17) hb2 nR nS ?_
            refine ⟨_, rfl, _, rfl, dueD S2, dueD R, (hrp2.same s17).dp, (hDue16.same s17).dp, shaped_due nS, shaped_due nR, ?_⟩
            have e1 : (decide (size = size) && PyData.eqv (dueD R) (dueD S2)) = PyData.eqv (dueD S2) (dueD R) := by
              rw [decide_eq_true rfl, Bool.true_and]
              exact PySem.W.eqv_comm _ _
            refine ⟨rfl, false, congrArg V.bl (by rw [e1, decide_eq_true rfl]; rfl), iteF ?_⟩
            -- Board(size, list(due))
            obtain ⟨dx17, hd17, hp17⟩ := hDue16.same s17
            refine ⟨_, rfl, _, rfl, _, rfl, du, dx17, rfl, .inr (.of hd17), fun l17 nl17 => ?_⟩
            have sl17 := same_new (o := .lst dx17) nl17
            refine fun b3 db3 nb3 ndb3 _ => make_reading nb3 ndb3 hz1 hz9 (arrows_list upd_same (paired_imp (fun _ _ z => RowT.same sl17 z) hp17)) hG.few hG.names fR fun H18 s18 hb3 => ⟨rfl, ?_⟩
            rw [eR] at hb3
            have s168 := (s17.trans sl17).trans s18
            refine eqB_reading (hB16.same s168) hb3 nR nR ?_
            have e2 : (decide (size = size) && PyData.eqv (dueD R) (dueD R)) = true := by
              rw [decide_eq_true rfl, Bool.true_and]
              exact SeqAt.eqv_refl _ (sh_due hz9 hG).lay
            refine ⟨true, congrArg V.bl e2, iteF ?_⟩
            -- size == 9 or not board == Board(size + 1, due)
            refine ⟨_, rfl, rfl, _, rfl, ite2 (fun _ => q _) (fun z9 => ?_)⟩
            have z8 : size + 1 ≤ 9 := by
              have ne : (size : Int) ≠ 9 := fun e => z9 (decide_eq_true (by rw [e]))
              omega
            have fR1 : ∀ r ∈ R, FitRow (size + 1) r := fun r hr => ((hG.rows r hr).mono (Nat.le_succ size)).fit
            refine ⟨_, rfl, _, rfl, _, _, rfl, rfl, _, rfl, fun b4 db4 nb4 ndb4 _ => make_reading (size := size + 1) nb4 ndb4 (Nat.succ_le_succ (Nat.zero_le _)) z8 (hDue16.same s168).arrows hG.few hG.names fR1 fun H19 s19 hb4 => ⟨rfl, ?_⟩⟩
            rw [eR] at hb4
            refine eqB_reading (hB16.same (s168.trans s19)) hb4 nR nR ?_
            have e3 : (decide (size = size + 1) && PyData.eqv (dueD R) (dueD R)) = false := by
              rw [decide_eq_false (by omega), Bool.false_and]
            exact ⟨false, congrArg V.bl e3, q _⟩
end
end Cw

/-! What the top leaves, put together. Printed by gen_head.py. -/
namespace Cw
open PySem PySem.Spec PyProof.Rows L2
theorem exm_of {K : PySem.W.Frag} {S R : Addr} {b : Bool} (h1 : PySem.W.subIn K (.ref R) (.type "BaseException") = some true) (h2 : PySem.W.isClsIn K R = true) (h3 : PySem.W.typeIn K (.ref R) = some (.type "type")) (h4 : PySem.W.subIn K (.ref S) (.ref R) = some b) :
    PySem.W.exmOne K (.ref S) (.ref R) = some b := by
  have e1 : (PySem.W.subIn K (.ref R) (.type "BaseException") == some true) = true := by rw [h1] <;> rfl
  have e2 : ((PySem.W.clsIn K R).isSome && PySem.W.typeIn K (.ref R) == some (.type "type")) = true := by
    have h2' : (PySem.W.clsIn K R).isSome = true := h2
    rw [h2', h3] <;> rfl
  show (if (PySem.W.subIn K (.ref R) (.type "BaseException") == some true) = true then (if ((PySem.W.clsIn K R).isSome && PySem.W.typeIn K (.ref R) == some (.type "type")) = true then PySem.W.subIn K (.ref S) (.ref R) else none) else none) = some b
  rw [if_pos e1, if_pos e2]
  exact h4
theorem kit_self (K : PySem.W.Frag) (C : Addr) : PySem.W.kitOne K (.ref C) (.ref C) = some true := by
  unfold PySem.W.kitOne
  rw [if_pos (by simp)]

theorem all_mk {P : Program} {w : World} {K : PySem.W.Frag} {h : Heap} {mg : Str → Option Value} {fa C WE N L : Addr} (X : K.In h) (G : h.Ns mainGlobals mg) (hfa : mg "law" = some (.ref fa))
    {f_d00 : Addr} {od_d00 an_d00 : Option Addr} {sl_d00 : Array (Option Value)} {oc_d00 kV_d00 dc_d00 pm_d00 cd_d00 ct_d00 : Value}
    {f_d01 : Addr} {od_d01 an_d01 : Option Addr} {sl_d01 : Array (Option Value)} {oc_d01 kV_d01 dc_d01 pm_d01 cd_d01 ct_d01 : Value}
    {f_d02 : Addr} {od_d02 an_d02 : Option Addr} {sl_d02 : Array (Option Value)} {oc_d02 kV_d02 dc_d02 pm_d02 cd_d02 ct_d02 : Value}
    {f_d03 : Addr} {od_d03 an_d03 : Option Addr} {sl_d03 : Array (Option Value)} {oc_d03 kV_d03 dc_d03 pm_d03 cd_d03 ct_d03 : Value}
    {f_d04 : Addr} {od_d04 an_d04 : Option Addr} {sl_d04 : Array (Option Value)} {oc_d04 kV_d04 dc_d04 pm_d04 cd_d04 ct_d04 : Value}
    {f_d05 : Addr} {od_d05 an_d05 : Option Addr} {sl_d05 : Array (Option Value)} {oc_d05 kV_d05 dc_d05 pm_d05 cd_d05 ct_d05 : Value}
    {f_d06 : Addr} {od_d06 an_d06 : Option Addr} {sl_d06 : Array (Option Value)} {oc_d06 kV_d06 dc_d06 pm_d06 cd_d06 ct_d06 : Value}
    {f_d07 : Addr} {od_d07 an_d07 : Option Addr} {sl_d07 : Array (Option Value)} {oc_d07 kV_d07 dc_d07 pm_d07 cd_d07 ct_d07 : Value}
    {f_d08 : Addr} {od_d08 an_d08 : Option Addr} {sl_d08 : Array (Option Value)} {oc_d08 kV_d08 dc_d08 pm_d08 cd_d08 ct_d08 : Value}
    {f_d09 : Addr} {od_d09 an_d09 : Option Addr} {sl_d09 : Array (Option Value)} {oc_d09 kV_d09 dc_d09 pm_d09 cd_d09 ct_d09 : Value}
    {f_d10 : Addr} {od_d10 an_d10 : Option Addr} {sl_d10 : Array (Option Value)} {oc_d10 kV_d10 dc_d10 pm_d10 cd_d10 ct_d10 : Value}
    {f_d11 : Addr} {od_d11 an_d11 : Option Addr} {sl_d11 : Array (Option Value)} {oc_d11 kV_d11 dc_d11 pm_d11 cd_d11 ct_d11 : Value}
    {f_d12 : Addr} {od_d12 an_d12 : Option Addr} {sl_d12 : Array (Option Value)} {oc_d12 kV_d12 dc_d12 pm_d12 cd_d12 ct_d12 : Value}
    {f_d13 : Addr} {od_d13 an_d13 : Option Addr} {sl_d13 : Array (Option Value)} {oc_d13 kV_d13 dc_d13 pm_d13 cd_d13 ct_d13 : Value}
    {f_d14 : Addr} {od_d14 an_d14 : Option Addr} {sl_d14 : Array (Option Value)} {oc_d14 kV_d14 dc_d14 pm_d14 cd_d14 ct_d14 : Value}
    {f_d15 : Addr} {od_d15 an_d15 : Option Addr} {sl_d15 : Array (Option Value)} {oc_d15 kV_d15 dc_d15 pm_d15 cd_d15 ct_d15 : Value}
    {f_d16 : Addr} {od_d16 an_d16 : Option Addr} {sl_d16 : Array (Option Value)} {oc_d16 kV_d16 dc_d16 pm_d16 cd_d16 ct_d16 : Value}
    {f_d17 : Addr} {od_d17 an_d17 : Option Addr} {sl_d17 : Array (Option Value)} {oc_d17 kV_d17 dc_d17 pm_d17 cd_d17 ct_d17 : Value}
    {f_d18 : Addr} {od_d18 an_d18 : Option Addr} {sl_d18 : Array (Option Value)} {oc_d18 kV_d18 dc_d18 pm_d18 cd_d18 ct_d18 : Value}
    {f_d19 : Addr} {od_d19 an_d19 : Option Addr} {sl_d19 : Array (Option Value)} {oc_d19 kV_d19 dc_d19 pm_d19 cd_d19 ct_d19 : Value}
    {f_minit : Addr} {od_minit an_minit : Option Addr} {sl_minit : Array (Option Value)} {oc_minit kV_minit dc_minit pm_minit cd_minit ct_minit : Value}
    {f_meq : Addr} {od_meq an_meq : Option Addr} {sl_meq : Array (Option Value)} {oc_meq kV_meq dc_meq pm_meq cd_meq ct_meq : Value}
    {f_meo : Addr} {od_meo an_meo : Option Addr} {sl_meo : Array (Option Value)} {oc_meo kV_meo dc_meo pm_meo cd_meo ct_meo : Value}
    {f_mrf : Addr} {od_mrf an_mrf : Option Addr} {sl_mrf : Array (Option Value)} {oc_mrf kV_mrf dc_mrf pm_mrf cd_mrf ct_mrf : Value}
    {f_mni : Addr} {od_mni an_mni : Option Addr} {sl_mni : Array (Option Value)} {oc_mni kV_mni dc_mni pm_mni cd_mni ct_mni : Value}
    {f_mli : Addr} {od_mli an_mli : Option Addr} {sl_mli : Array (Option Value)} {oc_mli kV_mli dc_mli pm_mli cd_mli ct_mli : Value}
    {t_MOST_CELLS t_MOST_ARROWS t_MOST_EDGES t_MOST_LENGTH : Tok}
    {nmN qN : Str} {NSN : Addr} {bsN : List Value} {snN : List Str} {subN : List Value} {abN : Bool} {colN : Option Bool} {ddN : Option Addr} {m0N m1N m2N m3N m5N : Option Value}
    {nmL qL : Str} {NSL : Addr} {bsL : List Value} {snL : List Str} {subL : List Value} {abL : Bool} {colL : Option Bool} {ddL : Option Addr} {m0L m1L m2L m3L m5L : Option Value}
    (a_d00 : PySem.W.nsIn K mainGlobals "is_number" = some (some (.ref f_d00)))
    (l_d00 : K.lookup f_d00 = some ⟨oc_d00, od_d00, .func (PySem.W.fnOf "is_number" "is_number" (defArgs sNum) (defBody sNum) (defScope sNum) .none kV_d00 dc_d00 pm_d00 an_d00 cd_d00 ct_d00), sl_d00⟩)
    (c_d00 : PySem.W.codeIn K cd_d00 "is_number" = true)
    (k_d00 : PySem.W.keepIn K (.ref f_d00) = true)
    (a_d01 : PySem.W.nsIn K mainGlobals "is_sequence" = some (some (.ref f_d01)))
    (l_d01 : K.lookup f_d01 = some ⟨oc_d01, od_d01, .func (PySem.W.fnOf "is_sequence" "is_sequence" (defArgs sSeq) (defBody sSeq) (defScope sSeq) .none kV_d01 dc_d01 pm_d01 an_d01 cd_d01 ct_d01), sl_d01⟩)
    (c_d01 : PySem.W.codeIn K cd_d01 "is_sequence" = true)
    (k_d01 : PySem.W.keepIn K (.ref f_d01) = true)
    (a_d02 : PySem.W.nsIn K mainGlobals "is_name" = some (some (.ref f_d02)))
    (l_d02 : K.lookup f_d02 = some ⟨oc_d02, od_d02, .func (PySem.W.fnOf "is_name" "is_name" (defArgs sName) (defBody sName) (defScope sName) .none kV_d02 dc_d02 pm_d02 an_d02 cd_d02 ct_d02), sl_d02⟩)
    (c_d02 : PySem.W.codeIn K cd_d02 "is_name" = true)
    (k_d02 : PySem.W.keepIn K (.ref f_d02) = true)
    (a_d03 : PySem.W.nsIn K mainGlobals "checked_edge" = some (some (.ref f_d03)))
    (l_d03 : K.lookup f_d03 = some ⟨oc_d03, od_d03, .func (PySem.W.fnOf "checked_edge" "checked_edge" (defArgs sEdge) (defBody sEdge) (defScope sEdge) .none kV_d03 dc_d03 pm_d03 an_d03 cd_d03 ct_d03), sl_d03⟩)
    (c_d03 : PySem.W.codeIn K cd_d03 "checked_edge" = true)
    (k_d03 : PySem.W.keepIn K (.ref f_d03) = true)
    (a_d04 : PySem.W.nsIn K mainGlobals "checked_arrow" = some (some (.ref f_d04)))
    (l_d04 : K.lookup f_d04 = some ⟨oc_d04, od_d04, .func (PySem.W.fnOf "checked_arrow" "checked_arrow" (defArgs sArrow) (defBody sArrow) (defScope sArrow) .none kV_d04 dc_d04 pm_d04 an_d04 cd_d04 ct_d04), sl_d04⟩)
    (c_d04 : PySem.W.codeIn K cd_d04 "checked_arrow" = true)
    (k_d04 : PySem.W.keepIn K (.ref f_d04) = true)
    (a_d05 : PySem.W.nsIn K mainGlobals "longer_chains" = some (some (.ref f_d05)))
    (l_d05 : K.lookup f_d05 = some ⟨oc_d05, od_d05, .func (PySem.W.fnOf "longer_chains" "longer_chains" (defArgs sLonger) (defBody sLonger) (defScope sLonger) .none kV_d05 dc_d05 pm_d05 an_d05 cd_d05 ct_d05), sl_d05⟩)
    (c_d05 : PySem.W.codeIn K cd_d05 "longer_chains" = true)
    (k_d05 : PySem.W.keepIn K (.ref f_d05) = true)
    (a_d06 : PySem.W.nsIn K mainGlobals "chains_of" = some (some (.ref f_d06)))
    (l_d06 : K.lookup f_d06 = some ⟨oc_d06, od_d06, .func (PySem.W.fnOf "chains_of" "chains_of" (defArgs sChains) (defBody sChains) (defScope sChains) .none kV_d06 dc_d06 pm_d06 an_d06 cd_d06 ct_d06), sl_d06⟩)
    (c_d06 : PySem.W.codeIn K cd_d06 "chains_of" = true)
    (k_d06 : PySem.W.keepIn K (.ref f_d06) = true)
    (a_d07 : PySem.W.nsIn K mainGlobals "_law_hand" = some (some (.ref f_d07)))
    (l_d07 : K.lookup f_d07 = some ⟨oc_d07, od_d07, .func (PySem.W.fnOf "_law_hand" "_law_hand" (defArgs lHand) (defBody lHand) (defScope lHand) .none kV_d07 dc_d07 pm_d07 an_d07 cd_d07 ct_d07), sl_d07⟩)
    (c_d07 : PySem.W.codeIn K cd_d07 "_law_hand" = true)
    (k_d07 : PySem.W.keepIn K (.ref f_d07) = true)
    (a_d08 : PySem.W.nsIn K mainGlobals "_law_mixed" = some (some (.ref f_d08)))
    (l_d08 : K.lookup f_d08 = some ⟨oc_d08, od_d08, .func (PySem.W.fnOf "_law_mixed" "_law_mixed" (defArgs lMixed) (defBody lMixed) (defScope lMixed) .none kV_d08 dc_d08 pm_d08 an_d08 cd_d08 ct_d08), sl_d08⟩)
    (c_d08 : PySem.W.codeIn K cd_d08 "_law_mixed" = true)
    (k_d08 : PySem.W.keepIn K (.ref f_d08) = true)
    (a_d09 : PySem.W.nsIn K mainGlobals "_law_take" = some (some (.ref f_d09)))
    (l_d09 : K.lookup f_d09 = some ⟨oc_d09, od_d09, .func (PySem.W.fnOf "_law_take" "_law_take" (defArgs lTake) (defBody lTake) (defScope lTake) .none kV_d09 dc_d09 pm_d09 an_d09 cd_d09 ct_d09), sl_d09⟩)
    (c_d09 : PySem.W.codeIn K cd_d09 "_law_take" = true)
    (k_d09 : PySem.W.keepIn K (.ref f_d09) = true)
    (a_d10 : PySem.W.nsIn K mainGlobals "_law_pick" = some (some (.ref f_d10)))
    (l_d10 : K.lookup f_d10 = some ⟨oc_d10, od_d10, .func (PySem.W.fnOf "_law_pick" "_law_pick" (defArgs lPick) (defBody lPick) (defScope lPick) .none kV_d10 dc_d10 pm_d10 an_d10 cd_d10 ct_d10), sl_d10⟩)
    (c_d10 : PySem.W.codeIn K cd_d10 "_law_pick" = true)
    (k_d10 : PySem.W.keepIn K (.ref f_d10) = true)
    (a_d11 : PySem.W.nsIn K mainGlobals "_law_same" = some (some (.ref f_d11)))
    (l_d11 : K.lookup f_d11 = some ⟨oc_d11, od_d11, .func (PySem.W.fnOf "_law_same" "_law_same" (defArgs lSame) (defBody lSame) (defScope lSame) .none kV_d11 dc_d11 pm_d11 an_d11 cd_d11 ct_d11), sl_d11⟩)
    (c_d11 : PySem.W.codeIn K cd_d11 "_law_same" = true)
    (k_d11 : PySem.W.keepIn K (.ref f_d11) = true)
    (a_d12 : PySem.W.nsIn K mainGlobals "_law_name" = some (some (.ref f_d12)))
    (l_d12 : K.lookup f_d12 = some ⟨oc_d12, od_d12, .func (PySem.W.fnOf "_law_name" "_law_name" (defArgs lName) (defBody lName) (defScope lName) .none kV_d12 dc_d12 pm_d12 an_d12 cd_d12 ct_d12), sl_d12⟩)
    (c_d12 : PySem.W.codeIn K cd_d12 "_law_name" = true)
    (k_d12 : PySem.W.keepIn K (.ref f_d12) = true)
    (a_d13 : PySem.W.nsIn K mainGlobals "_law_names" = some (some (.ref f_d13)))
    (l_d13 : K.lookup f_d13 = some ⟨oc_d13, od_d13, .func (PySem.W.fnOf "_law_names" "_law_names" (defArgs lNames) (defBody lNames) (defScope lNames) .none kV_d13 dc_d13 pm_d13 an_d13 cd_d13 ct_d13), sl_d13⟩)
    (c_d13 : PySem.W.codeIn K cd_d13 "_law_names" = true)
    (k_d13 : PySem.W.keepIn K (.ref f_d13) = true)
    (a_d14 : PySem.W.nsIn K mainGlobals "_law_edges" = some (some (.ref f_d14)))
    (l_d14 : K.lookup f_d14 = some ⟨oc_d14, od_d14, .func (PySem.W.fnOf "_law_edges" "_law_edges" (defArgs lEdges) (defBody lEdges) (defScope lEdges) .none kV_d14 dc_d14 pm_d14 an_d14 cd_d14 ct_d14), sl_d14⟩)
    (c_d14 : PySem.W.codeIn K cd_d14 "_law_edges" = true)
    (k_d14 : PySem.W.keepIn K (.ref f_d14) = true)
    (a_d15 : PySem.W.nsIn K mainGlobals "_law_arrows" = some (some (.ref f_d15)))
    (l_d15 : K.lookup f_d15 = some ⟨oc_d15, od_d15, .func (PySem.W.fnOf "_law_arrows" "_law_arrows" (defArgs lArrows) (defBody lArrows) (defScope lArrows) .none kV_d15 dc_d15 pm_d15 an_d15 cd_d15 ct_d15), sl_d15⟩)
    (c_d15 : PySem.W.codeIn K cd_d15 "_law_arrows" = true)
    (k_d15 : PySem.W.keepIn K (.ref f_d15) = true)
    (a_d16 : PySem.W.nsIn K mainGlobals "_law_chains" = some (some (.ref f_d16)))
    (l_d16 : K.lookup f_d16 = some ⟨oc_d16, od_d16, .func (PySem.W.fnOf "_law_chains" "_law_chains" (defArgs lChains) (defBody lChains) (defScope lChains) .none kV_d16 dc_d16 pm_d16 an_d16 cd_d16 ct_d16), sl_d16⟩)
    (c_d16 : PySem.W.codeIn K cd_d16 "_law_chains" = true)
    (k_d16 : PySem.W.keepIn K (.ref f_d16) = true)
    (a_d17 : PySem.W.nsIn K mainGlobals "_law_asked_chains" = some (some (.ref f_d17)))
    (l_d17 : K.lookup f_d17 = some ⟨oc_d17, od_d17, .func (PySem.W.fnOf "_law_asked_chains" "_law_asked_chains" (defArgs lAsked) (defBody lAsked) (defScope lAsked) .none kV_d17 dc_d17 pm_d17 an_d17 cd_d17 ct_d17), sl_d17⟩)
    (c_d17 : PySem.W.codeIn K cd_d17 "_law_asked_chains" = true)
    (k_d17 : PySem.W.keepIn K (.ref f_d17) = true)
    (a_d18 : PySem.W.nsIn K mainGlobals "_law_refusals_right" = some (some (.ref f_d18)))
    (l_d18 : K.lookup f_d18 = some ⟨oc_d18, od_d18, .func (PySem.W.fnOf "_law_refusals_right" "_law_refusals_right" (defArgs lRight) (defBody lRight) (defScope lRight) .none kV_d18 dc_d18 pm_d18 an_d18 cd_d18 ct_d18), sl_d18⟩)
    (c_d18 : PySem.W.codeIn K cd_d18 "_law_refusals_right" = true)
    (k_d18 : PySem.W.keepIn K (.ref f_d18) = true)
    (a_d19 : PySem.W.nsIn K mainGlobals "law" = some (some (.ref f_d19)))
    (l_d19 : K.lookup f_d19 = some ⟨oc_d19, od_d19, .func (PySem.W.fnOf "law" "law" (defArgs lLaw) (defBody lLaw) (defScope lLaw) .none kV_d19 dc_d19 pm_d19 an_d19 cd_d19 ct_d19), sl_d19⟩)
    (c_d19 : PySem.W.codeIn K cd_d19 "law" = true)
    (k_d19 : PySem.W.keepIn K (.ref f_d19) = true)
    (n_MOST_CELLS : PySem.W.nsIn K mainGlobals "MOST_CELLS" = some (some (.int 9 t_MOST_CELLS)))
    (n_MOST_ARROWS : PySem.W.nsIn K mainGlobals "MOST_ARROWS" = some (some (.int 6 t_MOST_ARROWS)))
    (n_MOST_EDGES : PySem.W.nsIn K mainGlobals "MOST_EDGES" = some (some (.int 24 t_MOST_EDGES)))
    (n_MOST_LENGTH : PySem.W.nsIn K mainGlobals "MOST_LENGTH" = some (some (.int 4 t_MOST_LENGTH)))
    (aC : PySem.W.nsIn K mainGlobals "Board" = some (some (.ref C)))
    (aW : PySem.W.nsIn K mainGlobals "WorthError" = some (some (.ref WE)))
    (aN : PySem.W.nsIn K mainGlobals "NoArrow" = some (some (.ref N)))
    (aL : PySem.W.nsIn K mainGlobals "BadLength" = some (some (.ref L)))
    (a_minit : PySem.W.findIn K (.ref C) "__init__" = some (some (.ref f_minit)))
    (i_minit : PySem.W.isFn K (.ref f_minit) = true)
    (l_minit : K.lookup f_minit = some ⟨oc_minit, od_minit, .func (PySem.W.fnOf "__init__" "Board.__init__" (defArgs sInit) (defBody sInit) (defScope sInit) .none kV_minit dc_minit pm_minit an_minit cd_minit ct_minit), sl_minit⟩)
    (c_minit : PySem.W.codeIn K cd_minit "Board.__init__" = true)
    (k_minit : PySem.W.keepIn K (.ref f_minit) = true)
    (a_meq : PySem.W.findIn K (.ref C) "__eq__" = some (some (.ref f_meq)))
    (i_meq : PySem.W.isFn K (.ref f_meq) = true)
    (l_meq : K.lookup f_meq = some ⟨oc_meq, od_meq, .func (PySem.W.fnOf "__eq__" "Board.__eq__" (defArgs sEq) (defBody sEq) (defScope sEq) .none kV_meq dc_meq pm_meq an_meq cd_meq ct_meq), sl_meq⟩)
    (c_meq : PySem.W.codeIn K cd_meq "Board.__eq__" = true)
    (k_meq : PySem.W.keepIn K (.ref f_meq) = true)
    (a_meo : PySem.W.findIn K (.ref C) "edges_of" = some (some (.ref f_meo)))
    (i_meo : PySem.W.isFn K (.ref f_meo) = true)
    (l_meo : K.lookup f_meo = some ⟨oc_meo, od_meo, .func (PySem.W.fnOf "edges_of" "Board.edges_of" (defArgs sEdges) (defBody sEdges) (defScope sEdges) .none kV_meo dc_meo pm_meo an_meo cd_meo ct_meo), sl_meo⟩)
    (c_meo : PySem.W.codeIn K cd_meo "Board.edges_of" = true)
    (k_meo : PySem.W.keepIn K (.ref f_meo) = true)
    (a_mrf : PySem.W.findIn K (.ref C) "reached_from" = some (some (.ref f_mrf)))
    (i_mrf : PySem.W.isFn K (.ref f_mrf) = true)
    (l_mrf : K.lookup f_mrf = some ⟨oc_mrf, od_mrf, .func (PySem.W.fnOf "reached_from" "Board.reached_from" (defArgs sReach) (defBody sReach) (defScope sReach) .none kV_mrf dc_mrf pm_mrf an_mrf cd_mrf ct_mrf), sl_mrf⟩)
    (c_mrf : PySem.W.codeIn K cd_mrf "Board.reached_from" = true)
    (k_mrf : PySem.W.keepIn K (.ref f_mrf) = true)
    (a_mni : PySem.W.findIn K (.ref N) "__init__" = some (some (.ref f_mni)))
    (i_mni : PySem.W.typeIn K (.ref f_mni) = some (.type "function"))
    (l_mni : K.lookup f_mni = some ⟨oc_mni, od_mni, .func (PySem.W.fnOf "__init__" "NoArrow.__init__" (defArgs sNoI) (defBody sNoI) (defScope sNoI) .none kV_mni dc_mni pm_mni an_mni cd_mni ct_mni), sl_mni⟩)
    (c_mni : PySem.W.codeIn K cd_mni "NoArrow.__init__" = true)
    (k_mni : PySem.W.keepIn K (.ref f_mni) = true)
    (a_mli : PySem.W.findIn K (.ref L) "__init__" = some (some (.ref f_mli)))
    (i_mli : PySem.W.typeIn K (.ref f_mli) = some (.type "function"))
    (l_mli : K.lookup f_mli = some ⟨oc_mli, od_mli, .func (PySem.W.fnOf "__init__" "BadLength.__init__" (defArgs sLenI) (defBody sLenI) (defScope sLenI) .none kV_mli dc_mli pm_mli an_mli cd_mli ct_mli), sl_mli⟩)
    (c_mli : PySem.W.codeIn K cd_mli "BadLength.__init__" = true)
    (k_mli : PySem.W.keepIn K (.ref f_mli) = true)
    (pg : PySem.W.plainGet K C Str.empty = true)
    (hd : PySem.W.hasDictIn K C = true)
    (po : PySem.W.plainOver K C = true)
    (sa : PySem.W.findIn K (.ref C) "__setattr__" = some (some (.builtin "object.__setattr__")))
    (mk : PySem.W.makesIn K C = true)
    (kc : PySem.W.keepIn K (.ref C) = true)
    (nS : PySem.W.findIn K (.ref C) "size" = some none)
    (nA : PySem.W.findIn K (.ref C) "arrows" = some none)
    (ha : PySem.W.findIn K (.ref C) "__class__" = some (some (.builtin "object.__class__")))
    (hn : PySem.W.specialIn K (.builtin "object.__class__") "__get__" = some (some (.builtin "getset_descriptor.__get__")))
    (htk : PySem.W.takesIn K (.builtin "object.__class__") = some true)
    (hm : PySem.W.mroIn K C (.type "object") = some true)
    (rd : PySem.W.readsIn K WE (.type "type") = true)
    (wg : PySem.W.specialIn K (.ref WE) "__getattribute__" = some (some (.builtin "type.__getattribute__")))
    (vV : PySem.W.findCls K (.ref WE) (.type "type") "__init__" = some (.val (.builtin "ValueError.__init__")))
    (xN : K.lookup N = some (excClassObj nmN qN N NSN bsN [.ref WE, .type "ValueError", .type "Exception", .type "BaseException", .type "object"] true snN subN abN colN ddN m0N m1N m2N m3N m5N "ValueError.__new__"))
    (sN : PySem.W.findIn K (.ref N) "__setattr__" = some (some (.builtin "object.__setattr__")))
    (eN : PySem.W.subIn K (.ref N) (.type "BaseException") = some true)
    (tN : PySem.W.typeIn K (.ref N) = some (.type "type"))
    (kN : PySem.W.keepIn K (.ref N) = true)
    (nfN : PySem.W.findIn K (.ref N) "arrow" = some none)
    (gaN : PySem.W.findIn K (.ref N) "__getattribute__" = some (some (.builtin "BaseException.__getattribute__")))
    (ggN : PySem.W.findIn K (.ref N) "__getattr__" = some none)
    (hdN : PySem.W.hasDictIn K N = true)
    (icN : PySem.W.isClsIn K N = true)
    (scN : PySem.W.subIn K (.ref N) (.ref N) = some true)
    (xL : K.lookup L = some (excClassObj nmL qL L NSL bsL [.ref WE, .type "ValueError", .type "Exception", .type "BaseException", .type "object"] true snL subL abL colL ddL m0L m1L m2L m3L m5L "ValueError.__new__"))
    (sL : PySem.W.findIn K (.ref L) "__setattr__" = some (some (.builtin "object.__setattr__")))
    (eL : PySem.W.subIn K (.ref L) (.type "BaseException") = some true)
    (tL : PySem.W.typeIn K (.ref L) = some (.type "type"))
    (kL : PySem.W.keepIn K (.ref L) = true)
    (nfL : PySem.W.findIn K (.ref L) "length" = some none)
    (gaL : PySem.W.findIn K (.ref L) "__getattribute__" = some (some (.builtin "BaseException.__getattribute__")))
    (ggL : PySem.W.findIn K (.ref L) "__getattr__" = some none)
    (hdL : PySem.W.hasDictIn K L = true)
    (icL : PySem.W.isClsIn K L = true)
    (scL : PySem.W.subIn K (.ref L) (.ref L) = some true)
    (sLN : PySem.W.subIn K (.ref L) (.ref N) = some false)
    (z_isinstance : PySem.W.nsIn K mainGlobals "isinstance" = some none)
    (z_str : PySem.W.nsIn K mainGlobals "str" = some none)
    (z_int : PySem.W.nsIn K mainGlobals "int" = some none)
    (z_bool : PySem.W.nsIn K mainGlobals "bool" = some none)
    (z_list : PySem.W.nsIn K mainGlobals "list" = some none)
    (z_tuple : PySem.W.nsIn K mainGlobals "tuple" = some none)
    (z_len : PySem.W.nsIn K mainGlobals "len" = some none)
    (z_all : PySem.W.nsIn K mainGlobals "all" = some none)
    (z_sorted : PySem.W.nsIn K mainGlobals "sorted" = some none)
    (z_range : PySem.W.nsIn K mainGlobals "range" = some none)
    (z_abs : PySem.W.nsIn K mainGlobals "abs" = some none)
    (z_repr : PySem.W.nsIn K mainGlobals "repr" = some none)
    (z_set : PySem.W.nsIn K mainGlobals "set" = some none) :
    ∃ fd : FuncData, (∀ (s : Shared) (u : Value), BindsTo s fd ⟨[u], []⟩ [("_law_script", u)]) ∧ ∀ base : Heap, K.In base → base.Ns mainGlobals mg → FnG P w K mg base 9 fa fd ["_law_script"] (spLaw K) := by
  have e := hfa.symm.trans (PySem.W.mg_of X G a_d19)
  cases e
  have T : Free mg := ⟨PySem.W.mg_none_of X G z_isinstance, PySem.W.mg_none_of X G z_str, PySem.W.mg_none_of X G z_int, PySem.W.mg_none_of X G z_bool, PySem.W.mg_none_of X G z_list, PySem.W.mg_none_of X G z_tuple, PySem.W.mg_none_of X G z_len, PySem.W.mg_none_of X G z_all, PySem.W.mg_none_of X G z_sorted, PySem.W.mg_none_of X G z_range, PySem.W.mg_none_of X G z_abs, PySem.W.mg_none_of X G z_repr, PySem.W.mg_none_of X G z_set⟩
  have TN : Nums mg := ⟨⟨_, PySem.W.mg_of X G n_MOST_CELLS⟩, ⟨_, PySem.W.mg_of X G n_MOST_ARROWS⟩, ⟨_, PySem.W.mg_of X G n_MOST_EDGES⟩, ⟨_, PySem.W.mg_of X G n_MOST_LENGTH⟩⟩
  have TC : BoardC K mg C := ⟨PySem.W.mg_of X G aC, ⟨pg, hd, po, sa⟩, nS, nA, ha, hn, htk, hm, kit_self K C⟩
  have TW : BaseC K mg WE := ⟨PySem.W.mg_of X G aW, rd, wg, vV⟩
  have EN : ErrC K mg N "NoArrow" "arrow" := ⟨PySem.W.mg_of X G aN, ⟨⟨_, _, _, _, _, _, _, _, _, _, _, _, _, _, _, xN, rfl⟩, sN, eN, tN, kN⟩, nfN, ⟨gaN, ggN, eN, hdN⟩, exm_of eN icN tN scN⟩
  have EL : ErrC K mg L "BadLength" "length" := ⟨PySem.W.mg_of X G aL, ⟨⟨_, _, _, _, _, _, _, _, _, _, _, _, _, _, _, xL, rfl⟩, sL, eL, tL, kL⟩, nfL, ⟨gaL, ggL, eL, hdL⟩, exm_of eL icL tL scL⟩
  have tn : PySem.W.exmOne K (.ref L) (.ref N) = some false := exm_of eN icN tN sLN
  have F_d00 := fun_mk (st := sNum) l_d00 c_d00 k_d00
  have b_d00 := F_d00.binds (ps := ["thing", "low", "high"]) fun _ _ _ _ _ _ us hl => match us, hl with | [_, _, _], _ => rfl
  have F_d01 := fun_mk (st := sSeq) l_d01 c_d01 k_d01
  have b_d01 := F_d01.binds (ps := ["thing", "low", "high"]) fun _ _ _ _ _ _ us hl => match us, hl with | [_, _, _], _ => rfl
  have F_d02 := fun_mk (st := sName) l_d02 c_d02 k_d02
  have b_d02 := F_d02.binds (ps := ["thing"]) fun _ _ _ _ _ _ us hl => match us, hl with | [_], _ => rfl
  have F_d03 := fun_mk (st := sEdge) l_d03 c_d03 k_d03
  have b_d03 := F_d03.binds (ps := ["size", "edge", "at"]) fun _ _ _ _ _ _ us hl => match us, hl with | [_, _, _], _ => rfl
  have F_d04 := fun_mk (st := sArrow) l_d04 c_d04 k_d04
  have b_d04 := F_d04.binds (ps := ["size", "earlier", "arrow", "at"]) fun _ _ _ _ _ _ us hl => match us, hl with | [_, _, _, _], _ => rfl
  have F_d05 := fun_mk (st := sLonger) l_d05 c_d05 k_d05
  have b_d05 := F_d05.binds (ps := ["board", "arrow", "chains"]) fun _ _ _ _ _ _ us hl => match us, hl with | [_, _, _], _ => rfl
  have F_d06 := fun_mk (st := sChains) l_d06 c_d06 k_d06
  have b_d06 := F_d06.binds (ps := ["board", "arrow", "length"]) fun _ _ _ _ _ _ us hl => match us, hl with | [_, _, _], _ => rfl
  have F_d07 := fun_mk (st := lHand) l_d07 c_d07 k_d07
  have b_d07 := F_d07.binds (ps := ["_law_script"]) fun _ _ _ _ _ _ us hl => match us, hl with | [_], _ => rfl
  have F_d08 := fun_mk (st := lMixed) l_d08 c_d08 k_d08
  have b_d08 := F_d08.binds (ps := ["_law_number", "_law_turn"]) fun _ _ _ _ _ _ us hl => match us, hl with | [_, _], _ => rfl
  have F_d09 := fun_mk (st := lTake) l_d09 c_d09 k_d09
  have b_d09 := F_d09.binds (ps := ["_law_hand_here", "_law_many"]) fun _ _ _ _ _ _ us hl => match us, hl with | [_, _], _ => rfl
  have F_d10 := fun_mk (st := lPick) l_d10 c_d10 k_d10
  have b_d10 := F_d10.binds (ps := ["_law_hand_here", "_law_things"]) fun _ _ _ _ _ _ us hl => match us, hl with | [_, _], _ => rfl
  have F_d11 := fun_mk (st := lSame) l_d11 c_d11 k_d11
  have b_d11 := F_d11.binds (ps := ["_law_told", "_law_due"]) fun _ _ _ _ _ _ us hl => match us, hl with | [_, _], _ => rfl
  have F_d12 := fun_mk (st := lName) l_d12 c_d12 k_d12
  have b_d12 := F_d12.binds (ps := ["_law_hand_here", "_law_taken"]) fun _ _ _ _ _ _ us hl => match us, hl with | [_, _], _ => rfl
  have F_d13 := fun_mk (st := lNames) l_d13 c_d13 k_d13
  have b_d13 := F_d13.binds (ps := ["_law_hand_here", "_law_many"]) fun _ _ _ _ _ _ us hl => match us, hl with | [_, _], _ => rfl
  have F_d14 := fun_mk (st := lEdges) l_d14 c_d14 k_d14
  have b_d14 := F_d14.binds (ps := ["_law_hand_here", "_law_size", "_law_many"]) fun _ _ _ _ _ _ us hl => match us, hl with | [_, _, _], _ => rfl
  have F_d15 := fun_mk (st := lArrows) l_d15 c_d15 k_d15
  have b_d15 := F_d15.binds (ps := ["_law_hand_here", "_law_size", "_law_many", "_law_counts"]) fun _ _ _ _ _ _ us hl => match us, hl with | [_, _, _, _], _ => rfl
  have F_d16 := fun_mk (st := lChains) l_d16 c_d16 k_d16
  have b_d16 := F_d16.binds (ps := ["_law_size", "_law_edges_here", "_law_length"]) fun _ _ _ _ _ _ us hl => match us, hl with | [_, _, _], _ => rfl
  have F_d17 := fun_mk (st := lAsked) l_d17 c_d17 k_d17
  have b_d17 := F_d17.binds (ps := ["_law_board", "_law_arrow", "_law_length"]) fun _ _ _ _ _ _ us hl => match us, hl with | [_, _, _], _ => rfl
  have F_d18 := fun_mk (st := lRight) l_d18 c_d18 k_d18
  have b_d18 := F_d18.binds (ps := ["_law_hand_here", "_law_board", "_law_names_here"]) fun _ _ _ _ _ _ us hl => match us, hl with | [_, _, _], _ => rfl
  have F_d19 := fun_mk (st := lLaw) l_d19 c_d19 k_d19
  have b_d19 := F_d19.binds (ps := ["_law_script"]) fun _ _ _ _ _ _ us hl => match us, hl with | [_], _ => rfl
  have F_minit := fun_mk (st := sInit) l_minit c_minit k_minit
  have b_minit := F_minit.binds (ps := ["self", "size", "arrows"]) fun _ _ _ _ _ _ us hl => match us, hl with | [_, _, _], _ => rfl
  have F_meq := fun_mk (st := sEq) l_meq c_meq k_meq
  have b_meq := F_meq.binds (ps := ["self", "other"]) fun _ _ _ _ _ _ us hl => match us, hl with | [_, _], _ => rfl
  have F_meo := fun_mk (st := sEdges) l_meo c_meo k_meo
  have b_meo := F_meo.binds (ps := ["self", "arrow"]) fun _ _ _ _ _ _ us hl => match us, hl with | [_, _], _ => rfl
  have F_mrf := fun_mk (st := sReach) l_mrf c_mrf k_mrf
  have b_mrf := F_mrf.binds (ps := ["self", "arrow", "cell"]) fun _ _ _ _ _ _ us hl => match us, hl with | [_, _, _], _ => rfl
  have F_mni := fun_mk (st := sNoI) l_mni c_mni k_mni
  have b_mni := F_mni.binds (ps := ["self", "arrow"]) fun _ _ _ _ _ _ us hl => match us, hl with | [_, _], _ => rfl
  have F_mli := fun_mk (st := sLenI) l_mli c_mli k_mli
  have b_mli := F_mli.binds (ps := ["self", "length"]) fun _ _ _ _ _ _ us hl => match us, hl with | [_, _], _ => rfl
  refine ⟨PySem.W.fnOf "law" "law" (defArgs lLaw) (defBody lLaw) (defScope lLaw) .none kV_d19 dc_d19 pm_d19 an_d19 cd_d19 ct_d19, fun s v => .of_eq rfl, fun base _ _ => ?_⟩
  have DN : Def P w K mg base 1 "is_number" spNum := ⟨⟨_, _, _, PySem.W.mg_of X G a_d00, k_d00, b_d00, ok_num (k := 0) F_d00 T⟩⟩
  have DSq : Def P w K mg base 1 "is_sequence" (spSeq K) := ⟨⟨_, _, _, PySem.W.mg_of X G a_d01, k_d01, b_d01, ok_seq (k := 0) F_d01 T⟩⟩
  have DM : Def P w K mg base 1 "is_name" spName := ⟨⟨_, _, _, PySem.W.mg_of X G a_d02, k_d02, b_d02, ok_name (k := 0) F_d02 T⟩⟩
  have DEd : Def P w K mg base 2 "checked_edge" spEdge := ⟨⟨_, _, _, PySem.W.mg_of X G a_d03, k_d03, b_d03, ok_edge F_d03 DSq DN⟩⟩
  have DAw : Def P w K mg base 3 "checked_arrow" (spArrow K) := ⟨⟨_, _, _, PySem.W.mg_of X G a_d04, k_d04, b_d04, ok_arrow F_d04 T TN DSq DM DEd⟩⟩
  have MB : Made P w K mg base C 4 (spInit K C) := ⟨⟨_, _, _, ⟨mk, a_minit, i_minit, kc⟩, b_minit, ok_init F_minit T TN TC DSq DN DAw⟩⟩
  have EB : EqC P w K mg base C := ⟨⟨_, _, _, a_meq, i_meq, b_meq, ok_eqB (k := 0) F_meq T TC⟩⟩
  have IN : ErrI P w K mg base N "arrow" := ⟨⟨_, _, _, a_mni, i_mni, b_mni, ok_noI (k := 0) F_mni TW EN⟩⟩
  have IL : ErrI P w K mg base L "length" := ⟨⟨_, _, _, a_mli, i_mli, b_mli, ok_lenI (k := 0) F_mli TW EL⟩⟩
  have ME : Mtd P w K mg base (L2.CX P w) C 3 "edges_of" (spEdges K C N) := ⟨⟨_, _, _, ⟨a_meo, i_meo, k_meo⟩, b_meo, ok_edges F_meo TC EN IN⟩⟩
  have MR : Mtd P w K mg base CX0 C 4 "reached_from" (spReach K C) := ⟨⟨_, _, _, ⟨a_mrf, i_mrf, k_mrf⟩, b_mrf, ok_reach F_mrf T TC ME⟩⟩
  have DL : Def P w K mg base 5 "longer_chains" (spLonger K C) := ⟨⟨_, _, _, PySem.W.mg_of X G a_d05, k_d05, b_d05, ok_longer F_d05 TC MR⟩⟩
  have DCh : DefX P w K mg base 6 "chains_of" (spChains K C N L) := ⟨⟨_, _, _, PySem.W.mg_of X G a_d06, k_d06, b_d06, ok_chains F_d06 T TN TC EL IL ME DN DL⟩⟩
  have DH : Def P w K mg base 1 "_law_hand" (spHand K) := ⟨⟨_, _, _, PySem.W.mg_of X G a_d07, k_d07, b_d07, ok_hand F_d07 T⟩⟩
  have DMx : Def P w K mg base 1 "_law_mixed" spMixed := ⟨⟨_, _, _, PySem.W.mg_of X G a_d08, k_d08, b_d08, ok_mixed F_d08 T⟩⟩
  have DT : Def P w K mg base 2 "_law_take" spTake := ⟨⟨_, _, _, PySem.W.mg_of X G a_d09, k_d09, b_d09, ok_take F_d09 T DMx⟩⟩
  have DP : Def P w K mg base 3 "_law_pick" spPick := ⟨⟨_, _, _, PySem.W.mg_of X G a_d10, k_d10, b_d10, ok_pick F_d10 T DT⟩⟩
  have DS : DefG P w K mg base 1 "_law_same" (spSame K) := ⟨⟨_, _, _, PySem.W.mg_of X G a_d11, k_d11, b_d11, ok_same F_d11 T⟩⟩
  have DNm : Def P w K mg base 4 "_law_name" spLName := ⟨⟨_, _, _, PySem.W.mg_of X G a_d12, k_d12, b_d12, ok_lname F_d12 T DT DP⟩⟩
  have DNs : Def P w K mg base 5 "_law_names" spNames := ⟨⟨_, _, _, PySem.W.mg_of X G a_d13, k_d13, b_d13, ok_names F_d13 T DNm⟩⟩
  have DE : Def P w K mg base 3 "_law_edges" spLEdges := ⟨⟨_, _, _, PySem.W.mg_of X G a_d14, k_d14, b_d14, ok_ledges F_d14 T DT⟩⟩
  have DAr : Def P w K mg base 6 "_law_arrows" spLArrows := ⟨⟨_, _, _, PySem.W.mg_of X G a_d15, k_d15, b_d15, ok_larrows F_d15 DP DNs DE⟩⟩
  have DLc : Def P w K mg base 1 "_law_chains" (spLChains K) := ⟨⟨_, _, _, PySem.W.mg_of X G a_d16, k_d16, b_d16, ok_lchains F_d16 T⟩⟩
  have DA : Def P w K mg base 7 "_law_asked_chains" (spAsked K C) := ⟨⟨_, _, _, PySem.W.mg_of X G a_d17, k_d17, b_d17, ok_asked F_d17 EN EL tn DCh⟩⟩
  have DR : DefG P w K mg base 8 "_law_refusals_right" (spRight K C) := ⟨⟨_, _, _, PySem.W.mg_of X G a_d18, k_d18, b_d18, ok_right F_d18 DP DNm DA DS⟩⟩
  exact ok_law F_d19 T TC DH DT DP DE DAr DLc DA MB EB DS DR
end Cw

/-! The row. Printed by gen_head.py. -/
open PySem PySem.W PyProof.Rows in
set_option maxRecDepth 100000 in
set_option maxHeartbeats 0 in
theorem PySem.Challenge.cw_cutworths_k07_whole_arrows_and_all_their_holds : PySem.Challenge.rw_cutworths_k07_whole_arrows_and_all_their.Holds := by
  w_on; o_law; k_head; (case hw => w_witness2)
  k_fill
  refine Cw.end_of (l := PySem.Challenge.rw_cutworths_k07_whole_arrows_and_all_their) (n := 63) (k := 9) (x := "_law_script") (sp := Cw.spLaw) rfl (by decide) rfl ⟨rfl, by decide, by decide⟩ (fun w h Y => PySem.W.kIn_of Y) ?F (fun _ _ a ns hl hS => ⟨a, ns, rfl, hS, hl, fun _ => rfl⟩)
  case F =>
    intro w mg fa h KX G hmg
    refine' Cw.all_mk KX G hmg ?a_d00 ?l_d00 ?c_d00 ?k_d00 ?a_d01 ?l_d01 ?c_d01 ?k_d01 ?a_d02 ?l_d02 ?c_d02 ?k_d02 ?a_d03 ?l_d03 ?c_d03 ?k_d03 ?a_d04 ?l_d04 ?c_d04 ?k_d04 ?a_d05 ?l_d05 ?c_d05 ?k_d05 ?a_d06 ?l_d06 ?c_d06 ?k_d06 ?a_d07 ?l_d07 ?c_d07 ?k_d07 ?a_d08 ?l_d08 ?c_d08 ?k_d08 ?a_d09 ?l_d09 ?c_d09 ?k_d09 ?a_d10 ?l_d10 ?c_d10 ?k_d10 ?a_d11 ?l_d11 ?c_d11 ?k_d11 ?a_d12 ?l_d12 ?c_d12 ?k_d12 ?a_d13 ?l_d13 ?c_d13 ?k_d13 ?a_d14 ?l_d14 ?c_d14 ?k_d14 ?a_d15 ?l_d15 ?c_d15 ?k_d15 ?a_d16 ?l_d16 ?c_d16 ?k_d16 ?a_d17 ?l_d17 ?c_d17 ?k_d17 ?a_d18 ?l_d18 ?c_d18 ?k_d18 ?a_d19 ?l_d19 ?c_d19 ?k_d19 ?n_MOST_CELLS ?n_MOST_ARROWS ?n_MOST_EDGES ?n_MOST_LENGTH ?aC ?aW ?aN ?aL ?a_minit ?i_minit ?l_minit ?c_minit ?k_minit ?a_meq ?i_meq ?l_meq ?c_meq ?k_meq ?a_meo ?i_meo ?l_meo ?c_meo ?k_meo ?a_mrf ?i_mrf ?l_mrf ?c_mrf ?k_mrf ?a_mni ?i_mni ?l_mni ?c_mni ?k_mni ?a_mli ?i_mli ?l_mli ?c_mli ?k_mli ?pg ?hd ?po ?sa ?mk ?kc ?nS ?nA ?ha ?hn ?htk ?hm ?rd ?wg ?vV ?xN ?sN ?eN ?tN ?kN ?nfN ?gaN ?ggN ?hdN ?icN ?scN ?xL ?sL ?eL ?tL ?kL ?nfL ?gaL ?ggL ?hdL ?icL ?scL ?sLN ?z_isinstance ?z_str ?z_int ?z_bool ?z_list ?z_tuple ?z_len ?z_all ?z_sorted ?z_range ?z_abs ?z_repr ?z_set
    (case a_d00 => k_is)
    (case l_d00 => k_is)
    (case c_d00 => k_is)
    (case k_d00 => k_is)
    (case a_d01 => k_is)
    (case l_d01 => k_is)
    (case c_d01 => k_is)
    (case k_d01 => k_is)
    (case a_d02 => k_is)
    (case l_d02 => k_is)
    (case c_d02 => k_is)
    (case k_d02 => k_is)
    (case a_d03 => k_is)
    (case l_d03 => k_is)
    (case c_d03 => k_is)
    (case k_d03 => k_is)
    (case a_d04 => k_is)
    (case l_d04 => k_is)
    (case c_d04 => k_is)
    (case k_d04 => k_is)
    (case a_d05 => k_is)
    (case l_d05 => k_is)
    (case c_d05 => k_is)
    (case k_d05 => k_is)
    (case a_d06 => k_is)
    (case l_d06 => k_is)
    (case c_d06 => k_is)
    (case k_d06 => k_is)
    (case a_d07 => k_is)
    (case l_d07 => k_is)
    (case c_d07 => k_is)
    (case k_d07 => k_is)
    (case a_d08 => k_is)
    (case l_d08 => k_is)
    (case c_d08 => k_is)
    (case k_d08 => k_is)
    (case a_d09 => k_is)
    (case l_d09 => k_is)
    (case c_d09 => k_is)
    (case k_d09 => k_is)
    (case a_d10 => k_is)
    (case l_d10 => k_is)
    (case c_d10 => k_is)
    (case k_d10 => k_is)
    (case a_d11 => k_is)
    (case l_d11 => k_is)
    (case c_d11 => k_is)
    (case k_d11 => k_is)
    (case a_d12 => k_is)
    (case l_d12 => k_is)
    (case c_d12 => k_is)
    (case k_d12 => k_is)
    (case a_d13 => k_is)
    (case l_d13 => k_is)
    (case c_d13 => k_is)
    (case k_d13 => k_is)
    (case a_d14 => k_is)
    (case l_d14 => k_is)
    (case c_d14 => k_is)
    (case k_d14 => k_is)
    (case a_d15 => k_is)
    (case l_d15 => k_is)
    (case c_d15 => k_is)
    (case k_d15 => k_is)
    (case a_d16 => k_is)
    (case l_d16 => k_is)
    (case c_d16 => k_is)
    (case k_d16 => k_is)
    (case a_d17 => k_is)
    (case l_d17 => k_is)
    (case c_d17 => k_is)
    (case k_d17 => k_is)
    (case a_d18 => k_is)
    (case l_d18 => k_is)
    (case c_d18 => k_is)
    (case k_d18 => k_is)
    (case a_d19 => k_is)
    (case l_d19 => k_is)
    (case c_d19 => k_is)
    (case k_d19 => k_is)
    (case n_MOST_CELLS => k_is)
    (case n_MOST_ARROWS => k_is)
    (case n_MOST_EDGES => k_is)
    (case n_MOST_LENGTH => k_is)
    (case aC => k_is)
    (case aW => k_is)
    (case aN => k_is)
    (case aL => k_is)
    (case a_minit => k_is)
    (case i_minit => k_is)
    (case l_minit => k_is)
    (case c_minit => k_is)
    (case k_minit => k_is)
    (case a_meq => k_is)
    (case i_meq => k_is)
    (case l_meq => k_is)
    (case c_meq => k_is)
    (case k_meq => k_is)
    (case a_meo => k_is)
    (case i_meo => k_is)
    (case l_meo => k_is)
    (case c_meo => k_is)
    (case k_meo => k_is)
    (case a_mrf => k_is)
    (case i_mrf => k_is)
    (case l_mrf => k_is)
    (case c_mrf => k_is)
    (case k_mrf => k_is)
    (case a_mni => k_is)
    (case i_mni => k_is)
    (case l_mni => k_is)
    (case c_mni => k_is)
    (case k_mni => k_is)
    (case a_mli => k_is)
    (case i_mli => k_is)
    (case l_mli => k_is)
    (case c_mli => k_is)
    (case k_mli => k_is)
    (case pg => k_is)
    (case hd => k_is)
    (case po => k_is)
    (case sa => k_is)
    (case mk => k_is)
    (case kc => k_is)
    (case nS => k_is)
    (case nA => k_is)
    (case ha => k_is)
    (case hn => k_is)
    (case htk => k_is)
    (case hm => k_is)
    (case rd => k_is)
    (case wg => k_is)
    (case vV => k_is)
    (case xN => k_is)
    (case sN => k_is)
    (case eN => k_is)
    (case tN => k_is)
    (case kN => k_is)
    (case nfN => k_is)
    (case gaN => k_is)
    (case ggN => k_is)
    (case hdN => k_is)
    (case icN => k_is)
    (case scN => first | rfl | k_is)
    (case xL => k_is)
    (case sL => k_is)
    (case eL => k_is)
    (case tL => k_is)
    (case kL => k_is)
    (case nfL => k_is)
    (case gaL => k_is)
    (case ggL => k_is)
    (case hdL => k_is)
    (case icL => k_is)
    (case scL => first | rfl | k_is)
    (case sLN => first | rfl | k_is)
    (case z_isinstance => k_is)
    (case z_str => k_is)
    (case z_int => k_is)
    (case z_bool => k_is)
    (case z_list => k_is)
    (case z_tuple => k_is)
    (case z_len => k_is)
    (case z_all => k_is)
    (case z_sorted => k_is)
    (case z_range => k_is)
    (case z_abs => k_is)
    (case z_repr => k_is)
    (case z_set => k_is)
