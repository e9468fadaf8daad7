import PyProof.Rows.All
import Wide.All
import OpenK.AllK
import Wide.FinOn
import HandS.ForMost
import HandS.StrMore
import HandS.RaiseMore
import HandS.More
import HandS.Conv
import HandS.IsInst
import HandS.Defaults
import HandS.HeadHook1
import HandS.HeadHook2
import PySem.Challenge.RW_deadhand_k24_whole_late_story_hangs
import KE.KStateDown
import Lean
import HandS.Head0
import HandS.Head1
import HandS.Head2
import HandS.HeadEnd
set_option Elab.async false
set_option maxRecDepth 100000
set_option maxHeartbeats 4000000
set_option linter.all false
/-! Names of people as a word and numbers; their texts. -/
namespace DH
open PySem PySem.Spec PyProof.Rows L2 TL

def goodW (s : Str) : Bool :=
  decide (1 ≤ s.length) && (decide (s.length ≤ 8) && ((tl s).all (fun c => decide (97 ≤ c ∧ c ≤ 122)) && (!(decide (s = "crown")) && !(decide (s = "kids")))))
theorem goodW_len1 {s : Str} (h : goodW s = true) : 1 ≤ s.length := by
  simp only [goodW, Bool.and_eq_true, decide_eq_true_eq] at h; exact h.1
theorem goodW_len8 {s : Str} (h : goodW s = true) : s.length ≤ 8 := by
  simp only [goodW, Bool.and_eq_true, decide_eq_true_eq] at h; exact h.2.1
theorem goodW_let {s : Str} (h : goodW s = true) : ∀ c ∈ tl s, 97 ≤ c ∧ c ≤ 122 := by
  simp only [goodW, Bool.and_eq_true, decide_eq_true_eq, List.all_eq_true] at h; exact h.2.2.1
theorem goodW_crown {s : Str} (h : goodW s = true) : s ≠ "crown" := by
  simp only [goodW, Bool.and_eq_true, decide_eq_true_eq, Bool.not_eq_true', decide_eq_false_iff_not] at h; exact h.2.2.2.1
theorem goodW_kids {s : Str} (h : goodW s = true) : s ≠ "kids" := by
  simp only [goodW, Bool.and_eq_true, decide_eq_true_eq, Bool.not_eq_true', decide_eq_false_iff_not] at h; exact h.2.2.2.2
theorem goodW_mk {s : Str} (h1 : 1 ≤ s.length) (h2 : s.length ≤ 8) (h3 : ∀ c ∈ tl s, 97 ≤ c ∧ c ≤ 122) (h4 : s ≠ "crown") (h5 : s ≠ "kids") : goodW s = true := by
  simp only [goodW, Bool.and_eq_true, decide_eq_true_eq, Bool.not_eq_true', decide_eq_false_iff_not, List.all_eq_true]
  exact ⟨h1, h2, h3, h4, h5⟩

structure Wd where
  s : Str
  ok : goodW s = true
  deriving DecidableEq
structure Nm where
  w : Wd
  l : List Nat
  deriving DecidableEq
abbrev dot : Str := "."
def num (i : Nat) : Str := Str.ofString (toString ((i : Nat) : Int))
def stp (s : Str) (i : Nat) : Str := (s ++ dot) ++ num i
def enc (n : Nm) : Str := n.l.foldl stp n.w.s
def Nm.snoc (n : Nm) (i : Nat) : Nm := ⟨n.w, n.l ++ [i]⟩
theorem enc_snoc (n : Nm) (i : Nat) : enc (n.snoc i) = (enc n ++ dot) ++ num i := by
  show (n.l ++ [i]).foldl stp n.w.s = _
  rw [List.foldl_append]; rfl
theorem tl_dot : tl dot = [46] := by decide +kernel
theorem tl_numS (i : Nat) : tl (num i) = numL i := tl_num i
theorem Wd.no46 (w : Wd) : 46 ∉ tl w.s := fun h => by
  have := goodW_let w.ok 46 h
  omega
theorem num_no46 (i : Nat) : 46 ∉ tl (num i) := by
  rw [tl_numS]
  exact numL_free (.inl (by decide))
theorem num_inj {i j : Nat} (h : num i = num j) : i = j := by
  have : numL i = numL j := by rw [← tl_numS, ← tl_numS, h]
  exact numL_inj this
theorem joinL_cons (S p : List Nat) (ps : List (List Nat)) : joinL S (p :: ps) = p ++ (ps.flatMap fun q => S ++ q) := by
  induction ps generalizing p with
  | nil => simp [joinL]
  | cons q r ih =>
    show p ++ (S ++ joinL S (q :: r)) = _
    rw [ih]; simp [List.flatMap_cons]
theorem tl_foldl (l : List Nat) (s : Str) : tl (l.foldl stp s) = tl s ++ (l.flatMap fun i => 46 :: numL i) := by
  induction l generalizing s with
  | nil => simp
  | cons i r ih =>
    show tl (r.foldl stp (stp s i)) = _
    rw [ih]
    unfold stp
    rw [tl_append, tl_append, tl_dot, tl_numS, List.flatMap_cons]
    simp
theorem tl_enc (n : Nm) : tl (enc n) = tl n.w.s ++ (n.l.flatMap fun i => 46 :: numL i) := tl_foldl _ _
theorem enc_join (n : Nm) : enc n = Str.join dot (n.w.s :: n.l.map num) := by
  apply ext_tl
  rw [tl_join, tl_enc, List.map_cons, joinL_cons, tl_dot, List.map_map, List.flatMap_map]
  congr 1
  refine congrArg (fun f => List.flatMap f n.l) (funext fun i => ?_)
  show 46 :: numL i = [46] ++ tl (num i)
  rw [tl_numS]; rfl
theorem split_enc (n : Nm) : Txt.split (enc n) dot = n.w.s :: n.l.map num := by
  rw [enc_join, ← join_eq]
  refine split_join (S := []) tl_dot (by decide +kernel) (by simp) ?_
  intro p hp
  rcases List.mem_cons.mp hp with rfl | hp
  · exact n.w.no46
  · obtain ⟨i, _, rfl⟩ := List.mem_map.mp hp
    exact num_no46 i
theorem enc_inj {m n : Nm} (h : enc m = enc n) : m = n := by
  have e : m.w.s :: m.l.map num = n.w.s :: n.l.map num := by rw [← split_enc, ← split_enc, h]
  injection e with e1 e2
  obtain ⟨⟨ms, mo⟩, ml⟩ := m
  obtain ⟨⟨ns, no⟩, nl⟩ := n
  have e1 : ms = ns := e1
  subst e1
  have e3 : ml = nl := by
    have : ∀ (a b : List Nat), a.map num = b.map num → a = b := by
      intro a
      induction a with
      | nil => intro b hb; cases b with
        | nil => rfl
        | cons _ _ => cases hb
      | cons x r ih => intro b hb; cases b with
        | nil => cases hb
        | cons y t =>
          injection hb with h1 h2
          rw [num_inj h1, ih t h2]
    exact this _ _ e2
  subst e3
  rfl
theorem key_inj {m n : Nm} : ((Sum.inr (enc m) : Key) = Sum.inr (enc n)) ↔ m = n :=
  ⟨fun h => enc_inj (Sum.inr.inj h), fun h => by rw [h]⟩
theorem num_len {i : Nat} (h : i < 100) : (num i).length ≤ 2 := by
  rw [len_tl, tl_numS]
  exact numL_len (by decide) (by simpa using h)
theorem num_len' {i : Nat} (h : i < 10 ^ 9) : (num i).length ≤ 9 := by
  rw [len_tl, tl_numS]
  exact numL_len (by decide) h
theorem num_len1 (i : Nat) : 1 ≤ (num i).length := by
  rw [len_tl, tl_numS]
  have := numL_ne i
  cases e : numL i with
  | nil => exact absurd e this
  | cons _ _ => simp
theorem enc_ne (n : Nm) : enc n ≠ "" := fun h => by
  have h1 := congrArg tl h
  rw [tl_enc] at h1
  have h2 : tl ("" : Str) = [] := by decide +kernel
  rw [h2] at h1
  have h3 := goodW_len1 n.w.ok
  rw [len_tl] at h3
  cases e : tl n.w.s with
  | nil => rw [e] at h3; simp at h3
  | cons a r => rw [e] at h1; simp at h1
theorem numL_len3 {i : Nat} (h : i < 10 ^ 9) : (numL i).length ≤ 9 := numL_len (by decide) h
theorem enc_len (n : Nm) (h : ∀ i ∈ n.l, i < 10 ^ 9) : (enc n).length ≤ 8 + 10 * n.l.length := by
  rw [len_tl, tl_enc, List.length_append]
  have h8 := goodW_len8 n.w.ok
  rw [len_tl] at h8
  have : ∀ l : List Nat, (∀ i ∈ l, i < 10 ^ 9) → (l.flatMap fun i => 46 :: numL i).length ≤ 10 * l.length := by
    intro l
    induction l with
    | nil => intro _; simp
    | cons i r ih =>
      intro hl
      have h1 := ih fun j hj => hl j (List.mem_cons_of_mem _ hj)
      have h2 := numL_len3 (hl i (List.mem_cons_self ..))
      rw [List.flatMap_cons, List.length_append, List.length_cons, List.length_cons]
      omega
  have := this n.l h
  omega
/-! ### the sign "." -/
theorem dot_in (n : Nm) : (46 ∈ tl (enc n)) ↔ n.l ≠ [] := by
  rw [tl_enc]
  constructor
  · intro h e
    rw [e, List.flatMap_nil, List.append_nil] at h
    exact n.w.no46 h
  · intro h
    cases e : n.l with
    | nil => exact absurd e h
    | cons i r => simp
theorem count_enc (n : Nm) : Txt.count (enc n) dot = (n.l.length : Int) := by
  have h := congrArg List.length (split_enc n)
  have h1 : ¬ Builtin.Str.strKind (enc n) < Builtin.Str.strKind dot := kind_ok (by decide +kernel)
  have h0 : ¬ (enc n).length < dot.length := by
    have e1 : dot.length = 1 := by decide +kernel
    have e2 : (enc n).length ≠ 0 := fun z => enc_ne n (ext_tl (by
      rw [len_tl] at z
      rw [List.length_eq_zero_iff.mp z]
      decide +kernel))
    omega
  have h2 : (Txt.split (enc n) dot).length = (Builtin.Str.occurrences (enc n) dot 0 (enc n).length ((enc n).length + 1)).length + 1 := by
    unfold Txt.split
    rw [decide_eq_false h0, decide_eq_false h1, if_neg (by decide)]
    by_cases e : (Builtin.Str.occurrences (enc n) dot 0 (enc n).length ((enc n).length + 1)).isEmpty = true
    · rw [if_pos e, List.isEmpty_iff.mp e]; rfl
    · rw [if_neg e]
      unfold Builtin.Str.partsBetween
      simp
  rw [h2] at h
  unfold Txt.count
  simp at h
  simp [h]
end DH
namespace DH
open PySem PySem.Spec PyProof.Rows L2 TL
theorem pre46 (l : List Nat) : pre [46] l = true ↔ l.head? = some 46 := by
  unfold pre
  cases l with
  | nil => simp
  | cons a r => simp
theorem rfind_enc (n : Nm) (i : Nat) : Txt.rfind (enc (n.snoc i)) dot = ((enc n).length : Int) := by
  have hy : tl dot ≠ [] := by rw [tl_dot]; simp
  have hx : tl (enc (n.snoc i)) = tl (enc n) ++ (46 :: numL i) := by
    rw [enc_snoc, tl_append, tl_append, tl_dot, tl_numS]; simp
  have at1 : StrLaws.At (enc (n.snoc i)) dot (enc (n.snoc i)).length (tl (enc n)).length := by
    rw [at_iff hy, tl_dot, hx, pre46]
    simp
  have no : ∀ k, (tl (enc n)).length < k → ¬ StrLaws.At (enc (n.snoc i)) dot (enc (n.snoc i)).length k := by
    intro k hk h
    rw [at_iff hy, tl_dot, hx, pre46] at h
    have hd : (tl (enc n) ++ (46 :: numL i)).drop k = (numL i).drop (k - (tl (enc n)).length - 1) := by
      rw [List.drop_append]
      have e : k - (tl (enc n)).length = (k - (tl (enc n)).length - 1) + 1 := by omega
      rw [e, List.drop_succ_cons, List.drop_eq_nil_of_le (by omega)]
      simp
    rw [hd] at h
    have hm : 46 ∈ numL i := List.mem_of_mem_drop (List.mem_of_mem_head? h)
    exact numL_free (n := i) (s := 46) (.inl (by decide)) hm
  have hres : Builtin.Str.lastOccurrence (enc (n.snoc i)) dot 0 (enc (n.snoc i)).length = some (tl (enc n)).length := by
    rcases StrLaws.last_spec (enc (n.snoc i)) dot with ⟨_, h⟩ | ⟨j, h1, h2, h3⟩
    · exact absurd at1 (h _)
    · rw [h1]
      congr 1
      rcases Nat.lt_trichotomy j (tl (enc n)).length with h | h | h
      · exact absurd at1 (h3 _ h)
      · exact h
      · exact absurd h2 (no _ h)
  unfold Txt.rfind
  rw [hres, len_tl]
theorem cut_enc (n : Nm) (i : Nat) : cutS (enc (n.snoc i)) none (some ((enc n).length : Int)) = enc n := by
  apply ext_tl
  unfold cutS
  rw [tl_mk, HT.sIx_none, HT.sIx_nat, List.drop_zero, len_tl, len_tl]
  have hx : (enc (n.snoc i)).cps.toList = tl (enc n) ++ (46 :: numL i) := by
    show tl (enc (n.snoc i)) = _
    rw [enc_snoc, tl_append, tl_append, tl_dot, tl_numS]; simp
  have hl : (tl (enc (n.snoc i))).length = (tl (enc n)).length + (46 :: numL i).length := by
    show (enc (n.snoc i)).cps.toList.length = _
    rw [hx, List.length_append]
  rw [hx, hl, Nat.min_eq_left (by omega), Nat.sub_zero, List.take_left']
  rfl
end DH

/-! The plain state: year, the book, the dead, the happenings; deeds. -/
namespace DH
open PySem PySem.Spec PyProof.Rows L2 TL
section
variable {α : Type} [DecidableEq α]
def lk (l : List (α × Int)) (a : α) : Option Int := (l.find? fun p => decide (p.1 = a)).map (·.2)
theorem lk_nil (a : α) : lk ([] : List (α × Int)) a = none := rfl
theorem lk_cons (p : α × Int) (l : List (α × Int)) (a : α) : lk (p :: l) a = if p.1 = a then some p.2 else lk l a := by
  unfold lk
  by_cases h : p.1 = a
  · simp [h]
  · simp [h]
theorem lk_snoc (l : List (α × Int)) (a b : α) (v : Int) : lk (l ++ [(a, v)]) b = (lk l b).or (if a = b then some v else none) := by
  induction l with
  | nil => rw [List.nil_append, lk_cons, lk_nil]; simp
  | cons p r ih =>
    rw [List.cons_append, lk_cons, lk_cons, ih]
    split <;> simp
theorem lk_some_mem {l : List (α × Int)} {a : α} {v : Int} (h : lk l a = some v) : (a, v) ∈ l := by
  induction l with
  | nil => cases h
  | cons p r ih =>
    rw [lk_cons] at h
    by_cases e : p.1 = a
    · rw [if_pos e] at h
      cases h
      obtain ⟨x, y⟩ := p
      cases e
      exact List.mem_cons_self ..
    · rw [if_neg e] at h
      exact List.mem_cons_of_mem _ (ih h)
theorem lk_isSome {l : List (α × Int)} {a : α} : (lk l a).isSome = true ↔ a ∈ l.map (·.1) := by
  induction l with
  | nil => simp [lk_nil]
  | cons p r ih =>
    rw [lk_cons, List.map_cons, List.mem_cons, ← ih]
    by_cases e : p.1 = a
    · simp [e]
    · rw [if_neg e]
      constructor
      · exact .inr
      · rintro (h | h)
        · exact absurd h.symm e
        · exact h
def kvs (f : α → Str) (l : List (α × Int)) : List (Key × V) := l.map fun p => (Sum.inr (f p.1), V.int p.2)
theorem kvs_len (f : α → Str) (l : List (α × Int)) : (kvs f l).length = l.length := List.length_map ..
theorem valV_kvs {f : α → Str} (hf : ∀ a b, f a = f b → a = b) (l : List (α × Int)) (a : α) : valV (kvs f l) (Sum.inr (f a)) = (lk l a).map V.int := by
  induction l with
  | nil => rfl
  | cons p r ih =>
    rw [lk_cons]
    by_cases e : p.1 = a
    · rw [if_pos e]
      show valV ((Sum.inr (f p.1), V.int p.2) :: kvs f r) _ = _
      rw [valV_pos (by show (Sum.inr (f p.1) : Key) = _; rw [e])]
      rfl
    · rw [if_neg e, ← ih]
      show valV ((Sum.inr (f p.1), V.int p.2) :: kvs f r) _ = _
      rw [valV_neg]
      intro z
      exact e (hf _ _ (Sum.inr.inj z))
theorem kvs_snoc (f : α → Str) (l : List (α × Int)) (a : α) (v : Int) : kvs f (l ++ [(a, v)]) = kvs f l ++ [(Sum.inr (f a), V.int v)] := by
  unfold kvs; rw [List.map_append]; rfl
theorem putK_kvs {f : α → Str} (hf : ∀ a b, f a = f b → a = b) (l : List (α × Int)) (a : α) (v : Int) (h : lk l a = none) :
    putK (kvs f l) (Sum.inr (f a)) (V.int v) = kvs f (l ++ [(a, v)]) := by
  rw [kvs_snoc, putK_new]
  rw [valV_kvs hf, h]; rfl
theorem kvs_keys (f : α → Str) (l : List (α × Int)) : (kvs f l).map (·.1) = (l.map fun p => f p.1).map Sum.inr := by
  unfold kvs; rw [List.map_map, List.map_map]; rfl
end
theorem Wd.inj (a b : Wd) (h : a.s = b.s) : a = b := by
  obtain ⟨_, _⟩ := a
  obtain ⟨_, _⟩ := b
  cases h; rfl
theorem enc_inj' (a b : Nm) (h : enc a = enc b) : a = b := enc_inj h
abbrev kN : List (Nm × Int) → List (Key × V) := kvs enc
abbrev kW : List (Wd × Int) → List (Key × V) := kvs Wd.s
theorem vN (l : List (Nm × Int)) (a : Nm) : valV (kN l) (Sum.inr (enc a)) = (lk l a).map V.int := valV_kvs enc_inj' l a
theorem vW (l : List (Wd × Int)) (a : Wd) : valV (kW l) (Sum.inr a.s) = (lk l a).map V.int := valV_kvs Wd.inj l a

structure M where
  yr : Int
  bo : List (Nm × Int)
  de : List (Nm × Int)
  ca : List (Wd × Int)
namespace M
def isB (m : M) (n : Nm) : Bool := (lk m.bo n).isSome
def isD (m : M) (n : Nm) : Bool := (lk m.de n).isSome
def alive (m : M) (n : Nm) : Bool := m.isB n && !m.isD n
def born (m : M) (n : Nm) : Int := (lk m.bo n).getD 0
def age (m : M) (n : Nm) : Int := (lk m.de n).getD m.yr - m.born n
def size (m : M) : Nat := m.bo.length + (m.de.length + m.ca.length)
end M
def Nm.par (n : Nm) : Option Nm := if n.l = [] then none else some ⟨n.w, n.l.dropLast⟩
theorem par_snoc (n : Nm) (i : Nat) : (n.snoc i).par = some n := by
  obtain ⟨w, l⟩ := n
  unfold Nm.par Nm.snoc
  simp
theorem snoc_inj {a b : Nm} {i j : Nat} (h : a.snoc i = b.snoc j) : a = b ∧ i = j := by
  obtain ⟨w, l⟩ := a
  obtain ⟨v, k⟩ := b
  unfold Nm.snoc at h
  injection h with h1 h2
  have h3 := List.append_inj' h2 rfl
  simp at h3
  have h1 : w = v := h1
  exact ⟨by rw [h1, h3.1], h3.2⟩
theorem of_par {n p : Nm} (h : n.par = some p) : ∃ i, n = p.snoc i := by
  obtain ⟨w, l⟩ := n
  unfold Nm.par at h
  by_cases e : l = []
  · simp [e] at h
  · rw [if_neg e] at h
    cases h
    refine ⟨l.getLast e, ?_⟩
    unfold Nm.snoc
    congr 1
    exact (List.dropLast_concat_getLast e).symm
def Nm.root (w : Wd) : Nm := ⟨w, []⟩
theorem par_root (w : Wd) : (Nm.root w).par = none := by unfold Nm.par Nm.root; simp
theorem root_or (n : Nm) : (∃ w, n = Nm.root w) ∨ ∃ p i, n = Nm.snoc p i := by
  cases e : n.par with
  | none =>
    obtain ⟨w, l⟩ := n
    unfold Nm.par at e
    by_cases h : l = []
    · subst h; exact .inl ⟨w, rfl⟩
    · rw [if_neg h] at e; cases e
  | some p => obtain ⟨i, h⟩ := of_par e; exact .inr ⟨p, i, h⟩
namespace M
def kc (m : M) (n : Nm) : Nat := (m.bo.filter fun p => decide (p.1.par = some n)).length
def kids (m : M) (n : Nm) : List Nm := (List.range (m.kc n)).map fun i => n.snoc (i + 1)
def living (m : M) : List Nm := (m.bo.map (·.1)).filter fun n => !m.isD n
theorem kc_le (m : M) (n : Nm) : m.kc n ≤ m.bo.length := List.length_filter_le ..
structure WF (m : M) : Prop where
  nd : (m.bo.map (·.1)).Nodup
  kid : ∀ n i, m.isB (n.snoc i) = true ↔ (1 ≤ i ∧ i ≤ m.kc n)
  up : ∀ n i, m.isB (n.snoc i) = true → m.isB n = true
  dB : ∀ n, m.isD n = true → m.isB n = true
  dep : ∀ n, m.isB n = true → n.l.length ≤ 5
  byr : ∀ n y, lk m.bo n = some y → y ≤ m.yr
end M
inductive Deed where
  | years (k : Int)
  | arrive (w : Wd) (a : Int)
  | birth (n : Nm)
  | death (n : Nm)
  | comes (w : Wd)
def encD : Deed → List V
  | .years k => [.str "years", .int k]
  | .arrive w a => [.str "arrive", .str w.s, .int a]
  | .birth n => [.str "birth", .str (enc n)]
  | .death n => [.str "death", .str (enc n)]
  | .comes w => [.str "comes", .str w.s]
namespace M
def addB (m : M) (n : Nm) (y : Int) : M := { m with bo := m.bo ++ [(n, y)] }
def addD (m : M) (n : Nm) (y : Int) : M := { m with de := m.de ++ [(n, y)] }
def play (m : M) : Deed → M
  | .years k => { m with yr := m.yr + k }
  | .arrive w a => m.addB (Nm.root w) (m.yr - a)
  | .birth n => m.addB (n.snoc (m.kc n + 1)) m.yr
  | .death n => m.addD n m.yr
  | .comes w => { m with ca := m.ca ++ [(w, m.yr)] }
def Can (m : M) : Deed → Prop
  | .years k => 1 ≤ k ∧ k ≤ 60
  | .arrive w a => m.isB (Nm.root w) = false ∧ 0 ≤ a ∧ a ≤ 120
  | .birth n => m.alive n = true ∧ n.l.length < 5
  | .death n => m.alive n = true
  | .comes w => (lk m.ca w).isSome = false
def run (m : M) (ds : List Deed) : M := ds.foldl play m
def Runs (m : M) : List Deed → Prop
  | [] => True
  | d :: r => m.Can d ∧ (m.play d).Runs r
theorem run_nil (m : M) : m.run [] = m := rfl
theorem run_cons (m : M) (d : Deed) (r : List Deed) : m.run (d :: r) = (m.play d).run r := rfl
theorem run_append (m : M) (a b : List Deed) : m.run (a ++ b) = (m.run a).run b := List.foldl_append ..
theorem Runs_append {m : M} {a b : List Deed} : m.Runs (a ++ b) ↔ m.Runs a ∧ (m.run a).Runs b := by
  induction a generalizing m with
  | nil => exact ⟨fun h => ⟨trivial, h⟩, fun h => h.2⟩
  | cons d r ih =>
    show (m.Can d ∧ (m.play d).Runs (r ++ b)) ↔ (m.Can d ∧ (m.play d).Runs r) ∧ ((m.play d).run r).Runs b
    rw [ih]
    exact ⟨fun ⟨a, b, c⟩ => ⟨⟨a, b⟩, c⟩, fun ⟨⟨a, b⟩, c⟩ => ⟨a, b, c⟩⟩
theorem size_play (m : M) (d : Deed) : (m.play d).size ≤ m.size + 1 := by
  cases d <;> simp only [play, addB, addD, size, List.length_append, List.length_cons, List.length_nil] <;> omega
theorem size_run (m : M) (ds : List Deed) : (m.run ds).size ≤ m.size + ds.length := by
  induction ds generalizing m with
  | nil => exact Nat.le_refl _
  | cons d r ih =>
    have := ih (m.play d)
    have := size_play m d
    rw [run_cons, List.length_cons]
    omega
/-! ### what a new name does -/
theorem isB_addB (m : M) (n k : Nm) (y : Int) : (m.addB n y).isB k = (m.isB k || decide (n = k)) := by
  unfold isB addB
  show (lk (m.bo ++ [(n, y)]) k).isSome = _
  rw [lk_snoc]
  cases lk m.bo k with
  | some _ => simp
  | none => by_cases h : n = k <;> simp [h]
theorem kc_addB (m : M) (n k : Nm) (y : Int) : (m.addB n y).kc k = m.kc k + if n.par = some k then 1 else 0 := by
  unfold kc addB
  rw [List.filter_append, List.length_append]
  congr 1
  by_cases h : n.par = some k <;> simp [h]
theorem isD_addB (m : M) (n k : Nm) (y : Int) : (m.addB n y).isD k = m.isD k := rfl
theorem isB_addD (m : M) (n k : Nm) (y : Int) : (m.addD n y).isB k = m.isB k := rfl
theorem isD_addD (m : M) (n k : Nm) (y : Int) : (m.addD n y).isD k = (m.isD k || decide (n = k)) := by
  unfold isD addD
  show (lk (m.de ++ [(n, y)]) k).isSome = _
  rw [lk_snoc]
  cases lk m.de k with
  | some _ => simp
  | none => by_cases h : n = k <;> simp [h]
theorem isB_mem {m : M} {n : Nm} : m.isB n = true ↔ n ∈ m.bo.map (·.1) := lk_isSome
theorem alive_iff {m : M} {n : Nm} : m.alive n = true ↔ m.isB n = true ∧ m.isD n = false := by
  unfold alive; cases m.isB n <;> cases m.isD n <;> simp
theorem mem_living {m : M} {n : Nm} : n ∈ m.living ↔ m.alive n = true := by
  unfold living
  rw [List.mem_filter, alive_iff, isB_mem]
  cases m.isD n <;> simp
theorem addB_nd {m : M} (W : m.WF) {n : Nm} {y : Int} (h : m.isB n = false) : ((m.addB n y).bo.map (·.1)).Nodup := by
  show ((m.bo ++ [(n, y)]).map (·.1)).Nodup
  rw [List.map_append]
  refine nd_snoc W.nd fun hm => ?_
  rw [isB_mem.mpr hm] at h
  cases h
theorem WF.arrive {m : M} (W : m.WF) {w : Wd} {y : Int} (h : m.isB (Nm.root w) = false) (hy : y ≤ m.yr) : (m.addB (Nm.root w) y).WF where
  nd := addB_nd W h
  kid n i := by
    rw [isB_addB, kc_addB, par_root]
    have : decide (Nm.root w = n.snoc i) = false := decide_eq_false fun e => by
      have := congrArg Nm.par e
      rw [par_root, par_snoc] at this
      cases this
    rw [this, Bool.or_false]
    simpa using W.kid n i
  up n i hb := by
    rw [isB_addB] at hb ⊢
    have : decide (Nm.root w = n.snoc i) = false := decide_eq_false fun e => by
      have := congrArg Nm.par e
      rw [par_root, par_snoc] at this
      cases this
    rw [this, Bool.or_false] at hb
    rw [W.up n i hb]; rfl
  dB n hd := by rw [isB_addB, W.dB n hd]; rfl
  dep n hb := by
    rw [isB_addB, Bool.or_eq_true] at hb
    rcases hb with hb | hb
    · exact W.dep n hb
    · have := of_decide_eq_true hb
      subst this
      exact Nat.zero_le _
  byr n z hz := by
    have hz : lk (m.bo ++ [(Nm.root w, y)]) n = some z := hz
    rw [lk_snoc] at hz
    cases e : lk m.bo n with
    | some v =>
      rw [e] at hz
      cases hz
      exact W.byr n _ e
    | none =>
      rw [e] at hz
      by_cases h2 : Nm.root w = n
      · simp [h2] at hz; subst hz; exact hy
      · simp [h2] at hz
theorem kc_none {m : M} (W : m.WF) {n : Nm} (h : m.isB n = false) : m.kc n = 0 := by
  rcases Nat.eq_zero_or_pos (m.kc n) with e | e
  · exact e
  · have := W.up n 1 ((W.kid n 1).mpr ⟨Nat.le_refl _, e⟩)
    rw [h] at this; cases this
theorem next_new {m : M} (W : m.WF) (n : Nm) : m.isB (n.snoc (m.kc n + 1)) = false := by
  cases e : m.isB (n.snoc (m.kc n + 1)) with
  | false => rfl
  | true => have := ((W.kid n _).mp e).2; omega
theorem WF.birth {m : M} (W : m.WF) {n : Nm} {y : Int} (hb : m.isB n = true) (hl : n.l.length < 5) (hy : y ≤ m.yr) : (m.addB (n.snoc (m.kc n + 1)) y).WF where
  nd := addB_nd W (next_new W n)
  kid k i := by
    rw [isB_addB, kc_addB, par_snoc, Bool.or_eq_true, W.kid k i, decide_eq_true_eq]
    by_cases h : n = k
    · subst h
      rw [if_pos rfl]
      constructor
      · rintro (h | h)
        · omega
        · have := (snoc_inj h).2; omega
      · intro h
        by_cases h2 : i ≤ m.kc n
        · exact .inl ⟨h.1, h2⟩
        · exact .inr (by rw [show i = m.kc n + 1 by omega])
    · rw [if_neg (fun e => h (Option.some.inj e)), Nat.add_zero]
      constructor
      · rintro (h2 | h2)
        · exact h2
        · exact absurd (snoc_inj h2).1 h
      · exact .inl
  up k i h := by
    rw [isB_addB, Bool.or_eq_true] at h ⊢
    rcases h with h | h
    · exact .inl (W.up k i h)
    · have := snoc_inj (of_decide_eq_true h)
      rw [← this.1]; exact .inl hb
  dB k hd := by rw [isB_addB, W.dB k hd]; rfl
  dep k h := by
    rw [isB_addB, Bool.or_eq_true] at h
    rcases h with h | h
    · exact W.dep k h
    · have := of_decide_eq_true h
      subst this
      show (n.l ++ [_]).length ≤ 5
      simp; omega
  byr k z hz := by
    have hz : lk (m.bo ++ [(n.snoc (m.kc n + 1), y)]) k = some z := hz
    rw [lk_snoc] at hz
    cases e : lk m.bo k with
    | some v =>
      rw [e] at hz
      cases hz
      exact W.byr k _ e
    | none =>
      rw [e] at hz
      by_cases h2 : n.snoc (m.kc n + 1) = k
      · simp [h2] at hz; subst hz; exact hy
      · simp [h2] at hz
theorem WF.play {m : M} (W : m.WF) {d : Deed} (h : m.Can d) : (m.play d).WF := by
  cases d with
  | years k =>
    exact ⟨W.nd, W.kid, W.up, W.dB, W.dep, fun n y e => by
      have h1 := W.byr n y e
      have h2 : 1 ≤ k := h.1
      show y ≤ m.yr + k
      omega⟩
  | arrive w a =>
    have h2 : 0 ≤ a := h.2.1
    exact W.arrive h.1 (by omega)
  | birth n => exact W.birth (alive_iff.mp h.1).1 h.2 (Int.le_refl _)
  | death n =>
    refine ⟨W.nd, W.kid, W.up, fun k hd => ?_, W.dep, W.byr⟩
    have hd : (m.addD n m.yr).isD k = true := hd
    rw [isD_addD, Bool.or_eq_true] at hd
    show m.isB k = true
    rcases hd with hd | hd
    · exact W.dB k hd
    · rw [← of_decide_eq_true hd]
      have h : m.alive n = true := h
      exact (alive_iff.mp h).1
  | comes w => exact ⟨W.nd, W.kid, W.up, W.dB, W.dep, W.byr⟩
theorem WF.run {m : M} (W : m.WF) {ds : List Deed} (h : m.Runs ds) : (m.run ds).WF := by
  induction ds generalizing m with
  | nil => exact W
  | cons d r ih => exact ih (W.play h.1) h.2
def init (y : Int) : M := ⟨y, [], [], []⟩
theorem WF.init (y : Int) : (init y).WF where
  nd := List.nodup_nil
  kid n i := by
    show (false = true) ↔ (1 ≤ i ∧ i ≤ 0)
    constructor
    · intro h; cases h
    · intro h; omega
  up n i h := nomatch h
  dB n h := nomatch h
  dep n h := nomatch h
  byr n y h := nomatch h
/-- the numbers of a name in the book -/
theorem WF.nums {m : M} (W : m.WF) : ∀ (l : List Nat) (w : Wd), m.isB ⟨w, l⟩ = true → ∀ i ∈ l, 1 ≤ i ∧ i ≤ m.bo.length := by
  intro l
  induction h : l.length generalizing l with
  | zero =>
    intro w _ i hi
    rw [List.length_eq_zero_iff.mp h] at hi
    cases hi
  | succ k ih =>
    intro w hb i hi
    rcases root_or ⟨w, l⟩ with ⟨v, e⟩ | ⟨p, j, e⟩
    · injection e with _ e2
      rw [e2] at h; simp at h
    · rw [e] at hb
      have h1 := (W.kid p j).mp hb
      have h2 := W.up p j hb
      have h3 := kc_le m p
      injection e with e1 e2
      rw [e2] at hi h
      rcases List.mem_append.mp hi with hi | hi
      · refine ih p.l ?_ p.w h2 i hi
        simpa using h
      · have := List.mem_singleton.mp hi
        subst this
        omega
end M
end DH

/-! The text by places, its facts, the heap's readings. -/
namespace DH
open PySem PySem.Spec PyProof.Rows L2 TL
def topS (i : Nat) : Stmt := PySem.Challenge.pw_deadhand_k24_whole_late_story_hangs.main.body.getD i (.Pass ⟨0, 0, 0, 0⟩)
abbrev s_left_out : Stmt := topS 1
abbrev s_members : Stmt := topS 2
abbrev s_seats : Stmt := topS 3
abbrev s_waiting : Stmt := topS 4
abbrev s_may_grow : Stmt := topS 5
abbrev s_class_stand : Stmt := topS 6
abbrev s_near_of : Stmt := topS 16
abbrev s_unborn : Stmt := topS 17
abbrev s_atom_stand : Stmt := topS 18
abbrev s_stand : Stmt := topS 19
abbrev s_whole_need : Stmt := topS 21
abbrev s_row_stand : Stmt := topS 22
abbrev s_good_word : Stmt := topS 28
abbrev s_number_of : Stmt := topS 29
abbrev s_parts : Stmt := topS 30
abbrev s_joined : Stmt := topS 31
abbrev s_Lives___init__ : Stmt := inClass (topS 32) 0
abbrev s_Lives_arrive : Stmt := inClass (topS 32) 1
abbrev s_Lives_must_live : Stmt := inClass (topS 32) 2
abbrev s_Lives_birth : Stmt := inClass (topS 32) 3
abbrev s_Lives_death : Stmt := inClass (topS 32) 4
abbrev s_Lives_known : Stmt := inClass (topS 32) 5
abbrev s_Lives_alive : Stmt := inClass (topS 32) 6
abbrev s_Lives_born_in : Stmt := inClass (topS 32) 7
abbrev s_Lives_died_in : Stmt := inClass (topS 32) 8
abbrev s_Lives_children : Stmt := inClass (topS 32) 9
abbrev s_Lives_living : Stmt := inClass (topS 32) 11
abbrev s_Lives_nearest : Stmt := inClass (topS 32) 12
abbrev s_Lives_never : Stmt := inClass (topS 32) 13
abbrev s_steps : Stmt := topS 34
abbrev s_named : Stmt := topS 35
abbrev s_first_end : Stmt := topS 36
abbrev s_atom_late : Stmt := topS 37
abbrev s_class_late : Stmt := topS 38
abbrev s_hanging : Stmt := topS 39
abbrev s_is_late : Stmt := topS 40
abbrev s_measure : Stmt := topS 41
abbrev s_wanted : Stmt := topS 42
abbrev s_years_of : Stmt := topS 43
abbrev s_story : Stmt := topS 44
abbrev s_judged : Stmt := topS 45
abbrev s_World___init__ : Stmt := inClass (topS 47) 0
abbrev s_World_pass_years : Stmt := inClass (topS 47) 1
abbrev s_World_arrive : Stmt := inClass (topS 47) 2
abbrev s_World_birth : Stmt := inClass (topS 47) 3
abbrev s_World_death : Stmt := inClass (topS 47) 4
abbrev s_World_comes : Stmt := inClass (topS 47) 5
abbrev s_World_came_in : Stmt := inClass (topS 47) 6
abbrev s_World_age : Stmt := inClass (topS 47) 7
abbrev s__law_num : Stmt := topS 49
abbrev s__law_cell_at : Stmt := topS 50
abbrev s__law_rich : Stmt := topS 51
abbrev s__law_word : Stmt := topS 52
abbrev s__law_model : Stmt := topS 53
abbrev s__law_kids : Stmt := topS 54
abbrev s__law_living : Stmt := topS 55
abbrev s__law_play : Stmt := topS 56
abbrev s__law_next_deed : Stmt := topS 57
abbrev s__law_start : Stmt := topS 58
abbrev s__law_do : Stmt := topS 59
abbrev s__law_path : Stmt := topS 60
abbrev s__law_need : Stmt := topS 61
abbrev s__law_needs : Stmt := topS 62
abbrev s__law_near : Stmt := topS 63
abbrev s__law_age : Stmt := topS 64
abbrev s__law_atom : Stmt := topS 65
abbrev s__law_fold : Stmt := topS 66
abbrev s__law_members : Stmt := topS 67
abbrev s__law_young : Stmt := topS 68
abbrev s__law_seated : Stmt := topS 69
abbrev s__law_class : Stmt := topS 70
abbrev s__law_whole : Stmt := topS 71
abbrev s__law_out : Stmt := topS 72
abbrev s__law_holder : Stmt := topS 73
abbrev s__law_judged_row : Stmt := topS 74
abbrev s__law_good : Stmt := topS 75
abbrev s__law_again : Stmt := topS 76
abbrev s__law_hangs : Stmt := topS 77
abbrev s_law : Stmt := topS 78
def dD (at_ : Str × Option Str) (name qual : Str) (s : Stmt) : He.DefD := ⟨at_, name, qual, defArgs s, defBody s, defScope s, [], []⟩
def fa : List He.Fa := [.free "len",
  .free "max",
  .free "min",
  .free "int",
  .free "str",
  .free "list",
  .free "sorted",
  .free "isinstance",
  .free "range",
  .free "tuple",
  .free "bool",
  .int "DEEPEST" 6,
  .str "LETTERS" "abcdefghijklmnopqrstuvwxyz",
  .str "FIGURES" "0123456789",
  .glo "BARRED",
  .glo "Lives",
  .cls "Lives",
  .mkr "Lives",
  .noat "Lives" "begun",
  .noat "Lives" "ended",
  .noat "Lives" "many",
  .glo "World",
  .cls "World",
  .mkr "World",
  .noat "World" "year",
  .noat "World" "lives",
  .noat "World" "came",
  .glo "left_out",
  .glo "members",
  .glo "seats",
  .glo "waiting",
  .glo "may_grow",
  .glo "class_stand",
  .glo "near_of",
  .glo "unborn",
  .glo "atom_stand",
  .glo "stand",
  .glo "whole_need",
  .glo "row_stand",
  .glo "good_word",
  .glo "number_of",
  .glo "parts",
  .glo "joined",
  .meth "Lives" "arrive",
  .meth "Lives" "must_live",
  .meth "Lives" "birth",
  .meth "Lives" "death",
  .meth "Lives" "known",
  .meth "Lives" "alive",
  .meth "Lives" "born_in",
  .meth "Lives" "died_in",
  .meth "Lives" "children",
  .meth "Lives" "living",
  .meth "Lives" "nearest",
  .meth "Lives" "never",
  .glo "steps",
  .glo "named",
  .glo "first_end",
  .glo "atom_late",
  .glo "class_late",
  .glo "hanging",
  .glo "is_late",
  .glo "measure",
  .glo "wanted",
  .glo "years_of",
  .glo "story",
  .glo "judged",
  .meth "World" "pass_years",
  .meth "World" "arrive",
  .meth "World" "birth",
  .meth "World" "death",
  .meth "World" "comes",
  .meth "World" "came_in",
  .meth "World" "age",
  .glo "_law_num",
  .glo "_law_cell_at",
  .glo "_law_rich",
  .glo "_law_word",
  .glo "_law_model",
  .glo "_law_kids",
  .glo "_law_living",
  .glo "_law_play",
  .glo "_law_next_deed",
  .glo "_law_start",
  .glo "_law_do",
  .glo "_law_path",
  .glo "_law_need",
  .glo "_law_needs",
  .glo "_law_near",
  .glo "_law_age",
  .glo "_law_atom",
  .glo "_law_fold",
  .glo "_law_members",
  .glo "_law_young",
  .glo "_law_seated",
  .glo "_law_class",
  .glo "_law_whole",
  .glo "_law_out",
  .glo "_law_holder",
  .glo "_law_judged_row",
  .glo "_law_good",
  .glo "_law_again",
  .glo "_law_hangs",
  .glo "law"]
def fn : List He.DefD := [dD ("left_out", none) "left_out" "left_out" s_left_out,
  dD ("members", none) "members" "members" s_members,
  dD ("seats", none) "seats" "seats" s_seats,
  dD ("waiting", none) "waiting" "waiting" s_waiting,
  dD ("may_grow", none) "may_grow" "may_grow" s_may_grow,
  dD ("class_stand", none) "class_stand" "class_stand" s_class_stand,
  dD ("near_of", none) "near_of" "near_of" s_near_of,
  dD ("unborn", none) "unborn" "unborn" s_unborn,
  dD ("atom_stand", none) "atom_stand" "atom_stand" s_atom_stand,
  dD ("stand", none) "stand" "stand" s_stand,
  dD ("whole_need", none) "whole_need" "whole_need" s_whole_need,
  dD ("row_stand", none) "row_stand" "row_stand" s_row_stand,
  dD ("good_word", none) "good_word" "good_word" s_good_word,
  dD ("number_of", none) "number_of" "number_of" s_number_of,
  dD ("parts", none) "parts" "parts" s_parts,
  dD ("joined", none) "joined" "joined" s_joined,
  dD ("Lives", some "__init__") "__init__" "Lives.__init__" s_Lives___init__,
  dD ("Lives", some "arrive") "arrive" "Lives.arrive" s_Lives_arrive,
  dD ("Lives", some "must_live") "must_live" "Lives.must_live" s_Lives_must_live,
  dD ("Lives", some "birth") "birth" "Lives.birth" s_Lives_birth,
  dD ("Lives", some "death") "death" "Lives.death" s_Lives_death,
  dD ("Lives", some "known") "known" "Lives.known" s_Lives_known,
  dD ("Lives", some "alive") "alive" "Lives.alive" s_Lives_alive,
  dD ("Lives", some "born_in") "born_in" "Lives.born_in" s_Lives_born_in,
  dD ("Lives", some "died_in") "died_in" "Lives.died_in" s_Lives_died_in,
  dD ("Lives", some "children") "children" "Lives.children" s_Lives_children,
  dD ("Lives", some "living") "living" "Lives.living" s_Lives_living,
  dD ("Lives", some "nearest") "nearest" "Lives.nearest" s_Lives_nearest,
  dD ("Lives", some "never") "never" "Lives.never" s_Lives_never,
  dD ("steps", none) "steps" "steps" s_steps,
  dD ("named", none) "named" "named" s_named,
  dD ("first_end", none) "first_end" "first_end" s_first_end,
  dD ("atom_late", none) "atom_late" "atom_late" s_atom_late,
  dD ("class_late", none) "class_late" "class_late" s_class_late,
  dD ("hanging", none) "hanging" "hanging" s_hanging,
  dD ("is_late", none) "is_late" "is_late" s_is_late,
  dD ("measure", none) "measure" "measure" s_measure,
  dD ("wanted", none) "wanted" "wanted" s_wanted,
  dD ("years_of", none) "years_of" "years_of" s_years_of,
  dD ("story", none) "story" "story" s_story,
  dD ("judged", none) "judged" "judged" s_judged,
  dD ("World", some "__init__") "__init__" "World.__init__" s_World___init__,
  dD ("World", some "pass_years") "pass_years" "World.pass_years" s_World_pass_years,
  dD ("World", some "arrive") "arrive" "World.arrive" s_World_arrive,
  dD ("World", some "birth") "birth" "World.birth" s_World_birth,
  dD ("World", some "death") "death" "World.death" s_World_death,
  dD ("World", some "comes") "comes" "World.comes" s_World_comes,
  dD ("World", some "came_in") "came_in" "World.came_in" s_World_came_in,
  dD ("World", some "age") "age" "World.age" s_World_age,
  dD ("_law_num", none) "_law_num" "_law_num" s__law_num,
  dD ("_law_cell_at", none) "_law_cell_at" "_law_cell_at" s__law_cell_at,
  dD ("_law_rich", none) "_law_rich" "_law_rich" s__law_rich,
  dD ("_law_word", none) "_law_word" "_law_word" s__law_word,
  dD ("_law_model", none) "_law_model" "_law_model" s__law_model,
  dD ("_law_kids", none) "_law_kids" "_law_kids" s__law_kids,
  dD ("_law_living", none) "_law_living" "_law_living" s__law_living,
  dD ("_law_play", none) "_law_play" "_law_play" s__law_play,
  dD ("_law_next_deed", none) "_law_next_deed" "_law_next_deed" s__law_next_deed,
  dD ("_law_start", none) "_law_start" "_law_start" s__law_start,
  dD ("_law_do", none) "_law_do" "_law_do" s__law_do,
  dD ("_law_path", none) "_law_path" "_law_path" s__law_path,
  dD ("_law_need", none) "_law_need" "_law_need" s__law_need,
  dD ("_law_needs", none) "_law_needs" "_law_needs" s__law_needs,
  dD ("_law_near", none) "_law_near" "_law_near" s__law_near,
  dD ("_law_age", none) "_law_age" "_law_age" s__law_age,
  dD ("_law_atom", none) "_law_atom" "_law_atom" s__law_atom,
  dD ("_law_fold", none) "_law_fold" "_law_fold" s__law_fold,
  dD ("_law_members", none) "_law_members" "_law_members" s__law_members,
  dD ("_law_young", none) "_law_young" "_law_young" s__law_young,
  dD ("_law_seated", none) "_law_seated" "_law_seated" s__law_seated,
  dD ("_law_class", none) "_law_class" "_law_class" s__law_class,
  dD ("_law_whole", none) "_law_whole" "_law_whole" s__law_whole,
  dD ("_law_out", none) "_law_out" "_law_out" s__law_out,
  dD ("_law_holder", none) "_law_holder" "_law_holder" s__law_holder,
  dD ("_law_judged_row", none) "_law_judged_row" "_law_judged_row" s__law_judged_row,
  dD ("_law_good", none) "_law_good" "_law_good" s__law_good,
  dD ("_law_again", none) "_law_again" "_law_again" s__law_again,
  dD ("_law_hangs", none) "_law_hangs" "_law_hangs" s__law_hangs,
  dD ("law", none) "law" "law" s_law]
structure KInt (mg : Str → Option Value) (x : Str) (i : Int) : Prop where
  ex : ∃ t, mg x = some (.int i t)
structure KStr (mg : Str → Option Value) (x z : Str) : Prop where
  ex : ∃ t, mg x = some (.str z t)
structure KRef (mg : Str → Option Value) (x : Str) (a : Addr) : Prop where
  ex : mg x = some (.ref a)
theorem KInt.pe {X : Cx} {x : Str} {i : Int} {pos : Pos} (h : KInt X.mg x i) (hg : Gl X x) (hd : (x == ("__debug__" : Str)) = false := by decide) : PE X (.Name x pos) (tC (.int i)) := by
  obtain ⟨t, e⟩ := h.ex
  exact pe_glob hg e ⟨t, rfl⟩ hd
theorem KStr.pe {X : Cx} {x z : Str} {pos : Pos} (h : KStr X.mg x z) (hg : Gl X x) (hd : (x == ("__debug__" : Str)) = false := by decide) : PE X (.Name x pos) (tC (.str z)) := by
  obtain ⟨t, e⟩ := h.ex
  exact pe_glob hg e ⟨t, rfl⟩ hd
theorem KRef.pe {X : Cx} {x : Str} {a : Addr} {pos : Pos} (h : KRef X.mg x a) (hg : Gl X x) (hd : (x == ("__debug__" : Str)) = false := by decide) : PE X (.Name x pos) (tC (.ref a)) :=
  pe_glob hg h.ex rfl hd
def barred : List He.Dv := [.str "crown", .str "kids"]
/-- what the top has left -/
structure Txt (K : PySem.W.Frag) (mg : Str → Option Value) : Prop where
  says : He.SaysD fa fn K
  glo : ∀ {x : Str}, (He.Fa.glo x).ok K = true → mg x = some (.ref (He.ga K x))
  fre : ∀ {x : Str}, (He.Fa.free x).ok K = true → mg x = none
  kin : ∀ {x : Str} {i : Int}, (He.Fa.int x i).ok K = true → KInt mg x i
  kst : ∀ {x z : Str}, (He.Fa.str x z).ok K = true → KStr mg x z
  bar : He.tupB K "BARRED" barred = true
section
variable {K : PySem.W.Frag} {mg : Str → Option Value}
theorem Txt.b_len (T : Txt K mg) : mg "len" = none := T.fre (T.says.fact 0)
theorem Txt.b_max (T : Txt K mg) : mg "max" = none := T.fre (T.says.fact 1)
theorem Txt.b_min (T : Txt K mg) : mg "min" = none := T.fre (T.says.fact 2)
theorem Txt.b_int (T : Txt K mg) : mg "int" = none := T.fre (T.says.fact 3)
theorem Txt.b_str (T : Txt K mg) : mg "str" = none := T.fre (T.says.fact 4)
theorem Txt.b_list (T : Txt K mg) : mg "list" = none := T.fre (T.says.fact 5)
theorem Txt.b_sorted (T : Txt K mg) : mg "sorted" = none := T.fre (T.says.fact 6)
theorem Txt.b_isinstance (T : Txt K mg) : mg "isinstance" = none := T.fre (T.says.fact 7)
theorem Txt.b_range (T : Txt K mg) : mg "range" = none := T.fre (T.says.fact 8)
theorem Txt.b_tuple (T : Txt K mg) : mg "tuple" = none := T.fre (T.says.fact 9)
theorem Txt.b_bool (T : Txt K mg) : mg "bool" = none := T.fre (T.says.fact 10)
theorem Txt.q_DEEPEST (T : Txt K mg) : KInt mg "DEEPEST" 6 := T.kin (T.says.fact 11)
theorem Txt.q_LETTERS (T : Txt K mg) : KStr mg "LETTERS" "abcdefghijklmnopqrstuvwxyz" := T.kst (T.says.fact 12)
theorem Txt.q_FIGURES (T : Txt K mg) : KStr mg "FIGURES" "0123456789" := T.kst (T.says.fact 13)
theorem Txt.g_BARRED (T : Txt K mg) : mg "BARRED" = some (.ref (He.ga K "BARRED")) := T.glo (T.says.fact 14)
theorem Txt.g_Lives (T : Txt K mg) : mg "Lives" = some (.ref (He.ga K "Lives")) := T.glo (T.says.fact 15)
theorem Txt.c_Lives (T : Txt K mg) : Cls K (He.ga K "Lives") := He.cls_ok (T.says.fact 16)
theorem Txt.k_Lives (T : Txt K mg) : Mk K (He.ga K "Lives") (He.ma K (He.ga K "Lives") "__init__") := He.mkr_ok (T.says.fact 17)
theorem Txt.n_begun (T : Txt K mg) : NoAttr K (He.ga K "Lives") "begun" := He.noat_ok (T.says.fact 18)
theorem Txt.n_ended (T : Txt K mg) : NoAttr K (He.ga K "Lives") "ended" := He.noat_ok (T.says.fact 19)
theorem Txt.n_many (T : Txt K mg) : NoAttr K (He.ga K "Lives") "many" := He.noat_ok (T.says.fact 20)
theorem Txt.g_World (T : Txt K mg) : mg "World" = some (.ref (He.ga K "World")) := T.glo (T.says.fact 21)
theorem Txt.c_World (T : Txt K mg) : Cls K (He.ga K "World") := He.cls_ok (T.says.fact 22)
theorem Txt.k_World (T : Txt K mg) : Mk K (He.ga K "World") (He.ma K (He.ga K "World") "__init__") := He.mkr_ok (T.says.fact 23)
theorem Txt.n_year (T : Txt K mg) : NoAttr K (He.ga K "World") "year" := He.noat_ok (T.says.fact 24)
theorem Txt.n_lives (T : Txt K mg) : NoAttr K (He.ga K "World") "lives" := He.noat_ok (T.says.fact 25)
theorem Txt.n_came (T : Txt K mg) : NoAttr K (He.ga K "World") "came" := He.noat_ok (T.says.fact 26)
theorem Txt.g_left_out (T : Txt K mg) : mg "left_out" = some (.ref (He.ga K "left_out")) := T.glo (T.says.fact 27)
theorem Txt.g_members (T : Txt K mg) : mg "members" = some (.ref (He.ga K "members")) := T.glo (T.says.fact 28)
theorem Txt.g_seats (T : Txt K mg) : mg "seats" = some (.ref (He.ga K "seats")) := T.glo (T.says.fact 29)
theorem Txt.g_waiting (T : Txt K mg) : mg "waiting" = some (.ref (He.ga K "waiting")) := T.glo (T.says.fact 30)
theorem Txt.g_may_grow (T : Txt K mg) : mg "may_grow" = some (.ref (He.ga K "may_grow")) := T.glo (T.says.fact 31)
theorem Txt.g_class_stand (T : Txt K mg) : mg "class_stand" = some (.ref (He.ga K "class_stand")) := T.glo (T.says.fact 32)
theorem Txt.g_near_of (T : Txt K mg) : mg "near_of" = some (.ref (He.ga K "near_of")) := T.glo (T.says.fact 33)
theorem Txt.g_unborn (T : Txt K mg) : mg "unborn" = some (.ref (He.ga K "unborn")) := T.glo (T.says.fact 34)
theorem Txt.g_atom_stand (T : Txt K mg) : mg "atom_stand" = some (.ref (He.ga K "atom_stand")) := T.glo (T.says.fact 35)
theorem Txt.g_stand (T : Txt K mg) : mg "stand" = some (.ref (He.ga K "stand")) := T.glo (T.says.fact 36)
theorem Txt.g_whole_need (T : Txt K mg) : mg "whole_need" = some (.ref (He.ga K "whole_need")) := T.glo (T.says.fact 37)
theorem Txt.g_row_stand (T : Txt K mg) : mg "row_stand" = some (.ref (He.ga K "row_stand")) := T.glo (T.says.fact 38)
theorem Txt.g_good_word (T : Txt K mg) : mg "good_word" = some (.ref (He.ga K "good_word")) := T.glo (T.says.fact 39)
theorem Txt.g_number_of (T : Txt K mg) : mg "number_of" = some (.ref (He.ga K "number_of")) := T.glo (T.says.fact 40)
theorem Txt.g_parts (T : Txt K mg) : mg "parts" = some (.ref (He.ga K "parts")) := T.glo (T.says.fact 41)
theorem Txt.g_joined (T : Txt K mg) : mg "joined" = some (.ref (He.ga K "joined")) := T.glo (T.says.fact 42)
theorem Txt.m_Lives_arrive (T : Txt K mg) : Meth K (He.ga K "Lives") "arrive" (He.ma K (He.ga K "Lives") "arrive") := He.meth_ok (T.says.fact 43)
theorem Txt.m_Lives_must_live (T : Txt K mg) : Meth K (He.ga K "Lives") "must_live" (He.ma K (He.ga K "Lives") "must_live") := He.meth_ok (T.says.fact 44)
theorem Txt.m_Lives_birth (T : Txt K mg) : Meth K (He.ga K "Lives") "birth" (He.ma K (He.ga K "Lives") "birth") := He.meth_ok (T.says.fact 45)
theorem Txt.m_Lives_death (T : Txt K mg) : Meth K (He.ga K "Lives") "death" (He.ma K (He.ga K "Lives") "death") := He.meth_ok (T.says.fact 46)
theorem Txt.m_Lives_known (T : Txt K mg) : Meth K (He.ga K "Lives") "known" (He.ma K (He.ga K "Lives") "known") := He.meth_ok (T.says.fact 47)
theorem Txt.m_Lives_alive (T : Txt K mg) : Meth K (He.ga K "Lives") "alive" (He.ma K (He.ga K "Lives") "alive") := He.meth_ok (T.says.fact 48)
theorem Txt.m_Lives_born_in (T : Txt K mg) : Meth K (He.ga K "Lives") "born_in" (He.ma K (He.ga K "Lives") "born_in") := He.meth_ok (T.says.fact 49)
theorem Txt.m_Lives_died_in (T : Txt K mg) : Meth K (He.ga K "Lives") "died_in" (He.ma K (He.ga K "Lives") "died_in") := He.meth_ok (T.says.fact 50)
theorem Txt.m_Lives_children (T : Txt K mg) : Meth K (He.ga K "Lives") "children" (He.ma K (He.ga K "Lives") "children") := He.meth_ok (T.says.fact 51)
theorem Txt.m_Lives_living (T : Txt K mg) : Meth K (He.ga K "Lives") "living" (He.ma K (He.ga K "Lives") "living") := He.meth_ok (T.says.fact 52)
theorem Txt.m_Lives_nearest (T : Txt K mg) : Meth K (He.ga K "Lives") "nearest" (He.ma K (He.ga K "Lives") "nearest") := He.meth_ok (T.says.fact 53)
theorem Txt.m_Lives_never (T : Txt K mg) : Meth K (He.ga K "Lives") "never" (He.ma K (He.ga K "Lives") "never") := He.meth_ok (T.says.fact 54)
theorem Txt.g_steps (T : Txt K mg) : mg "steps" = some (.ref (He.ga K "steps")) := T.glo (T.says.fact 55)
theorem Txt.g_named (T : Txt K mg) : mg "named" = some (.ref (He.ga K "named")) := T.glo (T.says.fact 56)
theorem Txt.g_first_end (T : Txt K mg) : mg "first_end" = some (.ref (He.ga K "first_end")) := T.glo (T.says.fact 57)
theorem Txt.g_atom_late (T : Txt K mg) : mg "atom_late" = some (.ref (He.ga K "atom_late")) := T.glo (T.says.fact 58)
theorem Txt.g_class_late (T : Txt K mg) : mg "class_late" = some (.ref (He.ga K "class_late")) := T.glo (T.says.fact 59)
theorem Txt.g_hanging (T : Txt K mg) : mg "hanging" = some (.ref (He.ga K "hanging")) := T.glo (T.says.fact 60)
theorem Txt.g_is_late (T : Txt K mg) : mg "is_late" = some (.ref (He.ga K "is_late")) := T.glo (T.says.fact 61)
theorem Txt.g_measure (T : Txt K mg) : mg "measure" = some (.ref (He.ga K "measure")) := T.glo (T.says.fact 62)
theorem Txt.g_wanted (T : Txt K mg) : mg "wanted" = some (.ref (He.ga K "wanted")) := T.glo (T.says.fact 63)
theorem Txt.g_years_of (T : Txt K mg) : mg "years_of" = some (.ref (He.ga K "years_of")) := T.glo (T.says.fact 64)
theorem Txt.g_story (T : Txt K mg) : mg "story" = some (.ref (He.ga K "story")) := T.glo (T.says.fact 65)
theorem Txt.g_judged (T : Txt K mg) : mg "judged" = some (.ref (He.ga K "judged")) := T.glo (T.says.fact 66)
theorem Txt.m_World_pass_years (T : Txt K mg) : Meth K (He.ga K "World") "pass_years" (He.ma K (He.ga K "World") "pass_years") := He.meth_ok (T.says.fact 67)
theorem Txt.m_World_arrive (T : Txt K mg) : Meth K (He.ga K "World") "arrive" (He.ma K (He.ga K "World") "arrive") := He.meth_ok (T.says.fact 68)
theorem Txt.m_World_birth (T : Txt K mg) : Meth K (He.ga K "World") "birth" (He.ma K (He.ga K "World") "birth") := He.meth_ok (T.says.fact 69)
theorem Txt.m_World_death (T : Txt K mg) : Meth K (He.ga K "World") "death" (He.ma K (He.ga K "World") "death") := He.meth_ok (T.says.fact 70)
theorem Txt.m_World_comes (T : Txt K mg) : Meth K (He.ga K "World") "comes" (He.ma K (He.ga K "World") "comes") := He.meth_ok (T.says.fact 71)
theorem Txt.m_World_came_in (T : Txt K mg) : Meth K (He.ga K "World") "came_in" (He.ma K (He.ga K "World") "came_in") := He.meth_ok (T.says.fact 72)
theorem Txt.m_World_age (T : Txt K mg) : Meth K (He.ga K "World") "age" (He.ma K (He.ga K "World") "age") := He.meth_ok (T.says.fact 73)
theorem Txt.g__law_num (T : Txt K mg) : mg "_law_num" = some (.ref (He.ga K "_law_num")) := T.glo (T.says.fact 74)
theorem Txt.g__law_cell_at (T : Txt K mg) : mg "_law_cell_at" = some (.ref (He.ga K "_law_cell_at")) := T.glo (T.says.fact 75)
theorem Txt.g__law_rich (T : Txt K mg) : mg "_law_rich" = some (.ref (He.ga K "_law_rich")) := T.glo (T.says.fact 76)
theorem Txt.g__law_word (T : Txt K mg) : mg "_law_word" = some (.ref (He.ga K "_law_word")) := T.glo (T.says.fact 77)
theorem Txt.g__law_model (T : Txt K mg) : mg "_law_model" = some (.ref (He.ga K "_law_model")) := T.glo (T.says.fact 78)
theorem Txt.g__law_kids (T : Txt K mg) : mg "_law_kids" = some (.ref (He.ga K "_law_kids")) := T.glo (T.says.fact 79)
theorem Txt.g__law_living (T : Txt K mg) : mg "_law_living" = some (.ref (He.ga K "_law_living")) := T.glo (T.says.fact 80)
theorem Txt.g__law_play (T : Txt K mg) : mg "_law_play" = some (.ref (He.ga K "_law_play")) := T.glo (T.says.fact 81)
theorem Txt.g__law_next_deed (T : Txt K mg) : mg "_law_next_deed" = some (.ref (He.ga K "_law_next_deed")) := T.glo (T.says.fact 82)
theorem Txt.g__law_start (T : Txt K mg) : mg "_law_start" = some (.ref (He.ga K "_law_start")) := T.glo (T.says.fact 83)
theorem Txt.g__law_do (T : Txt K mg) : mg "_law_do" = some (.ref (He.ga K "_law_do")) := T.glo (T.says.fact 84)
theorem Txt.g__law_path (T : Txt K mg) : mg "_law_path" = some (.ref (He.ga K "_law_path")) := T.glo (T.says.fact 85)
theorem Txt.g__law_need (T : Txt K mg) : mg "_law_need" = some (.ref (He.ga K "_law_need")) := T.glo (T.says.fact 86)
theorem Txt.g__law_needs (T : Txt K mg) : mg "_law_needs" = some (.ref (He.ga K "_law_needs")) := T.glo (T.says.fact 87)
theorem Txt.g__law_near (T : Txt K mg) : mg "_law_near" = some (.ref (He.ga K "_law_near")) := T.glo (T.says.fact 88)
theorem Txt.g__law_age (T : Txt K mg) : mg "_law_age" = some (.ref (He.ga K "_law_age")) := T.glo (T.says.fact 89)
theorem Txt.g__law_atom (T : Txt K mg) : mg "_law_atom" = some (.ref (He.ga K "_law_atom")) := T.glo (T.says.fact 90)
theorem Txt.g__law_fold (T : Txt K mg) : mg "_law_fold" = some (.ref (He.ga K "_law_fold")) := T.glo (T.says.fact 91)
theorem Txt.g__law_members (T : Txt K mg) : mg "_law_members" = some (.ref (He.ga K "_law_members")) := T.glo (T.says.fact 92)
theorem Txt.g__law_young (T : Txt K mg) : mg "_law_young" = some (.ref (He.ga K "_law_young")) := T.glo (T.says.fact 93)
theorem Txt.g__law_seated (T : Txt K mg) : mg "_law_seated" = some (.ref (He.ga K "_law_seated")) := T.glo (T.says.fact 94)
theorem Txt.g__law_class (T : Txt K mg) : mg "_law_class" = some (.ref (He.ga K "_law_class")) := T.glo (T.says.fact 95)
theorem Txt.g__law_whole (T : Txt K mg) : mg "_law_whole" = some (.ref (He.ga K "_law_whole")) := T.glo (T.says.fact 96)
theorem Txt.g__law_out (T : Txt K mg) : mg "_law_out" = some (.ref (He.ga K "_law_out")) := T.glo (T.says.fact 97)
theorem Txt.g__law_holder (T : Txt K mg) : mg "_law_holder" = some (.ref (He.ga K "_law_holder")) := T.glo (T.says.fact 98)
theorem Txt.g__law_judged_row (T : Txt K mg) : mg "_law_judged_row" = some (.ref (He.ga K "_law_judged_row")) := T.glo (T.says.fact 99)
theorem Txt.g__law_good (T : Txt K mg) : mg "_law_good" = some (.ref (He.ga K "_law_good")) := T.glo (T.says.fact 100)
theorem Txt.g__law_again (T : Txt K mg) : mg "_law_again" = some (.ref (He.ga K "_law_again")) := T.glo (T.says.fact 101)
theorem Txt.g__law_hangs (T : Txt K mg) : mg "_law_hangs" = some (.ref (He.ga K "_law_hangs")) := T.glo (T.says.fact 102)
theorem Txt.g_law (T : Txt K mg) : mg "law" = some (.ref (He.ga K "law")) := T.glo (T.says.fact 103)
theorem Txt.f_left_out (T : Txt K mg) : ∃ fd, FunD K "left_out" "left_out" (defArgs s_left_out) (defBody s_left_out) (defScope s_left_out) [] [] (He.ga K "left_out") fd := T.says.def_ 0
theorem Txt.f_members (T : Txt K mg) : ∃ fd, FunD K "members" "members" (defArgs s_members) (defBody s_members) (defScope s_members) [] [] (He.ga K "members") fd := T.says.def_ 1
theorem Txt.f_seats (T : Txt K mg) : ∃ fd, FunD K "seats" "seats" (defArgs s_seats) (defBody s_seats) (defScope s_seats) [] [] (He.ga K "seats") fd := T.says.def_ 2
theorem Txt.f_waiting (T : Txt K mg) : ∃ fd, FunD K "waiting" "waiting" (defArgs s_waiting) (defBody s_waiting) (defScope s_waiting) [] [] (He.ga K "waiting") fd := T.says.def_ 3
theorem Txt.f_may_grow (T : Txt K mg) : ∃ fd, FunD K "may_grow" "may_grow" (defArgs s_may_grow) (defBody s_may_grow) (defScope s_may_grow) [] [] (He.ga K "may_grow") fd := T.says.def_ 4
theorem Txt.f_class_stand (T : Txt K mg) : ∃ fd, FunD K "class_stand" "class_stand" (defArgs s_class_stand) (defBody s_class_stand) (defScope s_class_stand) [] [] (He.ga K "class_stand") fd := T.says.def_ 5
theorem Txt.f_near_of (T : Txt K mg) : ∃ fd, FunD K "near_of" "near_of" (defArgs s_near_of) (defBody s_near_of) (defScope s_near_of) [] [] (He.ga K "near_of") fd := T.says.def_ 6
theorem Txt.f_unborn (T : Txt K mg) : ∃ fd, FunD K "unborn" "unborn" (defArgs s_unborn) (defBody s_unborn) (defScope s_unborn) [] [] (He.ga K "unborn") fd := T.says.def_ 7
theorem Txt.f_atom_stand (T : Txt K mg) : ∃ fd, FunD K "atom_stand" "atom_stand" (defArgs s_atom_stand) (defBody s_atom_stand) (defScope s_atom_stand) [] [] (He.ga K "atom_stand") fd := T.says.def_ 8
theorem Txt.f_stand (T : Txt K mg) : ∃ fd, FunD K "stand" "stand" (defArgs s_stand) (defBody s_stand) (defScope s_stand) [] [] (He.ga K "stand") fd := T.says.def_ 9
theorem Txt.f_whole_need (T : Txt K mg) : ∃ fd, FunD K "whole_need" "whole_need" (defArgs s_whole_need) (defBody s_whole_need) (defScope s_whole_need) [] [] (He.ga K "whole_need") fd := T.says.def_ 10
theorem Txt.f_row_stand (T : Txt K mg) : ∃ fd, FunD K "row_stand" "row_stand" (defArgs s_row_stand) (defBody s_row_stand) (defScope s_row_stand) [] [] (He.ga K "row_stand") fd := T.says.def_ 11
theorem Txt.f_good_word (T : Txt K mg) : ∃ fd, FunD K "good_word" "good_word" (defArgs s_good_word) (defBody s_good_word) (defScope s_good_word) [] [] (He.ga K "good_word") fd := T.says.def_ 12
theorem Txt.f_number_of (T : Txt K mg) : ∃ fd, FunD K "number_of" "number_of" (defArgs s_number_of) (defBody s_number_of) (defScope s_number_of) [] [] (He.ga K "number_of") fd := T.says.def_ 13
theorem Txt.f_parts (T : Txt K mg) : ∃ fd, FunD K "parts" "parts" (defArgs s_parts) (defBody s_parts) (defScope s_parts) [] [] (He.ga K "parts") fd := T.says.def_ 14
theorem Txt.f_joined (T : Txt K mg) : ∃ fd, FunD K "joined" "joined" (defArgs s_joined) (defBody s_joined) (defScope s_joined) [] [] (He.ga K "joined") fd := T.says.def_ 15
theorem Txt.f_Lives___init__ (T : Txt K mg) : ∃ fd, FunD K "__init__" "Lives.__init__" (defArgs s_Lives___init__) (defBody s_Lives___init__) (defScope s_Lives___init__) [] [] (He.ma K (He.ga K "Lives") "__init__") fd := T.says.def_ 16
theorem Txt.f_Lives_arrive (T : Txt K mg) : ∃ fd, FunD K "arrive" "Lives.arrive" (defArgs s_Lives_arrive) (defBody s_Lives_arrive) (defScope s_Lives_arrive) [] [] (He.ma K (He.ga K "Lives") "arrive") fd := T.says.def_ 17
theorem Txt.f_Lives_must_live (T : Txt K mg) : ∃ fd, FunD K "must_live" "Lives.must_live" (defArgs s_Lives_must_live) (defBody s_Lives_must_live) (defScope s_Lives_must_live) [] [] (He.ma K (He.ga K "Lives") "must_live") fd := T.says.def_ 18
theorem Txt.f_Lives_birth (T : Txt K mg) : ∃ fd, FunD K "birth" "Lives.birth" (defArgs s_Lives_birth) (defBody s_Lives_birth) (defScope s_Lives_birth) [] [] (He.ma K (He.ga K "Lives") "birth") fd := T.says.def_ 19
theorem Txt.f_Lives_death (T : Txt K mg) : ∃ fd, FunD K "death" "Lives.death" (defArgs s_Lives_death) (defBody s_Lives_death) (defScope s_Lives_death) [] [] (He.ma K (He.ga K "Lives") "death") fd := T.says.def_ 20
theorem Txt.f_Lives_known (T : Txt K mg) : ∃ fd, FunD K "known" "Lives.known" (defArgs s_Lives_known) (defBody s_Lives_known) (defScope s_Lives_known) [] [] (He.ma K (He.ga K "Lives") "known") fd := T.says.def_ 21
theorem Txt.f_Lives_alive (T : Txt K mg) : ∃ fd, FunD K "alive" "Lives.alive" (defArgs s_Lives_alive) (defBody s_Lives_alive) (defScope s_Lives_alive) [] [] (He.ma K (He.ga K "Lives") "alive") fd := T.says.def_ 22
theorem Txt.f_Lives_born_in (T : Txt K mg) : ∃ fd, FunD K "born_in" "Lives.born_in" (defArgs s_Lives_born_in) (defBody s_Lives_born_in) (defScope s_Lives_born_in) [] [] (He.ma K (He.ga K "Lives") "born_in") fd := T.says.def_ 23
theorem Txt.f_Lives_died_in (T : Txt K mg) : ∃ fd, FunD K "died_in" "Lives.died_in" (defArgs s_Lives_died_in) (defBody s_Lives_died_in) (defScope s_Lives_died_in) [] [] (He.ma K (He.ga K "Lives") "died_in") fd := T.says.def_ 24
theorem Txt.f_Lives_children (T : Txt K mg) : ∃ fd, FunD K "children" "Lives.children" (defArgs s_Lives_children) (defBody s_Lives_children) (defScope s_Lives_children) [] [] (He.ma K (He.ga K "Lives") "children") fd := T.says.def_ 25
theorem Txt.f_Lives_living (T : Txt K mg) : ∃ fd, FunD K "living" "Lives.living" (defArgs s_Lives_living) (defBody s_Lives_living) (defScope s_Lives_living) [] [] (He.ma K (He.ga K "Lives") "living") fd := T.says.def_ 26
theorem Txt.f_Lives_nearest (T : Txt K mg) : ∃ fd, FunD K "nearest" "Lives.nearest" (defArgs s_Lives_nearest) (defBody s_Lives_nearest) (defScope s_Lives_nearest) [] [] (He.ma K (He.ga K "Lives") "nearest") fd := T.says.def_ 27
theorem Txt.f_Lives_never (T : Txt K mg) : ∃ fd, FunD K "never" "Lives.never" (defArgs s_Lives_never) (defBody s_Lives_never) (defScope s_Lives_never) [] [] (He.ma K (He.ga K "Lives") "never") fd := T.says.def_ 28
theorem Txt.f_steps (T : Txt K mg) : ∃ fd, FunD K "steps" "steps" (defArgs s_steps) (defBody s_steps) (defScope s_steps) [] [] (He.ga K "steps") fd := T.says.def_ 29
theorem Txt.f_named (T : Txt K mg) : ∃ fd, FunD K "named" "named" (defArgs s_named) (defBody s_named) (defScope s_named) [] [] (He.ga K "named") fd := T.says.def_ 30
theorem Txt.f_first_end (T : Txt K mg) : ∃ fd, FunD K "first_end" "first_end" (defArgs s_first_end) (defBody s_first_end) (defScope s_first_end) [] [] (He.ga K "first_end") fd := T.says.def_ 31
theorem Txt.f_atom_late (T : Txt K mg) : ∃ fd, FunD K "atom_late" "atom_late" (defArgs s_atom_late) (defBody s_atom_late) (defScope s_atom_late) [] [] (He.ga K "atom_late") fd := T.says.def_ 32
theorem Txt.f_class_late (T : Txt K mg) : ∃ fd, FunD K "class_late" "class_late" (defArgs s_class_late) (defBody s_class_late) (defScope s_class_late) [] [] (He.ga K "class_late") fd := T.says.def_ 33
theorem Txt.f_hanging (T : Txt K mg) : ∃ fd, FunD K "hanging" "hanging" (defArgs s_hanging) (defBody s_hanging) (defScope s_hanging) [] [] (He.ga K "hanging") fd := T.says.def_ 34
theorem Txt.f_is_late (T : Txt K mg) : ∃ fd, FunD K "is_late" "is_late" (defArgs s_is_late) (defBody s_is_late) (defScope s_is_late) [] [] (He.ga K "is_late") fd := T.says.def_ 35
theorem Txt.f_measure (T : Txt K mg) : ∃ fd, FunD K "measure" "measure" (defArgs s_measure) (defBody s_measure) (defScope s_measure) [] [] (He.ga K "measure") fd := T.says.def_ 36
theorem Txt.f_wanted (T : Txt K mg) : ∃ fd, FunD K "wanted" "wanted" (defArgs s_wanted) (defBody s_wanted) (defScope s_wanted) [] [] (He.ga K "wanted") fd := T.says.def_ 37
theorem Txt.f_years_of (T : Txt K mg) : ∃ fd, FunD K "years_of" "years_of" (defArgs s_years_of) (defBody s_years_of) (defScope s_years_of) [] [] (He.ga K "years_of") fd := T.says.def_ 38
theorem Txt.f_story (T : Txt K mg) : ∃ fd, FunD K "story" "story" (defArgs s_story) (defBody s_story) (defScope s_story) [] [] (He.ga K "story") fd := T.says.def_ 39
theorem Txt.f_judged (T : Txt K mg) : ∃ fd, FunD K "judged" "judged" (defArgs s_judged) (defBody s_judged) (defScope s_judged) [] [] (He.ga K "judged") fd := T.says.def_ 40
theorem Txt.f_World___init__ (T : Txt K mg) : ∃ fd, FunD K "__init__" "World.__init__" (defArgs s_World___init__) (defBody s_World___init__) (defScope s_World___init__) [] [] (He.ma K (He.ga K "World") "__init__") fd := T.says.def_ 41
theorem Txt.f_World_pass_years (T : Txt K mg) : ∃ fd, FunD K "pass_years" "World.pass_years" (defArgs s_World_pass_years) (defBody s_World_pass_years) (defScope s_World_pass_years) [] [] (He.ma K (He.ga K "World") "pass_years") fd := T.says.def_ 42
theorem Txt.f_World_arrive (T : Txt K mg) : ∃ fd, FunD K "arrive" "World.arrive" (defArgs s_World_arrive) (defBody s_World_arrive) (defScope s_World_arrive) [] [] (He.ma K (He.ga K "World") "arrive") fd := T.says.def_ 43
theorem Txt.f_World_birth (T : Txt K mg) : ∃ fd, FunD K "birth" "World.birth" (defArgs s_World_birth) (defBody s_World_birth) (defScope s_World_birth) [] [] (He.ma K (He.ga K "World") "birth") fd := T.says.def_ 44
theorem Txt.f_World_death (T : Txt K mg) : ∃ fd, FunD K "death" "World.death" (defArgs s_World_death) (defBody s_World_death) (defScope s_World_death) [] [] (He.ma K (He.ga K "World") "death") fd := T.says.def_ 45
theorem Txt.f_World_comes (T : Txt K mg) : ∃ fd, FunD K "comes" "World.comes" (defArgs s_World_comes) (defBody s_World_comes) (defScope s_World_comes) [] [] (He.ma K (He.ga K "World") "comes") fd := T.says.def_ 46
theorem Txt.f_World_came_in (T : Txt K mg) : ∃ fd, FunD K "came_in" "World.came_in" (defArgs s_World_came_in) (defBody s_World_came_in) (defScope s_World_came_in) [] [] (He.ma K (He.ga K "World") "came_in") fd := T.says.def_ 47
theorem Txt.f_World_age (T : Txt K mg) : ∃ fd, FunD K "age" "World.age" (defArgs s_World_age) (defBody s_World_age) (defScope s_World_age) [] [] (He.ma K (He.ga K "World") "age") fd := T.says.def_ 48
theorem Txt.f__law_num (T : Txt K mg) : ∃ fd, FunD K "_law_num" "_law_num" (defArgs s__law_num) (defBody s__law_num) (defScope s__law_num) [] [] (He.ga K "_law_num") fd := T.says.def_ 49
theorem Txt.f__law_cell_at (T : Txt K mg) : ∃ fd, FunD K "_law_cell_at" "_law_cell_at" (defArgs s__law_cell_at) (defBody s__law_cell_at) (defScope s__law_cell_at) [] [] (He.ga K "_law_cell_at") fd := T.says.def_ 50
theorem Txt.f__law_rich (T : Txt K mg) : ∃ fd, FunD K "_law_rich" "_law_rich" (defArgs s__law_rich) (defBody s__law_rich) (defScope s__law_rich) [] [] (He.ga K "_law_rich") fd := T.says.def_ 51
theorem Txt.f__law_word (T : Txt K mg) : ∃ fd, FunD K "_law_word" "_law_word" (defArgs s__law_word) (defBody s__law_word) (defScope s__law_word) [] [] (He.ga K "_law_word") fd := T.says.def_ 52
theorem Txt.f__law_model (T : Txt K mg) : ∃ fd, FunD K "_law_model" "_law_model" (defArgs s__law_model) (defBody s__law_model) (defScope s__law_model) [] [] (He.ga K "_law_model") fd := T.says.def_ 53
theorem Txt.f__law_kids (T : Txt K mg) : ∃ fd, FunD K "_law_kids" "_law_kids" (defArgs s__law_kids) (defBody s__law_kids) (defScope s__law_kids) [] [] (He.ga K "_law_kids") fd := T.says.def_ 54
theorem Txt.f__law_living (T : Txt K mg) : ∃ fd, FunD K "_law_living" "_law_living" (defArgs s__law_living) (defBody s__law_living) (defScope s__law_living) [] [] (He.ga K "_law_living") fd := T.says.def_ 55
theorem Txt.f__law_play (T : Txt K mg) : ∃ fd, FunD K "_law_play" "_law_play" (defArgs s__law_play) (defBody s__law_play) (defScope s__law_play) [] [] (He.ga K "_law_play") fd := T.says.def_ 56
theorem Txt.f__law_next_deed (T : Txt K mg) : ∃ fd, FunD K "_law_next_deed" "_law_next_deed" (defArgs s__law_next_deed) (defBody s__law_next_deed) (defScope s__law_next_deed) [] [] (He.ga K "_law_next_deed") fd := T.says.def_ 57
theorem Txt.f__law_start (T : Txt K mg) : ∃ fd, FunD K "_law_start" "_law_start" (defArgs s__law_start) (defBody s__law_start) (defScope s__law_start) [] [] (He.ga K "_law_start") fd := T.says.def_ 58
theorem Txt.f__law_do (T : Txt K mg) : ∃ fd, FunD K "_law_do" "_law_do" (defArgs s__law_do) (defBody s__law_do) (defScope s__law_do) [] [] (He.ga K "_law_do") fd := T.says.def_ 59
theorem Txt.f__law_path (T : Txt K mg) : ∃ fd, FunD K "_law_path" "_law_path" (defArgs s__law_path) (defBody s__law_path) (defScope s__law_path) [] [] (He.ga K "_law_path") fd := T.says.def_ 60
theorem Txt.f__law_need (T : Txt K mg) : ∃ fd, FunD K "_law_need" "_law_need" (defArgs s__law_need) (defBody s__law_need) (defScope s__law_need) [] [] (He.ga K "_law_need") fd := T.says.def_ 61
theorem Txt.f__law_needs (T : Txt K mg) : ∃ fd, FunD K "_law_needs" "_law_needs" (defArgs s__law_needs) (defBody s__law_needs) (defScope s__law_needs) [] [] (He.ga K "_law_needs") fd := T.says.def_ 62
theorem Txt.f__law_near (T : Txt K mg) : ∃ fd, FunD K "_law_near" "_law_near" (defArgs s__law_near) (defBody s__law_near) (defScope s__law_near) [] [] (He.ga K "_law_near") fd := T.says.def_ 63
theorem Txt.f__law_age (T : Txt K mg) : ∃ fd, FunD K "_law_age" "_law_age" (defArgs s__law_age) (defBody s__law_age) (defScope s__law_age) [] [] (He.ga K "_law_age") fd := T.says.def_ 64
theorem Txt.f__law_atom (T : Txt K mg) : ∃ fd, FunD K "_law_atom" "_law_atom" (defArgs s__law_atom) (defBody s__law_atom) (defScope s__law_atom) [] [] (He.ga K "_law_atom") fd := T.says.def_ 65
theorem Txt.f__law_fold (T : Txt K mg) : ∃ fd, FunD K "_law_fold" "_law_fold" (defArgs s__law_fold) (defBody s__law_fold) (defScope s__law_fold) [] [] (He.ga K "_law_fold") fd := T.says.def_ 66
theorem Txt.f__law_members (T : Txt K mg) : ∃ fd, FunD K "_law_members" "_law_members" (defArgs s__law_members) (defBody s__law_members) (defScope s__law_members) [] [] (He.ga K "_law_members") fd := T.says.def_ 67
theorem Txt.f__law_young (T : Txt K mg) : ∃ fd, FunD K "_law_young" "_law_young" (defArgs s__law_young) (defBody s__law_young) (defScope s__law_young) [] [] (He.ga K "_law_young") fd := T.says.def_ 68
theorem Txt.f__law_seated (T : Txt K mg) : ∃ fd, FunD K "_law_seated" "_law_seated" (defArgs s__law_seated) (defBody s__law_seated) (defScope s__law_seated) [] [] (He.ga K "_law_seated") fd := T.says.def_ 69
theorem Txt.f__law_class (T : Txt K mg) : ∃ fd, FunD K "_law_class" "_law_class" (defArgs s__law_class) (defBody s__law_class) (defScope s__law_class) [] [] (He.ga K "_law_class") fd := T.says.def_ 70
theorem Txt.f__law_whole (T : Txt K mg) : ∃ fd, FunD K "_law_whole" "_law_whole" (defArgs s__law_whole) (defBody s__law_whole) (defScope s__law_whole) [] [] (He.ga K "_law_whole") fd := T.says.def_ 71
theorem Txt.f__law_out (T : Txt K mg) : ∃ fd, FunD K "_law_out" "_law_out" (defArgs s__law_out) (defBody s__law_out) (defScope s__law_out) [] [] (He.ga K "_law_out") fd := T.says.def_ 72
theorem Txt.f__law_holder (T : Txt K mg) : ∃ fd, FunD K "_law_holder" "_law_holder" (defArgs s__law_holder) (defBody s__law_holder) (defScope s__law_holder) [] [] (He.ga K "_law_holder") fd := T.says.def_ 73
theorem Txt.f__law_judged_row (T : Txt K mg) : ∃ fd, FunD K "_law_judged_row" "_law_judged_row" (defArgs s__law_judged_row) (defBody s__law_judged_row) (defScope s__law_judged_row) [] [] (He.ga K "_law_judged_row") fd := T.says.def_ 74
theorem Txt.f__law_good (T : Txt K mg) : ∃ fd, FunD K "_law_good" "_law_good" (defArgs s__law_good) (defBody s__law_good) (defScope s__law_good) [] [] (He.ga K "_law_good") fd := T.says.def_ 75
theorem Txt.f__law_again (T : Txt K mg) : ∃ fd, FunD K "_law_again" "_law_again" (defArgs s__law_again) (defBody s__law_again) (defScope s__law_again) [] [] (He.ga K "_law_again") fd := T.says.def_ 76
theorem Txt.f__law_hangs (T : Txt K mg) : ∃ fd, FunD K "_law_hangs" "_law_hangs" (defArgs s__law_hangs) (defBody s__law_hangs) (defScope s__law_hangs) [] [] (He.ga K "_law_hangs") fd := T.says.def_ 77
theorem Txt.f_law (T : Txt K mg) : ∃ fd, FunD K "law" "law" (defArgs s_law) (defBody s_law) (defScope s_law) [] [] (He.ga K "law") fd := T.says.def_ 78
theorem Txt.q_BARRED (T : Txt K mg) : KRef mg "BARRED" (He.ga K "BARRED") := ⟨T.g_BARRED⟩
theorem Txt.bars (T : Txt K mg) (H : Hp) : SqT K H (He.ga K "BARRED") [V.str "crown", V.str "kids"] := He.tupB_ok T.bar H
end
/-! ### callables -/
section
variable {P : Program} {w : World} {K : PySem.W.Frag} {mg : Str → Option Value} {base : Heap}
def Cal (P : Program) (w : World) (K : PySem.W.Frag) (mg : Str → Option Value) (base : Heap) (k : Nat) (x : Str) (ps : List Str) (sp : Sp) : Prop :=
  ∃ (f : Addr) (fd : FuncData), mg x = some (.ref f) ∧ PySem.W.keepIn K (.ref f) = true ∧ Binds K fd ps [] ∧ FnOk P w K mg base CX0 k f fd ps sp
def Mth (P : Program) (w : World) (K : PySem.W.Frag) (mg : Str → Option Value) (base : Heap) (k : Nat) (c m : Str) (ps : List Str) (sp : Sp) : Prop :=
  ∃ (f : Addr) (fd : FuncData), Meth K (He.ga K c) m f ∧ Binds K fd ps [] ∧ FnOk P w K mg base CX0 k f fd ps sp
def Ini (P : Program) (w : World) (K : PySem.W.Frag) (mg : Str → Option Value) (base : Heap) (k : Nat) (c : Str) (ps : List Str) (sp : Sp) : Prop :=
  ∃ (f : Addr) (fd : FuncData), Mk K (He.ga K c) f ∧ Binds K fd ps [] ∧ FnOk P w K mg base CX0 k f fd ps sp
/-- a def's body, from the entry -/
abbrev Body (P : Program) (w : World) (K : PySem.W.Frag) (mg : Str → Option Value) (base : Heap) (k : Nat) (N : List Str) (qual : Str) (st : Stmt) (f : Addr) (sp : Sp) : Prop :=
  ∀ (cdv : Value) (A : Around) (outer : List Env) (s : Shared) (H : Hp) (vs : List V) (Q : VK) (E : XK), Room k (A.deeper (envOfC qual (defScope st) s.heap.objs.size f cdv)) → sp vs H Q E →
    ∃ t, PSs (cxOf CX0 P w K mg base N qual (defScope st) f cdv A outer s H E).nox (defBody st) t ∧ t { nx := fun _ H' => Q .non H', rt := Q } (start N vs) H
theorem fn_by {x qual : Str} {st : Stmt} {f : Addr} {fd : FuncData} {N ps : List Str} {k : Nat} {sp : Sp} (F : FunD K x qual (defArgs st) (defBody st) (defScope st) [] [] f fd) (S : FnScope N ps (defScope st))
    (len : ∀ vs H Q E, sp vs H Q E → vs.length = ps.length) (hb : Body P w K mg base k N qual st f sp) : FnOk P w K mg base CX0 (k + 1) f fd ps sp :=
  F.ok S len fun cdv A outer s H vs Q E hr h => let ⟨t, h1, h2⟩ := hb cdv A outer s H vs Q E hr h; ⟨t, h1.nox, h2⟩
abbrev BindF (x qual : Str) (st : Stmt) (ps : List Str) : Prop := ∀ (kV doc pm : Value) (an : Option Addr) (cdv ct : Value) (us : List Value), us.length = ps.length →
  bindArgs (PySem.W.fnOf x qual (defArgs st) (defBody st) (defScope st) .none kV doc pm an cdv ct) ⟨us, []⟩ = pure (ps.zip us)
theorem cal_of {x : Str} {st : Stmt} {N ps : List Str} {k : Nat} {sp : Sp} (g : mg x = some (.ref (He.ga K x))) (F : ∃ fd, FunD K x x (defArgs st) (defBody st) (defScope st) [] [] (He.ga K x) fd) (S : FnScope N ps (defScope st))
    (hb : BindF x x st ps) (len : ∀ vs H Q E, sp vs H Q E → vs.length = ps.length) (ok : ∀ f, Body P w K mg base k N x st f sp) : Cal P w K mg base (k + 1) x ps sp := by
  obtain ⟨fd, F⟩ := F
  exact ⟨_, fd, g, F.kp, F.bindsN hb, fn_by F S len (ok _)⟩
theorem mth_of {c m qual : Str} {st : Stmt} {N ps : List Str} {k : Nat} {sp : Sp} (g : Meth K (He.ga K c) m (He.ma K (He.ga K c) m)) (F : ∃ fd, FunD K m qual (defArgs st) (defBody st) (defScope st) [] [] (He.ma K (He.ga K c) m) fd) (S : FnScope N ps (defScope st))
    (hb : BindF m qual st ps) (len : ∀ vs H Q E, sp vs H Q E → vs.length = ps.length) (ok : ∀ f, Body P w K mg base k N qual st f sp) : Mth P w K mg base (k + 1) c m ps sp := by
  obtain ⟨fd, F⟩ := F
  exact ⟨_, fd, g, F.bindsN hb, fn_by F S len (ok _)⟩
theorem ini_of {c qual : Str} {st : Stmt} {N ps : List Str} {k : Nat} {sp : Sp} (g : Mk K (He.ga K c) (He.ma K (He.ga K c) "__init__")) (F : ∃ fd, FunD K "__init__" qual (defArgs st) (defBody st) (defScope st) [] [] (He.ma K (He.ga K c) "__init__") fd) (S : FnScope N ps (defScope st))
    (hb : BindF "__init__" qual st ps) (len : ∀ vs H Q E, sp vs H Q E → vs.length = ps.length) (ok : ∀ f, Body P w K mg base k N qual st f sp) : Ini P w K mg base (k + 1) c ps sp := by
  obtain ⟨fd, F⟩ := F
  exact ⟨_, fd, g, F.bindsN hb, fn_by F S len (ok _)⟩
end
/-! ### rules with the written part said (a comprehension's block sees it by a longer road) -/
section
variable {X : Cx}
theorem pe_fldK (K : PySem.W.Frag) {o : Expr} {f : Str} {pos : Pos} {ta : TE} (he : PE X o ta) (hb : attributeBase o f X.env (eval o X.env) = eval o X.env) (hK : X.K = K := by rfl) : PE X (.Attribute o f pos) (tFld K ta f) := by
  subst hK; exact pe_fld he hb
theorem ix_listK (K : PySem.W.Frag) (hK : X.K = K := by rfl) : IxR X (rIxL K) := by subst hK; exact ix_list
theorem ix_tupK (K : PySem.W.Frag) (hK : X.K = K := by rfl) : IxR X (rIxT K) := by subst hK; exact ix_tup
theorem op_in_seqK (K : PySem.W.Frag) (hK : X.K = K := by rfl) : OpR X (compareOp .In) (rIn K false) := by subst hK; exact op_in_seq
theorem op_notIn_seqK (K : PySem.W.Frag) (hK : X.K = K := by rfl) : OpR X (compareOp .NotIn) (rIn K true) := by subst hK; exact op_notIn_seq
theorem sl_listK (K : PySem.W.Frag) (hK : X.K = K := by rfl) : SlR X (rSlL K) := by subst hK; exact sl_list
theorem call_lenK (K : PySem.W.Frag) (hK : X.K = K := by rfl) : CallR X (.builtin "len") (fun xs H Q => ∃ x n, xs = [x] ∧ LenV K x H n ∧ Q (.int n) H) := by subst hK; exact call_len
theorem cr_minK (K : PySem.W.Frag) (hc : X.calm = true) (hK : X.K = K := by rfl) : CallR X (.builtin "min") (rMin K) := by subst hK; exact cr_min hc
theorem cr_maxK (K : PySem.W.Frag) (hc : X.calm = true) (hK : X.K = K := by rfl) : CallR X (.builtin "max") (rMax K) := by subst hK; exact cr_max hc
theorem isiK (K : PySem.W.Frag) (hK : X.K = K := by rfl) : CallR X (.builtin "isinstance") (rIsi K) := by subst hK; exact call_isi
theorem call_list_ofK (K : PySem.W.Frag) (hK : X.K = K := by rfl) : CallR X (.type "list") (fun xs H Q => ∃ p ys, xs = [.ref p] ∧ (SqL K H p ys ∨ SqT K H p ys) ∧ ∀ l, H l = none → Q (.ref l) (upd H l (.lst ys))) := by subst hK; exact call_list_of
theorem pi_listK (K : PySem.W.Frag) {tg l : Expr} {tl : TE} (hl : PE X l tl) (hK : X.K = K := by rfl) : PI X tg l (iList K tl) := by subst hK; exact pi_list hl
theorem pg_tupK (K : PySem.W.Frag) {es : List Expr} {k : Nat} {t : TGs} {n : Nat} {pos : Pos} (hc : X.calm = true) (h : PGs X es t) (hK : X.K = K := by rfl)
    (hn : (assignEach es X.env).length = n := by rfl) (hs : (assignEach es X.env).findIdx? (·.1) = none := by rfl) : PG X (.Tuple es k pos) (gTup K n t) := by
  subst hK; exact pg_tup hc h hn hs
theorem bmK (K : PySem.W.Frag) {T : String} {r : V → List V → Hp → VK → Prop} {to : TE} {t : TA} {e : Expr} (h : PE X e (tBM X.K T r to t)) (hK : X.K = K := by rfl) : PE X e (tBM K T r to t) := by subst hK; exact h
end
/-! ### heaps -/
/-- all but these is as it was -/
def Off (L : List Addr) (H H' : Hp) : Prop := ∀ c o, H c = some o → c ∉ L → H' c = some o
theorem Off.of {L : List Addr} {H H' : Hp} (s : Same H H') : Off L H H' := fun c o h _ => s c o h
theorem Off.refl (L : List Addr) (H : Hp) : Off L H H := fun _ _ h _ => h
theorem Off.trans {L : List Addr} {H H1 H2 : Hp} (a : Off L H H1) (b : Off L H1 H2) : Off L H H2 := fun c o h n => b c o (a c o h n) n
theorem Off.mono {L L' : List Addr} {H H' : Hp} (a : Off L H H') (h : ∀ x ∈ L, x ∈ L') : Off L' H H' := fun c o e n => a c o e fun m => n (h _ m)
theorem Off.fresh {L : List Addr} {H H0 H' : Hp} (a : Off L H H') (s : Same H0 H) (h : ∀ x ∈ L, H0 x = none) : Same H0 H' := fun c o e => a c o (s c o e) fun m => by rw [h c m] at e; cases e
theorem _root_.L2.Same.upd {H : Hp} {p : Addr} {o : HO} (h : H p = none) : Same H (L2.upd H p o) := fun c u e => by rw [upd_ne (ne_of_none e h)]; exact e
theorem Off.upd {L : List Addr} {H : Hp} {p : Addr} {o : HO} (h : p ∈ L) : Off L H (L2.upd H p o) := fun c u e n => by rw [upd_ne (fun z : c = p => n (by rw [z]; exact h))]; exact e
theorem _root_.L2.Same.seqT {K : PySem.W.Frag} {H H' : Hp} {a : Addr} {xs : List V} (e : Same H H') (h : SqT K H a xs) : SqT K H' a xs := by
  rcases h with (h | ⟨o, h⟩) | h
  · exact .inl (.inl (e _ _ h))
  · exact .inl (.inr ⟨o, e _ _ h⟩)
  · exact .inr h
/-! ### loops -/
theorem for_gen {J : It} {n : Nat} {g : TG} {tb : TS} {D : Ends} {σ : L2.St} {H : Hp} (Pv : Nat → L2.St → Hp → Prop) (h0 : Pv 0 σ H) (hg : ∀ i σ H, i < n → Pv i σ H → J.go i H) (hst : ∀ σ H, Pv n σ H → J.stop n H)
    (hs : ∀ i x σ H H', i < n → Pv i σ H → J.yld i H x H' → g x σ H' fun σ2 H2 => tb { D with nx := Pv (i + 1), ct := Pv (i + 1), bk := D.nx } σ2 H2) (hd : ∀ σ H, Pv n σ H → D.nx σ H) :
    ∃ W : Nat → Nat → L2.St → Hp → Prop, (∃ m, W 0 m σ H) ∧ ∀ i m σ H, W i m σ H →
      (J.stop i H ∧ D.nx σ H) ∨ (J.go i H ∧ ∃ N : L2.St → Hp → Prop, (∀ σ' H', N σ' H' → ∃ m', m' < m ∧ W (i + 1) m' σ' H') ∧ ∀ x H', J.yld i H x H' → g x σ H' fun σ2 H2 => tb { D with nx := N, ct := N, bk := D.nx } σ2 H2) := by
  refine ⟨fun i m σ H => m = n - i ∧ i ≤ n ∧ Pv i σ H, ⟨n, by simp, Nat.zero_le _, h0⟩, ?_⟩
  rintro i m σ H ⟨rfl, hi, p⟩
  by_cases hlt : i < n
  · exact .inr ⟨hg i σ H hlt p, Pv (i + 1), fun σ' H' p' => ⟨n - (i + 1), by omega, rfl, hlt, p'⟩, fun x H' y => hs i x σ H H' hlt p y⟩
  · have e : i = n := by omega
    subst e
    exact .inl ⟨hst σ H p, hd σ H p⟩
theorem lc_gen {J : It} {n : Nat} {g : TG} {tt : TT} {te : TE} {vs : List Nat} {σ : L2.St} {H1 : Hp} {D : Addr} {Qd : Hp → Prop} (Pv : Nat → Hp → Prop) (h0 : Pv 0 (upd H1 D (.lst []))) (hg : ∀ i H, i < n → Pv i H → J.go i H) (hst : ∀ H, Pv n H → J.stop n H)
    (hs : ∀ i x H H', i < n → Pv i H → J.yld i H x H' → g x (wipe σ vs) H' fun σ2 H2 => wipe σ2 vs = wipe σ vs ∧ tt σ2 H2 fun b H3 =>
      if b = true then te σ2 H3 fun y H4 => ∃ acc, H4 D = some (.lst acc) ∧ acc.length < sizeLine ∧ Pv (i + 1) (upd H4 D (.lst (acc ++ [y]))) else Pv (i + 1) H3) (hd : ∀ H, Pv n H → Qd H) :
    ∃ W : Nat → Nat → Hp → Prop, (∃ m, W 0 m (upd H1 D (.lst []))) ∧ ∀ i m H, W i m H →
      (J.stop i H ∧ Qd H) ∨ (J.go i H ∧ ∃ Nx : Hp → Prop, (∀ H', Nx H' → ∃ m', m' < m ∧ W (i + 1) m' H') ∧ ∀ x H', J.yld i H x H' → g x (wipe σ vs) H' fun σ2 H2 => wipe σ2 vs = wipe σ vs ∧ tt σ2 H2 fun b H3 =>
        if b = true then te σ2 H3 fun y H4 => ∃ acc, H4 D = some (.lst acc) ∧ acc.length < sizeLine ∧ Nx (upd H4 D (.lst (acc ++ [y]))) else Nx H3) := by
  refine ⟨fun i m H => m = n - i ∧ i ≤ n ∧ Pv i H, ⟨n, by simp, Nat.zero_le _, h0⟩, ?_⟩
  rintro i m H ⟨rfl, hi, p⟩
  by_cases hlt : i < n
  · exact .inr ⟨hg i H hlt p, Pv (i + 1), fun H' p' => ⟨n - (i + 1), by omega, rfl, hlt, p'⟩, fun x H' y => hs i x H H' hlt p y⟩
  · have e : i = n := by omega
    subst e
    exact .inl ⟨hst H p, hd H p⟩
theorem _root_.L2.Same.put {H H' : Hp} {p : Addr} {o : HO} (s : Same H H') (h : H p = none) : Same H (L2.upd H' p o) := fun c u e => by rw [upd_ne (ne_of_none e h)]; exact s c u e
theorem take_snoc {α : Type} {l : List α} {i : Nat} {x : α} (h : l[i]? = some x) : l.take (i + 1) = l.take i ++ [x] := by rw [List.take_succ, h]; rfl
/-- a comprehension over a list whose items are the e of ys: it keeps or drops, touches nothing -/
theorem lc_fm {α : Type} {e : α → V} {ys : List α} {K : PySem.W.Frag} {a : Addr} {g : TG} {tt : TT} {te : TE} {vs : List Nat} {σ : L2.St} {H1 : Hp} {D : Addr} {Qd : Hp → Prop} (f : α → Option V) (hD : H1 D = none) (hl : SqL K H1 a (ys.map e)) (hz : ys.length ≤ sizeLine)
    (hs : ∀ (i : Nat) (y : α) (H' : Hp) (C : Option V → Hp → Prop), ys[i]? = some y → Same H1 H' → (∀ r H4, Same H' H4 → r = f y → C r H4) → g (e y) (wipe σ vs) H' fun σ2 H2 => wipe σ2 vs = wipe σ vs ∧ tt σ2 H2 fun b H3 =>
      if b = true then te σ2 H3 fun y H4 => C (some y) H4 else C none H3)
    (hd : ∀ H', Same H1 H' → H' D = some (.lst (ys.filterMap f)) → Qd H') :
    ∃ W : Nat → Nat → Hp → Prop, (∃ m, W 0 m (upd H1 D (.lst []))) ∧ ∀ i m H, W i m H →
      ((Itl K a).stop i H ∧ Qd H) ∨ ((Itl K a).go i H ∧ ∃ Nx : Hp → Prop, (∀ H', Nx H' → ∃ m', m' < m ∧ W (i + 1) m' H') ∧ ∀ x H', (Itl K a).yld i H x H' → g x (wipe σ vs) H' fun σ2 H2 => wipe σ2 vs = wipe σ vs ∧ tt σ2 H2 fun b H3 =>
        if b = true then te σ2 H3 fun y H4 => ∃ acc, H4 D = some (.lst acc) ∧ acc.length < sizeLine ∧ Nx (upd H4 D (.lst (acc ++ [y]))) else Nx H3) := by
  refine lc_list (K := K) (a := a) (xs := ys.map e) (fun i H => Same H1 H ∧ H D = some (.lst ((ys.take i).filterMap f))) ⟨Same.upd hD, upd_same⟩ (fun i H _ ⟨s, _⟩ => s.seq hl) ?_ ?_
  · rintro i x H hx ⟨s, hDD⟩
    rw [List.getElem?_map] at hx
    cases ey : ys[i]? with
    | none => rw [ey] at hx; cases hx
    | some y =>
      rw [ey] at hx
      cases hx
      have hlt : i < ys.length := (List.getElem?_eq_some_iff.mp ey).1
      refine hs i y H (fun r H4 => match r with
        | some y => ∃ acc, H4 D = some (.lst acc) ∧ acc.length < sizeLine ∧ (Same H1 (upd H4 D (.lst (acc ++ [y]))) ∧ (upd H4 D (.lst (acc ++ [y]))) D = some (.lst ((ys.take (i + 1)).filterMap f)))
        | none => Same H1 H4 ∧ H4 D = some (.lst ((ys.take (i + 1)).filterMap f))) ey s ?_
      intro r H4 s4 er
      cases r with
      | none =>
        refine ⟨s.trans s4, ?_⟩
        rw [take_snoc ey, List.filterMap_append, List.filterMap_cons, ← er, List.filterMap_nil, List.append_nil]
        exact s4 _ _ hDD
      | some v =>
        refine ⟨_, s4 _ _ hDD, ?_, (s.trans s4).put hD, ?_⟩
        · have := List.length_filterMap_le f (ys.take i)
          rw [List.length_take] at this
          omega
        · rw [upd_same, take_snoc ey, List.filterMap_append, List.filterMap_cons, ← er, List.filterMap_nil]
  · rintro H ⟨s, hDD⟩
    rw [List.length_map, List.take_length] at hDD
    exact hd H s hDD
/-- over a range, no test -/
theorem lc_rg {n : Nat} {g : TG} {te : TE} {vs : List Nat} {σ : L2.St} {H1 : Hp} {D : Addr} {Qd : Hp → Prop} (f : Nat → V) (hD : H1 D = none) (hz : n ≤ sizeLine)
    (hs : ∀ (i : Nat) (H' : Hp) (C : V → Hp → Prop), i < n → Same H1 H' → (∀ H4, Same H' H4 → C (f i) H4) → g (.int (0 + (i : Int))) (wipe σ vs) H' fun σ2 H2 => wipe σ2 vs = wipe σ vs ∧ te σ2 H2 fun y H4 => C y H4)
    (hd : ∀ H', Same H1 H' → H' D = some (.lst ((List.range n).map f)) → Qd H') :
    ∃ W : Nat → Nat → Hp → Prop, (∃ m, W 0 m (upd H1 D (.lst []))) ∧ ∀ i m H, W i m H →
      ((Itr 0 n).stop i H ∧ Qd H) ∨ ((Itr 0 n).go i H ∧ ∃ Nx : Hp → Prop, (∀ H', Nx H' → ∃ m', m' < m ∧ W (i + 1) m' H') ∧ ∀ x H', (Itr 0 n).yld i H x H' → g x (wipe σ vs) H' fun σ2 H2 => wipe σ2 vs = wipe σ vs ∧ tYes σ2 H2 fun b H3 =>
        if b = true then te σ2 H3 fun y H4 => ∃ acc, H4 D = some (.lst acc) ∧ acc.length < sizeLine ∧ Nx (upd H4 D (.lst (acc ++ [y]))) else Nx H3) := by
  refine lc_range (lo := 0) (n := n) (tt := tYes) (fun i H => Same H1 H ∧ H D = some (.lst ((List.range i).map f))) ⟨Same.upd hD, upd_same⟩ ?_ ?_
  · rintro i H hi ⟨s, hDD⟩
    have := hs i H (fun y H4 => ∃ acc, H4 D = some (.lst acc) ∧ acc.length < sizeLine ∧ (Same H1 (upd H4 D (.lst (acc ++ [y]))) ∧ (upd H4 D (.lst (acc ++ [y]))) D = some (.lst ((List.range (i + 1)).map f)))) hi s ?_
    · simpa only [tYes, if_pos] using this
    · intro H4 s4
      refine ⟨_, s4 _ _ hDD, by rw [List.length_map, List.length_range]; omega, (s.trans s4).put hD, ?_⟩
      rw [upd_same, List.range_succ, List.map_append]; rfl
  · rintro H ⟨s, hDD⟩
    exact hd H s hDD
theorem ifB {b : Bool} {A B : Prop} (h1 : b = true → A) (h2 : b = false → B) : if b = true then A else B := by
  cases b
  · rw [if_neg Bool.false_ne_true]; exact h2 rfl
  · rw [if_pos rfl]; exact h1 rfl
theorem ifT {b : Bool} {A B : Prop} (h : b = true) (h1 : A) : if b = true then A else B := by rw [if_pos h]; exact h1
theorem ifF {b : Bool} {A B : Prop} (h : b = false) (h1 : B) : if b = true then A else B := by rw [h, if_neg Bool.false_ne_true]; exact h1
theorem ifTd {c A B : Prop} [Decidable c] (h : c) (h1 : A) : if decide c = true then A else B := ifT (decide_eq_true h) h1
theorem ifFd {c A B : Prop} [Decidable c] (h : ¬ c) (h1 : B) : if decide c = true then A else B := ifF (decide_eq_false h) h1
end DH

set_option maxHeartbeats 0
namespace DH
open PySem PySem.Spec PyProof.Rows L2 TL
def names0 : List PySem.Str := ["__name__", "left_out", "members", "seats", "waiting", "may_grow", "class_stand", "LandError", "NoText", "OutOfBound", "Taken", "NoPerson", "Gone", "TooDeep", "near_of", "unborn", "atom_stand", "stand", "whole_need", "row_stand", "LETTERS", "FIGURES", "BARRED", "DEEPEST", "good_word", "number_of", "parts", "joined", "Lives", "steps"]
def names1 : List PySem.Str := ["named", "first_end", "atom_late", "class_late", "hanging", "is_late", "measure", "wanted", "years_of", "story", "judged", "World", "_law_num", "_law_cell_at", "_law_rich", "_law_word", "_law_model", "_law_kids", "_law_living", "_law_play", "_law_next_deed", "_law_start", "_law_do", "_law_path", "_law_need", "_law_needs", "_law_near", "_law_age", "_law_atom", "_law_fold"]
def names2 : List PySem.Str := ["_law_members", "_law_young", "_law_seated", "_law_class", "_law_whole", "_law_out", "_law_holder", "_law_judged_row", "_law_good", "_law_again", "_law_hangs"]
def names : List PySem.Str := names0 ++ names1 ++ names2
abbrev RR : PySem.W.OpenRow := PySem.W.OpenLaw.row PySem.Challenge.rw_deadhand_k24_whole_late_story_hangs
abbrev AlB : Type := He.AlD × Bool
def obsB (K : PySem.W.Frag) : AlB := (He.obsD fa fn K, He.tupB K "BARRED" barred)
/-- the module's own names and what they reach -/
def asB (g : Addr → Option Obj) : List Addr := mainGlobals :: He.growD g (He.growD g (He.growD g ((("law" : PySem.Str) :: names).map (fun x => He.ga (He.frG g [mainGlobals]) x))))
def obsBG (g : Addr → Option Obj) : AlB := obsB (He.frG g (asB g))
def valB : AlB := (He.valD fn, true)
def hookB : PySem.W.Hook where
  α := AlB
  obs := fun s => obsBG s.heap.get?
  val := fun _ => valB
  says := fun _ h => ∃ K : PySem.W.Frag, K.In h ∧ obsB K = valB
  of := fun _ _ e => ⟨_, He.frG_in, e⟩
  keeps := fun _ _ _ ⟨K, hK, c⟩ k => ⟨K, PySem.W.Frag.In.keeps hK k, c⟩
def ob (s : PySem.W.SharedT) : AlB := obsBG (HandSHeadRun.getT s)
theorem ob_eq (s : PySem.W.SharedT) : ob s = hookB.obs s.abs := by
  have e : HandSHeadRun.getT s = s.abs.heap.get? := funext fun a => HandSHeadRun.getT_eq s a
  unfold ob
  rw [e]; rfl
theorem run (w : World) : HandSHeadRun.RunEq RR (PySem.W.view RR.prog [78]) hookB ob 6000 names w := by
  intro os
  kernel_rfl
end DH

set_option maxHeartbeats 4000000
namespace DH
open PySem PySem.Spec PyProof.Rows L2 TL
section
variable {P : Program} {w : World} {K : PySem.W.Frag} {mg : Str → Option Value} {base : Heap}
def sp_good_word : Sp := fun vs H Q _ => ∃ z : Str, vs = [.str z] ∧ goodW z = true ∧ Q (.bl true) H
theorem str1_in (c : Nat) (h : 97 ≤ c ∧ c ≤ 122) : c ∈ (("abcdefghijklmnopqrstuvwxyz" : Str)).cps.toList := by
  have e : (("abcdefghijklmnopqrstuvwxyz" : Str)).cps.toList = List.range' 97 26 := by decide +kernel
  rw [e, List.mem_range'_1]
  omega
theorem sc_good_word : FnScope ["word", "sign"] ["word"] (defScope s_good_word) :=
  ⟨rfl, rfl, rfl, by decide +kernel, rfl, by decide +kernel, by decide +kernel⟩
theorem ok_good_word (T : Txt K mg) : Cal P w K mg base 1 "good_word" ["word"] sp_good_word := by
  refine cal_of T.g_good_word T.f_good_word sc_good_word (fun _ _ _ _ _ _ us hl => match us, hl with | [_], _ => rfl) (fun vs H Q E h => ?_) (fun f cdv A outer s H vs Q E hr h => ?_)
  · obtain ⟨z, rfl, _⟩ := h; rfl
  · obtain ⟨z, rfl, hz, k⟩ := h
    refine ⟨_, (pss_cons (ps_if (PW.pt (pw_or (pt_cmpR op_lt (pe_callB (call_lenK K) (by rfl) T.b_len PySem.boot_len (pa_cons (pv 0) pa_nil)) pe_int (nomark _)) (pw_or (pt_cmpR op_gt (pe_callB (call_lenK K) (by rfl) T.b_len PySem.boot_len (pa_cons (pv 0) pa_nil)) pe_int (nomark _)) (pw_or1 (pt_cmpR (op_in_seqK K) (pv 0) (T.q_BARRED.pe rfl) rfl))))) (pss_one (ps_ret pe_bl)) pss_nil)
        (pss_cons (ps_for PassesOwn.never rfl (pi_str (pv 0)) (pg_name (i := 1) sc_good_word.nd rfl (by first | exact Or.inl rfl | exact Or.inr rfl)) (pss_one (ps_if (pt_cmpR op_notIn_sign (pv 1) (T.q_LETTERS.pe rfl) rfl) (pss_one (ps_ret pe_bl)) pss_nil)))
        (pss_one (ps_ret pe_bl)))), ?_⟩
    have h1 := goodW_len1 hz
    have h8 := goodW_len8 hz
    have hl : z.length ≤ sizeLine := by rw [sizeLine_eq]; omega
    refine ⟨_, rfl, _, _, rfl, ⟨hl, rfl⟩, _, _, rfl, rfl, _, rfl, ifFd (by omega) ?_⟩
    refine ⟨_, rfl, _, _, rfl, ⟨hl, rfl⟩, _, _, rfl, rfl, _, rfl, ifFd (by omega) ?_⟩
    refine ⟨_, rfl, _, _, rfl, .inr (T.bars H), rfl, rfl, _, rfl, ifF ?_ ?_⟩
    · show inV (.str z) [V.str "crown", V.str "kids"] = false
      have a1 := goodW_crown hz
      have a2 := goodW_kids hz
      simp [inV, eqV, Ne.symm a1, Ne.symm a2]
    refine ⟨_, rfl, _, rfl, for_gen (n := z.cps.size) (fun i σ H' => ∃ v, σ = [some (.str z), v] ∧ H' = H) ⟨none, rfl, rfl⟩ (fun i σ H' hi _ => hi) (fun σ H' _ => Nat.le_refl _) ?_ ?_⟩
    · rintro i x σ H' H'' hi ⟨v, rfl, rfl⟩ ⟨rfl, c, hc, rfl⟩
      refine ⟨_, rfl, _, _, rfl, rfl, _, rfl, ifF ?_ ?_⟩
      · have : c ∈ tl z := by
          have := Array.mem_of_getElem? hc
          exact Array.mem_toList_iff.mpr this
        rw [decide_eq_true (str1_in c (goodW_let hz c this))]; rfl
      · exact ⟨_, rfl, rfl⟩
    · rintro σ H' ⟨v, rfl, rfl⟩
      exact k
end
end DH

namespace DH
open PySem PySem.Spec PyProof.Rows L2 TL
section
variable {P : Program} {w : World} {K : PySem.W.Frag} {mg : Str → Option Value} {base : Heap}
def Two (n : Nm) : Prop := n.l.length ≤ 5 ∧ ∀ i ∈ n.l, 1 ≤ i ∧ i ≤ 99
def partsV (n : Nm) : List V := .str n.w.s :: n.l.map fun i : Nat => V.int (i : Int)
theorem partsV_len (n : Nm) : (partsV n).length = n.l.length + 1 := by unfold partsV; simp
theorem small {n k : Nat} (h : n ≤ k) (hk : k ≤ 1000000) : n ≤ sizeLine := by rw [sizeLine_eq]; omega
theorem small' {n k : Nat} (h : n ≤ k) (hk : k ≤ 1000000) : n < sizeLine := by rw [sizeLine_eq]; omega
theorem cut_tail (a : V) (r : List V) : cutV (a :: r) (some 1) none = r := by
  unfold cutV
  have e : HT.sIx (a :: r).length 0 (some 1) = 1 := by
    rw [show (1 : Int) = ((1 : Nat) : Int) from rfl, HT.sIx_nat, List.length_cons]; omega
  rw [e, HT.sIx_none]
  simp
theorem cut_last (xs : List V) : cutV xs none (some (-1)) = xs.dropLast := by
  unfold cutV
  have e : HT.sIx xs.length xs.length (some (-1)) = xs.length - 1 := by
    show (if (-1 : Int) < 0 then ((-1 : Int) + (xs.length : Int)).toNat else min (-1 : Int).toNat xs.length) = _
    rw [if_pos (by decide)]; omega
  rw [e, HT.sIx_none, List.drop_zero, Nat.sub_zero, List.dropLast_eq_take]
def sp_number_of : Sp := fun vs H Q _ => ∃ i : Nat, vs = [.str (num i), .int 2] ∧ 1 ≤ i ∧ i ≤ 99 ∧ Q (.int (i : Int)) H
theorem num_first : ∀ i, i < 100 → 1 ≤ i → (numL i)[0]? ≠ some 48 := by decide +kernel
theorem figs : (("0123456789" : Str)).cps.toList = List.range' 48 10 := by decide +kernel
theorem sc_number_of : FnScope ["figures", "most", "sign"] ["figures", "most"] (defScope s_number_of) :=
  ⟨rfl, rfl, rfl, by decide +kernel, rfl, by decide +kernel, by decide +kernel⟩
theorem ok_number_of (T : Txt K mg) : Cal P w K mg base 1 "number_of" ["figures", "most"] sp_number_of := by
  refine cal_of T.g_number_of T.f_number_of sc_number_of (fun _ _ _ _ _ _ us hl => match us, hl with | [_, _], _ => rfl) (fun vs H Q E h => ?_) (fun f cdv A outer s H vs Q E hr h => ?_)
  · obtain ⟨i, rfl, _⟩ := h; rfl
  · obtain ⟨i, rfl, h1, h9, k⟩ := h
    refine ⟨_, (pss_cons (ps_if (PW.pt (pw_or (pt_cmpR op_lt (pe_callB (call_lenK K) (by rfl) T.b_len PySem.boot_len (pa_cons (pv 0) pa_nil)) pe_int (nomark _)) (pw_or1 (pt_cmpR op_gt (pe_callB (call_lenK K) (by rfl) T.b_len PySem.boot_len (pa_cons (pv 0) pa_nil)) (pv 1) (nomark _))))) pss_never pss_nil)
        (pss_cons (ps_for PassesOwn.never rfl (pi_str (pv 0)) (pg_name (i := 2) sc_number_of.nd rfl (by first | exact Or.inl rfl | exact Or.inr rfl)) (pss_one (ps_if (pt_cmpR op_notIn_sign (pv 2) (T.q_FIGURES.pe rfl) rfl) pss_never pss_nil)))
        (pss_cons (ps_if (PW.pt (pw_and (pt_cmpR op_eq (pe_ix ix_str (pv 0) pe_int (fun _ _ => rfl)) pe_str (nomark _)) (pw_and1 (pt_cmpR op_gt (pe_callB (call_lenK K) (by rfl) T.b_len PySem.boot_len (pa_cons (pv 0) pa_nil)) pe_int (nomark _))))) pss_never pss_nil)
        (pss_one (ps_ret (pe_callTy call_int_str (by rfl) T.b_int (by decide +kernel) (pa_cons (pv 0) pa_nil))))))), ?_⟩
    have l1 := num_len1 i
    have l2 := num_len (i := i) (by omega)
    have hl : (num i).length ≤ sizeLine := small l2 (by decide)
    refine ⟨_, rfl, _, _, rfl, ⟨hl, rfl⟩, _, _, rfl, rfl, _, rfl, ifFd (by omega) ?_⟩
    refine ⟨_, rfl, _, _, rfl, ⟨hl, rfl⟩, _, rfl, _, _, rfl, rfl, _, rfl, ifFd (by omega) ?_⟩
    refine ⟨_, rfl, _, rfl, for_gen (n := (num i).cps.size) (fun j σ H' => ∃ v, σ = [some (.str (num i)), some (.int 2), v] ∧ H' = H) ⟨none, rfl, rfl⟩ (fun i σ H' hi _ => hi) (fun σ H' _ => Nat.le_refl _) ?_ ?_⟩
    · rintro j x σ H' H'' hj ⟨v, rfl, rfl⟩ ⟨rfl, c, hc, rfl⟩
      refine ⟨_, rfl, _, _, rfl, rfl, _, rfl, ifF ?_ ?_⟩
      · have m : c ∈ tl (num i) := Array.mem_toList_iff.mpr (Array.mem_of_getElem? hc)
        rw [tl_numS] at m
        have : c ∈ (("0123456789" : Str)).cps.toList := by
          rw [figs, List.mem_range'_1]
          have := numL_digits i c m
          omega
        rw [decide_eq_true this]; rfl
      · exact ⟨_, rfl, rfl⟩
    · rintro σ H' ⟨v, rfl, rfl⟩
      cases e : (numL i)[0]? with
      | none =>
        have := List.getElem?_eq_none_iff.mp e
        rw [len_tl, tl_numS] at l1
        omega
      | some c =>
        have hc : c ≠ 48 := fun z => num_first i (by omega) h1 (by rw [e, z])
        refine ⟨_, rfl, _, _, c, rfl, rfl, hl, ?_, rfl, _, rfl, ifFd ?_ (ifF rfl ?_)⟩
        · refine atI_nat (j := 0) ?_
          show (tl (num i))[0]? = some c
          rw [tl_numS, e]
        · intro z
          have z1 : (⟨#[c]⟩ : Str) = "0" := V.str.inj z
          have z2 := congrArg tl z1
          have z3 : tl ("0" : Str) = [48] := by decide +kernel
          rw [z3] at z2
          exact hc (List.cons.inj z2).1
        · refine ⟨_, rfl, _, _, rfl, int_num ?_, ?_, k⟩
          · rw [← tl_numS, ← len_tl]; omega
          · omega
def sp_parts : Sp := fun vs H Q _ => ∃ n : Nm, vs = [.str (enc n)] ∧ Two n ∧ ∀ H' p, Same H H' → H p = none → H' p = some (.lst (partsV n)) → Q (.ref p) H'
theorem Two.len {n : Nm} (h : Two n) : (enc n).length ≤ 58 := by
  have := enc_len n (fun i hi => by have := h.2 i hi; omega)
  have := h.1
  omega
theorem sc_parts : FnScope ["name", "pieces", "found", "piece", "number"] ["name"] (defScope s_parts) :=
  ⟨rfl, rfl, rfl, by decide +kernel, rfl, by decide +kernel, by decide +kernel⟩
theorem ok_parts (T : Txt K mg) : Cal P w K mg base 2 "parts" ["name"] sp_parts := by
  obtain ⟨f_number_of, fd_number_of, g_number_of, k_number_of, b_number_of, G_number_of⟩ := ok_number_of T
  obtain ⟨f_good_word, fd_good_word, g_good_word, k_good_word, b_good_word, G_good_word⟩ := ok_good_word T
  refine cal_of T.g_parts T.f_parts sc_parts (fun _ _ _ _ _ _ us hl => match us, hl with | [_], _ => rfl) (fun vs H Q E h => ?_) (fun f cdv A outer s H vs Q E hr h => ?_)
  · obtain ⟨i, rfl, _⟩ := h; rfl
  · obtain ⟨n, rfl, h2, k⟩ := h
    refine ⟨_, (pss_cons (ps_set (i := 1) sc_parts.nd rfl (by first | exact Or.inl rfl | exact Or.inr rfl) (pe_split (pv 0) pe_str))
        (pss_cons (ps_if (PW.pt (pw_or (pt_cmpR op_gt (pe_callB (call_lenK K) (by rfl) T.b_len PySem.boot_len (pa_cons (pv 1) pa_nil)) (T.q_DEEPEST.pe rfl) (nomark _)) (pw_or1 (pt_not (pt_val (pe_call G_good_word (hr.mono (by decide)) rfl g_good_word k_good_word b_good_word .nil pass0 (pa_cons (pe_ix (ix_listK K) (pv 1) pe_int (fun _ _ => rfl)) pa_nil))))))) pss_never pss_nil)
        (pss_cons (ps_set (i := 2) sc_parts.nd rfl (by first | exact Or.inl rfl | exact Or.inr rfl) (pe_lst (pa_cons (pe_ix (ix_listK K) (pv 1) pe_int (fun _ _ => rfl)) pa_nil)))
        (pss_cons (ps_for PassesOwn.never rfl (pi_listK K (pe_slice (sl_listK K) (pv 1) (po_some pe_int) po_none)) (pg_name (i := 3) sc_parts.nd rfl (by first | exact Or.inl rfl | exact Or.inr rfl)) (pss_cons (ps_set (i := 4) sc_parts.nd rfl (by first | exact Or.inl rfl | exact Or.inr rfl) (pe_call G_number_of (hr.mono (by decide)) rfl g_number_of k_number_of b_number_of .nil pass0 (pa_cons (pv 3) (pa_cons pe_int pa_nil))))
        (pss_cons (ps_if (pt_cmpR op_eq (pv 4) pe_int (nomark _)) pss_never pss_nil)
        (pss_one (ps_expr (bmK K (pe_bm PySem.F.plainAttrs_list PySem.F.slot_list_append PySem.F.type_list_append mt_append (pv 2) (pa_cons (pv 4) pa_nil))))))))
        (pss_one (ps_ret (pv 2))))))), ?_⟩
    have hL := h2.len
    have h5 := h2.1
    refine ⟨_, rfl, ⟨_, rfl⟩, _, _, rfl, rfl, by decide +kernel, small (k := 60) (by omega) (by decide), fun p hp => ?_⟩
    rw [split_enc]
    have s1 : Same H (upd H p (.lst ((n.w.s :: n.l.map num).map V.str))) := Same.upd hp
    have hpp : (upd H p (.lst ((n.w.s :: n.l.map num).map V.str))) p = some (.lst ((n.w.s :: n.l.map num).map V.str)) := upd_same
    generalize upd H p (.lst ((n.w.s :: n.l.map num).map V.str)) = H1 at s1 hpp
    refine ⟨_, rfl, _, _, rfl, .inl ⟨_, .of hpp, rfl⟩, _, _, rfl, rfl, _, rfl, ifFd ?_ ?_⟩
    · simp; omega
    refine ⟨_, rfl, _, _, _, _, rfl, rfl, .of hpp, atI_nat (j := 0) rfl, n.w.s, rfl, n.w.ok, _, rfl, iteF ?_⟩
    refine ⟨_, rfl, _, _, _, _, rfl, rfl, .of hpp, atI_nat (j := 0) rfl, small (k := 1) (Nat.le_refl _) (by decide), fun q hq => ?_⟩
    have hpq : p ≠ q := ne_of_none hpp hq
    refine ⟨_, rfl, _, rfl, _, _, rfl, .of (by rw [upd_ne hpq]; exact hpp), fun r hr' => ?_⟩
    have hqr : q ≠ r := fun z => by subst z; rw [upd_same] at hr'; cases hr'
    have hq1 : H1 r = none := by rw [upd_ne hqr.symm] at hr'; exact hr'
    have ec : cutV ((n.w.s :: n.l.map num).map V.str) (some 1) none = (n.l.map num).map V.str := cut_tail _ _
    rw [ec]
    refine ⟨r, rfl, ⟨_, .of upd_same⟩, for_list (K := K) (a := r) (xs := (n.l.map num).map V.str) (fun i σ H' => ∃ v w', σ = [some (.str (enc n)), some (.ref p), some (.ref q), v, w'] ∧ Same H1 H' ∧ H' r = some (.lst ((n.l.map num).map V.str)) ∧ H' q = some (.lst (.str n.w.s :: (n.l.take i).map fun i : Nat => V.int (i : Int)))) ?_ ?_ ?_ ?_⟩
    · exact ⟨none, none, rfl, (Same.upd hq).put hq1, upd_same, by rw [upd_ne hqr, upd_same]; rfl⟩
    · rintro i σ H' _ ⟨_, _, _, _, h, _⟩
      exact .of h
    · rintro i x σ H' hx ⟨v, w', rfl, s2, hr2, hq2⟩
      rw [List.getElem?_map, List.getElem?_map] at hx
      cases ei : n.l[i]? with
      | none => rw [ei] at hx; cases hx
      | some j =>
        rw [ei] at hx
        cases hx
        obtain ⟨j1, j9⟩ := h2.2 j (List.mem_of_getElem? ei)
        have hi : i < n.l.length := (List.getElem?_eq_some_iff.mp ei).1
        refine ⟨_, rfl, j, rfl, j1, j9, _, rfl, rfl, _, rfl, ifFd ?_ ?_⟩
        · intro z; have := V.int.inj z; omega
        refine ⟨_, rfl, .inl ⟨rfl, _, .of hq2⟩, _, rfl, _, _, _, rfl, rfl, hq2, small' (k := 10) (by simp; omega) (by decide), ?_⟩
        refine ⟨_, _, rfl, s2.put hq, ?_, ?_⟩
        · rw [upd_ne hqr.symm]; exact hr2
        · rw [upd_same, take_snoc ei, List.map_append]; rfl
    · rintro σ H' ⟨v, w', rfl, s2, hr2, hq2⟩
      refine ⟨_, rfl, k H' q (s1.trans s2) (s1.free hq) ?_⟩
      rw [hq2, List.length_map, List.length_map, List.take_length]; rfl
def sp_joined (K : PySem.W.Frag) : Sp := fun vs H Q _ => ∃ a n, vs = [.ref a] ∧ SqL K H a (partsV n) ∧ Two n ∧ ∀ H', Same H H' → Q (.str (enc n)) H'
theorem sum_le {l : List Nat} {k : Nat} (h : ∀ x ∈ l, x ≤ k) : l.sum ≤ l.length * k := by
  induction l with
  | nil => simp
  | cons a r ih =>
    have := ih fun x hx => h x (List.mem_cons_of_mem _ hx)
    have := h a (List.mem_cons_self ..)
    rw [List.sum_cons, List.length_cons, Nat.succ_mul]
    omega
def nmS (n : Nm) : List Str := n.w.s :: n.l.map num
def partV : Sum Wd Nat → V
  | .inl w => .str w.s
  | .inr i => .int (i : Int)
def partS : Sum Wd Nat → Option V
  | .inl w => some (.str w.s)
  | .inr i => some (.str (num i))
def prt (n : Nm) : List (Sum Wd Nat) := .inl n.w :: n.l.map Sum.inr
theorem prt_V (n : Nm) : (prt n).map partV = partsV n := by
  unfold prt partsV
  rw [List.map_cons, List.map_map]; rfl
theorem prt_S (n : Nm) : (prt n).filterMap partS = (nmS n).map V.str := by
  unfold prt nmS
  rw [List.filterMap_cons, List.map_cons]
  show V.str n.w.s :: _ = _
  congr 1
  rw [List.filterMap_map, List.map_map]
  show n.l.filterMap (some ∘ fun i => V.str (num i)) = _
  rw [List.filterMap_eq_map]; rfl
theorem sc_joined : FnScope ["pieces", "piece"] ["pieces"] (defScope s_joined) :=
  ⟨rfl, rfl, rfl, by decide +kernel, rfl, by decide +kernel, by decide +kernel⟩
theorem ok_joined (T : Txt K mg) : Cal P w K mg base 1 "joined" ["pieces"] (sp_joined K) := by
  refine cal_of T.g_joined T.f_joined sc_joined (fun _ _ _ _ _ _ us hl => match us, hl with | [_], _ => rfl) (fun vs H Q E h => ?_) (fun f cdv A outer s H vs Q E hr h => ?_)
  · obtain ⟨a, n, rfl, _⟩ := h; rfl
  · obtain ⟨a, n, rfl, hS, h2, k⟩ := h
    refine ⟨_, (pss_one (ps_ret (pe_join pe_str (pe_lc (own := [("piece", 1)]) rfl sc_joined.nd (pi_listK K (pv 0)) (blkOk_by (own := [("piece", 1)]) (N := ["pieces", "piece"]) (sc := defScope s_joined) (by decide +kernel)) (fun _ _ _ _ _ => pg_name (i := 1) sc_joined.nd rfl (Or.inl rfl)) (fun _ _ _ _ _ => pts_nil) (fun _ _ _ _ _ => (pe_callTy (CallR.or call_str_int SkE.call_str_str) (by rfl) T.b_str (by decide +kernel) (pa_cons (pv 1) pa_nil))))))), ?_⟩
    refine ⟨⟨_, rfl⟩, _, rfl, a, rfl, ⟨_, hS⟩, fun D hD => lc_fm (e := partV) (ys := prt n) (K := K) (a := a) partS hD (by rw [prt_V]; exact hS) (small (k := 6) ?_ (by decide)) ?_ ?_⟩
    · have := h2.1
      unfold prt; simp; omega
    · intro i y H' C hy s1 hC
      refine ⟨rfl, _, rfl, ?_⟩
      cases y with
      | inl w => exact .inr ⟨_, rfl, hC _ _ (Same.refl _) rfl⟩
      | inr i =>
        have : i ≤ 99 := by
          have m := List.mem_of_getElem? hy
          unfold prt at m
          rcases List.mem_cons.mp m with m | m
          · cases m
          · obtain ⟨j, hj, e⟩ := List.mem_map.mp m
            cases e
            exact (h2.2 _ hj).2
        exact .inl ⟨_, rfl, Nat.lt_of_le_of_lt (Nat.log2_le_self _) (by omega), hC _ _ (Same.refl _) rfl⟩
    · intro H' s1 hDD
      rw [prt_S] at hDD
      refine ⟨_, _, nmS n, rfl, rfl, .inl (.of hDD), ?_, ?_⟩
      · have h5 := h2.1
        have : ((nmS n).map (·.length)).sum ≤ ((nmS n).map (·.length)).length * 8 := sum_le fun x hx => by
          obtain ⟨z, hz, rfl⟩ := List.mem_map.mp hx
          rcases List.mem_cons.mp hz with rfl | hz
          · exact goodW_len8 n.w.ok
          · obtain ⟨j, hj, rfl⟩ := List.mem_map.mp hz
            have := num_len (i := j) (by have := h2.2 j hj; omega)
            omega
        have e1 : dot.length = 1 := by decide +kernel
        have e2 : (nmS n).length = n.l.length + 1 := by unfold nmS; simp
        rw [List.length_map] at this
        show _ + (nmS n).length * dot.length ≤ _
        rw [e1]
        omega
      · have e : Txt.join dot (nmS n) = enc n := by
          rw [join_eq, enc_join]; rfl
        show Q (.str (Txt.join dot (nmS n))) H'
        rw [e]
        exact k H' s1
end
end DH

namespace DH
open PySem PySem.Spec PyProof.Rows L2 TL
section
variable {P : Program} {w : World} {K : PySem.W.Frag} {mg : Str → Option Value} {base : Heap}
/-! ### where the program's world and people stand -/
structure WA where
  p : Addr
  px : Addr
  l : Addr
  lx : Addr
  b : Addr
  e : Addr
  m : Addr
  c : Addr
def fW (y : Int) (l c : Addr) : List (Str × V) := putF "came" (.ref c) (putF "lives" (.ref l) (putF "year" (.int y) []))
def fL (b e m : Addr) : List (Str × V) := putF "many" (.ref m) (putF "ended" (.ref e) (putF "begun" (.ref b) []))
theorem fW_no {y : Int} {l c : Addr} {x : Str} (h1 : x ≠ "year") (h2 : x ≠ "lives") (h3 : x ≠ "came") : (fW y l c).lookup x = none := by
  unfold fW; rw [lookup_putF, if_neg h3, lookup_putF, if_neg h2, lookup_putF, if_neg h1]; rfl
theorem fW_year {y : Int} {l c : Addr} : (fW y l c).lookup ("year" : Str) = some (.int y) := by
  unfold fW; rw [lookup_putF, if_neg (by decide +kernel), lookup_putF, if_neg (by decide +kernel), lookup_putF, if_pos rfl]
theorem fW_lives {y : Int} {l c : Addr} : (fW y l c).lookup ("lives" : Str) = some (.ref l) := by
  unfold fW; rw [lookup_putF, if_neg (by decide +kernel), lookup_putF, if_pos rfl]
theorem fW_came {y : Int} {l c : Addr} : (fW y l c).lookup ("came" : Str) = some (.ref c) := by
  unfold fW; rw [lookup_putF, if_pos rfl]
theorem fL_no {b e m : Addr} {x : Str} (h1 : x ≠ "begun") (h2 : x ≠ "ended") (h3 : x ≠ "many") : (fL b e m).lookup x = none := by
  unfold fL; rw [lookup_putF, if_neg h3, lookup_putF, if_neg h2, lookup_putF, if_neg h1]; rfl
theorem fL_begun {b e m : Addr} : (fL b e m).lookup ("begun" : Str) = some (.ref b) := by
  unfold fL; rw [lookup_putF, if_neg (by decide +kernel), lookup_putF, if_neg (by decide +kernel), lookup_putF, if_pos rfl]
theorem fL_ended {b e m : Addr} : (fL b e m).lookup ("ended" : Str) = some (.ref e) := by
  unfold fL; rw [lookup_putF, if_neg (by decide +kernel), lookup_putF, if_pos rfl]
theorem fL_many {b e m : Addr} : (fL b e m).lookup ("many" : Str) = some (.ref m) := by
  unfold fL; rw [lookup_putF, if_pos rfl]
theorem kk1 : ¬ ("year" : Str) = "came" := by decide +kernel
theorem kk2 : ¬ ("lives" : Str) = "came" := by decide +kernel
theorem kk3 : ¬ ("year" : Str) = "lives" := by decide +kernel
theorem kk4 : ¬ ("lives" : Str) = "year" := by decide +kernel
theorem kk5 : ¬ ("came" : Str) = "year" := by decide +kernel
theorem fW_eq (y : Int) (l c : Addr) : fW y l c = ([("year", V.int y), ("lives", V.ref l), ("came", V.ref c)] : List (Str × V)) := by
  unfold fW
  simp only [putF, if_neg kk1, if_neg kk2, if_neg kk3]
theorem fW_put (y z : Int) (l c : Addr) : putF "year" (.int z) (fW y l c) = fW z l c := by
  rw [fW_eq, fW_eq]
  simp only [putF, if_true]
theorem fW_len (y : Int) (l c : Addr) : (fW y l c).length = 3 := by rw [fW_eq]; rfl
def kM (m : M) : List (Key × V) := m.bo.map fun p => (Sum.inr (enc p.1), V.int (m.kc p.1 : Int))
structure LAt (K : PySem.W.Frag) (H : Hp) (A : WA) (m : M) : Prop where
  o : H A.l = some (.ins (He.ga K "Lives") A.lx (fL A.b A.e A.m))
  b : H A.b = some (.dK (kN m.bo))
  e : H A.e = some (.dK (kN m.de))
  mm : H A.m = some (.dK (kM m))
  be : A.b ≠ A.e
  bm : A.b ≠ A.m
  em : A.e ≠ A.m
  sz : m.size ≤ 10000
structure WAt (K : PySem.W.Frag) (H : Hp) (A : WA) (m : M) : Prop where
  o : H A.p = some (.ins (He.ga K "World") A.px (fW m.yr A.l A.c))
  l : LAt K H A m
  c : H A.c = some (.dK (kW m.ca))
  bc : A.b ≠ A.c
  ec : A.e ≠ A.c
  mc : A.m ≠ A.c
  pl : A.p ≠ A.l
theorem LAt.same {H H' : Hp} {A : WA} {m : M} (L : LAt K H A m) (s : Same H H') : LAt K H' A m :=
  ⟨s _ _ L.o, s _ _ L.b, s _ _ L.e, s _ _ L.mm, L.be, L.bm, L.em, L.sz⟩
theorem WAt.same {H H' : Hp} {A : WA} {m : M} (W : WAt K H A m) (s : Same H H') : WAt K H' A m :=
  ⟨s _ _ W.o, W.l.same s, s _ _ W.c, W.bc, W.ec, W.mc, W.pl⟩
theorem LAt.getB {H : Hp} {A : WA} {m : M} (L : LAt K H A m) (n : Nm) : DGet H A.b (.str (enc n)) ((lk m.bo n).map V.int) := by
  have := DGet.k (k := Sum.inr (enc n)) L.b
  rw [vN] at this; exact this
theorem LAt.getE {H : Hp} {A : WA} {m : M} (L : LAt K H A m) (n : Nm) : DGet H A.e (.str (enc n)) ((lk m.de n).map V.int) := by
  have := DGet.k (k := Sum.inr (enc n)) L.e
  rw [vN] at this; exact this
theorem vM (m : M) (n : Nm) (h : m.isB n = true) : valV (kM m) (Sum.inr (enc n)) = some (.int (m.kc n : Int)) := by
  have : ∀ l : List (Nm × Int), (lk l n).isSome = true → valV (l.map fun p => ((Sum.inr (enc p.1) : Key), V.int (m.kc p.1 : Int))) (Sum.inr (enc n)) = some (.int (m.kc n : Int)) := by
    intro l
    induction l with
    | nil => intro h; cases h
    | cons p r ih =>
      intro h
      rw [lk_cons] at h
      rw [List.map_cons]
      by_cases e : p.1 = n
      · rw [valV_pos (by show (Sum.inr (enc p.1) : Key) = _; rw [e]), e]
      · rw [valV_neg (fun z => e (key_inj.mp z))]
        rw [if_neg e] at h
        exact ih h
  exact this m.bo h
theorem LAt.getM {H : Hp} {A : WA} {m : M} (L : LAt K H A m) (n : Nm) (h : m.isB n = true) : DGet H A.m (.str (enc n)) (some (.int (m.kc n : Int))) := by
  have := DGet.k (k := Sum.inr (enc n)) L.mm
  rw [vM m n h] at this; exact this
theorem WAt.getC {H : Hp} {A : WA} {m : M} (W : WAt K H A m) (x : Wd) : DGet H A.c (.str x.s) ((lk m.ca x).map V.int) := by
  have := DGet.k (k := Sum.inr x.s) W.c
  rw [vW] at this; exact this
theorem mapSome (o : Option Int) : (o.map V.int).isSome = o.isSome := by cases o <;> rfl
/-! ### the nearest -/
def M.nearK (m : M) (w : Wd) (l : List Nat) : Nat → Option Nm
  | 0 => if m.isB ⟨w, []⟩ = true then some ⟨w, []⟩ else none
  | k + 1 => if m.isB ⟨w, l.take (k + 1)⟩ = true then some ⟨w, l.take (k + 1)⟩ else m.nearK w l k
def M.near (m : M) (n : Nm) : Option Nm := m.nearK n.w n.l n.l.length
theorem M.nearK_hit {m : M} {w : Wd} {l : List Nat} {k : Nat} (h : m.isB ⟨w, l.take k⟩ = true) : m.nearK w l k = some ⟨w, l.take k⟩ := by
  cases k with
  | zero => unfold M.nearK; rw [List.take_zero] at h ⊢; rw [if_pos h]
  | succ k => unfold M.nearK; rw [if_pos h]
theorem M.nearK_miss {m : M} {w : Wd} {l : List Nat} {k : Nat} {r : Nm} (h : m.isB ⟨w, l.take k⟩ = false) (hn : m.nearK w l k = some r) : ∃ j, k = j + 1 ∧ m.nearK w l j = some r := by
  cases k with
  | zero =>
    unfold M.nearK at hn; rw [List.take_zero] at h; rw [h] at hn; cases hn
  | succ k =>
    unfold M.nearK at hn; rw [h] at hn
    exact ⟨k, rfl, hn⟩
theorem partsV_drop {w : Wd} {l : List Nat} {j : Nat} (h : j + 1 ≤ l.length) : (partsV ⟨w, l.take (j + 1)⟩).dropLast = partsV ⟨w, l.take j⟩ := by
  unfold partsV
  have e : (List.map (fun i : Nat => V.int (i : Int)) (l.take (j + 1))) = List.map (fun i : Nat => V.int (i : Int)) (l.take j) ++ [V.int (l[j] : Int)] := by
    rw [take_snoc (List.getElem?_eq_getElem h), List.map_append]; rfl
  show (V.str w.s :: List.map (fun i : Nat => V.int (i : Int)) (l.take (j + 1))).dropLast = _
  rw [e, ← List.cons_append, List.dropLast_concat]
theorem Two.take {w : Wd} {l : List Nat} (h : Two ⟨w, l⟩) (k : Nat) : Two ⟨w, l.take k⟩ :=
  ⟨by have h1 : l.length ≤ 5 := h.1
      show (l.take k).length ≤ 5
      rw [List.length_take]; omega, fun i hi => h.2 i (List.mem_of_mem_take hi)⟩
/-! ### Lives -/
abbrev nmV (n : Nm) : V := .str (enc n)
def sp_known (K : PySem.W.Frag) : Sp := fun vs H Q _ => ∃ A m n, vs = [.ref A.l, nmV n] ∧ LAt K H A m ∧ Q (.bl (m.isB n)) H
theorem sc_Lives_known : FnScope ["self", "name"] ["self", "name"] (defScope s_Lives_known) :=
  ⟨rfl, rfl, rfl, by decide +kernel, rfl, by decide +kernel, by decide +kernel⟩
theorem ok_Lives_known (T : Txt K mg) : Mth P w K mg base 1 "Lives" "known" ["self", "name"] (sp_known K) := by
  refine mth_of T.m_Lives_known T.f_Lives_known sc_Lives_known (fun _ _ _ _ _ _ us hl => match us, hl with | [_, _], _ => rfl) (fun vs H Q E h => ?_) (fun f cdv A outer s H vs Q E hr h => ?_)
  · obtain ⟨A, m, n, rfl, _⟩ := h; rfl
  · obtain ⟨a, m, n, rfl, L, k⟩ := h
    have hu := hu_of hr
    refine ⟨_, (pss_one (ps_ret (pe_cmp (pc_din hu (pv 1) (pe_fldK K (pv 0) rfl))))), ?_⟩
    refine ⟨_, rfl, _, rfl, a.l, _, a.lx, _, _, rfl, L.o, T.c_Lives, T.n_begun, fL_begun, a.b, _, rfl, L.getB n, ?_⟩
    rw [mapSome]
    exact k
def sp_alive (K : PySem.W.Frag) : Sp := fun vs H Q _ => ∃ A m n, vs = [.ref A.l, nmV n] ∧ LAt K H A m ∧ Q (.bl (m.alive n)) H
theorem sc_Lives_alive : FnScope ["self", "name"] ["self", "name"] (defScope s_Lives_alive) :=
  ⟨rfl, rfl, rfl, by decide +kernel, rfl, by decide +kernel, by decide +kernel⟩
theorem ok_Lives_alive (T : Txt K mg) : Mth P w K mg base 1 "Lives" "alive" ["self", "name"] (sp_alive K) := by
  refine mth_of T.m_Lives_alive T.f_Lives_alive sc_Lives_alive (fun _ _ _ _ _ _ us hl => match us, hl with | [_, _], _ => rfl) (fun vs H Q E h => ?_) (fun f cdv A outer s H vs Q E hr h => ?_)
  · obtain ⟨A, m, n, rfl, _⟩ := h; rfl
  · obtain ⟨a, m, n, rfl, L, k⟩ := h
    have hu := hu_of hr
    refine ⟨_, (pss_one (ps_ret (pe_and (pe_cmp (pc_din hu (pv 1) (pe_fldK K (pv 0) rfl))) (pe_one (pe_cmp (pc_dnotin hu (pv 1) (pe_fldK K (pv 0) rfl))))))), ?_⟩
    refine ⟨_, rfl, _, rfl, a.l, _, a.lx, _, _, rfl, L.o, T.c_Lives, T.n_begun, fL_begun, a.b, _, rfl, L.getB n, _, rfl, ?_⟩
    rw [mapSome]
    unfold M.alive M.isB at k
    refine ifB (fun h => ?_) (fun h => ?_)
    · refine ⟨_, rfl, _, rfl, a.l, _, a.lx, _, _, rfl, L.o, T.c_Lives, T.n_ended, fL_ended, a.e, _, rfl, L.getE n, ?_⟩
      rw [mapSome]
      rw [h, Bool.true_and] at k
      exact k
    · rw [h, Bool.false_and] at k
      exact k
def sp_born_in (K : PySem.W.Frag) : Sp := fun vs H Q _ => ∃ A m n, vs = [.ref A.l, nmV n] ∧ LAt K H A m ∧ m.isB n = true ∧ Q (.int (m.born n)) H
theorem sc_Lives_born_in : FnScope ["self", "name"] ["self", "name"] (defScope s_Lives_born_in) :=
  ⟨rfl, rfl, rfl, by decide +kernel, rfl, by decide +kernel, by decide +kernel⟩
theorem ok_Lives_born_in (T : Txt K mg) : Mth P w K mg base 1 "Lives" "born_in" ["self", "name"] (sp_born_in K) := by
  refine mth_of T.m_Lives_born_in T.f_Lives_born_in sc_Lives_born_in (fun _ _ _ _ _ _ us hl => match us, hl with | [_, _], _ => rfl) (fun vs H Q E h => ?_) (fun f cdv A outer s H vs Q E hr h => ?_)
  · obtain ⟨A, m, n, rfl, _⟩ := h; rfl
  · obtain ⟨a, m, n, rfl, L, hb, k⟩ := h
    have hu := hu_of hr
    refine ⟨_, (pss_cons (ps_if (pt_cmp (pc_dnotin hu (pv 1) (pe_fldK K (pv 0) rfl))) pss_never pss_nil)
        (pss_one (ps_ret (pe_dget hu (pe_fldK K (pv 0) rfl) (pv 1) (fun _ _ => rfl))))), ?_⟩
    have g := L.getB n
    unfold M.isB at hb
    unfold M.born at k
    cases e : lk m.bo n with
    | none => rw [e] at hb; cases hb
    | some y =>
      rw [e] at g k
      refine ⟨_, rfl, _, rfl, a.l, _, a.lx, _, _, rfl, L.o, T.c_Lives, T.n_begun, fL_begun, a.b, _, rfl, g, _, rfl, ?_⟩
      exact ⟨_, rfl, a.l, _, a.lx, _, _, rfl, L.o, T.c_Lives, T.n_begun, fL_begun, _, rfl, a.b, _, rfl, g, k⟩
def optV (o : Option Int) : V := (o.map V.int).getD .non
def sp_died_in (K : PySem.W.Frag) : Sp := fun vs H Q _ => ∃ A m n, vs = [.ref A.l, nmV n] ∧ LAt K H A m ∧ m.isB n = true ∧ Q (optV (lk m.de n)) H
theorem sc_Lives_died_in : FnScope ["self", "name"] ["self", "name"] (defScope s_Lives_died_in) :=
  ⟨rfl, rfl, rfl, by decide +kernel, rfl, by decide +kernel, by decide +kernel⟩
theorem ok_Lives_died_in (T : Txt K mg) : Mth P w K mg base 1 "Lives" "died_in" ["self", "name"] (sp_died_in K) := by
  refine mth_of T.m_Lives_died_in T.f_Lives_died_in sc_Lives_died_in (fun _ _ _ _ _ _ us hl => match us, hl with | [_, _], _ => rfl) (fun vs H Q E h => ?_) (fun f cdv A outer s H vs Q E hr h => ?_)
  · obtain ⟨A, m, n, rfl, _⟩ := h; rfl
  · obtain ⟨a, m, n, rfl, L, hb, k⟩ := h
    have hu := hu_of hr
    refine ⟨_, (pss_cons (ps_if (pt_cmp (pc_dnotin hu (pv 1) (pe_fldK K (pv 0) rfl))) pss_never pss_nil)
        (pss_one (ps_ret (pe_dget1 hu (pe_fldK K (pv 0) rfl) (pv 1) ⟨rfl, rfl, rfl, rfl⟩)))), ?_⟩
    have g := L.getB n
    unfold M.isB at hb
    cases e : lk m.bo n with
    | none => rw [e] at hb; cases hb
    | some y =>
      rw [e] at g
      refine ⟨_, rfl, _, rfl, a.l, _, a.lx, _, _, rfl, L.o, T.c_Lives, T.n_begun, fL_begun, a.b, _, rfl, g, _, rfl, ?_⟩
      exact ⟨_, rfl, a.l, _, a.lx, _, _, rfl, L.o, T.c_Lives, T.n_ended, fL_ended, a.e, rfl, .inl ⟨_, .of L.e⟩, _, rfl, _, L.getE n, k⟩
def sp_must_live (K : PySem.W.Frag) : Sp := fun vs H Q _ => ∃ A m n, vs = [.ref A.l, nmV n] ∧ LAt K H A m ∧ m.alive n = true ∧ Q .non H
theorem sc_Lives_must_live : FnScope ["self", "name"] ["self", "name"] (defScope s_Lives_must_live) :=
  ⟨rfl, rfl, rfl, by decide +kernel, rfl, by decide +kernel, by decide +kernel⟩
theorem ok_Lives_must_live (T : Txt K mg) : Mth P w K mg base 1 "Lives" "must_live" ["self", "name"] (sp_must_live K) := by
  refine mth_of T.m_Lives_must_live T.f_Lives_must_live sc_Lives_must_live (fun _ _ _ _ _ _ us hl => match us, hl with | [_, _], _ => rfl) (fun vs H Q E h => ?_) (fun f cdv A outer s H vs Q E hr h => ?_)
  · obtain ⟨A, m, n, rfl, _⟩ := h; rfl
  · obtain ⟨a, m, n, rfl, L, hb, k⟩ := h
    have hu := hu_of hr
    refine ⟨_, (pss_cons (ps_if (pt_cmp (pc_dnotin hu (pv 1) (pe_fldK K (pv 0) rfl))) pss_never pss_nil)
        (pss_one (ps_if (pt_cmp (pc_din hu (pv 1) (pe_fldK K (pv 0) rfl))) pss_never pss_nil))), ?_⟩
    obtain ⟨h1, h2⟩ := M.alive_iff.mp hb
    refine ⟨_, rfl, _, rfl, a.l, _, a.lx, _, _, rfl, L.o, T.c_Lives, T.n_begun, fL_begun, a.b, _, rfl, L.getB n, _, rfl, ?_⟩
    rw [mapSome]
    refine ifF (by unfold M.isB at h1; rw [h1]; rfl) ?_
    refine ⟨_, rfl, _, rfl, a.l, _, a.lx, _, _, rfl, L.o, T.c_Lives, T.n_ended, fL_ended, a.e, _, rfl, L.getE n, _, rfl, ?_⟩
    rw [mapSome]
    exact ifF h2 k
def sp_children (K : PySem.W.Frag) : Sp := fun vs H Q _ => ∃ A m n, vs = [.ref A.l, nmV n] ∧ LAt K H A m ∧ m.isB n = true ∧ Two n ∧ ∀ H' p, Same H H' → H p = none → H' p = some (.lst ((m.kids n).map nmV)) → Q (.ref p) H'
end
end DH

namespace DH
open PySem PySem.Spec PyProof.Rows L2 TL
section
variable {P : Program} {w : World} {K : PySem.W.Frag} {mg : Str → Option Value} {base : Heap}
def Sm (n : Nm) : Prop := n.l.length ≤ 5 ∧ ∀ i ∈ n.l, i < 10 ^ 9
theorem Two.sm {n : Nm} (h : Two n) : Sm n := ⟨h.1, fun i hi => by have := h.2 i hi; omega⟩
theorem Sm.len {n : Nm} (h : Sm n) : (enc n).length ≤ 58 := by
  have := enc_len n h.2
  have := h.1
  omega
theorem M.WF.sm {m : M} (W : m.WF) {n : Nm} (h : m.isB n = true) (hz : m.size ≤ 10000) : Sm n :=
  ⟨W.dep n h, fun i hi => by
    have h1 := W.nums n.l n.w h i hi
    have h2 : m.bo.length ≤ m.size := by unfold M.size; omega
    omega⟩
theorem bo_size (m : M) : m.bo.length ≤ m.size := by unfold M.size; omega
theorem de_size (m : M) : m.de.length ≤ m.size := by unfold M.size; omega
theorem ca_size (m : M) : m.ca.length ≤ m.size := by unfold M.size; omega
theorem num_int (k : Nat) : Str.ofString (toString ((k : Int) + 1)) = num (k + 1) := rfl
theorem log_ok {i : Nat} (h : i < 131072) : i.log2 < 1920 := by
  by_cases e : i = 0
  · subst e; decide
  · have := (Nat.log2_lt (k := 17) e).mpr h
    omega
theorem sc_Lives_children : FnScope ["self", "name", "k"] ["self", "name"] (defScope s_Lives_children) :=
  ⟨rfl, rfl, rfl, by decide +kernel, rfl, by decide +kernel, by decide +kernel⟩
theorem ok_Lives_children (T : Txt K mg) : Mth P w K mg base 1 "Lives" "children" ["self", "name"] (sp_children K) := by
  refine mth_of T.m_Lives_children T.f_Lives_children sc_Lives_children (fun _ _ _ _ _ _ us hl => match us, hl with | [_, _], _ => rfl) (fun vs H Q E h => ?_) (fun f cdv A outer s H vs Q E hr h => ?_)
  · obtain ⟨A, m, n, rfl, _⟩ := h; rfl
  · obtain ⟨a, m, n, rfl, L, hb, h2, k⟩ := h
    have hu := hu_of hr
    refine ⟨_, (pss_cons (ps_if (pt_cmp (pc_dnotin hu (pv 1) (pe_fldK K (pv 0) rfl))) pss_never pss_nil)
        (pss_one (ps_ret (pe_lc (own := [("k", 2)]) rfl sc_Lives_children.nd (pi_range1 rfl T.b_range (pa_cons (pe_dget hu (pe_fldK K (pv 0) rfl) (pv 1) (fun _ _ => rfl)) pa_nil)) (blkOk_by (own := [("k", 2)]) (N := ["self", "name", "k"]) (sc := defScope s_Lives_children) (by decide +kernel)) (fun _ _ _ _ _ => pg_name (i := 2) sc_Lives_children.nd rfl (Or.inl rfl)) (fun _ _ _ _ _ => pts_nil) (fun _ _ _ _ _ => (pe_op op_add_str (pe_op op_add_str (pv 1) pe_str) (pe_callTy call_str_int (by rfl) T.b_str (by decide +kernel) (pa_cons (pe_op op_add (pv 2) pe_int) pa_nil)))))))), ?_⟩
    have hk := M.kc_le m n
    have hz := L.sz
    have hz2 := bo_size m
    have hn := h2.sm.len
    refine ⟨_, rfl, _, rfl, a.l, _, a.lx, _, _, rfl, L.o, T.c_Lives, T.n_begun, fL_begun, a.b, _, rfl, L.getB n, _, rfl, ?_⟩
    rw [mapSome]
    refine ifF (by unfold M.isB at hb; rw [hb]; rfl) ?_
    refine ⟨_, rfl, a.l, _, a.lx, _, _, rfl, L.o, T.c_Lives, T.n_many, fL_many, _, rfl, a.m, _, rfl, L.getM n hb, _, rfl, by omega, by omega, fun D hD => ?_⟩
    refine lc_rg (n := m.kc n) (fun i => nmV (n.snoc (i + 1))) hD (small (k := 10000) (by omega) (by decide)) ?_ ?_
    · intro i H' C hi s1 hC
      refine ⟨rfl, _, rfl, _, _, rfl, rfl, ?_, _, rfl, _, _, rfl, rfl, _, rfl, ?_, _, _, rfl, rfl, ?_, ?_⟩
      · have e1 : dot.length = 1 := by decide +kernel
        exact small (k := 60) (by show (enc n).length + dot.length ≤ 60; omega) (by decide)
      · exact log_ok (by omega)
      · have e1 : dot.length = 1 := by decide +kernel
        have e2 : Str.ofString (toString (0 + (i : Int) + 1)) = num (i + 1) := by rw [Int.zero_add]; rfl
        have e3 := num_len' (i := i + 1) (by omega)
        rw [e2]
        refine small (k := 100) ?_ (by decide)
        show (enc n ++ dot).length + (num (i + 1)).length ≤ 100
        have e4 : (enc n ++ dot).length = (enc n).length + dot.length := by rw [len_tl, tl_append, List.length_append, ← len_tl, ← len_tl]
        omega
      · have e2 : Str.ofString (toString (0 + (i : Int) + 1)) = num (i + 1) := by rw [Int.zero_add]; rfl
        have := hC H' (Same.refl _)
        unfold nmV at this
        rw [enc_snoc, ← e2] at this
        exact this
    · intro H' s1 hDD
      refine k H' D s1 hD ?_
      rw [hDD]
      unfold M.kids
      rw [List.map_map]; rfl
theorem filt_take {α : Type} {l : List α} {f : α → Bool} {i : Nat} {x : α} (h : l[i]? = some x) : (l.take (i + 1)).filter f = (l.take i).filter f ++ (if f x = true then [x] else []) := by
  rw [take_snoc h, List.filter_append, List.filter_cons, List.filter_nil]
def sp_living (K : PySem.W.Frag) : Sp := fun vs H Q _ => ∃ A m, vs = [.ref A.l] ∧ LAt K H A m ∧ ∀ H' p, Same H H' → H p = none → H' p = some (.lst (m.living.map nmV)) → Q (.ref p) H'
theorem sc_Lives_living : FnScope ["self", "name"] ["self"] (defScope s_Lives_living) :=
  ⟨rfl, rfl, rfl, by decide +kernel, rfl, by decide +kernel, by decide +kernel⟩
theorem ok_Lives_living (T : Txt K mg) : Mth P w K mg base 1 "Lives" "living" ["self"] (sp_living K) := by
  refine mth_of T.m_Lives_living T.f_Lives_living sc_Lives_living (fun _ _ _ _ _ _ us hl => match us, hl with | [_], _ => rfl) (fun vs H Q E h => ?_) (fun f cdv A outer s H vs Q E hr h => ?_)
  · obtain ⟨A, m, rfl, _⟩ := h; rfl
  · obtain ⟨a, m, rfl, L, k⟩ := h
    have hu := hu_of hr
    refine ⟨_, (pss_one (ps_ret (pe_lock (pe_lc (own := [("name", 1)]) rfl sc_Lives_living.nd (pi_keys (pe_fldK K (pv 0) rfl)) (blkOk_by (own := [("name", 1)]) (N := ["self", "name"]) (sc := defScope s_Lives_living) (by decide +kernel)) (fun _ _ _ _ _ => pg_name (i := 1) sc_Lives_living.nd rfl (Or.inl rfl)) (fun _ _ _ _ _ => (pts_one (pt_cmp (pc_dnotin hu (pv 1) (pe_fldK K (pv 0) rfl))))) (fun _ _ _ _ _ => (pv 1)))))), ?_⟩
    have hz := L.sz
    have hz2 := bo_size m
    have nlb : a.l ≠ a.b := ne_of L.o L.b (by intro z; cases z)
    refine ⟨a.b, _, L.b, trivial, fun od => ?_⟩
    refine ⟨_, rfl, a.l, _, a.lx, _, _, rfl, by rw [upd_ne nlb]; exact L.o, T.c_Lives, T.n_begun, fL_begun, a.b, od, rfl, .inl ⟨_, upd_same, fun D hD => ?_⟩⟩
    have nDb : D ≠ a.b := fun z => by rw [z, upd_same] at hD; cases hD
    have hD0 : H D = none := by rw [upd_ne nDb] at hD; exact hD
    refine lc_gen (n := (kN m.bo).length) (fun i H' => Same (upd H a.b (.frz od (.dK (kN m.bo)))) H' ∧ H' D = some (.lst ((((m.bo.map (·.1)).take i).filter fun n => !m.isD n).map nmV))) ?_ ?_ ?_ ?_ ?_
    · exact ⟨Same.upd hD, upd_same⟩
    · rintro i H' hi ⟨s1, _⟩
      exact ⟨s1 _ _ upd_same, hi⟩
    · rintro H' ⟨s1, _⟩
      exact ⟨s1 _ _ upd_same, Nat.le_refl _⟩
    · rintro i x H' H'' hi ⟨s1, hDD⟩ ⟨rfl, kk, v, hk, rfl⟩
      have hk : (kN m.bo)[i]? = some (kk, v) := hk
      rw [kvs_len] at hi
      have hk' : m.bo[i]? = some m.bo[i] := List.getElem?_eq_getElem hi
      have hk2 : (kN m.bo)[i]? = some (Sum.inr (enc m.bo[i].1), V.int m.bo[i].2) := by
        unfold kN kvs; rw [List.getElem?_map, hk']; rfl
      rw [hk2] at hk
      cases hk
      have hn : (m.bo.map (·.1))[i]? = some m.bo[i].1 := by rw [List.getElem?_map, hk']; rfl
      have g : DGet H'' a.e (.str (enc m.bo[i].1)) ((lk m.de m.bo[i].1).map V.int) := by
        have hE : H'' a.e = some (.dK (kN m.de)) := s1 _ _ (by rw [upd_ne L.be.symm]; exact L.e)
        have := DGet.k (k := Sum.inr (enc m.bo[i].1)) hE
        rw [vN] at this; exact this
      refine ⟨rfl, _, rfl, _, rfl, a.l, _, a.lx, _, _, rfl, s1 _ _ (by rw [upd_ne nlb]; exact L.o), T.c_Lives, T.n_ended, fL_ended, a.e, _, rfl, g, _, rfl, ?_⟩
      rw [mapSome]
      have ht := filt_take (f := fun n => !m.isD n) hn
      refine ifB (fun hb => ?_) (fun hb => ?_)
      · refine ⟨_, rfl, _, hDD, ?_, s1.put hD, ?_⟩
        · rw [List.length_map]
          refine small' (k := 10000) (Nat.le_trans (List.length_filter_le ..) ?_) (by decide)
          rw [List.length_take, List.length_map]; omega
        · rw [upd_same, ht, if_pos (show (!m.isD m.bo[i].1) = true from hb), List.map_append]; rfl
      · refine ⟨s1, ?_⟩
        rw [ht, if_neg (fun z => by rw [show (!m.isD m.bo[i].1) = false from hb] at z; cases z), List.append_nil]
        exact hDD
    · rintro H' ⟨s1, hDD⟩
      refine ⟨s1 _ _ upd_same, k _ D ?_ hD0 ?_⟩
      · intro c o e
        by_cases hc : c = a.b
        · subst hc; rw [upd_same]; rw [L.b] at e; exact e
        · rw [upd_ne hc]
          exact s1 _ _ (by rw [upd_ne hc]; exact e)
      · rw [upd_ne nDb, hDD, kvs_len]
        have : (m.bo.map (·.1)).take m.bo.length = m.bo.map (·.1) := List.take_of_length_le (by rw [List.length_map]; exact Nat.le_refl _)
        rw [this]; rfl
def sp_nearest (K : PySem.W.Frag) : Sp := fun vs H Q _ => ∃ A m n r, vs = [.ref A.l, nmV n] ∧ LAt K H A m ∧ Two n ∧ m.near n = some r ∧ ∀ H', Same H H' → Q (nmV r) H'
theorem sc_Lives_nearest : FnScope ["self", "name", "pieces"] ["self", "name"] (defScope s_Lives_nearest) :=
  ⟨rfl, rfl, rfl, by decide +kernel, rfl, by decide +kernel, by decide +kernel⟩
theorem ok_Lives_nearest (T : Txt K mg) : Mth P w K mg base 3 "Lives" "nearest" ["self", "name"] (sp_nearest K) := by
  obtain ⟨f_joined, fd_joined, g_joined, k_joined, b_joined, G_joined⟩ := ok_joined T
  obtain ⟨f_parts, fd_parts, g_parts, k_parts, b_parts, G_parts⟩ := ok_parts T
  refine mth_of T.m_Lives_nearest T.f_Lives_nearest sc_Lives_nearest (fun _ _ _ _ _ _ us hl => match us, hl with | [_, _], _ => rfl) (fun vs H Q E h => ?_) (fun f cdv A outer s H vs Q E hr h => ?_)
  · obtain ⟨A, m, n, r, rfl, _⟩ := h; rfl
  · obtain ⟨a, m, ⟨w0, l⟩, r, rfl, L, h2, hn, k⟩ := h
    have hu := hu_of hr
    refine ⟨_, (pss_cons (ps_set (i := 2) sc_Lives_nearest.nd rfl (by first | exact Or.inl rfl | exact Or.inr rfl) (pe_call G_parts (hr.mono (by decide)) rfl g_parts k_parts b_parts .nil pass0 (pa_cons (pv 1) pa_nil)))
        (pss_cons (ps_while PassesOwn.never (PW.pt (pw_and (pt_cmpR op_gt (pe_callB (call_lenK K) (by rfl) T.b_len PySem.boot_len (pa_cons (pv 2) pa_nil)) pe_int (nomark _)) (pw_and1 (pt_cmp (pc_dnotin hu (pe_call G_joined (hr.mono (by decide)) rfl g_joined k_joined b_joined .nil pass0 (pa_cons (pv 2) pa_nil)) (pe_fldK K (pv 0) rfl)))))) (pss_one (ps_set (i := 2) sc_Lives_nearest.nd rfl (by first | exact Or.inl rfl | exact Or.inr rfl) (pe_slice (sl_listK K) (pv 2) po_none (po_some (pe_un un_neg pe_int))))))
        (pss_one (ps_ret (pe_call G_joined (hr.mono (by decide)) rfl g_joined k_joined b_joined .nil pass0 (pa_cons (pv 2) pa_nil)))))), ?_⟩
    refine ⟨_, rfl, _, rfl, h2, fun H1 p s1 hp hp1 => ?_⟩
    refine ⟨fun j σ H' => ∃ q, σ = [some (.ref a.l), some (nmV ⟨w0, l⟩), some (.ref q)] ∧ Same H H' ∧ H' q = some (.lst (partsV ⟨w0, l.take j⟩)) ∧ j ≤ l.length ∧ m.nearK w0 l j = some r, ⟨l.length, p, rfl, s1, by rw [List.take_length]; exact hp1, Nat.le_refl _, hn⟩, ?_⟩
    rintro j σ H' ⟨q, rfl, s2, hq, hj, hnj⟩
    have L' := L.same s2
    have h2' := Two.take h2 j
    refine ⟨_, rfl, _, _, rfl, .inl ⟨_, .of hq, rfl⟩, _, _, rfl, rfl, _, rfl, ifTd (by rw [partsV_len]; omega) ?_⟩
    refine ⟨_, rfl, q, ⟨w0, l.take j⟩, rfl, .of hq, h2', fun H3 s3 => ?_⟩
    have L3 := L'.same s3
    refine ⟨_, rfl, a.l, _, a.lx, _, _, rfl, L3.o, T.c_Lives, T.n_begun, fL_begun, a.b, _, rfl, L3.getB _, _, rfl, ?_⟩
    rw [mapSome]
    refine ifB (fun hb => ?_) (fun hb => ?_)
    · have hb' : m.isB ⟨w0, l.take j⟩ = false := by
        unfold M.isB
        cases e : (lk m.bo ⟨w0, l.take j⟩).isSome with
        | false => rfl
        | true => rw [e] at hb; cases hb
      obtain ⟨i, rfl, hi⟩ := M.nearK_miss hb' hnj
      refine ⟨fun σ H' => ∃ q, σ = [some (.ref a.l), some (nmV ⟨w0, l⟩), some (.ref q)] ∧ Same H H' ∧ H' q = some (.lst (partsV ⟨w0, l.take i⟩)), fun σ' H4 ⟨q', e, s4, h4⟩ => ⟨i, Nat.lt_succ_self _, q', e, s4, h4, by omega, hi⟩, ?_⟩
      refine ⟨_, rfl, _, rfl, _, rfl, q, _, rfl, .of (s3 _ _ hq), fun p' hp' => ?_⟩
      refine ⟨p', rfl, (s2.trans s3).trans (Same.upd hp'), ?_⟩
      rw [upd_same, cut_last, partsV_drop hj]
    · have hb' : m.isB ⟨w0, l.take j⟩ = true := by
        unfold M.isB
        cases e : (lk m.bo ⟨w0, l.take j⟩).isSome with
        | true => rfl
        | false => rw [e] at hb; cases hb
      rw [M.nearK_hit hb'] at hnj
      cases hnj
      refine ⟨_, rfl, q, _, rfl, .of (s3 _ _ hq), h2', fun H5 s5 => ?_⟩
      exact k H5 ((s2.trans s3).trans s5)
end
end DH

namespace DH
open PySem PySem.Spec PyProof.Rows L2 TL
section
variable {P : Program} {w : World} {K : PySem.W.Frag} {mg : Str → Option Value} {base : Heap}
def sp_never (K : PySem.W.Frag) : Sp := fun vs H Q _ => ∃ A m n r, vs = [.ref A.l, nmV n] ∧ LAt K H A m ∧ Two n ∧ m.near n = some r ∧ ∀ H', Same H H' → Q (.bl (!decide (r = n) && !m.alive r)) H'
theorem nmV_eq (a b : Nm) : decide (nmV a = nmV b) = decide (a = b) := by
  by_cases h : a = b
  · subst h; simp
  · rw [decide_eq_false h, decide_eq_false]
    intro z
    exact h (enc_inj (V.str.inj z))
theorem sc_Lives_never : FnScope ["self", "name", "near"] ["self", "name"] (defScope s_Lives_never) :=
  ⟨rfl, rfl, rfl, by decide +kernel, rfl, by decide +kernel, by decide +kernel⟩
theorem ok_Lives_never (T : Txt K mg) : Mth P w K mg base 4 "Lives" "never" ["self", "name"] (sp_never K) := by
  obtain ⟨f_Lives_alive, fd_Lives_alive, m_Lives_alive, b_Lives_alive, G_Lives_alive⟩ := ok_Lives_alive T
  obtain ⟨f_Lives_nearest, fd_Lives_nearest, m_Lives_nearest, b_Lives_nearest, G_Lives_nearest⟩ := ok_Lives_nearest T
  refine mth_of T.m_Lives_never T.f_Lives_never sc_Lives_never (fun _ _ _ _ _ _ us hl => match us, hl with | [_, _], _ => rfl) (fun vs H Q E h => ?_) (fun f cdv A outer s H vs Q E hr h => ?_)
  · obtain ⟨A, m, n, r, rfl, _⟩ := h; rfl
  · obtain ⟨a, m, n, r, rfl, L, h2, hn, k⟩ := h
    refine ⟨_, (pss_cons (ps_set (i := 2) sc_Lives_never.nd rfl (by first | exact Or.inl rfl | exact Or.inr rfl) (pe_meth (pv 0) T.c_Lives m_Lives_nearest G_Lives_nearest (hr.mono (by decide)) b_Lives_nearest .nil pass0 (pa_cons (pv 1) pa_nil)))
        (pss_one (ps_ret (pe_and (pe_cmpR op_ne (pv 2) (pv 1) (nomark _)) (pe_one (pe_not (pe_meth (pv 0) T.c_Lives m_Lives_alive G_Lives_alive (hr.mono (by decide)) b_Lives_alive .nil pass0 (pa_cons (pv 2) pa_nil)))))))), ?_⟩
    refine ⟨_, rfl, a.l, a.lx, _, rfl, L.o, fL_no (by decide +kernel) (by decide +kernel) (by decide +kernel), _, rfl, a, m, n, r, rfl, L, h2, hn, fun H1 s1 => ?_⟩
    refine ⟨_, rfl, _, rfl, rfl, _, rfl, ?_⟩
    have k := k H1 s1
    rw [nmV_eq]
    refine ifB (fun h => ?_) (fun h => ?_)
    · have L1 := L.same s1
      refine ⟨_, rfl, a.l, a.lx, _, rfl, L1.o, fL_no (by decide +kernel) (by decide +kernel) (by decide +kernel), _, rfl, a, m, r, rfl, L1, _, rfl, ?_⟩
      rw [h, Bool.true_and] at k
      exact k
    · rw [h, Bool.false_and] at k
      exact k
theorem putK_hit {kvs : List (Key × V)} {k : Key} {v x : V} (h : valV kvs k = some x) : putK kvs k v = kvs.map fun kv => if kv.1 = k then (kv.1, v) else kv := by
  unfold putK
  rw [if_pos]
  rw [valV_any, h]; rfl
theorem kM_new {m : M} {n : Nm} {y : Int} (h : m.isB n = false) (hp : ∀ p ∈ m.bo, n.par ≠ some p.1) (h0 : (m.addB n y).kc n = 0) : putK (kM m) (Sum.inr (enc n)) (.int 0) = kM (m.addB n y) := by
  have hv : valV (kM m) (Sum.inr (enc n)) = none := by
    cases e : valV (kM m) (Sum.inr (enc n)) with
    | none => rfl
    | some x =>
      exfalso
      have := valV_in e
      unfold kM at this
      rw [List.map_map] at this
      obtain ⟨p, hp', e2⟩ := List.mem_map.mp this
      have e3 : p.1 = n := key_inj.mp e2
      have : m.isB n = true := M.isB_mem.mpr (List.mem_map.mpr ⟨p, hp', e3⟩)
      rw [h] at this; cases this
  rw [putK_new _ hv]
  unfold kM
  show _ = (m.bo ++ [(n, y)]).map _
  rw [List.map_append]
  congr 1
  · refine List.map_congr_left fun p hp' => ?_
    rw [M.kc_addB, if_neg (hp p hp'), Nat.add_zero]
  · show [((Sum.inr (enc n) : Key), V.int 0)] = [(Sum.inr (enc n), V.int (((m.addB n y).kc n : Nat) : Int))]
    rw [h0]; rfl
theorem kc_self {m : M} (W : m.WF) {n : Nm} {y : Int} (h : m.isB n = false) : (m.addB n y).kc n = 0 := by
  rw [M.kc_addB, M.kc_none W h, if_neg]
  intro z
  obtain ⟨i, e⟩ := of_par z
  have := congrArg (fun x => x.l.length) e
  simp [Nm.snoc] at this
theorem kM_arrive {m : M} (W : m.WF) {x : Wd} {y : Int} (h : m.isB (Nm.root x) = false) : putK (kM m) (Sum.inr x.s) (.int 0) = kM (m.addB (Nm.root x) y) :=
  kM_new (n := Nm.root x) h (fun p _ => by rw [par_root]; intro z; cases z) (kc_self W h)
theorem kM_birth {m : M} (W : m.WF) {n : Nm} {y : Int} (h : m.isB n = true) :
    putK (putK (kM m) (Sum.inr (enc n)) (.int ((m.kc n : Int) + 1))) (Sum.inr (enc (n.snoc (m.kc n + 1)))) (.int 0) = kM (m.addB (n.snoc (m.kc n + 1)) y) := by
  have hnew := M.next_new W n
  have hk := kc_self W (y := y) hnew
  rw [putK_hit (vM m n h)]
  have hv : valV ((kM m).map fun kv => if kv.1 = Sum.inr (enc n) then (kv.1, V.int ((m.kc n : Int) + 1)) else kv) (Sum.inr (enc (n.snoc (m.kc n + 1)))) = none := by
    rw [valV_map]
    cases e : valV (kM m) (Sum.inr (enc (n.snoc (m.kc n + 1)))) with
    | none => rfl
    | some x =>
      exfalso
      have := valV_in e
      unfold kM at this
      rw [List.map_map] at this
      obtain ⟨p, hp', e2⟩ := List.mem_map.mp this
      have e3 : p.1 = _ := key_inj.mp e2
      have : m.isB (n.snoc (m.kc n + 1)) = true := M.isB_mem.mpr (List.mem_map.mpr ⟨p, hp', e3⟩)
      rw [hnew] at this; cases this
  rw [putK_new _ hv]
  unfold kM
  show _ = (m.bo ++ [(n.snoc (m.kc n + 1), y)]).map _
  rw [List.map_append, List.map_map]
  congr 1
  · refine List.map_congr_left fun p hp' => ?_
    rw [M.kc_addB, par_snoc]
    show (if (Sum.inr (enc p.1) : Key) = Sum.inr (enc n) then ((Sum.inr (enc p.1) : Key), V.int ((m.kc n : Int) + 1)) else (Sum.inr (enc p.1), V.int (m.kc p.1 : Int))) = _
    by_cases e : p.1 = n
    · rw [if_pos (by rw [e]), e, if_pos rfl]; rfl
    · rw [if_neg (fun z => e (key_inj.mp z)), if_neg (fun z => e (Option.some.inj z).symm)]; rfl
  · show [((Sum.inr (enc (n.snoc (m.kc n + 1))) : Key), V.int 0)] = [(Sum.inr (enc (n.snoc (m.kc n + 1))), V.int ((((m.addB (n.snoc (m.kc n + 1)) y)).kc (n.snoc (m.kc n + 1)) : Nat) : Int))]
    rw [hk]; rfl
theorem kM_addD (m : M) (n : Nm) (y : Int) : kM (m.addD n y) = kM m := rfl
def sp_L_arrive (K : PySem.W.Frag) : Sp := fun vs H Q _ => ∃ A m x y, vs = [.ref A.l, .str x.s, .int y] ∧ LAt K H A m ∧ m.WF ∧ m.isB (Nm.root x) = false ∧ m.size + 1 ≤ 10000 ∧
  ∀ H', LAt K H' A (m.addB (Nm.root x) y) → Off [A.b, A.m] H H' → Q .non H'
theorem sc_Lives_arrive : FnScope ["self", "word", "born"] ["self", "word", "born"] (defScope s_Lives_arrive) :=
  ⟨rfl, rfl, rfl, by decide +kernel, rfl, by decide +kernel, by decide +kernel⟩
theorem ok_Lives_arrive (T : Txt K mg) : Mth P w K mg base 2 "Lives" "arrive" ["self", "word", "born"] (sp_L_arrive K) := by
  obtain ⟨f_good_word, fd_good_word, g_good_word, k_good_word, b_good_word, G_good_word⟩ := ok_good_word T
  refine mth_of T.m_Lives_arrive T.f_Lives_arrive sc_Lives_arrive (fun _ _ _ _ _ _ us hl => match us, hl with | [_, _, _], _ => rfl) (fun vs H Q E h => ?_) (fun f cdv A outer s H vs Q E hr h => ?_)
  · obtain ⟨A, m, x, y, rfl, _⟩ := h; rfl
  · obtain ⟨a, m, x, y, rfl, L, W, hb, hz, k⟩ := h
    have hu := hu_of hr
    refine ⟨_, (pss_cons (ps_if (pt_not (pt_val (pe_call G_good_word (hr.mono (by decide)) rfl g_good_word k_good_word b_good_word .nil pass0 (pa_cons (pv 1) pa_nil)))) pss_never pss_nil)
        (pss_cons (ps_if (pt_cmp (pc_din hu (pv 1) (pe_fldK K (pv 0) rfl))) pss_never pss_nil)
        (pss_cons (ps_dput hu (pe_fldK K (pv 0) rfl) (pv 1) (pv 2) rfl)
        (pss_one (ps_dput hu (pe_fldK K (pv 0) rfl) (pv 1) pe_int rfl))))), ?_⟩
    have hz2 := bo_size m
    have nlb : a.l ≠ a.b := ne_of L.o L.b (by intro z; cases z)
    have nlm : a.l ≠ a.m := ne_of L.o L.mm (by intro z; cases z)
    refine ⟨_, rfl, x.s, rfl, x.ok, _, rfl, ?_⟩
    have g := L.getB (Nm.root x)
    have e0 : lk m.bo (Nm.root x) = none := by
      unfold M.isB at hb
      cases e : lk m.bo (Nm.root x) with
      | none => rfl
      | some _ => rw [e] at hb; cases hb
    rw [e0] at g
    refine ⟨_, rfl, _, rfl, a.l, _, a.lx, _, _, rfl, L.o, T.c_Lives, T.n_begun, fL_begun, a.b, _, rfl, g, _, rfl, ?_⟩
    refine ⟨_, rfl, _, rfl, a.l, _, a.lx, _, _, rfl, L.o, T.c_Lives, T.n_begun, fL_begun, _, rfl, a.b, _, rfl, DPut.k (k := Sum.inr x.s) L.b (by rw [kvs_len]; exact small' (k := 10000) (by omega) (by decide)), ?_⟩
    refine ⟨_, rfl, a.l, _, a.lx, _, _, rfl, by rw [upd_ne nlb]; exact L.o, T.c_Lives, T.n_many, fL_many, _, rfl, a.m, _, rfl, DPut.k (k := Sum.inr x.s) (by rw [upd_ne L.bm.symm]; exact L.mm) ?_, ?_⟩
    · unfold kM; rw [List.length_map]; exact small' (k := 10000) (by omega) (by decide)
    refine k _ ⟨?_, ?_, ?_, ?_, L.be, L.bm, L.em, ?_⟩ ?_
    · rw [upd_ne nlm, upd_ne nlb]; exact L.o
    · rw [upd_ne L.bm, upd_same]
      have := putK_kvs enc_inj' m.bo (Nm.root x) y e0
      exact congrArg (fun z => some (HO.dK z)) this
    · rw [upd_ne L.em, upd_ne L.be.symm]; exact L.e
    · rw [upd_same]
      exact congrArg (fun z => some (HO.dK z)) (kM_arrive W hb)
    · unfold M.size M.addB at *
      simp only [List.length_append, List.length_cons, List.length_nil]
      omega
    · exact (Off.upd (by simp)).trans (Off.upd (by simp))
def sp_L_birth (K : PySem.W.Frag) : Sp := fun vs H Q _ => ∃ A m n y, vs = [.ref A.l, nmV n, .int y] ∧ LAt K H A m ∧ m.WF ∧ m.alive n = true ∧ n.l.length < 5 ∧ m.size + 1 ≤ 10000 ∧
  ∀ H', LAt K H' A (m.addB (n.snoc (m.kc n + 1)) y) → Off [A.b, A.m] H H' → Q (nmV (n.snoc (m.kc n + 1))) H'
theorem sc_Lives_birth : FnScope ["self", "name", "year", "child"] ["self", "name", "year"] (defScope s_Lives_birth) :=
  ⟨rfl, rfl, rfl, by decide +kernel, rfl, by decide +kernel, by decide +kernel⟩
theorem ok_Lives_birth (T : Txt K mg) : Mth P w K mg base 2 "Lives" "birth" ["self", "name", "year"] (sp_L_birth K) := by
  obtain ⟨f_Lives_must_live, fd_Lives_must_live, m_Lives_must_live, b_Lives_must_live, G_Lives_must_live⟩ := ok_Lives_must_live T
  refine mth_of T.m_Lives_birth T.f_Lives_birth sc_Lives_birth (fun _ _ _ _ _ _ us hl => match us, hl with | [_, _, _], _ => rfl) (fun vs H Q E h => ?_) (fun f cdv A outer s H vs Q E hr h => ?_)
  · obtain ⟨A, m, x, y, rfl, _⟩ := h; rfl
  · obtain ⟨a, m, n, y, rfl, L, W, hb, hl, hz, k⟩ := h
    have hu := hu_of hr
    refine ⟨_, (pss_cons (ps_expr (pe_meth (pv 0) T.c_Lives m_Lives_must_live G_Lives_must_live (hr.mono (by decide)) b_Lives_must_live .nil pass0 (pa_cons (pv 1) pa_nil)))
        (pss_cons (ps_if (pt_cmpR op_ge (pe_callB (call_lenK K) (by rfl) T.b_len PySem.boot_len (pa_cons (pe_split (pv 1) pe_str) pa_nil)) (T.q_DEEPEST.pe rfl) (nomark _)) pss_never pss_nil)
        (pss_cons (ps_daug hu (pe_fldK K (pv 0) rfl) (pv 1) pe_int in_add (fun _ _ _ => rfl))
        (pss_cons (ps_set (i := 3) sc_Lives_birth.nd rfl (by first | exact Or.inl rfl | exact Or.inr rfl) (pe_op op_add_str (pe_op op_add_str (pv 1) pe_str) (pe_callTy call_str_int (by rfl) T.b_str (by decide +kernel) (pa_cons (pe_dget hu (pe_fldK K (pv 0) rfl) (pv 1) (fun _ _ => rfl)) pa_nil))))
        (pss_cons (ps_dput hu (pe_fldK K (pv 0) rfl) (pv 3) (pv 2) rfl)
        (pss_cons (ps_dput hu (pe_fldK K (pv 0) rfl) (pv 3) pe_int rfl)
        (pss_one (ps_ret (pv 3))))))))), ?_⟩
    obtain ⟨h1, h2⟩ := M.alive_iff.mp hb
    have hz2 := bo_size m
    have hkc := M.kc_le m n
    have hL := (W.sm h1 (by omega)).len
    refine ⟨_, rfl, a.l, a.lx, _, rfl, L.o, fL_no (by decide +kernel) (by decide +kernel) (by decide +kernel), _, rfl, a, m, n, rfl, L, hb, ?_⟩
    refine ⟨_, rfl, ⟨_, rfl⟩, _, _, rfl, rfl, by decide +kernel, small (k := 60) (by omega) (by decide), fun p hp => ?_⟩
    rw [split_enc]
    have s1 : Same H (upd H p (.lst ((n.w.s :: n.l.map num).map V.str))) := Same.upd hp
    have hpp : (upd H p (.lst ((n.w.s :: n.l.map num).map V.str))) p = some (.lst ((n.w.s :: n.l.map num).map V.str)) := upd_same
    generalize upd H p (.lst ((n.w.s :: n.l.map num).map V.str)) = H1 at s1 hpp
    have L := L.same s1
    have nlb : a.l ≠ a.b := ne_of L.o L.b (by intro z; cases z)
    have nlm : a.l ≠ a.m := ne_of L.o L.mm (by intro z; cases z)
    refine ⟨_, _, rfl, .inl ⟨_, .of hpp, rfl⟩, _, _, rfl, rfl, _, rfl, ifFd ?_ ?_⟩
    · simp; omega
    refine ⟨_, rfl, a.l, _, a.lx, _, _, rfl, L.o, T.c_Lives, T.n_many, fL_many, _, rfl, a.m, _, rfl, L.getM n h1, _, _, rfl, rfl, _, DPut.k (k := Sum.inr (enc n)) L.mm ?_, ?_⟩
    · unfold kM; rw [List.length_map]; exact small' (k := 10000) (by omega) (by decide)
    have gm : DGet (upd H1 a.m (.dK (putK (kM m) (Sum.inr (enc n)) (.int ((m.kc n : Int) + 1))))) a.m (nmV n) (some (.int ((m.kc n : Int) + 1))) := by
      have := DGet.k (H := upd H1 a.m (.dK (putK (kM m) (Sum.inr (enc n)) (.int ((m.kc n : Int) + 1))))) (a := a.m) (k := Sum.inr (enc n)) upd_same
      rw [valV_put, if_pos rfl] at this
      exact this
    have e1 : dot.length = 1 := by decide +kernel
    have e3 := num_len' (i := m.kc n + 1) (by omega)
    have e4 : (enc n ++ dot).length = (enc n).length + dot.length := by rw [len_tl, tl_append, List.length_append, ← len_tl, ← len_tl]
    refine ⟨_, rfl, _, _, rfl, rfl, small (k := 60) (by show (enc n).length + dot.length ≤ 60; omega) (by decide), _, rfl, a.l, _, a.lx, _, _, rfl, by rw [upd_ne nlm]; exact L.o, T.c_Lives, T.n_many, fL_many, _, rfl, a.m, _, rfl, gm, _, rfl, log_ok (by omega), _, _, rfl, rfl, ?_, ?_⟩
    · show (enc n ++ dot).length + (num (m.kc n + 1)).length ≤ sizeLine
      exact small (k := 100) (by omega) (by decide)
    have ech : (enc n ++ dot) ++ Str.ofString (toString ((m.kc n : Int) + 1)) = enc (n.snoc (m.kc n + 1)) := by rw [enc_snoc]; rfl
    have hnew := M.next_new W n
    have e0 : lk m.bo (n.snoc (m.kc n + 1)) = none := by
      unfold M.isB at hnew
      cases e : lk m.bo (n.snoc (m.kc n + 1)) with
      | none => rfl
      | some _ => rw [e] at hnew; cases hnew
    show tSeq _ _ _ ([some (V.ref a.l), some (nmV n), some (V.int y), some (V.str ((enc n ++ dot) ++ Str.ofString (toString ((m.kc n : Int) + 1))))]) _
    rw [ech]
    refine ⟨_, rfl, _, rfl, a.l, _, a.lx, _, _, rfl, by rw [upd_ne nlm]; exact L.o, T.c_Lives, T.n_begun, fL_begun, _, rfl, a.b, _, rfl, DPut.k (k := Sum.inr (enc (n.snoc (m.kc n + 1)))) (by rw [upd_ne L.bm]; exact L.b) (by rw [kvs_len]; exact small' (k := 10000) (by omega) (by decide)), ?_⟩
    refine ⟨_, rfl, a.l, _, a.lx, _, _, rfl, by rw [upd_ne nlb, upd_ne nlm]; exact L.o, T.c_Lives, T.n_many, fL_many, _, rfl, a.m, _, rfl, DPut.k (k := Sum.inr (enc (n.snoc (m.kc n + 1)))) (by rw [upd_ne L.bm.symm]; exact upd_same) ?_, ?_⟩
    · refine Nat.lt_of_le_of_lt (length_putK ..) ?_
      unfold kM; rw [List.length_map]; exact small' (k := 10000) (by omega) (by decide)
    refine ⟨_, rfl, k _ ⟨?_, ?_, ?_, ?_, L.be, L.bm, L.em, ?_⟩ ?_⟩
    · rw [upd_ne nlm, upd_ne nlb, upd_ne nlm]; exact L.o
    · rw [upd_ne L.bm, upd_same]
      exact congrArg (fun z => some (HO.dK z)) (putK_kvs enc_inj' m.bo _ y e0)
    · rw [upd_ne L.em, upd_ne L.be.symm, upd_ne L.em]; exact L.e
    · rw [upd_same]
      exact congrArg (fun z => some (HO.dK z)) (kM_birth W h1)
    · unfold M.size M.addB at *
      simp only [List.length_append, List.length_cons, List.length_nil]
      omega
    · exact (Off.of s1).trans ((Off.upd (by simp)).trans ((Off.upd (by simp)).trans (Off.upd (by simp))))
def sp_L_death (K : PySem.W.Frag) : Sp := fun vs H Q _ => ∃ A m n y, vs = [.ref A.l, nmV n, .int y] ∧ LAt K H A m ∧ m.alive n = true ∧ m.size + 1 ≤ 10000 ∧
  ∀ H', LAt K H' A (m.addD n y) → Off [A.e] H H' → Q .non H'
theorem sc_Lives_death : FnScope ["self", "name", "year"] ["self", "name", "year"] (defScope s_Lives_death) :=
  ⟨rfl, rfl, rfl, by decide +kernel, rfl, by decide +kernel, by decide +kernel⟩
theorem ok_Lives_death (T : Txt K mg) : Mth P w K mg base 2 "Lives" "death" ["self", "name", "year"] (sp_L_death K) := by
  obtain ⟨f_Lives_must_live, fd_Lives_must_live, m_Lives_must_live, b_Lives_must_live, G_Lives_must_live⟩ := ok_Lives_must_live T
  refine mth_of T.m_Lives_death T.f_Lives_death sc_Lives_death (fun _ _ _ _ _ _ us hl => match us, hl with | [_, _, _], _ => rfl) (fun vs H Q E h => ?_) (fun f cdv A outer s H vs Q E hr h => ?_)
  · obtain ⟨A, m, x, y, rfl, _⟩ := h; rfl
  · obtain ⟨a, m, n, y, rfl, L, hb, hz, k⟩ := h
    have hu := hu_of hr
    refine ⟨_, (pss_cons (ps_expr (pe_meth (pv 0) T.c_Lives m_Lives_must_live G_Lives_must_live (hr.mono (by decide)) b_Lives_must_live .nil pass0 (pa_cons (pv 1) pa_nil)))
        (pss_one (ps_dput hu (pe_fldK K (pv 0) rfl) (pv 1) (pv 2) rfl))), ?_⟩
    obtain ⟨h1, h2⟩ := M.alive_iff.mp hb
    have hz2 := de_size m
    have nle : a.l ≠ a.e := ne_of L.o L.e (by intro z; cases z)
    have e0 : lk m.de n = none := by
      unfold M.isD at h2
      cases e : lk m.de n with
      | none => rfl
      | some _ => rw [e] at h2; cases h2
    refine ⟨_, rfl, a.l, a.lx, _, rfl, L.o, fL_no (by decide +kernel) (by decide +kernel) (by decide +kernel), _, rfl, a, m, n, rfl, L, hb, ?_⟩
    refine ⟨_, rfl, _, rfl, a.l, _, a.lx, _, _, rfl, L.o, T.c_Lives, T.n_ended, fL_ended, _, rfl, a.e, _, rfl, DPut.k (k := Sum.inr (enc n)) L.e (by rw [kvs_len]; exact small' (k := 10000) (by omega) (by decide)), ?_⟩
    refine k _ ⟨?_, ?_, ?_, ?_, L.be, L.bm, L.em, ?_⟩ (Off.upd (by simp))
    · rw [upd_ne nle]; exact L.o
    · rw [upd_ne L.be]; exact L.b
    · rw [upd_same]
      exact congrArg (fun z => some (HO.dK z)) (putK_kvs enc_inj' m.de n y e0)
    · rw [upd_ne L.em.symm]; exact L.mm
    · unfold M.size M.addD at *
      simp only [List.length_append, List.length_cons, List.length_nil]
      omega
end
end DH

namespace DH
open PySem PySem.Spec PyProof.Rows L2 TL
section
variable {P : Program} {w : World} {K : PySem.W.Frag} {mg : Str → Option Value} {base : Heap}
def sp_L_init (K : PySem.W.Frag) : Sp := fun vs H Q _ => ∃ l lx, vs = [.ref l] ∧ H l = some (.ins (He.ga K "Lives") lx []) ∧
  ∀ (b e mm : Addr) (H' : Hp), H b = none → H e = none → H mm = none → (∀ p px c y, LAt K H' ⟨p, px, l, lx, b, e, mm, c⟩ (M.init y)) → Off [l] H H' → Q .non H'
theorem tiny {n : Nat} (h : n ≤ 10) : n < 1000 := by omega
theorem sc_Lives___init__ : FnScope ["self"] ["self"] (defScope s_Lives___init__) :=
  ⟨rfl, rfl, rfl, by decide +kernel, rfl, by decide +kernel, by decide +kernel⟩
theorem ok_Lives___init__ (T : Txt K mg) : Ini P w K mg base 1 "Lives" ["self"] (sp_L_init K) := by
  refine ini_of T.k_Lives T.f_Lives___init__ sc_Lives___init__ (fun _ _ _ _ _ _ us hl => match us, hl with | [_], _ => rfl) (fun vs H Q E h => ?_) (fun f cdv A outer s H vs Q E hr h => ?_)
  · obtain ⟨l, lx, rfl, _⟩ := h; rfl
  · obtain ⟨l, lx, rfl, ho, k⟩ := h
    refine ⟨_, (pss_cons (ps_fld (pv 0) pe_dnewK rfl)
        (pss_cons (ps_fld (pv 0) pe_dnewK rfl)
        (pss_one (ps_fld (pv 0) pe_dnewK rfl)))), ?_⟩
    intro b hb
    have nlb : l ≠ b := ne_of_none ho hb
    refine ⟨_, rfl, l, _, lx, [], rfl, by rw [upd_ne nlb]; exact ho, T.c_Lives, T.n_begun, tiny (Nat.zero_le _), ?_⟩
    intro e he
    have nle : l ≠ e := fun z => by subst z; rw [upd_same] at he; cases he
    have he1 : upd H b (.dK []) e = none := by rw [upd_ne nle.symm] at he; exact he
    have nbe : b ≠ e := fun z => by subst z; rw [upd_same] at he1; cases he1
    have he2 : H e = none := by rw [upd_ne nbe.symm] at he1; exact he1
    refine ⟨_, rfl, l, _, lx, putF "begun" (.ref b) [], rfl, by rw [upd_ne nle, upd_same], T.c_Lives, T.n_ended, tiny (Nat.le_trans (length_putF ..) (by show 0 + 1 ≤ 10; omega)), ?_⟩
    intro mm hm
    have nlm : l ≠ mm := fun z => by subst z; rw [upd_same] at hm; cases hm
    rw [upd_ne nlm.symm] at hm
    have nem : e ≠ mm := fun z => by subst z; rw [upd_same] at hm; cases hm
    rw [upd_ne nem.symm, upd_ne nlm.symm] at hm
    have nbm : b ≠ mm := fun z => by subst z; rw [upd_same] at hm; cases hm
    rw [upd_ne nbm.symm] at hm
    refine ⟨_, rfl, l, _, lx, putF "ended" (.ref e) (putF "begun" (.ref b) []), rfl, by rw [upd_ne nlm, upd_same], T.c_Lives, T.n_many, tiny (Nat.le_trans (length_putF ..) (Nat.succ_le_succ (Nat.le_trans (length_putF ..) (by show 0 + 1 ≤ 9; omega)))), ?_⟩
    refine k b e mm _ hb he2 hm (fun p px c y => ⟨upd_same, ?_, ?_, ?_, nbe, nbm, nem, Nat.zero_le _⟩) ?_
    · show upd _ l _ b = _
      rw [upd_ne nlb.symm, upd_ne nbm, upd_ne nlb.symm, upd_ne nbe, upd_ne nlb.symm, upd_same]; rfl
    · show upd _ l _ e = _
      rw [upd_ne nle.symm, upd_ne nem, upd_ne nle.symm, upd_same]; rfl
    · show upd _ l _ mm = _
      rw [upd_ne nlm.symm, upd_same]; rfl
    · intro c o ec hc
      have hcl : c ≠ l := fun z => hc (by simp [z])
      rw [upd_ne hcl, upd_ne (ne_of_none ec hm), upd_ne hcl, upd_ne (ne_of_none ec he2), upd_ne hcl, upd_ne (ne_of_none ec hb)]
      exact ec
abbrev fpW (A : WA) : List Addr := [A.p, A.b, A.e, A.m, A.c]
def sp_W_init (K : PySem.W.Frag) : Sp := fun vs H Q _ => ∃ p px y, vs = [.ref p, .int y] ∧ H p = some (.ins (He.ga K "World") px []) ∧ 0 ≤ y ∧ y ≤ 9999 ∧
  ∀ (A : WA) (H' : Hp), A.p = p → A.px = px → H A.b = none → H A.e = none → H A.m = none → H A.c = none → WAt K H' A (M.init y) → Off [p] H H' → Q .non H'
theorem sc_World___init__ : FnScope ["self", "year"] ["self", "year"] (defScope s_World___init__) :=
  ⟨rfl, rfl, rfl, by decide +kernel, rfl, by decide +kernel, by decide +kernel⟩
theorem ok_World___init__ (T : Txt K mg) : Ini P w K mg base 3 "World" ["self", "year"] (sp_W_init K) := by
  obtain ⟨f_Lives___init__, fd_Lives___init__, M_Lives, b_Lives___init__, G_Lives___init__⟩ := ok_Lives___init__ T
  refine ini_of T.k_World T.f_World___init__ sc_World___init__ (fun _ _ _ _ _ _ us hl => match us, hl with | [_, _], _ => rfl) (fun vs H Q E h => ?_) (fun f cdv A outer s H vs Q E hr h => ?_)
  · obtain ⟨l, lx, y, rfl, _⟩ := h; rfl
  · obtain ⟨p, px, y, rfl, ho, hy0, hy9, k⟩ := h
    refine ⟨_, (pss_cons (ps_if (PW.pt (pw_or (pt_cmpR op_lt (pv 1) pe_int (nomark _)) (pw_or1 (pt_cmpR op_gt (pv 1) pe_int (nomark _))))) pss_never pss_nil)
        (pss_cons (ps_fld (pv 0) (pv 1) rfl)
        (pss_cons (ps_fld (pv 0) (pe_make0 M_Lives G_Lives___init__ (hr.mono (by decide)) rfl T.g_Lives b_Lives___init__ .nil pass0) rfl)
        (pss_one (ps_fld (pv 0) pe_dnewK rfl))))), ?_⟩
    refine ⟨_, rfl, _, _, rfl, rfl, _, rfl, ifFd (by omega) ?_⟩
    refine ⟨_, rfl, _, _, rfl, rfl, _, rfl, ifFd (by omega) ?_⟩
    refine ⟨_, rfl, _, rfl, p, _, px, [], rfl, ho, T.c_World, T.n_year, tiny (Nat.zero_le _), ?_⟩
    intro l lx hl hlx nll
    have npl : p ≠ l := fun z => by subst z; rw [upd_same] at hl; cases hl
    have nplx : p ≠ lx := fun z => by subst z; rw [upd_same] at hlx; cases hlx
    rw [upd_ne npl.symm] at hl
    rw [upd_ne nplx.symm] at hlx
    refine ⟨l, lx, rfl, upd_same, fun b e mm H3 hb he hm L3 O3 => ⟨rfl, ?_⟩⟩
    have hp3 : H3 p = some (.ins (He.ga K "World") px (putF "year" (.int y) [])) := O3 _ _ (by rw [upd_ne npl, upd_ne nplx, upd_same]) (by simp [npl])
    refine ⟨_, rfl, p, _, px, _, rfl, hp3, T.c_World, T.n_lives, tiny (Nat.le_trans (length_putF ..) (by show 0 + 1 ≤ 10; omega)), ?_⟩
    intro c hc
    have npc : p ≠ c := fun z => by subst z; rw [upd_same] at hc; cases hc
    rw [upd_ne npc.symm] at hc
    refine ⟨_, rfl, p, _, px, putF "lives" (.ref l) (putF "year" (.int y) []), rfl, by rw [upd_ne npc, upd_same], T.c_World, T.n_came, tiny (Nat.le_trans (length_putF ..) (Nat.succ_le_succ (Nat.le_trans (length_putF ..) (by show 0 + 1 ≤ 9; omega)))), ?_⟩
    have fr : ∀ z, (upd (upd (upd H p (.ins (He.ga K "World") px (putF "year" (.int y) []))) lx (.own l)) l (.ins (He.ga K "Lives") lx [])) z = none → H z = none ∧ z ≠ p := by
      intro z hz
      have z1 : z ≠ l := fun q => by subst q; rw [upd_same] at hz; cases hz
      rw [upd_ne z1] at hz
      have z2 : z ≠ lx := fun q => by subst q; rw [upd_same] at hz; cases hz
      rw [upd_ne z2] at hz
      have z3 : z ≠ p := fun q => by subst q; rw [upd_same] at hz; cases hz
      rw [upd_ne z3] at hz
      exact ⟨hz, z3⟩
    have L := L3 p px c y
    have cl : l ≠ c := ne_of_none L.o hc
    have cb : b ≠ c := ne_of_none L.b hc
    have ce : e ≠ c := ne_of_none L.e hc
    have cm : mm ≠ c := ne_of_none L.mm hc
    have hc0 : H c = none := by
      cases q : H c with
      | none => rfl
      | some o =>
        have := O3 c o (by rw [upd_ne cl.symm, upd_ne (ne_of_none q hlx), upd_ne npc.symm]; exact q) (by simp [cl.symm])
        rw [this] at hc; cases hc
    refine k ⟨p, px, l, lx, b, e, mm, c⟩ _ rfl rfl (fr b hb).1 (fr e he).1 (fr mm hm).1 hc0 ⟨upd_same, ⟨?_, ?_, ?_, ?_, L.be, L.bm, L.em, L.sz⟩, ?_, cb, ce, cm, npl⟩ ?_
    · show upd _ p _ l = _
      rw [upd_ne npl.symm, upd_ne cl, upd_ne npl.symm]; exact L.o
    · show upd _ p _ b = _
      rw [upd_ne (fr b hb).2, upd_ne cb, upd_ne (fr b hb).2]; exact L.b
    · show upd _ p _ e = _
      rw [upd_ne (fr e he).2, upd_ne ce, upd_ne (fr e he).2]; exact L.e
    · show upd _ p _ mm = _
      rw [upd_ne (fr mm hm).2, upd_ne cm, upd_ne (fr mm hm).2]; exact L.mm
    · show upd _ p _ c = _
      rw [upd_ne npc.symm, upd_same]; rfl
    · intro d o ed hd
      have hdp : d ≠ p := fun z => hd (by simp [z])
      rw [upd_ne hdp, upd_ne (ne_of_none ed hc0), upd_ne hdp]
      exact O3 d o (by rw [upd_ne (ne_of_none ed hl), upd_ne (ne_of_none ed hlx), upd_ne hdp]; exact ed) (by simp [ne_of_none ed hl])
theorem WAt.step {H H' : Hp} {A : WA} {m m' : M} (W : WAt K H A m) (L : LAt K H' A m') (O : Off [A.b, A.e, A.m] H H') (hy : m'.yr = m.yr) (hc : m'.ca = m.ca) : WAt K H' A m' := by
  have np : A.p ∉ [A.b, A.e, A.m] := by
    have h1 : A.p ≠ A.b := ne_of W.o W.l.b (by intro z; cases z)
    have h2 : A.p ≠ A.e := ne_of W.o W.l.e (by intro z; cases z)
    have h3 : A.p ≠ A.m := ne_of W.o W.l.mm (by intro z; cases z)
    simp [h1, h2, h3]
  have nc : A.c ∉ [A.b, A.e, A.m] := by simp [W.bc.symm, W.ec.symm, W.mc.symm]
  exact ⟨by rw [hy]; exact O _ _ W.o np, L, by rw [hc]; exact O _ _ W.c nc, W.bc, W.ec, W.mc, W.pl⟩
def sp_W_years (K : PySem.W.Frag) : Sp := fun vs H Q _ => ∃ A m k, vs = [.ref A.p, .int k] ∧ WAt K H A m ∧ 1 ≤ k ∧ k ≤ 60 ∧ ∀ H', WAt K H' A (m.play (.years k)) → Off (fpW A) H H' → Q .non H'
theorem sc_World_pass_years : FnScope ["self", "many"] ["self", "many"] (defScope s_World_pass_years) :=
  ⟨rfl, rfl, rfl, by decide +kernel, rfl, by decide +kernel, by decide +kernel⟩
theorem ok_World_pass_years (T : Txt K mg) : Mth P w K mg base 1 "World" "pass_years" ["self", "many"] (sp_W_years K) := by
  refine mth_of T.m_World_pass_years T.f_World_pass_years sc_World_pass_years (fun _ _ _ _ _ _ us hl => match us, hl with | [_, _], _ => rfl) (fun vs H Q E h => ?_) (fun f cdv A outer s H vs Q E hr h => ?_)
  · obtain ⟨A, m, k, rfl, _⟩ := h; rfl
  · obtain ⟨a, m, i, rfl, W, h1, h60, k⟩ := h
    refine ⟨_, (pss_cons (ps_if (PW.pt (pw_or (pt_cmpR op_lt (pv 1) pe_int (nomark _)) (pw_or1 (pt_cmpR op_gt (pv 1) pe_int (nomark _))))) pss_never pss_nil)
        (pss_one (ps_fldaug (pv 0) (pv 1) in_add))), ?_⟩
    refine ⟨_, rfl, _, _, rfl, rfl, _, rfl, ifFd (by omega) ?_⟩
    refine ⟨_, rfl, _, _, rfl, rfl, _, rfl, ifFd (by omega) ?_⟩
    refine ⟨_, rfl, a.p, _, a.px, _, _, rfl, W.o, T.c_World, T.n_year, fW_year, _, rfl, _, _, rfl, rfl, a.px, _, W.o, tiny (by rw [fW_len]; omega), ?_⟩
    have h1 : a.p ≠ a.b := ne_of W.o W.l.b (by intro z; cases z)
    have h2 : a.p ≠ a.e := ne_of W.o W.l.e (by intro z; cases z)
    have h3 : a.p ≠ a.m := ne_of W.o W.l.mm (by intro z; cases z)
    have h4 : a.p ≠ a.c := ne_of W.o W.c (by intro z; cases z)
    refine k _ ⟨?_, ⟨?_, ?_, ?_, ?_, W.l.be, W.l.bm, W.l.em, W.l.sz⟩, ?_, W.bc, W.ec, W.mc, W.pl⟩ (Off.upd (by simp))
    · rw [upd_same, fW_put]; rfl
    · rw [upd_ne W.pl.symm]; exact W.l.o
    · rw [upd_ne h1.symm]; exact W.l.b
    · rw [upd_ne h2.symm]; exact W.l.e
    · rw [upd_ne h3.symm]; exact W.l.mm
    · rw [upd_ne h4.symm]; exact W.c
def sp_W_arrive (K : PySem.W.Frag) : Sp := fun vs H Q _ => ∃ A m x a, vs = [.ref A.p, .str x.s, .int a] ∧ WAt K H A m ∧ m.WF ∧ m.Can (.arrive x a) ∧ m.size + 1 ≤ 10000 ∧ ∀ H', WAt K H' A (m.play (.arrive x a)) → Off (fpW A) H H' → Q .non H'
theorem sc_World_arrive : FnScope ["self", "word", "age"] ["self", "word", "age"] (defScope s_World_arrive) :=
  ⟨rfl, rfl, rfl, by decide +kernel, rfl, by decide +kernel, by decide +kernel⟩
theorem ok_World_arrive (T : Txt K mg) : Mth P w K mg base 3 "World" "arrive" ["self", "word", "age"] (sp_W_arrive K) := by
  obtain ⟨f_Lives_arrive, fd_Lives_arrive, m_Lives_arrive, b_Lives_arrive, G_Lives_arrive⟩ := ok_Lives_arrive T
  refine mth_of T.m_World_arrive T.f_World_arrive sc_World_arrive (fun _ _ _ _ _ _ us hl => match us, hl with | [_, _, _], _ => rfl) (fun vs H Q E h => ?_) (fun f cdv A outer s H vs Q E hr h => ?_)
  · obtain ⟨A, m, x, y, rfl, _⟩ := h; rfl
  · obtain ⟨a, m, x, g, rfl, W, wf, ⟨hb, h0, h12⟩, hz, k⟩ := h
    refine ⟨_, (pss_cons (ps_if (PW.pt (pw_or (pt_cmpR op_lt (pv 2) pe_int (nomark _)) (pw_or1 (pt_cmpR op_gt (pv 2) pe_int (nomark _))))) pss_never pss_nil)
        (pss_one (ps_expr (pe_meth (pe_fldK K (pv 0) rfl) T.c_Lives m_Lives_arrive G_Lives_arrive (hr.mono (by decide)) b_Lives_arrive .nil pass0 (pa_cons (pv 1) (pa_cons (pe_op op_sub (pe_fldK K (pv 0) rfl) (pv 2)) pa_nil)))))), ?_⟩
    refine ⟨_, rfl, _, _, rfl, rfl, _, rfl, ifFd (by omega) ?_⟩
    refine ⟨_, rfl, _, _, rfl, rfl, _, rfl, ifFd (by omega) ?_⟩
    refine ⟨_, rfl, a.p, _, a.px, _, _, rfl, W.o, T.c_World, T.n_lives, fW_lives, a.l, a.lx, _, rfl, W.l.o, fL_no (by decide +kernel) (by decide +kernel) (by decide +kernel), _, rfl, _, rfl, a.p, _, a.px, _, _, rfl, W.o, T.c_World, T.n_year, fW_year, _, rfl, _, _, rfl, rfl, ?_⟩
    refine ⟨a, m, x, _, rfl, W.l, wf, hb, hz, fun H' L' O => ?_⟩
    exact k H' (W.step L' (O.mono (by simp)) rfl rfl) (O.mono (by simp))
def sp_W_birth (K : PySem.W.Frag) : Sp := fun vs H Q _ => ∃ A m n, vs = [.ref A.p, nmV n] ∧ WAt K H A m ∧ m.WF ∧ m.Can (.birth n) ∧ m.size + 1 ≤ 10000 ∧ ∀ v H', WAt K H' A (m.play (.birth n)) → Off (fpW A) H H' → Q v H'
theorem sc_World_birth : FnScope ["self", "name"] ["self", "name"] (defScope s_World_birth) :=
  ⟨rfl, rfl, rfl, by decide +kernel, rfl, by decide +kernel, by decide +kernel⟩
theorem ok_World_birth (T : Txt K mg) : Mth P w K mg base 3 "World" "birth" ["self", "name"] (sp_W_birth K) := by
  obtain ⟨f_Lives_birth, fd_Lives_birth, m_Lives_birth, b_Lives_birth, G_Lives_birth⟩ := ok_Lives_birth T
  refine mth_of T.m_World_birth T.f_World_birth sc_World_birth (fun _ _ _ _ _ _ us hl => match us, hl with | [_, _], _ => rfl) (fun vs H Q E h => ?_) (fun f cdv A outer s H vs Q E hr h => ?_)
  · obtain ⟨A, m, x, rfl, _⟩ := h; rfl
  · obtain ⟨a, m, n, rfl, W, wf, ⟨hb, hl⟩, hz, k⟩ := h
    refine ⟨_, (pss_one (ps_ret (pe_meth (pe_fldK K (pv 0) rfl) T.c_Lives m_Lives_birth G_Lives_birth (hr.mono (by decide)) b_Lives_birth .nil pass0 (pa_cons (pv 1) (pa_cons (pe_fldK K (pv 0) rfl) pa_nil))))), ?_⟩
    refine ⟨_, rfl, a.p, _, a.px, _, _, rfl, W.o, T.c_World, T.n_lives, fW_lives, a.l, a.lx, _, rfl, W.l.o, fL_no (by decide +kernel) (by decide +kernel) (by decide +kernel), _, rfl, _, rfl, a.p, _, a.px, _, _, rfl, W.o, T.c_World, T.n_year, fW_year, ?_⟩
    refine ⟨a, m, n, _, rfl, W.l, wf, hb, hl, hz, fun H' L' O => ?_⟩
    exact k _ H' (W.step L' (O.mono (by simp)) rfl rfl) (O.mono (by simp))
def sp_W_death (K : PySem.W.Frag) : Sp := fun vs H Q _ => ∃ A m n, vs = [.ref A.p, nmV n] ∧ WAt K H A m ∧ m.Can (.death n) ∧ m.size + 1 ≤ 10000 ∧ ∀ H', WAt K H' A (m.play (.death n)) → Off (fpW A) H H' → Q .non H'
theorem sc_World_death : FnScope ["self", "name"] ["self", "name"] (defScope s_World_death) :=
  ⟨rfl, rfl, rfl, by decide +kernel, rfl, by decide +kernel, by decide +kernel⟩
theorem ok_World_death (T : Txt K mg) : Mth P w K mg base 3 "World" "death" ["self", "name"] (sp_W_death K) := by
  obtain ⟨f_Lives_death, fd_Lives_death, m_Lives_death, b_Lives_death, G_Lives_death⟩ := ok_Lives_death T
  refine mth_of T.m_World_death T.f_World_death sc_World_death (fun _ _ _ _ _ _ us hl => match us, hl with | [_, _], _ => rfl) (fun vs H Q E h => ?_) (fun f cdv A outer s H vs Q E hr h => ?_)
  · obtain ⟨A, m, x, rfl, _⟩ := h; rfl
  · obtain ⟨a, m, n, rfl, W, hb, hz, k⟩ := h
    refine ⟨_, (pss_one (ps_expr (pe_meth (pe_fldK K (pv 0) rfl) T.c_Lives m_Lives_death G_Lives_death (hr.mono (by decide)) b_Lives_death .nil pass0 (pa_cons (pv 1) (pa_cons (pe_fldK K (pv 0) rfl) pa_nil))))), ?_⟩
    refine ⟨_, rfl, a.p, _, a.px, _, _, rfl, W.o, T.c_World, T.n_lives, fW_lives, a.l, a.lx, _, rfl, W.l.o, fL_no (by decide +kernel) (by decide +kernel) (by decide +kernel), _, rfl, _, rfl, a.p, _, a.px, _, _, rfl, W.o, T.c_World, T.n_year, fW_year, ?_⟩
    refine ⟨a, m, n, _, rfl, W.l, hb, hz, fun H' L' O => ?_⟩
    exact k H' (W.step L' (O.mono (by simp)) rfl rfl) (O.mono (by simp))
def sp_W_comes (K : PySem.W.Frag) : Sp := fun vs H Q _ => ∃ A m x, vs = [.ref A.p, .str (Wd.s x)] ∧ WAt K H A m ∧ m.Can (.comes x) ∧ m.size + 1 ≤ 10000 ∧ ∀ H', WAt K H' A (m.play (.comes x)) → Off (fpW A) H H' → Q .non H'
theorem sc_World_comes : FnScope ["self", "word"] ["self", "word"] (defScope s_World_comes) :=
  ⟨rfl, rfl, rfl, by decide +kernel, rfl, by decide +kernel, by decide +kernel⟩
theorem ok_World_comes (T : Txt K mg) : Mth P w K mg base 2 "World" "comes" ["self", "word"] (sp_W_comes K) := by
  obtain ⟨f_good_word, fd_good_word, g_good_word, k_good_word, b_good_word, G_good_word⟩ := ok_good_word T
  refine mth_of T.m_World_comes T.f_World_comes sc_World_comes (fun _ _ _ _ _ _ us hl => match us, hl with | [_, _], _ => rfl) (fun vs H Q E h => ?_) (fun f cdv A outer s H vs Q E hr h => ?_)
  · obtain ⟨A, m, x, rfl, _⟩ := h; rfl
  · obtain ⟨a, m, x, rfl, W, hb, hz, k⟩ := h
    have hu := hu_of hr
    refine ⟨_, (pss_cons (ps_if (pt_not (pt_val (pe_call G_good_word (hr.mono (by decide)) rfl g_good_word k_good_word b_good_word .nil pass0 (pa_cons (pv 1) pa_nil)))) pss_never pss_nil)
        (pss_cons (ps_if (pt_cmp (pc_din hu (pv 1) (pe_fldK K (pv 0) rfl))) pss_never pss_nil)
        (pss_one (ps_dput hu (pe_fldK K (pv 0) rfl) (pv 1) (pe_fldK K (pv 0) rfl) rfl)))), ?_⟩
    have hz2 := ca_size m
    have hb : (lk m.ca x).isSome = false := hb
    have e0 : lk m.ca x = none := by
      cases e : lk m.ca x with
      | none => rfl
      | some _ => rw [e] at hb; cases hb
    have g := W.getC x
    rw [e0] at g
    refine ⟨_, rfl, x.s, rfl, x.ok, _, rfl, ?_⟩
    refine ⟨_, rfl, _, rfl, a.p, _, a.px, _, _, rfl, W.o, T.c_World, T.n_came, fW_came, a.c, _, rfl, g, _, rfl, ?_⟩
    refine ⟨_, rfl, a.p, _, a.px, _, _, rfl, W.o, T.c_World, T.n_year, fW_year, _, rfl, a.p, _, a.px, _, _, rfl, W.o, T.c_World, T.n_came, fW_came, _, rfl, a.c, _, rfl, DPut.k (k := Sum.inr x.s) W.c (by rw [kvs_len]; exact small' (k := 10000) (by omega) (by decide)), ?_⟩
    have h4 : a.p ≠ a.c := ne_of W.o W.c (by intro z; cases z)
    have h5 : a.l ≠ a.c := ne_of W.l.o W.c (by intro z; cases z)
    refine k _ ⟨?_, ⟨?_, ?_, ?_, ?_, W.l.be, W.l.bm, W.l.em, ?_⟩, ?_, W.bc, W.ec, W.mc, W.pl⟩ (Off.upd (by simp))
    · rw [upd_ne h4]; exact W.o
    · rw [upd_ne h5]; exact W.l.o
    · rw [upd_ne W.bc]; exact W.l.b
    · rw [upd_ne W.ec]; exact W.l.e
    · rw [upd_ne W.mc]; exact W.l.mm
    · exact Nat.le_trans (M.size_play ..) hz
    · rw [upd_same]
      exact congrArg (fun z => some (HO.dK z)) (putK_kvs Wd.inj m.ca x m.yr e0)
def sp_came_in (K : PySem.W.Frag) : Sp := fun vs H Q _ => ∃ A m x, vs = [.ref A.p, .str (Wd.s x)] ∧ WAt K H A m ∧ Q (optV (lk m.ca x)) H
theorem sc_World_came_in : FnScope ["self", "word"] ["self", "word"] (defScope s_World_came_in) :=
  ⟨rfl, rfl, rfl, by decide +kernel, rfl, by decide +kernel, by decide +kernel⟩
theorem ok_World_came_in (T : Txt K mg) : Mth P w K mg base 1 "World" "came_in" ["self", "word"] (sp_came_in K) := by
  refine mth_of T.m_World_came_in T.f_World_came_in sc_World_came_in (fun _ _ _ _ _ _ us hl => match us, hl with | [_, _], _ => rfl) (fun vs H Q E h => ?_) (fun f cdv A outer s H vs Q E hr h => ?_)
  · obtain ⟨A, m, x, rfl, _⟩ := h; rfl
  · obtain ⟨a, m, x, rfl, W, k⟩ := h
    have hu := hu_of hr
    refine ⟨_, (pss_one (ps_ret (pe_dget1 hu (pe_fldK K (pv 0) rfl) (pv 1) ⟨rfl, rfl, rfl, rfl⟩))), ?_⟩
    exact ⟨_, rfl, a.p, _, a.px, _, _, rfl, W.o, T.c_World, T.n_came, fW_came, a.c, rfl, .inl ⟨_, .of W.c⟩, _, rfl, _, W.getC x, k⟩
def sp_age (K : PySem.W.Frag) : Sp := fun vs H Q _ => ∃ A m n, vs = [.ref A.p, nmV n] ∧ WAt K H A m ∧ m.isB n = true ∧ Q (.int (m.age n)) H
theorem sc_World_age : FnScope ["self", "name", "born", "died"] ["self", "name"] (defScope s_World_age) :=
  ⟨rfl, rfl, rfl, by decide +kernel, rfl, by decide +kernel, by decide +kernel⟩
theorem ok_World_age (T : Txt K mg) : Mth P w K mg base 2 "World" "age" ["self", "name"] (sp_age K) := by
  obtain ⟨f_Lives_died_in, fd_Lives_died_in, m_Lives_died_in, b_Lives_died_in, G_Lives_died_in⟩ := ok_Lives_died_in T
  obtain ⟨f_Lives_born_in, fd_Lives_born_in, m_Lives_born_in, b_Lives_born_in, G_Lives_born_in⟩ := ok_Lives_born_in T
  refine mth_of T.m_World_age T.f_World_age sc_World_age (fun _ _ _ _ _ _ us hl => match us, hl with | [_, _], _ => rfl) (fun vs H Q E h => ?_) (fun f cdv A outer s H vs Q E hr h => ?_)
  · obtain ⟨A, m, x, rfl, _⟩ := h; rfl
  · obtain ⟨a, m, n, rfl, W, hb, k⟩ := h
    refine ⟨_, (pss_cons (ps_set (i := 2) sc_World_age.nd rfl (by first | exact Or.inl rfl | exact Or.inr rfl) (pe_meth (pe_fldK K (pv 0) rfl) T.c_Lives m_Lives_born_in G_Lives_born_in (hr.mono (by decide)) b_Lives_born_in .nil pass0 (pa_cons (pv 1) pa_nil)))
        (pss_cons (ps_set (i := 3) sc_World_age.nd rfl (by first | exact Or.inl rfl | exact Or.inr rfl) (pe_meth (pe_fldK K (pv 0) rfl) T.c_Lives m_Lives_died_in G_Lives_died_in (hr.mono (by decide)) b_Lives_died_in .nil pass0 (pa_cons (pv 1) pa_nil)))
        (pss_cons (ps_if (pt_cmp (pc_isN (pv 3))) (pss_one (ps_ret (pe_op op_sub (pe_fldK K (pv 0) rfl) (pv 2)))) pss_nil)
        (pss_one (ps_ret (pe_op op_sub (pv 3) (pv 2))))))), ?_⟩
    refine ⟨_, rfl, a.p, _, a.px, _, _, rfl, W.o, T.c_World, T.n_lives, fW_lives, a.l, a.lx, _, rfl, W.l.o, fL_no (by decide +kernel) (by decide +kernel) (by decide +kernel), _, rfl, a, m, n, rfl, W.l, hb, ?_⟩
    refine ⟨_, rfl, a.p, _, a.px, _, _, rfl, W.o, T.c_World, T.n_lives, fW_lives, a.l, a.lx, _, rfl, W.l.o, fL_no (by decide +kernel) (by decide +kernel) (by decide +kernel), _, rfl, a, m, n, rfl, W.l, hb, ?_⟩
    unfold M.age at k
    cases e : lk m.de n with
    | none =>
      rw [e] at k
      refine ⟨_, rfl, _, rfl, ?_⟩
      exact ⟨_, rfl, a.p, _, a.px, _, _, rfl, W.o, T.c_World, T.n_year, fW_year, _, rfl, _, _, rfl, rfl, k⟩
    | some d =>
      rw [e] at k
      refine ⟨_, rfl, _, rfl, ?_⟩
      exact ⟨_, rfl, _, rfl, _, _, rfl, rfl, k⟩
end
end DH

namespace DH
open PySem PySem.Spec PyProof.Rows L2 TL
section
variable {P : Program} {w : World} {K : PySem.W.Frag} {mg : Str → Option Value} {base : Heap}
theorem fm_if {α β : Type} (p : α → Bool) (e : α → β) (l : List α) : (l.filterMap fun y => if p y = true then some (e y) else none) = (l.filter p).map e := by
  induction l with
  | nil => rfl
  | cons a r ih =>
    rw [List.filterMap_cons, List.filter_cons]
    by_cases h : p a = true
    · rw [if_pos h, if_pos h, List.map_cons, ih]
    · rw [if_neg h, if_neg h, ih]
abbrev fIf (p : Nm → Bool) : Nm → Option V := fun y => if p y = true then some (nmV y) else none
theorem fT {p : Nm → Bool} {y : Nm} (h : p y = true) : some (nmV y) = fIf p y := (if_pos h).symm
theorem fF {p : Nm → Bool} {y : Nm} (h : p y = false) : none = fIf p y := (if_neg (by rw [h]; exact Bool.false_ne_true)).symm
namespace M
def leftOut (m : M) (n : Nm) : List Nm := (m.kids n).filter fun c => !m.alive c
def members (m : M) (n : Nm) (out : List Nm) : List Nm := (m.kids n).filter fun c => !decide (c ∈ out)
def seats (m : M) (n : Nm) (k : Int) (out : List Nm) : List Nm := (m.members n out).filter fun c => decide (k ≤ m.age c)
def waiting (m : M) (n : Nm) (k : Int) (out : List Nm) : List Nm := ((m.members n out).filter fun c => decide (m.age c < k)).filter fun c => m.alive c
theorem kids_nil {m : M} (W : m.WF) {n : Nm} (h : m.isB n = false) : m.kids n = [] := by unfold kids; rw [kc_none W h]; rfl
theorem kids_isB {m : M} (W : m.WF) {n c : Nm} (h : c ∈ m.kids n) : m.isB c = true := by
  unfold kids at h
  obtain ⟨i, hi, rfl⟩ := List.mem_map.mp h
  have := List.mem_range.mp hi
  exact (W.kid n (i + 1)).mpr ⟨by omega, by omega⟩
theorem kids_len (m : M) (n : Nm) : (m.kids n).length = m.kc n := by unfold kids; rw [List.length_map, List.length_range]
theorem members_len (m : M) (n : Nm) (out : List Nm) : (m.members n out).length ≤ m.kc n := Nat.le_trans (List.length_filter_le ..) (by rw [kids_len]; exact Nat.le_refl _)
theorem members_isB {m : M} (W : m.WF) {n c : Nm} {out : List Nm} (h : c ∈ m.members n out) : m.isB c = true := kids_isB W (List.mem_filter.mp h).1
end M
theorem kc10 {m : M} (h : m.size ≤ 10000) (n : Nm) : m.kc n ≤ 10000 := by
  have := M.kc_le m n
  have := bo_size m
  omega
theorem flatN (l : List Nm) : (l.map nmV).all flatV = true := by
  rw [List.all_map, List.all_eq_true]
  intro x _; rfl
theorem inN (c : Nm) (l : List Nm) : inV (nmV c) (l.map nmV) = decide (c ∈ l) := by
  unfold inV
  rw [List.any_map]
  induction l with
  | nil => rfl
  | cons a r ih =>
    rw [List.any_cons, ih]
    show (eqV (nmV a) (nmV c) || _) = _
    have e : eqV (nmV a) (nmV c) = decide (c = a) := by
      show decide (enc a = enc c) = _
      by_cases h : c = a
      · subst h; simp
      · rw [decide_eq_false h, decide_eq_false]
        exact fun z => h (enc_inj z).symm
    rw [e]
    by_cases h1 : c = a
    · subst h1; simp
    · simp [h1]
def sp_left_out (K : PySem.W.Frag) : Sp := fun vs H Q _ => ∃ A m n, vs = [.ref A.p, nmV n] ∧ WAt K H A m ∧ m.WF ∧ Two n ∧
  ∀ H' p, Same H H' → H p = none → H' p = some (.lst ((m.leftOut n).map nmV)) → Q (.ref p) H'
theorem sc_left_out : FnScope ["world", "name", "child"] ["world", "name"] (defScope s_left_out) :=
  ⟨rfl, rfl, rfl, by decide +kernel, rfl, by decide +kernel, by decide +kernel⟩
theorem ok_left_out (T : Txt K mg) : Cal P w K mg base 2 "left_out" ["world", "name"] (sp_left_out K) := by
  obtain ⟨f_Lives_children, fd_Lives_children, m_Lives_children, b_Lives_children, G_Lives_children⟩ := ok_Lives_children T
  obtain ⟨f_Lives_alive, fd_Lives_alive, m_Lives_alive, b_Lives_alive, G_Lives_alive⟩ := ok_Lives_alive T
  obtain ⟨f_Lives_known, fd_Lives_known, m_Lives_known, b_Lives_known, G_Lives_known⟩ := ok_Lives_known T
  refine cal_of T.g_left_out T.f_left_out sc_left_out (fun _ _ _ _ _ _ us hl => match us, hl with | [_, _], _ => rfl) (fun vs H Q E h => ?_) (fun f cdv A outer s H vs Q E hr h => ?_)
  · obtain ⟨A, m, n, rfl, _⟩ := h; rfl
  · obtain ⟨a, m, n, rfl, W, wf, h2, k⟩ := h
    refine ⟨_, (pss_cons (ps_if (pt_not (pt_val (pe_meth (pe_fldK K (pv 0) rfl) T.c_Lives m_Lives_known G_Lives_known (hr.mono (by decide)) b_Lives_known .nil pass0 (pa_cons (pv 1) pa_nil)))) (pss_one (ps_ret (pe_lst pa_nil))) pss_nil)
        (pss_one (ps_ret (pe_lc (own := [("child", 2)]) rfl sc_left_out.nd (pi_listK K (pe_meth (pe_fldK K (pv 0) rfl) T.c_Lives m_Lives_children G_Lives_children (hr.mono (by decide)) b_Lives_children .nil pass0 (pa_cons (pv 1) pa_nil))) (blkOk_by (own := [("child", 2)]) (N := ["world", "name", "child"]) (sc := defScope s_left_out) (by decide +kernel)) (fun _ _ _ _ _ => pg_name (i := 2) sc_left_out.nd rfl (Or.inl rfl)) (fun _ _ _ _ _ => (pts_one (pt_not (pt_val (pe_meth (pe_fldK K (pv 0) rfl) T.c_Lives m_Lives_alive G_Lives_alive (hr.mono (by decide)) b_Lives_alive .nil pass0 (pa_cons (pv 2) pa_nil)))))) (fun _ _ _ _ _ => (pv 2)))))), ?_⟩
    refine ⟨_, rfl, a.p, _, a.px, _, _, rfl, W.o, T.c_World, T.n_lives, fW_lives, a.l, a.lx, _, rfl, W.l.o, fL_no (by decide +kernel) (by decide +kernel) (by decide +kernel), _, rfl, a, m, n, rfl, W.l, _, rfl, ?_⟩
    refine ifB (fun hb => ?_) (fun hb => ?_)
    · have hb : m.isB n = false := by simpa using hb
      refine ⟨small (k := 0) (Nat.le_refl _) (by decide), fun p hp => k _ p (Same.upd hp) hp ?_⟩
      rw [upd_same]
      unfold M.leftOut
      rw [M.kids_nil wf hb]; rfl
    · have hb : m.isB n = true := by simpa using hb
      refine ⟨_, rfl, a.p, _, a.px, _, _, rfl, W.o, T.c_World, T.n_lives, fW_lives, a.l, a.lx, _, rfl, W.l.o, fL_no (by decide +kernel) (by decide +kernel) (by decide +kernel), _, rfl, a, m, n, rfl, W.l, hb, h2, fun H1 p s1 hp hp1 => ?_⟩
      refine ⟨p, rfl, ⟨_, .of hp1⟩, fun D hD => lc_fm (e := nmV) (ys := m.kids n) (fIf fun c => !m.alive c) hD (.of hp1) (small (k := 10000) (by rw [M.kids_len]; exact kc10 W.l.sz n) (by decide)) ?_ ?_⟩
      · intro i y H' C hy s2 hC
        have W' := (W.same s1).same s2
        refine ⟨rfl, _, rfl, a.p, _, a.px, _, _, rfl, W'.o, T.c_World, T.n_lives, fW_lives, a.l, a.lx, _, rfl, W'.l.o, fL_no (by decide +kernel) (by decide +kernel) (by decide +kernel), _, rfl, a, m, y, rfl, W'.l, _, rfl, ?_⟩
        refine ifB (fun hb => ?_) (fun hb => ?_)
        · exact ⟨_, rfl, hC _ _ (Same.refl _) (fT hb)⟩
        · exact hC _ _ (Same.refl _) (fF hb)
      · intro H' s2 hDD
        refine k H' D (s1.trans s2) (s1.free hD) ?_
        rw [hDD, fm_if]; rfl
def sp_members (K : PySem.W.Frag) : Sp := fun vs H Q _ => ∃ A m n o out, vs = [.ref A.p, nmV n, .ref o] ∧ WAt K H A m ∧ m.WF ∧ Two n ∧ SqL K H o (out.map nmV) ∧
  ∀ H' p, Same H H' → H p = none → H' p = some (.lst ((m.members n out).map nmV)) → Q (.ref p) H'
theorem sc_members : FnScope ["world", "name", "out", "child"] ["world", "name", "out"] (defScope s_members) :=
  ⟨rfl, rfl, rfl, by decide +kernel, rfl, by decide +kernel, by decide +kernel⟩
theorem ok_members (T : Txt K mg) : Cal P w K mg base 2 "members" ["world", "name", "out"] (sp_members K) := by
  obtain ⟨f_Lives_children, fd_Lives_children, m_Lives_children, b_Lives_children, G_Lives_children⟩ := ok_Lives_children T
  obtain ⟨f_Lives_known, fd_Lives_known, m_Lives_known, b_Lives_known, G_Lives_known⟩ := ok_Lives_known T
  refine cal_of T.g_members T.f_members sc_members (fun _ _ _ _ _ _ us hl => match us, hl with | [_, _, _], _ => rfl) (fun vs H Q E h => ?_) (fun f cdv A outer s H vs Q E hr h => ?_)
  · obtain ⟨A, m, n, o, out, rfl, _⟩ := h; rfl
  · obtain ⟨a, m, n, o, out, rfl, W, wf, h2, ho, k⟩ := h
    refine ⟨_, (pss_cons (ps_if (pt_not (pt_val (pe_meth (pe_fldK K (pv 0) rfl) T.c_Lives m_Lives_known G_Lives_known (hr.mono (by decide)) b_Lives_known .nil pass0 (pa_cons (pv 1) pa_nil)))) (pss_one (ps_ret (pe_lst pa_nil))) pss_nil)
        (pss_one (ps_ret (pe_lc (own := [("child", 3)]) rfl sc_members.nd (pi_listK K (pe_meth (pe_fldK K (pv 0) rfl) T.c_Lives m_Lives_children G_Lives_children (hr.mono (by decide)) b_Lives_children .nil pass0 (pa_cons (pv 1) pa_nil))) (blkOk_by (own := [("child", 3)]) (N := ["world", "name", "out", "child"]) (sc := defScope s_members) (by decide +kernel)) (fun _ _ _ _ _ => pg_name (i := 3) sc_members.nd rfl (Or.inl rfl)) (fun _ _ _ _ _ => (pts_one (pt_cmpR (op_notIn_seqK K) (pv 3) (pv 2) rfl))) (fun _ _ _ _ _ => (pv 3)))))), ?_⟩
    refine ⟨_, rfl, a.p, _, a.px, _, _, rfl, W.o, T.c_World, T.n_lives, fW_lives, a.l, a.lx, _, rfl, W.l.o, fL_no (by decide +kernel) (by decide +kernel) (by decide +kernel), _, rfl, a, m, n, rfl, W.l, _, rfl, ?_⟩
    refine ifB (fun hb => ?_) (fun hb => ?_)
    · have hb : m.isB n = false := by simpa using hb
      refine ⟨small (k := 0) (Nat.le_refl _) (by decide), fun p hp => k _ p (Same.upd hp) hp ?_⟩
      rw [upd_same]
      unfold M.members
      rw [M.kids_nil wf hb]; rfl
    · have hb : m.isB n = true := by simpa using hb
      refine ⟨_, rfl, a.p, _, a.px, _, _, rfl, W.o, T.c_World, T.n_lives, fW_lives, a.l, a.lx, _, rfl, W.l.o, fL_no (by decide +kernel) (by decide +kernel) (by decide +kernel), _, rfl, a, m, n, rfl, W.l, hb, h2, fun H1 p s1 hp hp1 => ?_⟩
      refine ⟨p, rfl, ⟨_, .of hp1⟩, fun D hD => lc_fm (e := nmV) (ys := m.kids n) (fIf fun c => !decide (c ∈ out)) hD (.of hp1) (small (k := 10000) (by rw [M.kids_len]; exact kc10 W.l.sz n) (by decide)) ?_ ?_⟩
      · intro i y H' C hy s2 hC
        refine ⟨rfl, _, rfl, _, rfl, o, _, rfl, .inl ((s1.trans s2).seq ho), rfl, flatN out, _, rfl, ?_⟩
        rw [inN]
        refine ifB (fun hb => ?_) (fun hb => ?_)
        · exact ⟨_, rfl, hC _ _ (Same.refl _) (fT hb)⟩
        · exact hC _ _ (Same.refl _) (fF hb)
      · intro H' s2 hDD
        refine k H' D (s1.trans s2) (s1.free hD) ?_
        rw [hDD, fm_if]; rfl
def sp_seats (K : PySem.W.Frag) : Sp := fun vs H Q _ => ∃ A m n g o out, vs = [.ref A.p, nmV n, .int g, .ref o] ∧ WAt K H A m ∧ m.WF ∧ Two n ∧ SqL K H o (out.map nmV) ∧
  ∀ H' p, Same H H' → H p = none → H' p = some (.lst ((m.seats n g out).map nmV)) → Q (.ref p) H'
theorem sc_seats : FnScope ["world", "name", "age", "out", "child"] ["world", "name", "age", "out"] (defScope s_seats) :=
  ⟨rfl, rfl, rfl, by decide +kernel, rfl, by decide +kernel, by decide +kernel⟩
theorem ok_seats (T : Txt K mg) : Cal P w K mg base 3 "seats" ["world", "name", "age", "out"] (sp_seats K) := by
  obtain ⟨f_members, fd_members, g_members, k_members, b_members, G_members⟩ := ok_members T
  obtain ⟨f_World_age, fd_World_age, m_World_age, b_World_age, G_World_age⟩ := ok_World_age T
  refine cal_of T.g_seats T.f_seats sc_seats (fun _ _ _ _ _ _ us hl => match us, hl with | [_, _, _, _], _ => rfl) (fun vs H Q E h => ?_) (fun f cdv A outer s H vs Q E hr h => ?_)
  · obtain ⟨A, m, n, g, o, out, rfl, _⟩ := h; rfl
  · obtain ⟨a, m, n, g, o, out, rfl, W, wf, h2, ho, k⟩ := h
    refine ⟨_, (pss_one (ps_ret (pe_lc (own := [("child", 4)]) rfl sc_seats.nd (pi_listK K (pe_call G_members (hr.mono (by decide)) rfl g_members k_members b_members .nil pass0 (pa_cons (pv 0) (pa_cons (pv 1) (pa_cons (pv 3) pa_nil))))) (blkOk_by (own := [("child", 4)]) (N := ["world", "name", "age", "out", "child"]) (sc := defScope s_seats) (by decide +kernel)) (fun _ _ _ _ _ => pg_name (i := 4) sc_seats.nd rfl (Or.inl rfl)) (fun _ _ _ _ _ => (pts_one (pt_cmpR op_ge (pe_meth (pv 0) T.c_World m_World_age G_World_age (hr.mono (by decide)) b_World_age .nil pass0 (pa_cons (pv 4) pa_nil)) (pv 2) (nomark _)))) (fun _ _ _ _ _ => (pv 4))))), ?_⟩
    refine ⟨_, rfl, _, rfl, _, rfl, a, m, n, o, out, rfl, W, wf, h2, ho, fun H1 p s1 hp hp1 => ?_⟩
    refine ⟨p, rfl, ⟨_, .of hp1⟩, fun D hD => lc_fm (e := nmV) (ys := m.members n out) (fIf fun c => decide (g ≤ m.age c)) hD (.of hp1) (small (k := 10000) (Nat.le_trans (M.members_len ..) (kc10 W.l.sz n)) (by decide)) ?_ ?_⟩
    · intro i y H' C hy s2 hC
      have W' := (W.same s1).same s2
      have hb := M.members_isB wf (List.mem_of_getElem? hy)
      refine ⟨rfl, _, rfl, a.p, a.px, _, rfl, W'.o, fW_no (by decide +kernel) (by decide +kernel) (by decide +kernel), _, rfl, a, m, y, rfl, W', hb, _, rfl, _, _, rfl, rfl, _, rfl, ?_⟩
      refine ifB (fun hb => ?_) (fun hb => ?_)
      · exact ⟨_, rfl, hC _ _ (Same.refl _) (fT hb)⟩
      · exact hC _ _ (Same.refl _) (fF hb)
    · intro H' s2 hDD
      refine k H' D (s1.trans s2) (s1.free hD) ?_
      rw [hDD, fm_if]; rfl
def sp_waiting (K : PySem.W.Frag) : Sp := fun vs H Q _ => ∃ A m n g o out, vs = [.ref A.p, nmV n, .int g, .ref o] ∧ WAt K H A m ∧ m.WF ∧ Two n ∧ SqL K H o (out.map nmV) ∧
  ∀ H' p, Same H H' → H p = none → H' p = some (.lst ((m.waiting n g out).map nmV)) → Q (.ref p) H'
theorem sc_waiting : FnScope ["world", "name", "age", "out", "some", "child"] ["world", "name", "age", "out"] (defScope s_waiting) :=
  ⟨rfl, rfl, rfl, by decide +kernel, rfl, by decide +kernel, by decide +kernel⟩
theorem ok_waiting (T : Txt K mg) : Cal P w K mg base 3 "waiting" ["world", "name", "age", "out"] (sp_waiting K) := by
  obtain ⟨f_Lives_alive, fd_Lives_alive, m_Lives_alive, b_Lives_alive, G_Lives_alive⟩ := ok_Lives_alive T
  obtain ⟨f_members, fd_members, g_members, k_members, b_members, G_members⟩ := ok_members T
  obtain ⟨f_World_age, fd_World_age, m_World_age, b_World_age, G_World_age⟩ := ok_World_age T
  refine cal_of T.g_waiting T.f_waiting sc_waiting (fun _ _ _ _ _ _ us hl => match us, hl with | [_, _, _, _], _ => rfl) (fun vs H Q E h => ?_) (fun f cdv A outer s H vs Q E hr h => ?_)
  · obtain ⟨A, m, n, g, o, out, rfl, _⟩ := h; rfl
  · obtain ⟨a, m, n, g, o, out, rfl, W, wf, h2, ho, k⟩ := h
    refine ⟨_, (pss_cons (ps_setLc (i := 4) (own := [("child", 5)]) rfl sc_waiting.nd rfl rfl (sw_true rfl rfl rfl (by decide +kernel)) (pi_listK K (pe_call G_members (hr.mono (by decide)) rfl g_members k_members b_members .nil pass0 (pa_cons (pv 0) (pa_cons (pv 1) (pa_cons (pv 3) pa_nil))))) (blkOk_by (own := [("child", 5)]) (N := ["world", "name", "age", "out", "some", "child"]) (sc := defScope s_waiting) (by decide +kernel)) (fun _ _ _ _ _ => pg_name (i := 5) sc_waiting.nd rfl (Or.inl rfl)) (fun _ _ _ _ _ => (pts_one (pt_cmpR op_lt (pe_meth (pv 0) T.c_World m_World_age G_World_age (hr.mono (by decide)) b_World_age .nil pass0 (pa_cons (pv 5) pa_nil)) (pv 2) (nomark _)))) (fun _ _ _ _ _ => (pv 5)))
        (pss_one (ps_ret (pe_lc (own := [("child", 5)]) rfl sc_waiting.nd (pi_listK K (pv 4)) (blkOk_by (own := [("child", 5)]) (N := ["world", "name", "age", "out", "some", "child"]) (sc := defScope s_waiting) (by decide +kernel)) (fun _ _ _ _ _ => pg_name (i := 5) sc_waiting.nd rfl (Or.inl rfl)) (fun _ _ _ _ _ => (pts_one (pt_val (pe_meth (pe_fldK K (pv 0) rfl) T.c_Lives m_Lives_alive G_Lives_alive (hr.mono (by decide)) b_Lives_alive .nil pass0 (pa_cons (pv 5) pa_nil))))) (fun _ _ _ _ _ => (pv 5)))))), ?_⟩
    refine ⟨_, rfl, _, rfl, _, rfl, a, m, n, o, out, rfl, W, wf, h2, ho, fun H1 p s1 hp hp1 => ?_⟩
    have hz : (m.members n out).length ≤ 10000 := Nat.le_trans (M.members_len ..) (kc10 W.l.sz n)
    refine ⟨p, rfl, ⟨_, .of hp1⟩, fun D hD => lc_fm (e := nmV) (ys := m.members n out) (fIf fun c => decide (m.age c < g)) hD (.of hp1) (small (k := 10000) hz (by decide)) ?_ ?_⟩
    · intro i y H' C hy s2 hC
      have W' := (W.same s1).same s2
      have hb := M.members_isB wf (List.mem_of_getElem? hy)
      refine ⟨rfl, _, rfl, a.p, a.px, _, rfl, W'.o, fW_no (by decide +kernel) (by decide +kernel) (by decide +kernel), _, rfl, a, m, y, rfl, W', hb, _, rfl, _, _, rfl, rfl, _, rfl, ?_⟩
      refine ifB (fun hb => ?_) (fun hb => ?_)
      · exact ⟨_, rfl, hC _ _ (Same.refl _) (fT hb)⟩
      · exact hC _ _ (Same.refl _) (fF hb)
    · intro H2 s2 hDD
      rw [fm_if] at hDD
      have s12 := s1.trans s2
      refine ⟨_, rfl, D, rfl, ⟨_, .of hDD⟩, fun D2 hD2 => lc_fm (e := nmV) (ys := (m.members n out).filter fun c => decide (m.age c < g)) (fIf fun c => m.alive c) hD2 (.of hDD) (small (k := 10000) (Nat.le_trans (List.length_filter_le ..) hz) (by decide)) ?_ ?_⟩
      · intro i y H' C hy s3 hC
        have W' := (W.same s12).same s3
        refine ⟨rfl, _, rfl, a.p, _, a.px, _, _, rfl, W'.o, T.c_World, T.n_lives, fW_lives, a.l, a.lx, _, rfl, W'.l.o, fL_no (by decide +kernel) (by decide +kernel) (by decide +kernel), _, rfl, a, m, y, rfl, W'.l, _, rfl, ?_⟩
        refine ifB (fun hb => ?_) (fun hb => ?_)
        · exact ⟨_, rfl, hC _ _ (Same.refl _) (fT hb)⟩
        · exact hC _ _ (Same.refl _) (fF hb)
      · intro H' s3 hDD
        refine k H' D2 (s12.trans s3) (s12.free hD2) ?_
        rw [hDD, fm_if]; rfl
end
end DH

namespace DH
open PySem PySem.Spec PyProof.Rows L2 TL
section
variable {P : Program} {w : World} {K : PySem.W.Frag} {mg : Str → Option Value} {base : Heap}
inductive S3 where
  | hangs
  | met
  | failed
  deriving DecidableEq
def S3.s : S3 → Str
  | .hangs => "hangs"
  | .met => "met"
  | .failed => "failed"
theorem S3.inj : ∀ a b : S3, (a.s = b.s) ↔ a = b := by
  intro a b
  cases a <;> cases b <;> first | exact ⟨fun _ => rfl, fun _ => rfl⟩ | exact ⟨fun z => absurd z (by decide +kernel), fun z => by cases z⟩
abbrev sV (x : S3) : V := .str x.s
theorem sV_eq (a b : S3) : decide (sV a = sV b) = decide (a = b) := by
  by_cases h : a = b
  · subst h; simp
  · rw [decide_eq_false h, decide_eq_false]
    intro z
    exact h ((S3.inj a b).mp (V.str.inj z))
theorem inS (c : S3) (l : List S3) : inV (sV c) (l.map sV) = decide (c ∈ l) := by
  unfold inV
  rw [List.any_map]
  induction l with
  | nil => rfl
  | cons a r ih =>
    rw [List.any_cons, ih]
    show (eqV (sV a) (sV c) || _) = _
    have e : eqV (sV a) (sV c) = decide (c = a) := by
      show decide (a.s = c.s) = _
      by_cases h : c = a
      · subst h; simp
      · rw [decide_eq_false h, decide_eq_false]
        exact fun z => h ((S3.inj a c).mp z).symm
    rw [e]
    by_cases h1 : c = a
    · subst h1; simp
    · simp [h1]
theorem flatS (l : List S3) : (l.map sV).all flatV = true := by
  rw [List.all_map, List.all_eq_true]
  intro x _; rfl
def foldS (l : List S3) : S3 := if S3.failed ∈ l then .failed else if S3.hangs ∈ l then .hangs else .met
inductive Atom where
  | year (y : Int)
  | comes (x : Wd)
  | born (n : Nm)
  | dead (n : Nm)
  | age (n : Nm) (k : Int)
def encA : Atom → List V
  | .year y => [.str "year", .int y]
  | .comes x => [.str "comes", .str x.s]
  | .born n => [.str "born", nmV n]
  | .dead n => [.str "dead", nmV n]
  | .age n k => [.str "age", nmV n, .int k]
def Atom.nm : Atom → Option Nm
  | .year _ => none
  | .comes _ => none
  | .born n => some n
  | .dead n => some n
  | .age n _ => some n
inductive Hol where
  | one (n : Nm)
  | kids (n : Nm) (k : Int)
def encH : Hol → List V
  | .one n => [.str "one", nmV n]
  | .kids n k => [.str "kids", nmV n, .int k]
def Hol.nm : Hol → Nm
  | .one n => n
  | .kids n _ => n
structure NmOk (m : M) (n : Nm) : Prop where
  two : Two n
  near : ∃ r, m.near n = some r
def AtomOk (m : M) (t : Atom) : Prop := ∀ n, t.nm = some n → NmOk m n
namespace M
/-- the nearest lives -/
def nearLives (m : M) (n : Nm) : Bool := match m.near n with
  | some r => m.alive r
  | none => false
def unb (m : M) (n : Nm) : S3 := if m.nearLives n = true then .hangs else .failed
def atomS (m : M) : Atom → S3
  | .year y => if y ≤ m.yr then .met else .hangs
  | .comes x => if (lk m.ca x).isSome = true then .met else .hangs
  | .born n => if m.isB n = true then .met else m.unb n
  | .dead n => if m.isB n = true then (if m.alive n = true then .hangs else .met) else m.unb n
  | .age n k => if m.isB n = true then (if k ≤ m.age n then .met else if m.alive n = true then .hangs else .failed) else m.unb n
def mayGrow (m : M) (n : Nm) : Bool := if m.isB n = true then m.alive n else m.nearLives n
def classS (m : M) (n : Nm) (g : Int) (out : List Nm) : S3 :=
  if m.mayGrow n = true ∨ 0 < (m.waiting n g out).length then .hangs else if 0 < (m.seats n g out).length then .met else .failed
end M
def wholeN : Hol → List Atom → List Atom
  | .one n, ts => .born n :: ts
  | .kids _ _, ts => ts
namespace M
def holS (m : M) (out : List Nm) : Hol → List S3
  | .one _ => []
  | .kids n g => [m.classS n g out]
def rowS (m : M) (h : Hol) (ts : List Atom) (out : List Nm) : S3 := foldS (foldS ((wholeN h ts).map m.atomS) :: m.holS out h)
theorem near_isB {m : M} {n r : Nm} (h : m.near n = some r) : m.isB r = true := by
  have : ∀ w l k, m.nearK w l k = some r → m.isB r = true := by
    intro w l k
    induction k with
    | zero =>
      intro h
      unfold nearK at h
      split at h
      · cases h; assumption
      · cases h
    | succ k ih =>
      intro h
      unfold nearK at h
      split at h
      · cases h; assumption
      · exact ih h
  exact this _ _ _ h
theorem near_self {m : M} {n : Nm} (h : m.isB n = true) : m.near n = some n := by
  obtain ⟨w, l⟩ := n
  unfold near
  have : m.isB ⟨w, l.take l.length⟩ = true := by rw [List.take_length]; exact h
  rw [nearK_hit this, List.take_length]
theorem near_ne {m : M} {n r : Nm} (h : m.near n = some r) (hb : m.isB n = false) : r ≠ n := fun z => by
  rw [z] at h
  rw [near_isB h] at hb
  cases hb
end M
def sp_may_grow (K : PySem.W.Frag) : Sp := fun vs H Q _ => ∃ A m n, vs = [.ref A.p, nmV n] ∧ WAt K H A m ∧ NmOk m n ∧ ∀ H', Same H H' → Q (.bl (m.mayGrow n)) H'
theorem sc_may_grow : FnScope ["world", "name"] ["world", "name"] (defScope s_may_grow) :=
  ⟨rfl, rfl, rfl, by decide +kernel, rfl, by decide +kernel, by decide +kernel⟩
theorem ok_may_grow (T : Txt K mg) : Cal P w K mg base 5 "may_grow" ["world", "name"] (sp_may_grow K) := by
  obtain ⟨f_Lives_never, fd_Lives_never, m_Lives_never, b_Lives_never, G_Lives_never⟩ := ok_Lives_never T
  obtain ⟨f_Lives_known, fd_Lives_known, m_Lives_known, b_Lives_known, G_Lives_known⟩ := ok_Lives_known T
  obtain ⟨f_Lives_alive, fd_Lives_alive, m_Lives_alive, b_Lives_alive, G_Lives_alive⟩ := ok_Lives_alive T
  refine cal_of T.g_may_grow T.f_may_grow sc_may_grow (fun _ _ _ _ _ _ us hl => match us, hl with | [_, _], _ => rfl) (fun vs H Q E h => ?_) (fun f cdv A outer s H vs Q E hr h => ?_)
  · obtain ⟨A, m, n, rfl, _⟩ := h; rfl
  · obtain ⟨a, m, n, rfl, W, ⟨h2, r, hn⟩, k⟩ := h
    refine ⟨_, (pss_cons (ps_if (pt_val (pe_meth (pe_fldK K (pv 0) rfl) T.c_Lives m_Lives_known G_Lives_known (hr.mono (by decide)) b_Lives_known .nil pass0 (pa_cons (pv 1) pa_nil))) (pss_one (ps_ret (pe_meth (pe_fldK K (pv 0) rfl) T.c_Lives m_Lives_alive G_Lives_alive (hr.mono (by decide)) b_Lives_alive .nil pass0 (pa_cons (pv 1) pa_nil)))) pss_nil)
        (pss_one (ps_ret (pe_not (pe_meth (pe_fldK K (pv 0) rfl) T.c_Lives m_Lives_never G_Lives_never (hr.mono (by decide)) b_Lives_never .nil pass0 (pa_cons (pv 1) pa_nil)))))), ?_⟩
    unfold M.mayGrow at k
    refine ⟨_, rfl, a.p, _, a.px, _, _, rfl, W.o, T.c_World, T.n_lives, fW_lives, a.l, a.lx, _, rfl, W.l.o, fL_no (by decide +kernel) (by decide +kernel) (by decide +kernel), _, rfl, a, m, n, rfl, W.l, _, rfl, ?_⟩
    refine ifB (fun hb => ?_) (fun hb => ?_)
    · rw [if_pos hb] at k
      exact ⟨_, rfl, a.p, _, a.px, _, _, rfl, W.o, T.c_World, T.n_lives, fW_lives, a.l, a.lx, _, rfl, W.l.o, fL_no (by decide +kernel) (by decide +kernel) (by decide +kernel), _, rfl, a, m, n, rfl, W.l, k H (Same.refl _)⟩
    · rw [if_neg (by rw [hb]; exact Bool.false_ne_true)] at k
      refine ⟨_, rfl, a.p, _, a.px, _, _, rfl, W.o, T.c_World, T.n_lives, fW_lives, a.l, a.lx, _, rfl, W.l.o, fL_no (by decide +kernel) (by decide +kernel) (by decide +kernel), _, rfl, a, m, n, r, rfl, W.l, h2, hn, fun H1 s1 => ⟨_, rfl, ?_⟩⟩
      have k := k H1 s1
      unfold M.nearLives at k
      rw [hn] at k
      rw [decide_eq_false (M.near_ne hn hb)]
      simpa using k
def sp_class_stand (K : PySem.W.Frag) : Sp := fun vs H Q _ => ∃ A m n g o out, vs = [.ref A.p, nmV n, .int g, .ref o] ∧ WAt K H A m ∧ m.WF ∧ NmOk m n ∧ SqL K H o (out.map nmV) ∧ ∀ H', Same H H' → Q (sV (m.classS n g out)) H'
theorem sc_class_stand : FnScope ["world", "name", "age", "out"] ["world", "name", "age", "out"] (defScope s_class_stand) :=
  ⟨rfl, rfl, rfl, by decide +kernel, rfl, by decide +kernel, by decide +kernel⟩
theorem ok_class_stand (T : Txt K mg) : Cal P w K mg base 6 "class_stand" ["world", "name", "age", "out"] (sp_class_stand K) := by
  obtain ⟨f_seats, fd_seats, g_seats, k_seats, b_seats, G_seats⟩ := ok_seats T
  obtain ⟨f_waiting, fd_waiting, g_waiting, k_waiting, b_waiting, G_waiting⟩ := ok_waiting T
  obtain ⟨f_may_grow, fd_may_grow, g_may_grow, k_may_grow, b_may_grow, G_may_grow⟩ := ok_may_grow T
  refine cal_of T.g_class_stand T.f_class_stand sc_class_stand (fun _ _ _ _ _ _ us hl => match us, hl with | [_, _, _, _], _ => rfl) (fun vs H Q E h => ?_) (fun f cdv A outer s H vs Q E hr h => ?_)
  · obtain ⟨A, m, n, g, o, out, rfl, _⟩ := h; rfl
  · obtain ⟨a, m, n, g, o, out, rfl, W, wf, hn, ho, k⟩ := h
    refine ⟨_, (pss_cons (ps_if (PW.pt (pw_or (pt_val (pe_call G_may_grow (hr.mono (by decide)) rfl g_may_grow k_may_grow b_may_grow .nil pass0 (pa_cons (pv 0) (pa_cons (pv 1) pa_nil)))) (pw_or1 (pt_cmpR op_gt (pe_callB (call_lenK K) (by rfl) T.b_len PySem.boot_len (pa_cons (pe_call G_waiting (hr.mono (by decide)) rfl g_waiting k_waiting b_waiting .nil pass0 (pa_cons (pv 0) (pa_cons (pv 1) (pa_cons (pv 2) (pa_cons (pv 3) pa_nil))))) pa_nil)) pe_int (nomark _))))) (pss_one (ps_ret pe_str)) pss_nil)
        (pss_cons (ps_if (pt_cmpR op_gt (pe_callB (call_lenK K) (by rfl) T.b_len PySem.boot_len (pa_cons (pe_call G_seats (hr.mono (by decide)) rfl g_seats k_seats b_seats .nil pass0 (pa_cons (pv 0) (pa_cons (pv 1) (pa_cons (pv 2) (pa_cons (pv 3) pa_nil))))) pa_nil)) pe_int (nomark _)) (pss_one (ps_ret pe_str)) pss_nil)
        (pss_one (ps_ret pe_str)))), ?_⟩
    unfold M.classS at k
    refine ⟨_, rfl, _, rfl, a, m, n, rfl, W, hn, fun H1 s1 => ⟨_, rfl, ?_⟩⟩
    refine ifB (fun hb => ?_) (fun hb => ?_)
    · rw [if_pos (.inl hb)] at k
      exact k H1 s1
    · refine ⟨_, rfl, _, rfl, _, rfl, _, rfl, a, m, n, g, o, out, rfl, W.same s1, wf, hn.two, s1.seq ho, fun H2 p s2 hp hp1 => ?_⟩
      refine ⟨_, _, rfl, .inl ⟨_, .of hp1, rfl⟩, _, _, rfl, rfl, _, rfl, ?_⟩
      have s12 := s1.trans s2
      rw [List.length_map]
      refine ifB (fun hw => ?_) (fun hw => ?_)
      · rw [if_pos (.inr (by have := of_decide_eq_true hw; omega))] at k
        exact k H2 s12
      · rw [if_neg (by
          rintro (z | z)
          · rw [hb] at z; cases z
          · have := of_decide_eq_false hw; omega)] at k
        refine ⟨_, rfl, _, rfl, _, rfl, _, rfl, a, m, n, g, o, out, rfl, W.same s12, wf, hn.two, s12.seq ho, fun H3 q s3 hq hq1 => ?_⟩
        refine ⟨_, _, rfl, .inl ⟨_, .of hq1, rfl⟩, _, _, rfl, rfl, _, rfl, ?_⟩
        rw [List.length_map]
        refine ifB (fun hw => ?_) (fun hw => ?_)
        · rw [if_pos (by have := of_decide_eq_true hw; omega)] at k
          exact k H3 (s12.trans s3)
        · rw [if_neg (by have := of_decide_eq_false hw; omega)] at k
          exact k H3 (s12.trans s3)
def sp_near_of (K : PySem.W.Frag) : Sp := fun vs H Q _ => ∃ A m n r, vs = [.ref A.p, nmV n] ∧ WAt K H A m ∧ Two n ∧ m.near n = some r ∧ ∀ H', Same H H' → Q (nmV r) H'
theorem sc_near_of : FnScope ["world", "name", "near"] ["world", "name"] (defScope s_near_of) :=
  ⟨rfl, rfl, rfl, by decide +kernel, rfl, by decide +kernel, by decide +kernel⟩
theorem ok_near_of (T : Txt K mg) : Cal P w K mg base 4 "near_of" ["world", "name"] (sp_near_of K) := by
  obtain ⟨f_Lives_nearest, fd_Lives_nearest, m_Lives_nearest, b_Lives_nearest, G_Lives_nearest⟩ := ok_Lives_nearest T
  refine cal_of T.g_near_of T.f_near_of sc_near_of (fun _ _ _ _ _ _ us hl => match us, hl with | [_, _], _ => rfl) (fun vs H Q E h => ?_) (fun f cdv A outer s H vs Q E hr h => ?_)
  · obtain ⟨A, m, n, r, rfl, _⟩ := h; rfl
  · obtain ⟨a, m, n, r, rfl, W, h2, hn, k⟩ := h
    refine ⟨_, (pss_cons (ps_set (i := 2) sc_near_of.nd rfl (by first | exact Or.inl rfl | exact Or.inr rfl) (pe_meth (pe_fldK K (pv 0) rfl) T.c_Lives m_Lives_nearest G_Lives_nearest (hr.mono (by decide)) b_Lives_nearest .nil pass0 (pa_cons (pv 1) pa_nil)))
        (pss_cons (ps_if (pt_cmpR op_eq (pv 2) pe_str (nomark _)) pss_never pss_nil)
        (pss_one (ps_ret (pv 2))))), ?_⟩
    refine ⟨_, rfl, a.p, _, a.px, _, _, rfl, W.o, T.c_World, T.n_lives, fW_lives, a.l, a.lx, _, rfl, W.l.o, fL_no (by decide +kernel) (by decide +kernel) (by decide +kernel), _, rfl, a, m, n, r, rfl, W.l, h2, hn, fun H1 s1 => ?_⟩
    refine ⟨_, rfl, rfl, _, rfl, ifFd (fun z => enc_ne r (V.str.inj z)) ?_⟩
    exact ⟨_, rfl, k H1 s1⟩
def sp_unborn (K : PySem.W.Frag) : Sp := fun vs H Q _ => ∃ A m n, vs = [.ref A.p, nmV n] ∧ WAt K H A m ∧ NmOk m n ∧ ∀ H', Same H H' → Q (sV (m.unb n)) H'
theorem sc_unborn : FnScope ["world", "name"] ["world", "name"] (defScope s_unborn) :=
  ⟨rfl, rfl, rfl, by decide +kernel, rfl, by decide +kernel, by decide +kernel⟩
theorem ok_unborn (T : Txt K mg) : Cal P w K mg base 5 "unborn" ["world", "name"] (sp_unborn K) := by
  obtain ⟨f_Lives_alive, fd_Lives_alive, m_Lives_alive, b_Lives_alive, G_Lives_alive⟩ := ok_Lives_alive T
  obtain ⟨f_near_of, fd_near_of, g_near_of, k_near_of, b_near_of, G_near_of⟩ := ok_near_of T
  refine cal_of T.g_unborn T.f_unborn sc_unborn (fun _ _ _ _ _ _ us hl => match us, hl with | [_, _], _ => rfl) (fun vs H Q E h => ?_) (fun f cdv A outer s H vs Q E hr h => ?_)
  · obtain ⟨A, m, n, rfl, _⟩ := h; rfl
  · obtain ⟨a, m, n, rfl, W, ⟨h2, r, hn⟩, k⟩ := h
    refine ⟨_, (pss_cons (ps_if (pt_val (pe_meth (pe_fldK K (pv 0) rfl) T.c_Lives m_Lives_alive G_Lives_alive (hr.mono (by decide)) b_Lives_alive .nil pass0 (pa_cons (pe_call G_near_of (hr.mono (by decide)) rfl g_near_of k_near_of b_near_of .nil pass0 (pa_cons (pv 0) (pa_cons (pv 1) pa_nil))) pa_nil))) (pss_one (ps_ret pe_str)) pss_nil)
        (pss_one (ps_ret pe_str))), ?_⟩
    refine ⟨_, rfl, a.p, _, a.px, _, _, rfl, W.o, T.c_World, T.n_lives, fW_lives, a.l, a.lx, _, rfl, W.l.o, fL_no (by decide +kernel) (by decide +kernel) (by decide +kernel), _, rfl, _, rfl, a, m, n, r, rfl, W, h2, hn, fun H1 s1 => ?_⟩
    refine ⟨a, m, r, rfl, (W.same s1).l, _, rfl, ?_⟩
    have k := k H1 s1
    unfold M.unb M.nearLives at k
    rw [hn] at k
    refine ifB (fun hb => ?_) (fun hb => ?_)
    · have k : Q (sV (if m.alive r = true then .hangs else .failed)) H1 := k
      rw [if_pos hb] at k
      exact k
    · have k : Q (sV (if m.alive r = true then .hangs else .failed)) H1 := k
      rw [if_neg (by rw [hb]; exact Bool.false_ne_true)] at k
      exact k
def sp_atom_stand (K : PySem.W.Frag) : Sp := fun vs H Q _ => ∃ A m t x, vs = [.ref A.p, .ref t] ∧ WAt K H A m ∧ AtomOk m x ∧ H t = some (.tup (encA x)) ∧ ∀ H', Same H H' → Q (sV (m.atomS x)) H'
theorem sc_atom_stand : FnScope ["world", "atom", "name"] ["world", "atom"] (defScope s_atom_stand) :=
  ⟨rfl, rfl, rfl, by decide +kernel, rfl, by decide +kernel, by decide +kernel⟩
theorem ok_atom_stand (T : Txt K mg) : Cal P w K mg base 6 "atom_stand" ["world", "atom"] (sp_atom_stand K) := by
  obtain ⟨f_Lives_alive, fd_Lives_alive, m_Lives_alive, b_Lives_alive, G_Lives_alive⟩ := ok_Lives_alive T
  obtain ⟨f_World_age, fd_World_age, m_World_age, b_World_age, G_World_age⟩ := ok_World_age T
  obtain ⟨f_near_of, fd_near_of, g_near_of, k_near_of, b_near_of, G_near_of⟩ := ok_near_of T
  obtain ⟨f_unborn, fd_unborn, g_unborn, k_unborn, b_unborn, G_unborn⟩ := ok_unborn T
  obtain ⟨f_World_came_in, fd_World_came_in, m_World_came_in, b_World_came_in, G_World_came_in⟩ := ok_World_came_in T
  refine cal_of T.g_atom_stand T.f_atom_stand sc_atom_stand (fun _ _ _ _ _ _ us hl => match us, hl with | [_, _], _ => rfl) (fun vs H Q E h => ?_) (fun f cdv A outer s H vs Q E hr h => ?_)
  · obtain ⟨A, m, t, x, rfl, _⟩ := h; rfl
  · obtain ⟨a, m, t, x, rfl, W, ok, ht, k⟩ := h
    refine ⟨_, (pss_cons (ps_if (pt_cmpR op_eq (pe_ix (ix_tupK K) (pv 1) pe_int (fun _ _ => rfl)) pe_str (nomark _)) (pss_cons (ps_if (pt_cmpR op_ge (pe_fldK K (pv 0) rfl) (pe_ix (ix_tupK K) (pv 1) pe_int (fun _ _ => rfl)) (nomark _)) (pss_one (ps_ret pe_str)) pss_nil)
        (pss_one (ps_ret pe_str))) pss_nil)
        (pss_cons (ps_if (pt_cmpR op_eq (pe_ix (ix_tupK K) (pv 1) pe_int (fun _ _ => rfl)) pe_str (nomark _)) (pss_cons (ps_if (pt_cmp (pc_isN (pe_meth (pv 0) T.c_World m_World_came_in G_World_came_in (hr.mono (by decide)) b_World_came_in .nil pass0 (pa_cons (pe_ix (ix_tupK K) (pv 1) pe_int (fun _ _ => rfl)) pa_nil)))) (pss_one (ps_ret pe_str)) pss_nil)
        (pss_one (ps_ret pe_str))) pss_nil)
        (pss_cons (ps_set (i := 2) sc_atom_stand.nd rfl (by first | exact Or.inl rfl | exact Or.inr rfl) (pe_ix (ix_tupK K) (pv 1) pe_int (fun _ _ => rfl)))
        (pss_cons (ps_if (pt_cmpR op_ne (pe_call G_near_of (hr.mono (by decide)) rfl g_near_of k_near_of b_near_of .nil pass0 (pa_cons (pv 0) (pa_cons (pv 2) pa_nil))) (pv 2) (nomark _)) (pss_one (ps_ret (pe_call G_unborn (hr.mono (by decide)) rfl g_unborn k_unborn b_unborn .nil pass0 (pa_cons (pv 0) (pa_cons (pv 2) pa_nil))))) pss_nil)
        (pss_cons (ps_if (pt_cmpR op_eq (pe_ix (ix_tupK K) (pv 1) pe_int (fun _ _ => rfl)) pe_str (nomark _)) (pss_one (ps_ret pe_str)) pss_nil)
        (pss_cons (ps_if (PW.pt (pw_and (pt_cmpR op_eq (pe_ix (ix_tupK K) (pv 1) pe_int (fun _ _ => rfl)) pe_str (nomark _)) (pw_and1 (pt_cmpR op_ge (pe_meth (pv 0) T.c_World m_World_age G_World_age (hr.mono (by decide)) b_World_age .nil pass0 (pa_cons (pv 2) pa_nil)) (pe_ix (ix_tupK K) (pv 1) pe_int (fun _ _ => rfl)) (nomark _))))) (pss_one (ps_ret pe_str)) pss_nil)
        (pss_cons (ps_if (pt_val (pe_meth (pe_fldK K (pv 0) rfl) T.c_Lives m_Lives_alive G_Lives_alive (hr.mono (by decide)) b_Lives_alive .nil pass0 (pa_cons (pv 2) pa_nil))) (pss_one (ps_ret pe_str)) pss_nil)
        (pss_cons (ps_if (pt_cmpR op_eq (pe_ix (ix_tupK K) (pv 1) pe_int (fun _ _ => rfl)) pe_str (nomark _)) (pss_one (ps_ret pe_str)) pss_nil)
        (pss_one (ps_ret pe_str)))))))))), ?_⟩
    have k0 := k
    cases x with
    | year y =>
      refine ⟨_, rfl, _, _, _, _, rfl, rfl, .of (ht), atI_nat (j := 0) rfl, rfl, _, rfl, ifTd rfl ?_⟩
      refine ⟨_, rfl, a.p, _, a.px, _, _, rfl, W.o, T.c_World, T.n_year, fW_year, _, rfl, _, _, _, _, rfl, rfl, .of (ht), atI_nat (j := 1) rfl, _, _, rfl, rfl, _, rfl, ?_⟩
      have k := k H (Same.refl _)
      simp only [M.atomS] at k
      refine ifB (fun hb => ?_) (fun hb => ?_)
      · rw [if_pos (of_decide_eq_true hb)] at k
        exact k
      · rw [if_neg (of_decide_eq_false hb)] at k
        exact k
    | comes x =>
      refine ⟨_, rfl, _, _, _, _, rfl, rfl, .of (ht), atI_nat (j := 0) rfl, rfl, _, rfl, ifFd (by decide +kernel) ?_⟩
      refine ⟨_, rfl, _, _, _, _, rfl, rfl, .of (ht), atI_nat (j := 0) rfl, rfl, _, rfl, ifTd rfl ?_⟩
      have k := k H (Same.refl _)
      simp only [M.atomS] at k
      refine ⟨_, rfl, a.p, a.px, _, rfl, W.o, fW_no (by decide +kernel) (by decide +kernel) (by decide +kernel), _, rfl, _, _, _, _, rfl, rfl, .of (ht), atI_nat (j := 1) rfl, a, m, x, rfl, W, _, rfl, ?_⟩
      cases e : lk m.ca x with
      | none =>
        rw [e] at k
        exact k
      | some v =>
        rw [e] at k
        exact k
    | born n =>
      obtain ⟨h2, r, hn⟩ := ok n rfl
      refine ⟨_, rfl, _, _, _, _, rfl, rfl, .of (ht), atI_nat (j := 0) rfl, rfl, _, rfl, ifFd (by decide +kernel) ?_⟩
      refine ⟨_, rfl, _, _, _, _, rfl, rfl, .of (ht), atI_nat (j := 0) rfl, rfl, _, rfl, ifFd (by decide +kernel) ?_⟩
      refine ⟨_, rfl, _, _, _, _, rfl, rfl, .of (ht), atI_nat (j := 1) rfl, ?_⟩
      refine ⟨_, rfl, _, rfl, a, m, n, r, rfl, W, h2, hn, fun H1 s1 => ?_⟩
      have W1 := W.same s1
      have ht := s1 _ _ ht
      refine ⟨_, rfl, rfl, _, rfl, ?_⟩
      rw [nmV_eq]
      refine ifB (fun hb => ?_) (fun hb => ?_)
      · have hb : r ≠ n := by simpa using hb
        have hB : m.isB n = false := by
          cases e : m.isB n with
          | false => rfl
          | true => rw [M.near_self e] at hn; exact absurd (Option.some.inj hn).symm hb
        refine ⟨_, rfl, _, rfl, a, m, n, rfl, W1, ⟨h2, r, hn⟩, fun H2 s2 => ?_⟩
        have k := k H2 (s1.trans s2)
        simp only [M.atomS] at k
        rw [if_neg (by rw [hB]; exact Bool.false_ne_true)] at k
        exact k
      · have hb : r = n := by simpa using hb
        subst hb
        have hB := M.near_isB hn
        refine ⟨_, rfl, _, _, _, _, rfl, rfl, .of (ht), atI_nat (j := 0) rfl, rfl, _, rfl, ifTd rfl ?_⟩
        have k := k H1 s1
        simp only [M.atomS] at k
        rw [if_pos hB] at k
        exact k
    | dead n =>
      obtain ⟨h2, r, hn⟩ := ok n rfl
      refine ⟨_, rfl, _, _, _, _, rfl, rfl, .of (ht), atI_nat (j := 0) rfl, rfl, _, rfl, ifFd (by decide +kernel) ?_⟩
      refine ⟨_, rfl, _, _, _, _, rfl, rfl, .of (ht), atI_nat (j := 0) rfl, rfl, _, rfl, ifFd (by decide +kernel) ?_⟩
      refine ⟨_, rfl, _, _, _, _, rfl, rfl, .of (ht), atI_nat (j := 1) rfl, ?_⟩
      refine ⟨_, rfl, _, rfl, a, m, n, r, rfl, W, h2, hn, fun H1 s1 => ?_⟩
      have W1 := W.same s1
      have ht := s1 _ _ ht
      refine ⟨_, rfl, rfl, _, rfl, ?_⟩
      rw [nmV_eq]
      refine ifB (fun hb => ?_) (fun hb => ?_)
      · have hb : r ≠ n := by simpa using hb
        have hB : m.isB n = false := by
          cases e : m.isB n with
          | false => rfl
          | true => rw [M.near_self e] at hn; exact absurd (Option.some.inj hn).symm hb
        refine ⟨_, rfl, _, rfl, a, m, n, rfl, W1, ⟨h2, r, hn⟩, fun H2 s2 => ?_⟩
        have k := k H2 (s1.trans s2)
        simp only [M.atomS] at k
        rw [if_neg (by rw [hB]; exact Bool.false_ne_true)] at k
        exact k
      · have hb : r = n := by simpa using hb
        subst hb
        have hB := M.near_isB hn
        refine ⟨_, rfl, _, _, _, _, rfl, rfl, .of (ht), atI_nat (j := 0) rfl, rfl, _, rfl, ifFd (by decide +kernel) ?_⟩
        refine ⟨_, rfl, _, _, _, _, rfl, rfl, .of (ht), atI_nat (j := 0) rfl, rfl, _, rfl, ifFd (by decide +kernel) ?_⟩
        have k := k H1 s1
        simp only [M.atomS] at k
        rw [if_pos hB] at k
        refine ⟨_, rfl, a.p, _, a.px, _, _, rfl, W1.o, T.c_World, T.n_lives, fW_lives, a.l, a.lx, _, rfl, W1.l.o, fL_no (by decide +kernel) (by decide +kernel) (by decide +kernel), _, rfl, a, m, r, rfl, W1.l, _, rfl, ?_⟩
        refine ifB (fun hb => ?_) (fun hb => ?_)
        · rw [if_pos hb] at k
          exact k
        · rw [if_neg (by rw [hb]; exact Bool.false_ne_true)] at k
          exact ⟨_, rfl, _, _, _, _, rfl, rfl, .of (ht), atI_nat (j := 0) rfl, rfl, _, rfl, ifTd rfl k⟩
    | age n g =>
      obtain ⟨h2, r, hn⟩ := ok n rfl
      refine ⟨_, rfl, _, _, _, _, rfl, rfl, .of (ht), atI_nat (j := 0) rfl, rfl, _, rfl, ifFd (by decide +kernel) ?_⟩
      refine ⟨_, rfl, _, _, _, _, rfl, rfl, .of (ht), atI_nat (j := 0) rfl, rfl, _, rfl, ifFd (by decide +kernel) ?_⟩
      refine ⟨_, rfl, _, _, _, _, rfl, rfl, .of (ht), atI_nat (j := 1) rfl, ?_⟩
      refine ⟨_, rfl, _, rfl, a, m, n, r, rfl, W, h2, hn, fun H1 s1 => ?_⟩
      have W1 := W.same s1
      have ht := s1 _ _ ht
      refine ⟨_, rfl, rfl, _, rfl, ?_⟩
      rw [nmV_eq]
      refine ifB (fun hb => ?_) (fun hb => ?_)
      · have hb : r ≠ n := by simpa using hb
        have hB : m.isB n = false := by
          cases e : m.isB n with
          | false => rfl
          | true => rw [M.near_self e] at hn; exact absurd (Option.some.inj hn).symm hb
        refine ⟨_, rfl, _, rfl, a, m, n, rfl, W1, ⟨h2, r, hn⟩, fun H2 s2 => ?_⟩
        have k := k H2 (s1.trans s2)
        simp only [M.atomS] at k
        rw [if_neg (by rw [hB]; exact Bool.false_ne_true)] at k
        exact k
      · have hb : r = n := by simpa using hb
        subst hb
        have hB := M.near_isB hn
        have k := k H1 s1
        simp only [M.atomS] at k
        rw [if_pos hB] at k
        refine ⟨_, rfl, _, _, _, _, rfl, rfl, .of (ht), atI_nat (j := 0) rfl, rfl, _, rfl, ifFd (by decide +kernel) ?_⟩
        refine ⟨_, rfl, _, _, _, _, rfl, rfl, .of (ht), atI_nat (j := 0) rfl, rfl, _, rfl, ifTd rfl ?_⟩
        refine ⟨_, rfl, a.p, a.px, _, rfl, W1.o, fW_no (by decide +kernel) (by decide +kernel) (by decide +kernel), _, rfl, a, m, r, rfl, W1, hB, _, rfl, _, _, _, _, rfl, rfl, .of (ht), atI_nat (j := 2) rfl, _, _, rfl, rfl, _, rfl, ?_⟩
        refine ifB (fun hb => ?_) (fun hb => ?_)
        · rw [if_pos (of_decide_eq_true hb)] at k
          exact k
        · rw [if_neg (of_decide_eq_false hb)] at k
          refine ⟨_, rfl, a.p, _, a.px, _, _, rfl, W1.o, T.c_World, T.n_lives, fW_lives, a.l, a.lx, _, rfl, W1.l.o, fL_no (by decide +kernel) (by decide +kernel) (by decide +kernel), _, rfl, a, m, r, rfl, W1.l, _, rfl, ?_⟩
          refine ifB (fun hb => ?_) (fun hb => ?_)
          · rw [if_pos hb] at k
            exact k
          · rw [if_neg (by rw [hb]; exact Bool.false_ne_true)] at k
            exact ⟨_, rfl, _, _, _, _, rfl, rfl, .of (ht), atI_nat (j := 0) rfl, rfl, _, rfl, ifFd (by decide +kernel) k⟩
end
end DH

namespace DH
open PySem PySem.Spec PyProof.Rows L2 TL
section
variable {P : Program} {w : World} {K : PySem.W.Frag} {mg : Str → Option Value} {base : Heap}
structure AtL (K : PySem.W.Frag) (H : Hp) (o : Addr) (ps : List (Addr × Atom)) : Prop where
  l : SqL K H o (ps.map fun p => V.ref p.1)
  t : ∀ p ∈ ps, H p.1 = some (.tup (encA p.2))
theorem AtL.same {H H' : Hp} {o : Addr} {ps : List (Addr × Atom)} (A : AtL K H o ps) (s : Same H H') : AtL K H' o ps := ⟨s.seq A.l, fun p hp => s _ _ (A.t p hp)⟩
abbrev rV (p : Addr × Atom) : V := .ref p.1
def sp_stand (K : PySem.W.Frag) : Sp := fun vs H Q _ => ∃ A m o ps, vs = [.ref A.p, .ref o] ∧ WAt K H A m ∧ AtL K H o ps ∧ (∀ p ∈ ps, AtomOk m p.2) ∧ ps.length ≤ 1000 ∧ ∀ H', Same H H' → Q (sV (foldS (ps.map fun p => m.atomS p.2))) H'
theorem sc_stand : FnScope ["world", "atoms", "stands", "atom"] ["world", "atoms"] (defScope s_stand) :=
  ⟨rfl, rfl, rfl, by decide +kernel, rfl, by decide +kernel, by decide +kernel⟩
theorem ok_stand (T : Txt K mg) : Cal P w K mg base 7 "stand" ["world", "atoms"] (sp_stand K) := by
  obtain ⟨f_atom_stand, fd_atom_stand, g_atom_stand, k_atom_stand, b_atom_stand, G_atom_stand⟩ := ok_atom_stand T
  refine cal_of T.g_stand T.f_stand sc_stand (fun _ _ _ _ _ _ us hl => match us, hl with | [_, _], _ => rfl) (fun vs H Q E h => ?_) (fun f cdv A outer s H vs Q E hr h => ?_)
  · obtain ⟨A, m, o, ps, rfl, _⟩ := h; rfl
  · obtain ⟨a, m, o, ps, rfl, W, B, ok, hz, k⟩ := h
    refine ⟨_, (pss_cons (ps_setLc (i := 2) (own := [("atom", 3)]) rfl sc_stand.nd rfl rfl (sw_true rfl rfl rfl (by decide +kernel)) (pi_listK K (pv 1)) (blkOk_by (own := [("atom", 3)]) (N := ["world", "atoms", "stands", "atom"]) (sc := defScope s_stand) (by decide +kernel)) (fun _ _ _ _ _ => pg_name (i := 3) sc_stand.nd rfl (Or.inl rfl)) (fun _ _ _ _ _ => pts_nil) (fun _ _ _ _ _ => (pe_call G_atom_stand (hr.mono (by decide)) rfl g_atom_stand k_atom_stand b_atom_stand .nil pass0 (pa_cons (pv 0) (pa_cons (pv 3) pa_nil)))))
        (pss_cons (ps_if (pt_cmpR (op_in_seqK K) pe_str (pv 2) rfl) (pss_one (ps_ret pe_str)) pss_nil)
        (pss_cons (ps_if (pt_cmpR (op_in_seqK K) pe_str (pv 2) rfl) (pss_one (ps_ret pe_str)) pss_nil)
        (pss_one (ps_ret pe_str))))), ?_⟩
    refine ⟨_, rfl, o, rfl, ⟨_, B.l⟩, fun D hD => lc_fm (e := rV) (ys := ps) (fun p => some (sV (m.atomS p.2))) hD B.l (small hz (by decide)) ?_ ?_⟩
    · intro i y H' C hy s1 hC
      have hm := List.mem_of_getElem? hy
      refine ⟨rfl, _, rfl, _, rfl, a, m, y.1, y.2, rfl, W.same s1, ok y hm, s1 _ _ (B.t y hm), fun H2 s2 => hC _ _ s2 rfl⟩
    · intro H1 s1 hDD
      have e : (ps.filterMap fun p => some (sV (m.atomS p.2))) = (ps.map fun p => m.atomS p.2).map sV := by
        rw [List.map_map]
        exact congrFun (List.filterMap_eq_map) ps
      rw [e] at hDD
      have k := k H1 s1
      unfold foldS at k
      refine ⟨_, rfl, D, _, rfl, .inl (.of hDD), rfl, flatS _, _, rfl, ?_⟩
      refine ifB (fun hb => ?_) (fun hb => ?_)
      · have hb : inV (sV .failed) _ = true := hb
        rw [inS] at hb
        rw [if_pos (of_decide_eq_true hb)] at k
        exact k
      · have hb : inV (sV .failed) _ = false := hb
        rw [inS] at hb
        rw [if_neg (of_decide_eq_false hb)] at k
        refine ⟨_, rfl, D, _, rfl, .inl (.of hDD), rfl, flatS _, _, rfl, ?_⟩
        refine ifB (fun hb => ?_) (fun hb => ?_)
        · have hb : inV (sV .hangs) _ = true := hb
          rw [inS] at hb
          rw [if_pos (of_decide_eq_true hb)] at k
          exact k
        · have hb : inV (sV .hangs) _ = false := hb
          rw [inS] at hb
          rw [if_neg (of_decide_eq_false hb)] at k
          exact k
def sp_whole_need (K : PySem.W.Frag) : Sp := fun vs H Q _ => ∃ t h o ps, vs = [.ref t, .ref o] ∧ H t = some (.tup (encH h)) ∧ AtL K H o ps ∧ ps.length ≤ 900 ∧
  ∀ H' p ps', Same H H' → H p = none → AtL K H' p ps' → ps'.map (·.2) = wholeN h (ps.map (·.2)) → Q (.ref p) H'
theorem sc_whole_need : FnScope ["holder", "atoms"] ["holder", "atoms"] (defScope s_whole_need) :=
  ⟨rfl, rfl, rfl, by decide +kernel, rfl, by decide +kernel, by decide +kernel⟩
theorem ok_whole_need (T : Txt K mg) : Cal P w K mg base 1 "whole_need" ["holder", "atoms"] (sp_whole_need K) := by
  refine cal_of T.g_whole_need T.f_whole_need sc_whole_need (fun _ _ _ _ _ _ us hl => match us, hl with | [_, _], _ => rfl) (fun vs H Q E h => ?_) (fun f cdv A outer s H vs Q E hr h => ?_)
  · obtain ⟨t, h, o, ps, rfl, _⟩ := h; rfl
  · obtain ⟨t, h, o, ps, rfl, ht, B, hz, k⟩ := h
    refine ⟨_, (pss_cons (ps_if (pt_cmpR op_eq (pe_ix (ix_tupK K) (pv 0) pe_int (fun _ _ => rfl)) pe_str (nomark _)) (pss_one (ps_ret (pe_op op_cat (pe_lst (pa_cons (pe_tup (pa_cons pe_str (pa_cons (pe_ix (ix_tupK K) (pv 0) pe_int (fun _ _ => rfl)) pa_nil))) pa_nil)) (pe_callTy (call_list_ofK K) (by rfl) T.b_list (by decide +kernel) (pa_cons (pv 1) pa_nil))))) pss_nil)
        (pss_one (ps_ret (pe_callTy (call_list_ofK K) (by rfl) T.b_list (by decide +kernel) (pa_cons (pv 1) pa_nil))))), ?_⟩
    cases h with
    | one n =>
      refine ⟨_, rfl, _, _, _, _, rfl, rfl, .of (ht), atI_nat (j := 0) rfl, rfl, _, rfl, ifTd rfl ?_⟩
      refine ⟨_, rfl, _, _, _, _, rfl, rfl, .of (ht), atI_nat (j := 1) rfl, small (k := 2) (Nat.le_refl _) (by decide), fun q hq => ⟨small (k := 1) (Nat.le_refl _) (by decide), fun l hl => ?_⟩⟩
      have s1 : Same H (upd H q (.tup (encA (.born n)))) := Same.upd hq
      have s2 : Same H (upd (upd H q (.tup (encA (.born n)))) l (.lst [.ref q])) := s1.put (s1.free hl)
      refine ⟨_, rfl, o, _, rfl, .inl (s2.seq B.l), fun l2 hl2 => ?_⟩
      have n12 : l ≠ l2 := fun z => by subst z; rw [upd_same] at hl2; cases hl2
      refine ⟨l, l2, _, _, rfl, rfl, by rw [upd_ne n12, upd_same], upd_same, small (k := 901) (by simp; omega) (by decide), fun p hp => ?_⟩
      have s3 := s2.put (o := .lst (ps.map fun p => V.ref p.1)) (s2.free hl2)
      refine k _ p ((q, .born n) :: ps) (s3.put (s3.free hp)) (s3.free hp) ⟨.of upd_same, ?_⟩ rfl
      intro x hx
      rcases List.mem_cons.mp hx with rfl | hx
      · have nql : q ≠ l := fun z => by subst z; rw [upd_same] at hl; cases hl
        have nql2 : q ≠ l2 := fun z => by subst z; rw [upd_ne nql, upd_same] at hl2; cases hl2
        have nqp : q ≠ p := fun z => by subst z; rw [upd_ne nql2, upd_ne nql, upd_same] at hp; cases hp
        show upd _ p _ q = _
        rw [upd_ne nqp, upd_ne nql2, upd_ne nql, upd_same]; rfl
      · exact (s3.put (s3.free hp)) _ _ (B.t x hx)
    | kids n g =>
      refine ⟨_, rfl, _, _, _, _, rfl, rfl, .of (ht), atI_nat (j := 0) rfl, rfl, _, rfl, ifFd (by decide +kernel) ?_⟩
      refine ⟨_, rfl, o, _, rfl, .inl B.l, fun p hp => ?_⟩
      exact k _ p ps (Same.upd hp) hp ⟨.of upd_same, fun x hx => Same.upd hp _ _ (B.t x hx)⟩ rfl
theorem whole_ok {m : M} {h : Hol} {ps ps' : List (Addr × Atom)} (hn : NmOk m h.nm) (ok : ∀ p ∈ ps, AtomOk m p.2) (e : ps'.map (·.2) = wholeN h (ps.map (·.2))) : ∀ p ∈ ps', AtomOk m p.2 := by
  intro p hp
  have hm : p.2 ∈ wholeN h (ps.map (·.2)) := by rw [← e]; exact List.mem_map.mpr ⟨p, hp, rfl⟩
  have hold : p.2 ∈ ps.map (·.2) → AtomOk m p.2 := fun hm => by
    obtain ⟨q, hq, e2⟩ := List.mem_map.mp hm
    rw [← e2]; exact ok q hq
  cases h with
  | one n =>
    rcases List.mem_cons.mp hm with hm | hm
    · rw [hm]
      intro x hx
      cases hx
      exact hn
    · exact hold hm
  | kids n g => exact hold hm
theorem whole_len (h : Hol) (ts : List Atom) : (wholeN h ts).length ≤ ts.length + 1 := by cases h <;> simp [wholeN]
theorem foldS_two (x : S3) : foldS [x] = x := by cases x <;> rfl
def sp_row_stand (K : PySem.W.Frag) : Sp := fun vs H Q _ => ∃ A m t h o ps u out, vs = [.ref A.p, .ref t, .ref o, .ref u] ∧ WAt K H A m ∧ m.WF ∧ H t = some (.tup (encH h)) ∧ NmOk m h.nm ∧ AtL K H o ps ∧ (∀ p ∈ ps, AtomOk m p.2) ∧ ps.length ≤ 900 ∧ SqL K H u (out.map nmV) ∧
  ∀ H', Same H H' → Q (sV (m.rowS h (ps.map (·.2)) out)) H'
theorem sc_row_stand : FnScope ["world", "holder", "atoms", "out", "stands"] ["world", "holder", "atoms", "out"] (defScope s_row_stand) :=
  ⟨rfl, rfl, rfl, by decide +kernel, rfl, by decide +kernel, by decide +kernel⟩
theorem ok_row_stand (T : Txt K mg) : Cal P w K mg base 8 "row_stand" ["world", "holder", "atoms", "out"] (sp_row_stand K) := by
  obtain ⟨f_class_stand, fd_class_stand, g_class_stand, k_class_stand, b_class_stand, G_class_stand⟩ := ok_class_stand T
  obtain ⟨f_stand, fd_stand, g_stand, k_stand, b_stand, G_stand⟩ := ok_stand T
  obtain ⟨f_whole_need, fd_whole_need, g_whole_need, k_whole_need, b_whole_need, G_whole_need⟩ := ok_whole_need T
  refine cal_of T.g_row_stand T.f_row_stand sc_row_stand (fun _ _ _ _ _ _ us hl => match us, hl with | [_, _, _, _], _ => rfl) (fun vs H Q E h => ?_) (fun f cdv A outer s H vs Q E hr h => ?_)
  · obtain ⟨A, m, t, h, o, ps, u, out, rfl, _⟩ := h; rfl
  · obtain ⟨a, m, t, h, o, ps, u, out, rfl, W, wf, ht, hn, B, ok, hz, hu, k⟩ := h
    refine ⟨_, (pss_cons (ps_set (i := 4) sc_row_stand.nd rfl (by first | exact Or.inl rfl | exact Or.inr rfl) (pe_lst (pa_cons (pe_call G_stand (hr.mono (by decide)) rfl g_stand k_stand b_stand .nil pass0 (pa_cons (pv 0) (pa_cons (pe_call G_whole_need (hr.mono (by decide)) rfl g_whole_need k_whole_need b_whole_need .nil pass0 (pa_cons (pv 1) (pa_cons (pv 2) pa_nil))) pa_nil))) pa_nil)))
        (pss_cons (ps_if (pt_cmpR op_eq (pe_ix (ix_tupK K) (pv 1) pe_int (fun _ _ => rfl)) pe_str (nomark _)) (pss_one (ps_expr (bmK K (pe_bm PySem.F.plainAttrs_list PySem.F.slot_list_append PySem.F.type_list_append mt_append (pv 4) (pa_cons (pe_call G_class_stand (hr.mono (by decide)) rfl g_class_stand k_class_stand b_class_stand .nil pass0 (pa_cons (pv 0) (pa_cons (pe_ix (ix_tupK K) (pv 1) pe_int (fun _ _ => rfl)) (pa_cons (pe_ix (ix_tupK K) (pv 1) pe_int (fun _ _ => rfl)) (pa_cons (pv 3) pa_nil))))) pa_nil))))) pss_nil)
        (pss_cons (ps_if (pt_cmpR (op_in_seqK K) pe_str (pv 4) rfl) (pss_one (ps_ret pe_str)) pss_nil)
        (pss_cons (ps_if (pt_cmpR (op_in_seqK K) pe_str (pv 4) rfl) (pss_one (ps_ret pe_str)) pss_nil)
        (pss_one (ps_ret pe_str)))))), ?_⟩
    refine ⟨_, rfl, _, rfl, _, rfl, t, h, o, ps, rfl, ht, B, hz, fun H1 p ps' s1 hp B1 e1 => ?_⟩
    have hl' : ps'.length ≤ 901 := by
      have h1 := congrArg List.length e1
      have h2 := whole_len h (ps.map (·.2))
      rw [List.length_map] at h1 h2
      omega
    refine ⟨a, m, p, ps', rfl, W.same s1, B1, whole_ok hn ok e1, by omega, fun H2 s2 => ⟨small (k := 1) (Nat.le_refl _) (by decide), fun l hl => ?_⟩⟩
    have s12 := s1.trans s2
    have e2 : (ps'.map fun p => m.atomS p.2) = (wholeN h (ps.map (·.2))).map m.atomS := by rw [← e1, List.map_map]; rfl
    rw [e2]
    have fin : ∀ (sts : List S3) (H3 : Hp), Same H H3 → H3 l = some (.lst (sts.map sV)) → foldS sts = m.rowS h (ps.map (·.2)) out →
        (tSeq (tIfS (tTest (tOp (rIn K false) (tC (sV .failed)) (tVar 4))) (tRet (tC (sV .failed))) tNext)
          (tSeq (tIfS (tTest (tOp (rIn K false) (tC (sV .hangs)) (tVar 4))) (tRet (tC (sV .hangs))) tNext) (tRet (tC (sV .met))))) { nx := fun _ H' => Q .non H', rt := Q }
          [some (.ref a.p), some (.ref t), some (.ref o), some (.ref u), some (.ref l)] H3 := by
      intro sts H3 s3 hl3 ef
      have k := k H3 s3
      rw [← ef] at k
      unfold foldS at k
      refine ⟨_, rfl, l, _, rfl, .inl (.of hl3), rfl, flatS _, _, rfl, ?_⟩
      refine ifB (fun hb => ?_) (fun hb => ?_)
      · have hb : inV (sV .failed) _ = true := hb
        rw [inS] at hb
        rw [if_pos (of_decide_eq_true hb)] at k
        exact k
      · have hb : inV (sV .failed) _ = false := hb
        rw [inS] at hb
        rw [if_neg (of_decide_eq_false hb)] at k
        refine ⟨_, rfl, l, _, rfl, .inl (.of hl3), rfl, flatS _, _, rfl, ?_⟩
        refine ifB (fun hb => ?_) (fun hb => ?_)
        · have hb : inV (sV .hangs) _ = true := hb
          rw [inS] at hb
          rw [if_pos (of_decide_eq_true hb)] at k
          exact k
        · have hb : inV (sV .hangs) _ = false := hb
          rw [inS] at hb
          rw [if_neg (of_decide_eq_false hb)] at k
          exact k
    have hl0 : H l = none := s12.free hl
    cases h with
    | one n =>
      refine ⟨_, rfl, _, _, _, _, rfl, rfl, .of (s12.put (o := .lst [sV (foldS ((wholeN (.one n) (ps.map (·.2))).map m.atomS))]) hl0 _ _ ht), atI_nat (j := 0) rfl, rfl, _, rfl, ifFd (by decide +kernel) ?_⟩
      exact fin [foldS ((wholeN (.one n) (ps.map (·.2))).map m.atomS)] _ (s12.put hl0) upd_same rfl
    | kids n g =>
      have s3 : Same H (upd H2 l (.lst [sV (foldS ((wholeN (.kids n g) (ps.map (·.2))).map m.atomS))])) := s12.put hl0
      have h3 : (upd H2 l (.lst [sV (foldS ((wholeN (.kids n g) (ps.map (·.2))).map m.atomS))])) l = some (.lst [sV (foldS ((wholeN (.kids n g) (ps.map (·.2))).map m.atomS))]) := upd_same
      show tSeq _ _ _ _ (upd H2 l (.lst [sV (foldS ((wholeN (.kids n g) (ps.map (·.2))).map m.atomS))]))
      generalize (upd H2 l (.lst [sV (foldS ((wholeN (.kids n g) (ps.map (·.2))).map m.atomS))])) = H3 at s3 h3 ⊢
      have ht3 := s3 _ _ ht
      refine ⟨_, rfl, _, _, _, _, rfl, rfl, .of (ht3), atI_nat (j := 0) rfl, rfl, _, rfl, ifTd rfl ?_⟩
      refine ⟨_, rfl, .inl ⟨rfl, _, .of h3⟩, _, rfl, _, rfl, _, _, _, _, rfl, rfl, .of (ht3), atI_nat (j := 1) rfl, _, rfl, _, _, _, _, rfl, rfl, .of (ht3), atI_nat (j := 2) rfl, _, rfl, a, m, n, g, u, out, rfl, W.same s3, wf, hn, s3.seq hu, fun H4 s4 => ?_⟩
      refine ⟨l, _, _, rfl, rfl, s4 _ _ h3, small' (k := 1) (Nat.le_refl _) (by decide), ?_⟩
      exact fin [foldS ((wholeN (.kids n g) (ps.map (·.2))).map m.atomS), m.classS n g out] _ ((s3.trans s4).put hl0) upd_same rfl
end
end DH

namespace DH
open PySem PySem.Spec PyProof.Rows L2 TL
section
variable {P : Program} {w : World} {K : PySem.W.Frag} {mg : Str → Option Value} {base : Heap}
namespace M
theorem nearK_take {m : M} {w : Wd} {l : List Nat} {r : Nm} : ∀ k, k ≤ l.length → m.nearK w l k = some r → ∃ j, j ≤ k ∧ r = ⟨w, l.take j⟩ := by
  intro k
  induction k with
  | zero =>
    intro _ h
    unfold nearK at h
    split at h
    · cases h; exact ⟨0, Nat.le_refl _, by rw [List.take_zero]⟩
    · cases h
  | succ k ih =>
    intro hk h
    unfold nearK at h
    split at h
    · cases h; exact ⟨k + 1, Nat.le_refl _, rfl⟩
    · obtain ⟨j, h1, h2⟩ := ih (by omega) h
      exact ⟨j, by omega, h2⟩
theorem near_take {m : M} {n r : Nm} (h : m.near n = some r) : ∃ j, j ≤ n.l.length ∧ r = ⟨n.w, n.l.take j⟩ := nearK_take _ (Nat.le_refl _) h
def steps (m : M) (n : Nm) : Int := match m.near n with
  | some r => (n.l.length : Int) - (r.l.length : Int)
  | none => 0
def atomLate (m : M) (last term : Int) : Atom → Bool
  | .year y => decide (last < y)
  | .comes _ => true
  | .born n => if m.steps n = 0 then false else decide (1 < m.steps n)
  | .dead n => if m.steps n = 0 then false else true
  | .age n k => if m.steps n = 0 then false else if 1 < m.steps n then true else decide (term < k)
def classLate (m : M) (n : Nm) (g term : Int) : Bool := if 0 < m.steps n then true else m.alive n && decide (term < g)
end M
theorem Two.near {m : M} {n r : Nm} (h : Two n) (hn : m.near n = some r) : Two r := by
  obtain ⟨j, _, rfl⟩ := M.near_take hn
  obtain ⟨w, l⟩ := n
  exact Two.take h j
def sp_steps (K : PySem.W.Frag) : Sp := fun vs H Q _ => ∃ A m n, vs = [.ref A.p, nmV n] ∧ WAt K H A m ∧ NmOk m n ∧ ∀ H', Same H H' → Q (.int (m.steps n)) H'
theorem sc_steps : FnScope ["world", "name", "near"] ["world", "name"] (defScope s_steps) :=
  ⟨rfl, rfl, rfl, by decide +kernel, rfl, by decide +kernel, by decide +kernel⟩
theorem ok_steps (T : Txt K mg) : Cal P w K mg base 4 "steps" ["world", "name"] (sp_steps K) := by
  obtain ⟨f_parts, fd_parts, g_parts, k_parts, b_parts, G_parts⟩ := ok_parts T
  obtain ⟨f_Lives_nearest, fd_Lives_nearest, m_Lives_nearest, b_Lives_nearest, G_Lives_nearest⟩ := ok_Lives_nearest T
  refine cal_of T.g_steps T.f_steps sc_steps (fun _ _ _ _ _ _ us hl => match us, hl with | [_, _], _ => rfl) (fun vs H Q E h => ?_) (fun f cdv A outer s H vs Q E hr h => ?_)
  · obtain ⟨A, m, n, rfl, _⟩ := h; rfl
  · obtain ⟨a, m, n, rfl, W, ⟨h2, r, hn⟩, k⟩ := h
    refine ⟨_, (pss_cons (ps_set (i := 2) sc_steps.nd rfl (by first | exact Or.inl rfl | exact Or.inr rfl) (pe_meth (pe_fldK K (pv 0) rfl) T.c_Lives m_Lives_nearest G_Lives_nearest (hr.mono (by decide)) b_Lives_nearest .nil pass0 (pa_cons (pv 1) pa_nil)))
        (pss_one (ps_ret (pe_op op_sub (pe_callB (call_lenK K) (by rfl) T.b_len PySem.boot_len (pa_cons (pe_call G_parts (hr.mono (by decide)) rfl g_parts k_parts b_parts .nil pass0 (pa_cons (pv 1) pa_nil)) pa_nil)) (pe_callB (call_lenK K) (by rfl) T.b_len PySem.boot_len (pa_cons (pe_call G_parts (hr.mono (by decide)) rfl g_parts k_parts b_parts .nil pass0 (pa_cons (pv 2) pa_nil)) pa_nil)))))), ?_⟩
    refine ⟨_, rfl, a.p, _, a.px, _, _, rfl, W.o, T.c_World, T.n_lives, fW_lives, a.l, a.lx, _, rfl, W.l.o, fL_no (by decide +kernel) (by decide +kernel) (by decide +kernel), _, rfl, a, m, n, r, rfl, W.l, h2, hn, fun H1 s1 => ?_⟩
    refine ⟨_, rfl, _, rfl, h2, fun H2 p s2 hp hp1 => ⟨_, _, rfl, .inl ⟨_, .of hp1, rfl⟩, ?_⟩⟩
    refine ⟨_, rfl, _, rfl, h2.near hn, fun H3 q s3 hq hq1 => ⟨_, _, rfl, .inl ⟨_, .of hq1, rfl⟩, _, _, rfl, rfl, ?_⟩⟩
    have k := k H3 ((s1.trans s2).trans s3)
    unfold M.steps at k
    rw [hn] at k
    rw [partsV_len, partsV_len]
    have e : ((n.l.length + 1 : Nat) : Int) - ((r.l.length + 1 : Nat) : Int) = (n.l.length : Int) - (r.l.length : Int) := by omega
    show Q (.int (((n.l.length + 1 : Nat) : Int) - ((r.l.length + 1 : Nat) : Int))) H3
    rw [e]
    exact k
def sp_atom_late (K : PySem.W.Frag) : Sp := fun vs H Q _ => ∃ A m t x last term, vs = [.ref A.p, .ref t, .int last, .int term] ∧ WAt K H A m ∧ AtomOk m x ∧ H t = some (.tup (encA x)) ∧ ∀ H', Same H H' → Q (.bl (m.atomLate last term x)) H'
theorem sc_atom_late : FnScope ["world", "atom", "last", "term", "many"] ["world", "atom", "last", "term"] (defScope s_atom_late) :=
  ⟨rfl, rfl, rfl, by decide +kernel, rfl, by decide +kernel, by decide +kernel⟩
theorem ok_atom_late (T : Txt K mg) : Cal P w K mg base 5 "atom_late" ["world", "atom", "last", "term"] (sp_atom_late K) := by
  obtain ⟨f_steps, fd_steps, g_steps, k_steps, b_steps, G_steps⟩ := ok_steps T
  refine cal_of T.g_atom_late T.f_atom_late sc_atom_late (fun _ _ _ _ _ _ us hl => match us, hl with | [_, _, _, _], _ => rfl) (fun vs H Q E h => ?_) (fun f cdv A outer s H vs Q E hr h => ?_)
  · obtain ⟨A, m, t, x, last, term, rfl, _⟩ := h; rfl
  · obtain ⟨a, m, t, x, last, term, rfl, W, ok, ht, k⟩ := h
    refine ⟨_, (pss_cons (ps_if (pt_cmpR op_eq (pe_ix (ix_tupK K) (pv 1) pe_int (fun _ _ => rfl)) pe_str (nomark _)) (pss_one (ps_ret (pe_cmpR op_gt (pe_ix (ix_tupK K) (pv 1) pe_int (fun _ _ => rfl)) (pv 2) (nomark _)))) pss_nil)
        (pss_cons (ps_if (pt_cmpR op_eq (pe_ix (ix_tupK K) (pv 1) pe_int (fun _ _ => rfl)) pe_str (nomark _)) (pss_one (ps_ret pe_bl)) pss_nil)
        (pss_cons (ps_set (i := 4) sc_atom_late.nd rfl (by first | exact Or.inl rfl | exact Or.inr rfl) (pe_call G_steps (hr.mono (by decide)) rfl g_steps k_steps b_steps .nil pass0 (pa_cons (pv 0) (pa_cons (pe_ix (ix_tupK K) (pv 1) pe_int (fun _ _ => rfl)) pa_nil))))
        (pss_cons (ps_if (pt_cmpR op_eq (pv 4) pe_int (nomark _)) (pss_one (ps_ret pe_bl)) pss_nil)
        (pss_cons (ps_if (PW.pt (pw_or (pt_cmpR op_gt (pv 4) pe_int (nomark _)) (pw_or1 (pt_cmpR op_eq (pe_ix (ix_tupK K) (pv 1) pe_int (fun _ _ => rfl)) pe_str (nomark _))))) (pss_one (ps_ret pe_bl)) pss_nil)
        (pss_one (ps_ret (pe_and (pe_cmpR op_eq (pe_ix (ix_tupK K) (pv 1) pe_int (fun _ _ => rfl)) pe_str (nomark _)) (pe_one (pe_cmpR op_gt (pe_ix (ix_tupK K) (pv 1) pe_int (fun _ _ => rfl)) (pv 3) (nomark _))))))))))), ?_⟩
    cases x with
    | year y =>
      refine ⟨_, rfl, _, _, _, _, rfl, rfl, .of (ht), atI_nat (j := 0) rfl, rfl, _, rfl, ifTd rfl ?_⟩
      exact ⟨_, rfl, _, _, _, _, rfl, rfl, .of (ht), atI_nat (j := 1) rfl, _, rfl, _, _, rfl, rfl, k H (Same.refl _)⟩
    | comes x =>
      refine ⟨_, rfl, _, _, _, _, rfl, rfl, .of (ht), atI_nat (j := 0) rfl, rfl, _, rfl, ifFd (by decide +kernel) ?_⟩
      refine ⟨_, rfl, _, _, _, _, rfl, rfl, .of (ht), atI_nat (j := 0) rfl, rfl, _, rfl, ifTd rfl ?_⟩
      exact k H (Same.refl _)
    | born n =>
      refine ⟨_, rfl, _, _, _, _, rfl, rfl, .of (ht), atI_nat (j := 0) rfl, rfl, _, rfl, ifFd (by decide +kernel) ?_⟩
      refine ⟨_, rfl, _, _, _, _, rfl, rfl, .of (ht), atI_nat (j := 0) rfl, rfl, _, rfl, ifFd (by decide +kernel) ?_⟩
      refine ⟨_, rfl, _, rfl, _, _, _, _, rfl, rfl, .of (ht), atI_nat (j := 1) rfl, a, m, n, rfl, W, ok n rfl, fun H1 s1 => ?_⟩
      have ht := s1 _ _ ht
      have k := k H1 s1
      simp only [M.atomLate] at k
      refine ⟨_, rfl, rfl, _, rfl, ?_⟩
      refine ifB (fun hb => ?_) (fun hb => ?_)
      · have hb := V.int.inj (of_decide_eq_true hb)
        rw [if_pos hb] at k
        exact k
      · have hb : ¬ m.steps n = 0 := fun z => of_decide_eq_false hb (by rw [z])
        rw [if_neg hb] at k
        refine ⟨_, rfl, _, _, rfl, rfl, _, rfl, ?_⟩
        refine ifB (fun hb => ?_) (fun hb => ?_)
        · rw [hb] at k; exact k
        · refine ⟨_, rfl, _, _, _, _, rfl, rfl, .of (ht), atI_nat (j := 0) rfl, rfl, _, rfl, ifFd (by decide +kernel) ?_⟩
          refine ⟨_, rfl, _, _, _, _, rfl, rfl, .of (ht), atI_nat (j := 0) rfl, rfl, _, rfl, ifFd (by decide +kernel) ?_⟩
          rw [hb] at k; exact k
    | dead n =>
      refine ⟨_, rfl, _, _, _, _, rfl, rfl, .of (ht), atI_nat (j := 0) rfl, rfl, _, rfl, ifFd (by decide +kernel) ?_⟩
      refine ⟨_, rfl, _, _, _, _, rfl, rfl, .of (ht), atI_nat (j := 0) rfl, rfl, _, rfl, ifFd (by decide +kernel) ?_⟩
      refine ⟨_, rfl, _, rfl, _, _, _, _, rfl, rfl, .of (ht), atI_nat (j := 1) rfl, a, m, n, rfl, W, ok n rfl, fun H1 s1 => ?_⟩
      have ht := s1 _ _ ht
      have k := k H1 s1
      simp only [M.atomLate] at k
      refine ⟨_, rfl, rfl, _, rfl, ?_⟩
      refine ifB (fun hb => ?_) (fun hb => ?_)
      · have hb := V.int.inj (of_decide_eq_true hb)
        rw [if_pos hb] at k
        exact k
      · have hb : ¬ m.steps n = 0 := fun z => of_decide_eq_false hb (by rw [z])
        rw [if_neg hb] at k
        refine ⟨_, rfl, _, _, rfl, rfl, _, rfl, ?_⟩
        refine ifB (fun hb => ?_) (fun hb => ?_)
        · exact k
        · refine ⟨_, rfl, _, _, _, _, rfl, rfl, .of (ht), atI_nat (j := 0) rfl, rfl, _, rfl, ifTd rfl ?_⟩
          exact k
    | age n g =>
      refine ⟨_, rfl, _, _, _, _, rfl, rfl, .of (ht), atI_nat (j := 0) rfl, rfl, _, rfl, ifFd (by decide +kernel) ?_⟩
      refine ⟨_, rfl, _, _, _, _, rfl, rfl, .of (ht), atI_nat (j := 0) rfl, rfl, _, rfl, ifFd (by decide +kernel) ?_⟩
      refine ⟨_, rfl, _, rfl, _, _, _, _, rfl, rfl, .of (ht), atI_nat (j := 1) rfl, a, m, n, rfl, W, ok n rfl, fun H1 s1 => ?_⟩
      have ht := s1 _ _ ht
      have k := k H1 s1
      simp only [M.atomLate] at k
      refine ⟨_, rfl, rfl, _, rfl, ?_⟩
      refine ifB (fun hb => ?_) (fun hb => ?_)
      · have hb := V.int.inj (of_decide_eq_true hb)
        rw [if_pos hb] at k
        exact k
      · have hb : ¬ m.steps n = 0 := fun z => of_decide_eq_false hb (by rw [z])
        rw [if_neg hb] at k
        refine ⟨_, rfl, _, _, rfl, rfl, _, rfl, ?_⟩
        refine ifB (fun hb => ?_) (fun hb => ?_)
        · rw [if_pos (of_decide_eq_true hb)] at k; exact k
        · rw [if_neg (of_decide_eq_false hb)] at k
          refine ⟨_, rfl, _, _, _, _, rfl, rfl, .of (ht), atI_nat (j := 0) rfl, rfl, _, rfl, ifFd (by decide +kernel) ?_⟩
          refine ⟨_, rfl, _, _, _, _, rfl, rfl, .of (ht), atI_nat (j := 0) rfl, rfl, _, rfl, ifTd rfl ?_⟩
          exact ⟨_, rfl, _, _, _, _, rfl, rfl, .of (ht), atI_nat (j := 2) rfl, _, rfl, _, _, rfl, rfl, k⟩
def sp_class_late (K : PySem.W.Frag) : Sp := fun vs H Q _ => ∃ A m t n g term, vs = [.ref A.p, .ref t, .int term] ∧ WAt K H A m ∧ NmOk m n ∧ H t = some (.tup (encH (.kids n g))) ∧ ∀ H', Same H H' → Q (.bl (m.classLate n g term)) H'
theorem sc_class_late : FnScope ["world", "holder", "term"] ["world", "holder", "term"] (defScope s_class_late) :=
  ⟨rfl, rfl, rfl, by decide +kernel, rfl, by decide +kernel, by decide +kernel⟩
theorem ok_class_late (T : Txt K mg) : Cal P w K mg base 5 "class_late" ["world", "holder", "term"] (sp_class_late K) := by
  obtain ⟨f_Lives_alive, fd_Lives_alive, m_Lives_alive, b_Lives_alive, G_Lives_alive⟩ := ok_Lives_alive T
  obtain ⟨f_steps, fd_steps, g_steps, k_steps, b_steps, G_steps⟩ := ok_steps T
  refine cal_of T.g_class_late T.f_class_late sc_class_late (fun _ _ _ _ _ _ us hl => match us, hl with | [_, _, _], _ => rfl) (fun vs H Q E h => ?_) (fun f cdv A outer s H vs Q E hr h => ?_)
  · obtain ⟨A, m, t, n, g, term, rfl, _⟩ := h; rfl
  · obtain ⟨a, m, t, n, g, term, rfl, W, ok, ht, k⟩ := h
    refine ⟨_, (pss_cons (ps_if (pt_cmpR op_gt (pe_call G_steps (hr.mono (by decide)) rfl g_steps k_steps b_steps .nil pass0 (pa_cons (pv 0) (pa_cons (pe_ix (ix_tupK K) (pv 1) pe_int (fun _ _ => rfl)) pa_nil))) pe_int (nomark _)) (pss_one (ps_ret pe_bl)) pss_nil)
        (pss_one (ps_ret (pe_and (pe_meth (pe_fldK K (pv 0) rfl) T.c_Lives m_Lives_alive G_Lives_alive (hr.mono (by decide)) b_Lives_alive .nil pass0 (pa_cons (pe_ix (ix_tupK K) (pv 1) pe_int (fun _ _ => rfl)) pa_nil)) (pe_one (pe_cmpR op_gt (pe_ix (ix_tupK K) (pv 1) pe_int (fun _ _ => rfl)) (pv 2) (nomark _))))))), ?_⟩
    refine ⟨_, rfl, _, rfl, _, _, _, _, rfl, rfl, .of (ht), atI_nat (j := 1) rfl, a, m, n, rfl, W, ok, fun H1 s1 => ?_⟩
    have ht := s1 _ _ ht
    have W1 := W.same s1
    have k := k H1 s1
    unfold M.classLate at k
    refine ⟨_, _, rfl, rfl, _, rfl, ?_⟩
    refine ifB (fun hb => ?_) (fun hb => ?_)
    · rw [if_pos (of_decide_eq_true hb)] at k; exact k
    · rw [if_neg (of_decide_eq_false hb)] at k
      refine ⟨_, rfl, a.p, _, a.px, _, _, rfl, W1.o, T.c_World, T.n_lives, fW_lives, a.l, a.lx, _, rfl, W1.l.o, fL_no (by decide +kernel) (by decide +kernel) (by decide +kernel), _, rfl, _, _, _, _, rfl, rfl, .of (ht), atI_nat (j := 1) rfl, a, m, n, rfl, W1.l, _, rfl, ?_⟩
      refine ifB (fun hb => ?_) (fun hb => ?_)
      · rw [hb, Bool.true_and] at k
        exact ⟨_, rfl, _, _, _, _, rfl, rfl, .of (ht), atI_nat (j := 2) rfl, _, rfl, _, _, rfl, rfl, k⟩
      · rw [hb, Bool.false_and] at k
        exact k
def isNm (x : Atom) : Bool := x.nm.isSome
abbrev fPs (p : Addr × Atom → Bool) : Addr × Atom → Option V := fun y => if p y = true then some (rV y) else none
theorem gT {p : Addr × Atom → Bool} {y : Addr × Atom} (h : p y = true) : some (rV y) = fPs p y := (if_pos h).symm
theorem gF {p : Addr × Atom → Bool} {y : Addr × Atom} (h : p y = false) : none = fPs p y := (if_neg (by rw [h]; exact Bool.false_ne_true)).symm
theorem AtL.filter {H : Hp} {o p : Addr} {ps : List (Addr × Atom)} {q : Addr × Atom → Bool} (A : AtL K H o ps) (h : H p = some (.lst (ps.filterMap (fPs q)))) : AtL K H p (ps.filter q) := by
  rw [fm_if] at h
  exact ⟨.of h, fun x hx => A.t x (List.mem_filter.mp hx).1⟩
theorem fm_map (ps : List (Addr × Atom)) (q : Atom → Bool) : (ps.filter fun p => q p.2).map (·.2) = (ps.map (·.2)).filter q := by
  rw [List.filter_map]; rfl
def sp_named (K : PySem.W.Frag) : Sp := fun vs H Q _ => ∃ o ps, vs = [.ref o] ∧ AtL K H o ps ∧ ps.length ≤ 1000 ∧ ∀ H' p, Same H H' → H p = none → AtL K H' p (ps.filter fun p => isNm p.2) → Q (.ref p) H'
theorem sc_named : FnScope ["atoms", "atom"] ["atoms"] (defScope s_named) :=
  ⟨rfl, rfl, rfl, by decide +kernel, rfl, by decide +kernel, by decide +kernel⟩
theorem ok_named (T : Txt K mg) : Cal P w K mg base 1 "named" ["atoms"] (sp_named K) := by
  refine cal_of T.g_named T.f_named sc_named (fun _ _ _ _ _ _ us hl => match us, hl with | [_], _ => rfl) (fun vs H Q E h => ?_) (fun f cdv A outer s H vs Q E hr h => ?_)
  · obtain ⟨o, ps, rfl, _⟩ := h; rfl
  · obtain ⟨o, ps, rfl, B, hz, k⟩ := h
    refine ⟨_, (pss_one (ps_ret (pe_lc (own := [("atom", 1)]) rfl sc_named.nd (pi_listK K (pv 0)) (blkOk_by (own := [("atom", 1)]) (N := ["atoms", "atom"]) (sc := defScope s_named) (by decide +kernel)) (fun _ _ _ _ _ => pg_name (i := 1) sc_named.nd rfl (Or.inl rfl)) (fun _ _ _ _ _ => (pts_one (pt_cmpR (op_in_seqK K) (pe_ix (ix_tupK K) (pv 1) pe_int (fun _ _ => rfl)) (pe_tup (pa_cons pe_str (pa_cons pe_str (pa_cons pe_str pa_nil)))) rfl))) (fun _ _ _ _ _ => (pv 1))))), ?_⟩
    refine ⟨_, rfl, o, rfl, ⟨_, B.l⟩, fun D hD => lc_fm (e := rV) (ys := ps) (fPs fun p => isNm p.2) hD B.l (small hz (by decide)) ?_ ?_⟩
    · intro i y H' C hy s1 hC
      have hm := List.mem_of_getElem? hy
      have ht := s1 _ _ (B.t y hm)
      refine ⟨rfl, ?_⟩
      have step : ∀ (z : Str) (vs : List V) (b : Bool), encA y.2 = .str z :: vs → inV (.str z) [V.str "born", V.str "dead", V.str "age"] = b → b = isNm y.2 →
          tTest (tOp (rIn K false) (tOp (rIxT K) (tVar 1) (tC (.int 0))) (tTup (tCons (tC (.str "born")) (tCons (tC (.str "dead")) (tCons (tC (.str "age")) tNil))))) ((wipe (start ["atoms", "atom"] [.ref o]) [1]).set 1 (some (rV y))) H' fun b H3 =>
            if b = true then tVar 1 ((wipe (start ["atoms", "atom"] [.ref o]) [1]).set 1 (some (rV y))) H3 (fun y H4 => C (some y) H4) else C none H3 := by
        intro z vs b ez eb en
        rw [ez] at ht
        refine ⟨_, rfl, _, _, _, _, rfl, rfl, .of (ht), atI_nat (j := 0) rfl, small (k := 3) (Nat.le_refl _) (by decide), fun q hq => ⟨q, _, rfl, .inr (.inl (.of upd_same)), rfl, rfl, _, rfl, ?_⟩⟩
        show if inV (.str z) [V.str "born", V.str "dead", V.str "age"] = true then _ else _
        rw [eb]
        refine ifB (fun hb => ?_) (fun hb => ?_)
        · exact ⟨_, rfl, hC _ _ (Same.upd hq) (gT (p := fun p => isNm p.2) (by rw [← en, hb]))⟩
        · exact hC _ _ (Same.upd hq) (gF (p := fun p => isNm p.2) (by rw [← en, hb]))
      obtain ⟨ya, y⟩ := y
      cases y with
      | year y => exact step "year" _ false rfl (by decide +kernel) rfl
      | comes x => exact step "comes" _ false rfl (by decide +kernel) rfl
      | born n => exact step "born" _ true rfl (by decide +kernel) rfl
      | dead n => exact step "dead" _ true rfl (by decide +kernel) rfl
      | age n g => exact step "age" _ true rfl (by decide +kernel) rfl
    · intro H1 s1 hDD
      exact k H1 D s1 hD ((B.same s1).filter hDD)
namespace M
def hangs (m : M) (x : Atom) : Bool := decide (m.atomS x = .hangs)
def hangL (m : M) (h : Hol) (ts : List Atom) : List Atom := (wholeN h ts).filter m.hangs
end M
def sp_hanging (K : PySem.W.Frag) : Sp := fun vs H Q _ => ∃ A m t h o ps, vs = [.ref A.p, .ref t, .ref o] ∧ WAt K H A m ∧ H t = some (.tup (encH h)) ∧ NmOk m h.nm ∧ AtL K H o ps ∧ (∀ p ∈ ps, AtomOk m p.2) ∧ ps.length ≤ 900 ∧
  ∀ H' p ps', Same H H' → H p = none → AtL K H' p ps' → ps'.map (·.2) = m.hangL h (ps.map (·.2)) → Q (.ref p) H'
theorem sc_hanging : FnScope ["world", "holder", "atoms", "atom"] ["world", "holder", "atoms"] (defScope s_hanging) :=
  ⟨rfl, rfl, rfl, by decide +kernel, rfl, by decide +kernel, by decide +kernel⟩
theorem ok_hanging (T : Txt K mg) : Cal P w K mg base 7 "hanging" ["world", "holder", "atoms"] (sp_hanging K) := by
  obtain ⟨f_whole_need, fd_whole_need, g_whole_need, k_whole_need, b_whole_need, G_whole_need⟩ := ok_whole_need T
  obtain ⟨f_atom_stand, fd_atom_stand, g_atom_stand, k_atom_stand, b_atom_stand, G_atom_stand⟩ := ok_atom_stand T
  refine cal_of T.g_hanging T.f_hanging sc_hanging (fun _ _ _ _ _ _ us hl => match us, hl with | [_, _, _], _ => rfl) (fun vs H Q E h => ?_) (fun f cdv A outer s H vs Q E hr h => ?_)
  · obtain ⟨A, m, t, h, o, ps, rfl, _⟩ := h; rfl
  · obtain ⟨a, m, t, h, o, ps, rfl, W, ht, hn, B, ok, hz, k⟩ := h
    refine ⟨_, (pss_one (ps_ret (pe_lc (own := [("atom", 3)]) rfl sc_hanging.nd (pi_listK K (pe_call G_whole_need (hr.mono (by decide)) rfl g_whole_need k_whole_need b_whole_need .nil pass0 (pa_cons (pv 1) (pa_cons (pv 2) pa_nil)))) (blkOk_by (own := [("atom", 3)]) (N := ["world", "holder", "atoms", "atom"]) (sc := defScope s_hanging) (by decide +kernel)) (fun _ _ _ _ _ => pg_name (i := 3) sc_hanging.nd rfl (Or.inl rfl)) (fun _ _ _ _ _ => (pts_one (pt_cmpR op_eq (pe_call G_atom_stand (hr.mono (by decide)) rfl g_atom_stand k_atom_stand b_atom_stand .nil pass0 (pa_cons (pv 0) (pa_cons (pv 3) pa_nil))) pe_str (nomark _)))) (fun _ _ _ _ _ => (pv 3))))), ?_⟩
    refine ⟨_, rfl, _, rfl, t, h, o, ps, rfl, ht, B, hz, fun H1 p ps' s1 hp B1 e1 => ?_⟩
    have hl' : ps'.length ≤ 901 := by
      have h1 := congrArg List.length e1
      have h2 := whole_len h (ps.map (·.2))
      rw [List.length_map] at h1 h2
      omega
    refine ⟨p, rfl, ⟨_, B1.l⟩, fun D hD => lc_fm (e := rV) (ys := ps') (fPs fun p => m.hangs p.2) hD B1.l (small hl' (by decide)) ?_ ?_⟩
    · intro i y H' C hy s2 hC
      have hm := List.mem_of_getElem? hy
      refine ⟨rfl, _, rfl, _, rfl, a, m, y.1, y.2, rfl, (W.same s1).same s2, whole_ok hn ok e1 y hm, s2 _ _ (B1.t y hm), fun H3 s3 => ⟨rfl, _, rfl, ?_⟩⟩
      show if decide (sV (m.atomS y.2) = sV .hangs) = true then _ else _
      rw [sV_eq]
      refine ifB (fun hb => ?_) (fun hb => ?_)
      · exact ⟨_, rfl, hC _ _ s3 (gT (p := fun p => m.hangs p.2) hb)⟩
      · exact hC _ _ s3 (gF (p := fun p => m.hangs p.2) hb)
    · intro H2 s2 hDD
      refine k H2 D _ (s1.trans s2) (s1.free hD) ((B1.same s2).filter hDD) ?_
      rw [fm_map, e1]; rfl
end
end DH

namespace DH
open PySem PySem.Spec PyProof.Rows L2 TL
section
variable {P : Program} {w : World} {K : PySem.W.Frag} {mg : Str → Option Value} {base : Heap}
def yearsL (k : Int) : List Int := if h : 0 < k then (if 60 < k then 60 else k) :: yearsL (k - 60) else []
termination_by k.toNat
decreasing_by omega
theorem yearsL_pos {k : Int} (h : 0 < k) : yearsL k = (if 60 < k then 60 else k) :: yearsL (k - 60) := by rw [yearsL, dif_pos h]
theorem yearsL_neg {k : Int} (h : ¬ 0 < k) : yearsL k = [] := by rw [yearsL, dif_neg h]
structure DsL (H : Hp) (l : Addr) (ps : List (Addr × Deed)) : Prop where
  l : H l = some (.lst (ps.map fun p => V.ref p.1))
  t : ∀ p ∈ ps, H p.1 = some (.tup (encD p.2))
theorem DsL.same {H H' : Hp} {l : Addr} {ps : List (Addr × Deed)} (D : DsL H l ps) (s : Same H H') : DsL H' l ps := ⟨s _ _ D.l, fun p hp => s _ _ (D.t p hp)⟩
/-- a new deed at the list's end -/
theorem DsL.push {H : Hp} {l t : Addr} {ps : List (Addr × Deed)} {d : Deed} (D : DsL H l ps) (ht : H t = some (.tup (encD d))) : DsL (upd H l (.lst ((ps.map fun p => V.ref p.1) ++ [.ref t]))) l (ps ++ [(t, d)]) := by
  refine ⟨by rw [upd_same, List.map_append]; rfl, fun p hp => ?_⟩
  have hn : ∀ {q : Addr} {xs : List V}, H q = some (.tup xs) → q ≠ l := fun h => ne_of h D.l (by intro z; cases z)
  rcases List.mem_append.mp hp with hp | hp
  · rw [upd_ne (hn (D.t p hp))]; exact D.t p hp
  · have := List.mem_singleton.mp hp
    subst this
    rw [upd_ne (hn ht)]; exact ht
def sp_years_of : Sp := fun vs H Q _ => ∃ k, vs = [.int k] ∧ k ≤ 100000 ∧ ∀ H' p ps, Same H H' → H p = none → DsL H' p ps → ps.map (·.2) = (yearsL k).map Deed.years → Q (.ref p) H'
theorem sc_years_of : FnScope ["many", "found"] ["many"] (defScope s_years_of) :=
  ⟨rfl, rfl, rfl, by decide +kernel, rfl, by decide +kernel, by decide +kernel⟩
theorem ok_years_of (T : Txt K mg) : Cal P w K mg base 1 "years_of" ["many"] sp_years_of := by
  refine cal_of T.g_years_of T.f_years_of sc_years_of (fun _ _ _ _ _ _ us hl => match us, hl with | [_], _ => rfl) (fun vs H Q E h => ?_) (fun f cdv A outer s H vs Q E hr h => ?_)
  · obtain ⟨k, rfl, _⟩ := h; rfl
  · obtain ⟨i, rfl, hi, k⟩ := h
    refine ⟨_, (pss_cons (ps_set (i := 1) sc_years_of.nd rfl (by first | exact Or.inl rfl | exact Or.inr rfl) (pe_lst pa_nil))
        (pss_cons (ps_while PassesOwn.never (pt_cmpR op_gt (pv 0) pe_int (nomark _)) (pss_cons (ps_expr (bmK K (pe_bm PySem.F.plainAttrs_list PySem.F.slot_list_append PySem.F.type_list_append mt_append (pv 1) (pa_cons (pe_tup (pa_cons pe_str (pa_cons (pe_callB (call_min2 rfl) (by rfl) T.b_min (by decide +kernel) (pa_cons (pv 0) (pa_cons pe_int pa_nil))) pa_nil))) pa_nil))))
        (pss_one (ps_aug (i := 0) sc_years_of.nd rfl (by first | exact Or.inl rfl | exact Or.inr rfl) pe_int ip_sub))))
        (pss_one (ps_ret (pv 1))))), ?_⟩
    refine ⟨small (k := 0) (Nat.le_refl _) (by decide), fun l hl => ?_⟩
    refine ⟨fun n σ H' => ∃ j ps, σ = [some (.int j), some (.ref l)] ∧ n = j.toNat ∧ Same H H' ∧ DsL H' l ps ∧ (ps.map (·.2)) ++ (yearsL j).map Deed.years = (yearsL i).map Deed.years ∧ ps.length + j.toNat ≤ i.toNat,
      ⟨i.toNat, i, [], rfl, rfl, Same.upd hl, ⟨upd_same, fun p hp => nomatch hp⟩, rfl, by simp⟩, ?_⟩
    rintro n σ H' ⟨j, ps, rfl, rfl, s1, D, e, hz⟩
    refine ⟨_, rfl, _, _, rfl, rfl, _, rfl, ?_⟩
    refine ifB (fun hb => ?_) (fun hb => ?_)
    · have hj : 0 < j := of_decide_eq_true hb
      rw [yearsL_pos hj] at e
      refine ⟨fun σ' H4 => ∃ ps, σ' = [some (.int (j - 60)), some (.ref l)] ∧ Same H H4 ∧ DsL H4 l ps ∧ (ps.map (·.2)) ++ (yearsL (j - 60)).map Deed.years = (yearsL i).map Deed.years ∧ ps.length + (j - 60).toNat ≤ i.toNat,
        fun σ' H4 ⟨ps, e1, s4, D4, e4, z4⟩ => ⟨(j - 60).toNat, by omega, j - 60, ps, e1, rfl, s4, D4, e4, z4⟩, ?_⟩
      refine ⟨_, rfl, .inl ⟨rfl, _, .of D.l⟩, _, rfl, j, 60, rfl, small (k := 2) (Nat.le_refl _) (by decide), fun t ht => ?_⟩
      have s2 : Same H' (upd H' t (.tup (encD (.years (if 60 < j then 60 else j))))) := Same.upd ht
      refine ⟨l, _, _, rfl, rfl, s2 _ _ D.l, small' (k := 100000) (by rw [List.length_map]; omega) (by decide), ?_⟩
      refine ⟨_, rfl, _, _, rfl, rfl, ps ++ [(t, .years (if 60 < j then 60 else j))], rfl, ?_, (D.same s2).push upd_same, ?_, ?_⟩
      · exact (s1.trans s2).put hl
      · rw [List.map_append, List.append_assoc]; exact e
      · rw [List.length_append, List.length_cons, List.length_nil]; omega
    · have hj : ¬ 0 < j := of_decide_eq_false hb
      rw [yearsL_neg hj, List.map_nil, List.append_nil] at e
      exact ⟨_, rfl, k H' l ps s1 hl D e⟩
def maxP (f j : Int) : Int := if f < j then j else f
namespace M
def firstStep (m : M) (f : Int) : Atom → Int
  | .age n k => if m.alive n = true then maxP f (m.born n + k) else f
  | _ => f
def firstA (m : M) (ts : List Atom) : Int := (ts.filter isNm).foldl m.firstStep m.yr
end M
def minL : List Int → Int
  | [] => 0
  | [x] => x
  | x :: y :: r => if x ≤ minL (y :: r) then x else minL (y :: r)
theorem minL_ok : ∀ ns : List Int, ns ≠ [] → minL ns ∈ ns ∧ ∀ y ∈ ns, minL ns ≤ y
  | [], h => absurd rfl h
  | [x], _ => ⟨List.mem_singleton.mpr rfl, fun y hy => by rw [List.mem_singleton.mp hy]; exact Int.le_refl _⟩
  | x :: y :: r, _ => by
    obtain ⟨h1, h2⟩ := minL_ok (y :: r) (by simp)
    unfold minL
    by_cases h : x ≤ minL (y :: r)
    · rw [if_pos h]
      refine ⟨List.mem_cons_self .., fun z hz => ?_⟩
      rcases List.mem_cons.mp hz with rfl | hz
      · exact Int.le_refl _
      · exact Int.le_trans h (h2 z hz)
    · rw [if_neg h]
      refine ⟨List.mem_cons_of_mem _ h1, fun z hz => ?_⟩
      rcases List.mem_cons.mp hz with rfl | hz
      · omega
      · exact h2 z hz
theorem minL_eq {ns : List Int} {x : Int} (h1 : x ∈ ns) (h2 : ∀ y ∈ ns, x ≤ y) : minL ns = x := by
  obtain ⟨a, b⟩ := minL_ok ns (fun z => by rw [z] at h1; cases h1)
  have := b x h1
  have := h2 _ a
  omega
namespace M
def firstEnd (m : M) (h : Hol) (ts : List Atom) : Int := match h with
  | .one _ => m.firstA ts
  | .kids n g => if m.alive n = true ∨ m.isB n = false then m.firstA ts
    else if 0 < (m.seats n g (m.leftOut n)).length ∨ (m.waiting n g (m.leftOut n)).length = 0 then m.firstA ts
    else maxP (m.firstA ts) (minL ((m.waiting n g (m.leftOut n)).map m.born) + g)
theorem waiting_isB {m : M} (W : m.WF) {n c : Nm} {g : Int} {out : List Nm} (h : c ∈ m.waiting n g out) : m.isB c = true :=
  members_isB W (List.mem_filter.mp (List.mem_filter.mp h).1).1
theorem waiting_len (m : M) (n : Nm) (g : Int) (out : List Nm) : (m.waiting n g out).length ≤ m.kc n :=
  Nat.le_trans (List.length_filter_le ..) (Nat.le_trans (List.length_filter_le ..) (members_len m n out))
end M
def sp_first_end (K : PySem.W.Frag) : Sp := fun vs H Q _ => ∃ A m t h o ps, vs = [.ref A.p, .ref t, .ref o] ∧ WAt K H A m ∧ m.WF ∧ H t = some (.tup (encH h)) ∧ NmOk m h.nm ∧ AtL K H o ps ∧ (∀ p ∈ ps, AtomOk m p.2) ∧ ps.length ≤ 900 ∧
  ∀ H', Same H H' → Q (.int (m.firstEnd h (ps.map (·.2)))) H'
theorem sc_first_end : FnScope ["world", "holder", "atoms", "found", "atom", "out", "young", "child"] ["world", "holder", "atoms"] (defScope s_first_end) :=
  ⟨rfl, rfl, rfl, by decide +kernel, rfl, by decide +kernel, by decide +kernel⟩
theorem ok_first_end (T : Txt K mg) : Cal P w K mg base 4 "first_end" ["world", "holder", "atoms"] (sp_first_end K) := by
  obtain ⟨f_Lives_born_in, fd_Lives_born_in, m_Lives_born_in, b_Lives_born_in, G_Lives_born_in⟩ := ok_Lives_born_in T
  obtain ⟨f_seats, fd_seats, g_seats, k_seats, b_seats, G_seats⟩ := ok_seats T
  obtain ⟨f_waiting, fd_waiting, g_waiting, k_waiting, b_waiting, G_waiting⟩ := ok_waiting T
  obtain ⟨f_left_out, fd_left_out, g_left_out, k_left_out, b_left_out, G_left_out⟩ := ok_left_out T
  obtain ⟨f_Lives_known, fd_Lives_known, m_Lives_known, b_Lives_known, G_Lives_known⟩ := ok_Lives_known T
  obtain ⟨f_Lives_alive, fd_Lives_alive, m_Lives_alive, b_Lives_alive, G_Lives_alive⟩ := ok_Lives_alive T
  obtain ⟨f_named, fd_named, g_named, k_named, b_named, G_named⟩ := ok_named T
  refine cal_of T.g_first_end T.f_first_end sc_first_end (fun _ _ _ _ _ _ us hl => match us, hl with | [_, _, _], _ => rfl) (fun vs H Q E h => ?_) (fun f cdv A outer s H vs Q E hr h => ?_)
  · obtain ⟨A, m, t, h, o, ps, rfl, _⟩ := h; rfl
  · obtain ⟨a, m, t, h, o, ps, rfl, W, wf, ht, hn, B, ok, hz, k⟩ := h
    refine ⟨_, (pss_cons (ps_set (i := 3) sc_first_end.nd rfl (by first | exact Or.inl rfl | exact Or.inr rfl) (pe_fldK K (pv 0) rfl))
        (pss_cons (ps_for PassesOwn.never rfl (pi_listK K (pe_call G_named (hr.mono (by decide)) rfl g_named k_named b_named .nil pass0 (pa_cons (pv 2) pa_nil))) (pg_name (i := 4) sc_first_end.nd rfl (by first | exact Or.inl rfl | exact Or.inr rfl)) (pss_one (ps_if (PW.pt (pw_and (pt_cmpR op_eq (pe_ix (ix_tupK K) (pv 4) pe_int (fun _ _ => rfl)) pe_str (nomark _)) (pw_and1 (pt_val (pe_meth (pe_fldK K (pv 0) rfl) T.c_Lives m_Lives_alive G_Lives_alive (hr.mono (by decide)) b_Lives_alive .nil pass0 (pa_cons (pe_ix (ix_tupK K) (pv 4) pe_int (fun _ _ => rfl)) pa_nil)))))) (pss_one (ps_set (i := 3) sc_first_end.nd rfl (by first | exact Or.inl rfl | exact Or.inr rfl) (pe_callB (call_max2 rfl) (by rfl) T.b_max (by decide +kernel) (pa_cons (pv 3) (pa_cons (pe_op op_add (pe_meth (pe_fldK K (pv 0) rfl) T.c_Lives m_Lives_born_in G_Lives_born_in (hr.mono (by decide)) b_Lives_born_in .nil pass0 (pa_cons (pe_ix (ix_tupK K) (pv 4) pe_int (fun _ _ => rfl)) pa_nil)) (pe_ix (ix_tupK K) (pv 4) pe_int (fun _ _ => rfl))) pa_nil))))) pss_nil)))
        (pss_cons (ps_if (PW.pt (pw_or (pt_cmpR op_eq (pe_ix (ix_tupK K) (pv 1) pe_int (fun _ _ => rfl)) pe_str (nomark _)) (pw_or (pt_val (pe_meth (pe_fldK K (pv 0) rfl) T.c_Lives m_Lives_alive G_Lives_alive (hr.mono (by decide)) b_Lives_alive .nil pass0 (pa_cons (pe_ix (ix_tupK K) (pv 1) pe_int (fun _ _ => rfl)) pa_nil))) (pw_or1 (pt_not (pt_val (pe_meth (pe_fldK K (pv 0) rfl) T.c_Lives m_Lives_known G_Lives_known (hr.mono (by decide)) b_Lives_known .nil pass0 (pa_cons (pe_ix (ix_tupK K) (pv 1) pe_int (fun _ _ => rfl)) pa_nil)))))))) (pss_one (ps_ret (pv 3))) pss_nil)
        (pss_cons (ps_set (i := 5) sc_first_end.nd rfl (by first | exact Or.inl rfl | exact Or.inr rfl) (pe_call G_left_out (hr.mono (by decide)) rfl g_left_out k_left_out b_left_out .nil pass0 (pa_cons (pv 0) (pa_cons (pe_ix (ix_tupK K) (pv 1) pe_int (fun _ _ => rfl)) pa_nil))))
        (pss_cons (ps_set (i := 6) sc_first_end.nd rfl (by first | exact Or.inl rfl | exact Or.inr rfl) (pe_call G_waiting (hr.mono (by decide)) rfl g_waiting k_waiting b_waiting .nil pass0 (pa_cons (pv 0) (pa_cons (pe_ix (ix_tupK K) (pv 1) pe_int (fun _ _ => rfl)) (pa_cons (pe_ix (ix_tupK K) (pv 1) pe_int (fun _ _ => rfl)) (pa_cons (pv 5) pa_nil))))))
        (pss_cons (ps_if (PW.pt (pw_or (pt_cmpR op_gt (pe_callB (call_lenK K) (by rfl) T.b_len PySem.boot_len (pa_cons (pe_call G_seats (hr.mono (by decide)) rfl g_seats k_seats b_seats .nil pass0 (pa_cons (pv 0) (pa_cons (pe_ix (ix_tupK K) (pv 1) pe_int (fun _ _ => rfl)) (pa_cons (pe_ix (ix_tupK K) (pv 1) pe_int (fun _ _ => rfl)) (pa_cons (pv 5) pa_nil))))) pa_nil)) pe_int (nomark _)) (pw_or1 (pt_cmpR op_eq (pe_callB (call_lenK K) (by rfl) T.b_len PySem.boot_len (pa_cons (pv 6) pa_nil)) pe_int (nomark _))))) (pss_one (ps_ret (pv 3))) pss_nil)
        (pss_one (ps_ret (pe_callB (call_max2 rfl) (by rfl) T.b_max (by decide +kernel) (pa_cons (pv 3) (pa_cons (pe_op op_add (pe_callB (cr_minK K rfl) (by rfl) T.b_min (by decide +kernel) (pa_cons (pe_lc (own := [("child", 7)]) rfl sc_first_end.nd (pi_listK K (pv 6)) (blkOk_by (own := [("child", 7)]) (N := ["world", "holder", "atoms", "found", "atom", "out", "young", "child"]) (sc := defScope s_first_end) (by decide +kernel)) (fun _ _ _ _ _ => pg_name (i := 7) sc_first_end.nd rfl (Or.inl rfl)) (fun _ _ _ _ _ => pts_nil) (fun _ _ _ _ _ => (pe_meth (pe_fldK K (pv 0) rfl) T.c_Lives m_Lives_born_in G_Lives_born_in (hr.mono (by decide)) b_Lives_born_in .nil pass0 (pa_cons (pv 7) pa_nil)))) pa_nil)) (pe_ix (ix_tupK K) (pv 1) pe_int (fun _ _ => rfl))) pa_nil))))))))))), ?_⟩
    refine ⟨_, rfl, a.p, _, a.px, _, _, rfl, W.o, T.c_World, T.n_year, fW_year, _, rfl, o, ps, rfl, B, by omega, fun H1 p s1 hp B1 => ?_⟩
    refine ⟨p, rfl, ⟨_, B1.l⟩, for_list (K := K) (a := p) (xs := (ps.filter fun p => isNm p.2).map rV) (fun i σ H' => ∃ v, σ = [some (.ref a.p), some (.ref t), some (.ref o), some (.int ((((ps.filter fun p => isNm p.2).take i).map (·.2)).foldl m.firstStep m.yr)), v, none, none, none] ∧ Same H1 H') ⟨none, rfl, Same.refl _⟩ (fun i σ H' _ ⟨_, _, s2⟩ => s2.seq B1.l) ?_ ?_⟩
    · rintro i x σ H' hx ⟨v, rfl, s2⟩
      rw [List.getElem?_map] at hx
      cases ei : (ps.filter fun p => isNm p.2)[i]? with
      | none => rw [ei] at hx; cases hx
      | some y =>
        rw [ei] at hx
        cases hx
        have hm := List.mem_of_getElem? ei
        have hy := s2 _ _ (B1.t y hm)
        obtain ⟨hm1, hm2⟩ := List.mem_filter.mp hm
        have W2 := (W.same s1).same s2
        have et : ∀ f', m.firstStep ((((ps.filter fun p => isNm p.2).take i).map (·.2)).foldl m.firstStep m.yr) y.2 = f' → (((ps.filter fun p => isNm p.2).take (i + 1)).map (·.2)).foldl m.firstStep m.yr = f' := by
          intro f' e
          rw [take_snoc ei, List.map_append, List.foldl_append]
          exact e
        obtain ⟨ya, y⟩ := y
        cases y with
        | year y => cases hm2
        | comes x => cases hm2
        | born n =>
          refine ⟨_, rfl, _, _, _, _, rfl, rfl, .of (hy), atI_nat (j := 0) rfl, rfl, _, rfl, ifFd (by decide +kernel) ?_⟩
          refine ifF rfl ?_
          exact ⟨_, by rw [et _ rfl]; rfl, s2⟩
        | dead n =>
          refine ⟨_, rfl, _, _, _, _, rfl, rfl, .of (hy), atI_nat (j := 0) rfl, rfl, _, rfl, ifFd (by decide +kernel) ?_⟩
          refine ifF rfl ?_
          exact ⟨_, by rw [et _ rfl]; rfl, s2⟩
        | age n g =>
          refine ⟨_, rfl, _, _, _, _, rfl, rfl, .of (hy), atI_nat (j := 0) rfl, rfl, _, rfl, ifTd rfl ?_⟩
          refine ⟨_, rfl, a.p, _, a.px, _, _, rfl, W2.o, T.c_World, T.n_lives, fW_lives, a.l, a.lx, _, rfl, W2.l.o, fL_no (by decide +kernel) (by decide +kernel) (by decide +kernel), _, rfl, _, _, _, _, rfl, rfl, .of (hy), atI_nat (j := 1) rfl, a, m, n, rfl, W2.l, _, rfl, ?_⟩
          refine ifB (fun hb => ?_) (fun hb => ?_)
          · refine ⟨_, rfl, _, rfl, a.p, _, a.px, _, _, rfl, W2.o, T.c_World, T.n_lives, fW_lives, a.l, a.lx, _, rfl, W2.l.o, fL_no (by decide +kernel) (by decide +kernel) (by decide +kernel), _, rfl, _, _, _, _, rfl, rfl, .of (hy), atI_nat (j := 1) rfl, a, m, n, rfl, W2.l, (M.alive_iff.mp hb).1, _, rfl, _, _, _, _, rfl, rfl, .of (hy), atI_nat (j := 2) rfl, _, _, rfl, rfl, _, _, rfl, ?_⟩
            exact ⟨_, by rw [et _ (if_pos hb)]; rfl, s2⟩
          · exact ⟨_, by rw [et _ (if_neg (by rw [hb]; exact Bool.false_ne_true))]; rfl, s2⟩
    · rintro σ H2 ⟨v, rfl, s2⟩
      rw [List.length_map, List.take_length, fm_map]
      have s12 := s1.trans s2
      have ht2 := s12 _ _ ht
      have W2 := W.same s12
      have eF : ((ps.map (·.2)).filter isNm).foldl m.firstStep m.yr = m.firstA (ps.map (·.2)) := rfl
      rw [eF]
      generalize hF : m.firstA (ps.map (·.2)) = F
      cases h with
      | one n =>
        refine ⟨_, rfl, _, _, _, _, rfl, rfl, .of (ht2), atI_nat (j := 0) rfl, rfl, _, rfl, ifTd rfl ?_⟩
        have k := k H2 s12
        simp only [M.firstEnd] at k
        rw [hF] at k
        exact ⟨_, rfl, k⟩
      | kids n g =>
        simp only [M.firstEnd] at k
        rw [hF] at k
        refine ⟨_, rfl, _, _, _, _, rfl, rfl, .of (ht2), atI_nat (j := 0) rfl, rfl, _, rfl, ifFd (by decide +kernel) ?_⟩
        refine ⟨_, rfl, a.p, _, a.px, _, _, rfl, W2.o, T.c_World, T.n_lives, fW_lives, a.l, a.lx, _, rfl, W2.l.o, fL_no (by decide +kernel) (by decide +kernel) (by decide +kernel), _, rfl, _, _, _, _, rfl, rfl, .of (ht2), atI_nat (j := 1) rfl, a, m, n, rfl, W2.l, _, rfl, ?_⟩
        refine ifB (fun hb => ?_) (fun hb => ?_)
        · rw [if_pos (.inl hb)] at k
          exact ⟨_, rfl, k H2 s12⟩
        · refine ⟨_, rfl, a.p, _, a.px, _, _, rfl, W2.o, T.c_World, T.n_lives, fW_lives, a.l, a.lx, _, rfl, W2.l.o, fL_no (by decide +kernel) (by decide +kernel) (by decide +kernel), _, rfl, _, _, _, _, rfl, rfl, .of (ht2), atI_nat (j := 1) rfl, a, m, n, rfl, W2.l, _, rfl, ?_⟩
          refine ifB (fun hb2 => ?_) (fun hb2 => ?_)
          · rw [if_pos (.inr (by simpa using hb2))] at k
            exact ⟨_, rfl, k H2 s12⟩
          · rw [if_neg (by
              rintro (z | z)
              · rw [hb] at z; cases z
              · rw [z] at hb2; cases hb2)] at k
            refine ⟨_, rfl, _, rfl, _, _, _, _, rfl, rfl, .of (ht2), atI_nat (j := 1) rfl, a, m, n, rfl, W2, wf, hn.two, fun H3 q s3 hq hq1 => ?_⟩
            have ht3 := s3 _ _ ht2
            refine ⟨_, rfl, _, rfl, _, _, _, _, rfl, rfl, .of (ht3), atI_nat (j := 1) rfl, _, rfl, _, _, _, _, rfl, rfl, .of (ht3), atI_nat (j := 2) rfl, _, rfl, a, m, n, g, q, m.leftOut n, rfl, W2.same s3, wf, hn.two, .of hq1, fun H4 r s4 hr4 hr1 => ?_⟩
            have ht4 := s4 _ _ ht3
            have W4 := (W2.same s3).same s4
            refine ⟨_, rfl, _, rfl, _, _, _, _, rfl, rfl, .of (ht4), atI_nat (j := 1) rfl, _, rfl, _, _, _, _, rfl, rfl, .of (ht4), atI_nat (j := 2) rfl, _, rfl, a, m, n, g, q, m.leftOut n, rfl, W4, wf, hn.two, .of (s4 _ _ hq1), fun H5 u s5 hu5 hu1 => ?_⟩
            refine ⟨_, _, rfl, .inl ⟨_, .of hu1, rfl⟩, _, _, rfl, rfl, _, rfl, ?_⟩
            rw [List.length_map]
            have s15 := ((s12.trans s3).trans s4).trans s5
            refine ifB (fun hb3 => ?_) (fun hb3 => ?_)
            · rw [if_pos (.inl (by have := of_decide_eq_true hb3; omega))] at k
              exact ⟨_, rfl, k H5 s15⟩
            · refine ⟨_, rfl, _, _, rfl, .inl ⟨_, .of (s5 _ _ hr1), rfl⟩, rfl, _, rfl, ?_⟩
              rw [List.length_map]
              refine ifB (fun hb4 => ?_) (fun hb4 => ?_)
              · rw [if_pos (.inr (by have := V.int.inj (of_decide_eq_true hb4); omega))] at k
                exact ⟨_, rfl, k H5 s15⟩
              · have hw : (m.waiting n g (m.leftOut n)).length ≠ 0 := fun z => of_decide_eq_false hb4 (by rw [z]; rfl)
                rw [if_neg (by
                  rintro (z | z)
                  · have := of_decide_eq_false hb3; omega
                  · exact hw z)] at k
                refine ⟨_, rfl, _, rfl, r, rfl, ⟨_, .of (s5 _ _ hr1)⟩, fun D hD => lc_fm (e := nmV) (ys := m.waiting n g (m.leftOut n)) (fun c => some (.int (m.born c))) hD (.of (s5 _ _ hr1)) (small (k := 10000) (Nat.le_trans (M.waiting_len ..) (kc10 W.l.sz n)) (by decide)) ?_ ?_⟩
                · intro i y H' C hy s6 hC
                  have hb := M.waiting_isB wf (List.mem_of_getElem? hy)
                  have W6 := (W4.same s5).same s6
                  refine ⟨rfl, _, rfl, a.p, _, a.px, _, _, rfl, W6.o, T.c_World, T.n_lives, fW_lives, a.l, a.lx, _, rfl, W6.l.o, fL_no (by decide +kernel) (by decide +kernel) (by decide +kernel), _, rfl, a, m, y, rfl, W6.l, hb, hC _ _ (Same.refl _) rfl⟩
                · intro H6 s6 hDD
                  have e : ((m.waiting n g (m.leftOut n)).filterMap fun c => some (V.int (m.born c))) = ((m.waiting n g (m.leftOut n)).map m.born).map V.int := by
                    rw [List.map_map]
                    exact congrFun (List.filterMap_eq_map) _
                  rw [e] at hDD
                  refine ⟨D, _, rfl, .of hDD, by rw [List.length_map]; omega, fun x hx hxle => ?_⟩
                  have ht6 := s6 _ _ (s5 _ _ ht4)
                  refine ⟨_, rfl, _, _, _, _, rfl, rfl, .of (ht6), atI_nat (j := 2) rfl, _, _, rfl, rfl, _, _, rfl, ?_⟩
                  rw [minL_eq hx hxle] at k
                  exact k H6 (s15.trans s6)
end
end DH

namespace DH
open PySem PySem.Spec PyProof.Rows L2 TL
section
variable {P : Program} {w : World} {K : PySem.W.Frag} {mg : Str → Option Value} {base : Heap}
namespace M
def outH (m : M) : Hol → List Nm
  | .one _ => []
  | .kids n _ => m.leftOut n
def classPart (m : M) (term : Int) : Hol → Bool
  | .one _ => false
  | .kids n g => if m.classS n g (m.leftOut n) = .hangs then m.classLate n g term else false
def isLate (m : M) (h : Hol) (ts : List Atom) (term : Int) : Bool :=
  if m.rowS h ts (m.outH h) = .hangs then
    (if (m.hangL h ts).any (m.atomLate (m.firstEnd h ts + term) term) = true then true else m.classPart term h)
  else false
end M
theorem sV_ne (a b : S3) : (!decide (sV a = sV b)) = !decide (a = b) := by rw [sV_eq]
structure RowAt (K : PySem.W.Frag) (H : Hp) (A : WA) (m : M) (t : Addr) (h : Hol) (o : Addr) (ps : List (Addr × Atom)) : Prop where
  w : WAt K H A m
  wf : m.WF
  t : H t = some (.tup (encH h))
  n : NmOk m h.nm
  l : AtL K H o ps
  ok : ∀ p ∈ ps, AtomOk m p.2
  z : ps.length ≤ 20
theorem RowAt.same {H H' : Hp} {A : WA} {m : M} {t : Addr} {h : Hol} {o : Addr} {ps : List (Addr × Atom)} (R : RowAt K H A m t h o ps) (s : Same H H') : RowAt K H' A m t h o ps :=
  ⟨R.w.same s, R.wf, s _ _ R.t, R.n, R.l.same s, R.ok, R.z⟩
/-- out = [], or those left out -/
theorem any_take {α : Type} {l : List α} {f : α → Bool} {i : Nat} {x : α} (h : l[i]? = some x) (h0 : (l.take i).any f = false) (hx : f x = false) : (l.take (i + 1)).any f = false := by
  rw [take_snoc h, List.any_append, h0, List.any_cons, hx]; rfl
theorem any_at {α : Type} {l : List α} {f : α → Bool} {i : Nat} {x : α} (h : l[i]? = some x) (hx : f x = true) : l.any f = true := List.any_eq_true.mpr ⟨x, List.mem_of_getElem? h, hx⟩
def sp_is_late (K : PySem.W.Frag) : Sp := fun vs H Q _ => ∃ A m t h o ps term, vs = [.ref A.p, .ref t, .ref o, .int term] ∧ RowAt K H A m t h o ps ∧ ∀ H', Same H H' → Q (.bl (m.isLate h (ps.map (·.2)) term)) H'
theorem sc_is_late : FnScope ["world", "holder", "atoms", "term", "out", "last", "atom"] ["world", "holder", "atoms", "term"] (defScope s_is_late) :=
  ⟨rfl, rfl, rfl, by decide +kernel, rfl, by decide +kernel, by decide +kernel⟩
theorem ok_is_late (T : Txt K mg) : Cal P w K mg base 9 "is_late" ["world", "holder", "atoms", "term"] (sp_is_late K) := by
  obtain ⟨f_class_late, fd_class_late, g_class_late, k_class_late, b_class_late, G_class_late⟩ := ok_class_late T
  obtain ⟨f_class_stand, fd_class_stand, g_class_stand, k_class_stand, b_class_stand, G_class_stand⟩ := ok_class_stand T
  obtain ⟨f_hanging, fd_hanging, g_hanging, k_hanging, b_hanging, G_hanging⟩ := ok_hanging T
  obtain ⟨f_atom_late, fd_atom_late, g_atom_late, k_atom_late, b_atom_late, G_atom_late⟩ := ok_atom_late T
  obtain ⟨f_first_end, fd_first_end, g_first_end, k_first_end, b_first_end, G_first_end⟩ := ok_first_end T
  obtain ⟨f_row_stand, fd_row_stand, g_row_stand, k_row_stand, b_row_stand, G_row_stand⟩ := ok_row_stand T
  obtain ⟨f_left_out, fd_left_out, g_left_out, k_left_out, b_left_out, G_left_out⟩ := ok_left_out T
  refine cal_of T.g_is_late T.f_is_late sc_is_late (fun _ _ _ _ _ _ us hl => match us, hl with | [_, _, _, _], _ => rfl) (fun vs H Q E h => ?_) (fun f cdv A outer s H vs Q E hr h => ?_)
  · obtain ⟨A, m, t, h, o, ps, term, rfl, _⟩ := h; rfl
  · obtain ⟨a, m, t, h, o, ps, term, rfl, R, k⟩ := h
    refine ⟨_, (pss_cons (ps_set (i := 4) sc_is_late.nd rfl (by first | exact Or.inl rfl | exact Or.inr rfl) (pe_lst pa_nil))
        (pss_cons (ps_if (pt_cmpR op_eq (pe_ix (ix_tupK K) (pv 1) pe_int (fun _ _ => rfl)) pe_str (nomark _)) (pss_one (ps_set (i := 4) sc_is_late.nd rfl (by first | exact Or.inl rfl | exact Or.inr rfl) (pe_call G_left_out (hr.mono (by decide)) rfl g_left_out k_left_out b_left_out .nil pass0 (pa_cons (pv 0) (pa_cons (pe_ix (ix_tupK K) (pv 1) pe_int (fun _ _ => rfl)) pa_nil))))) pss_nil)
        (pss_cons (ps_if (pt_cmpR op_ne (pe_call G_row_stand (hr.mono (by decide)) rfl g_row_stand k_row_stand b_row_stand .nil pass0 (pa_cons (pv 0) (pa_cons (pv 1) (pa_cons (pv 2) (pa_cons (pv 4) pa_nil))))) pe_str (nomark _)) (pss_one (ps_ret pe_bl)) pss_nil)
        (pss_cons (ps_set (i := 5) sc_is_late.nd rfl (by first | exact Or.inl rfl | exact Or.inr rfl) (pe_op op_add (pe_call G_first_end (hr.mono (by decide)) rfl g_first_end k_first_end b_first_end .nil pass0 (pa_cons (pv 0) (pa_cons (pv 1) (pa_cons (pv 2) pa_nil)))) (pv 3)))
        (pss_cons (ps_for PassesOwn.never rfl (pi_listK K (pe_call G_hanging (hr.mono (by decide)) rfl g_hanging k_hanging b_hanging .nil pass0 (pa_cons (pv 0) (pa_cons (pv 1) (pa_cons (pv 2) pa_nil))))) (pg_name (i := 6) sc_is_late.nd rfl (by first | exact Or.inl rfl | exact Or.inr rfl)) (pss_one (ps_if (pt_val (pe_call G_atom_late (hr.mono (by decide)) rfl g_atom_late k_atom_late b_atom_late .nil pass0 (pa_cons (pv 0) (pa_cons (pv 6) (pa_cons (pv 5) (pa_cons (pv 3) pa_nil)))))) (pss_one (ps_ret pe_bl)) pss_nil)))
        (pss_cons (ps_if (PW.pt (pw_or (pt_cmpR op_eq (pe_ix (ix_tupK K) (pv 1) pe_int (fun _ _ => rfl)) pe_str (nomark _)) (pw_or1 (pt_cmpR op_ne (pe_call G_class_stand (hr.mono (by decide)) rfl g_class_stand k_class_stand b_class_stand .nil pass0 (pa_cons (pv 0) (pa_cons (pe_ix (ix_tupK K) (pv 1) pe_int (fun _ _ => rfl)) (pa_cons (pe_ix (ix_tupK K) (pv 1) pe_int (fun _ _ => rfl)) (pa_cons (pv 4) pa_nil))))) pe_str (nomark _))))) (pss_one (ps_ret pe_bl)) pss_nil)
        (pss_one (ps_ret (pe_call G_class_late (hr.mono (by decide)) rfl g_class_late k_class_late b_class_late .nil pass0 (pa_cons (pv 0) (pa_cons (pv 1) (pa_cons (pv 3) pa_nil)))))))))))), ?_⟩
    have hz := R.z
    refine ⟨small (k := 0) (Nat.le_refl _) (by decide), fun u hu => ?_⟩
    have s0 : Same H (upd H u (.lst [])) := Same.upd hu
    have hu0 : (upd H u (.lst [])) u = some (.lst []) := upd_same
    generalize (upd H u (.lst [])) = H0 at s0 hu0
    -- what follows once out is known
    have main : ∀ (q : Addr) (H1 : Hp), Same H H1 → SqL K H1 q ((m.outH h).map nmV) →
        (tSeq (tIfS (tTest (tOp rNe (tCall (sp_row_stand K) [] E0 (tCons (tVar 0) (tCons (tVar 1) (tCons (tVar 2) (tCons (tVar 4) tNil))))) (tC (.str "hangs")))) (tRet (tC (.bl false))) tNext)
          (tSeq (tAsg (tOp (rI0 fun i j => .int (i + j)) (tCall (sp_first_end K) [] E0 (tCons (tVar 0) (tCons (tVar 1) (tCons (tVar 2) tNil)))) (tVar 3)) (gName 5))
            (tSeq (tFor (iList K (tCall (sp_hanging K) [] E0 (tCons (tVar 0) (tCons (tVar 1) (tCons (tVar 2) tNil))))) (gName 6)
                (tIfS (tB (tCall (sp_atom_late K) [] E0 (tCons (tVar 0) (tCons (tVar 6) (tCons (tVar 5) (tCons (tVar 3) tNil)))))) (tRet (tC (.bl true))) tNext))
              (tSeq (tIfS (tOr (tTest (tOp rEq (tOp (rIxT K) (tVar 1) (tC (.int 0))) (tC (.str "one"))))
                    (tTest (tOp rNe (tCall (sp_class_stand K) [] E0 (tCons (tVar 0) (tCons (tOp (rIxT K) (tVar 1) (tC (.int 1))) (tCons (tOp (rIxT K) (tVar 1) (tC (.int 2))) (tCons (tVar 4) tNil))))) (tC (.str "hangs")))))
                  (tRet (tC (.bl false))) tNext)
                (tRet (tCall (sp_class_late K) [] E0 (tCons (tVar 0) (tCons (tVar 1) (tCons (tVar 3) tNil))))))))) { nx := fun _ H' => Q .non H', rt := Q }
          [some (.ref a.p), some (.ref t), some (.ref o), some (.int term), some (.ref q), none, none] H1 := by
      intro q H1 s1 hq
      have R1 := R.same s1
      refine ⟨_, rfl, _, rfl, _, rfl, _, rfl, a, m, t, h, o, ps, q, m.outH h, rfl, R1.w, R.wf, R1.t, R.n, R1.l, R.ok, by omega, hq, fun H2 s2 => ⟨rfl, _, rfl, ?_⟩⟩
      have s12 := s1.trans s2
      show if (!decide (sV _ = sV .hangs)) = true then _ else _
      rw [sV_ne]
      unfold M.isLate at k
      refine ifB (fun hb => ?_) (fun hb => ?_)
      · have hb : ¬ m.rowS h (ps.map (·.2)) (m.outH h) = .hangs := by simpa using hb
        rw [if_neg hb] at k
        exact k H2 s12
      · have hb : m.rowS h (ps.map (·.2)) (m.outH h) = .hangs := by simpa using hb
        rw [if_pos hb] at k
        have R2 := R.same s12
        refine ⟨_, rfl, _, rfl, _, rfl, a, m, t, h, o, ps, rfl, R2.w, R.wf, R2.t, R.n, R2.l, R.ok, by omega, fun H3 s3 => ⟨_, rfl, _, _, rfl, rfl, ?_⟩⟩
        have s13 := s12.trans s3
        have R3 := R.same s13
        refine ⟨_, rfl, _, rfl, _, rfl, a, m, t, h, o, ps, rfl, R3.w, R3.t, R.n, R3.l, R.ok, by omega, fun H4 p ps' s4 hp B4 e4 => ?_⟩
        have s14 := s13.trans s4
        have e5 : (ps'.any fun p => m.atomLate (m.firstEnd h (ps.map (·.2)) + term) term p.2) = (m.hangL h (ps.map (·.2))).any (m.atomLate (m.firstEnd h (ps.map (·.2)) + term) term) := by
          rw [← e4, List.any_map]; rfl
        rw [← e5] at k
        have okp : ∀ p ∈ ps', AtomOk m p.2 := fun p hp => by
          have hm : p.2 ∈ m.hangL h (ps.map (·.2)) := by rw [← e4]; exact List.mem_map.mpr ⟨p, hp, rfl⟩
          have hm := (List.mem_filter.mp hm).1
          cases h with
          | one n =>
            rcases List.mem_cons.mp hm with hm | hm
            · rw [hm]; intro x hx; cases hx; exact R.n
            · obtain ⟨q, hq, e2⟩ := List.mem_map.mp hm
              rw [← e2]; exact R.ok q hq
          | kids n g =>
            obtain ⟨q, hq, e2⟩ := List.mem_map.mp hm
            rw [← e2]; exact R.ok q hq
        refine ⟨p, rfl, ⟨_, B4.l⟩, for_list (K := K) (a := p) (xs := ps'.map rV) (fun i σ H' => ∃ v, σ = [some (.ref a.p), some (.ref t), some (.ref o), some (.int term), some (.ref q), some (.int (m.firstEnd h (ps.map (·.2)) + term)), v] ∧ Same H4 H' ∧ ((ps'.take i).any fun p => m.atomLate (m.firstEnd h (ps.map (·.2)) + term) term p.2) = false) ⟨none, rfl, Same.refl _, rfl⟩ (fun i σ H' _ ⟨_, _, s5, _⟩ => s5.seq B4.l) ?_ ?_⟩
        · rintro i x σ H' hx ⟨v, rfl, s5, h0⟩
          rw [List.getElem?_map] at hx
          cases ei : ps'[i]? with
          | none => rw [ei] at hx; cases hx
          | some y =>
            rw [ei] at hx
            cases hx
            have hm := List.mem_of_getElem? ei
            have R5 := R.same (s14.trans s5)
            refine ⟨_, rfl, _, rfl, _, rfl, _, rfl, a, m, y.1, y.2, _, term, rfl, R5.w, okp y hm, s5 _ _ (B4.t y hm), fun H6 s6 => ⟨_, rfl, ?_⟩⟩
            refine ifB (fun hb => ?_) (fun hb => ?_)
            · rw [if_pos (any_at (f := fun p : Addr × Atom => m.atomLate (m.firstEnd h (ps.map (·.2)) + term) term p.2) ei hb)] at k
              exact k H6 ((s14.trans s5).trans s6)
            · exact ⟨_, rfl, s5.trans s6, any_take ei h0 hb⟩
        · rintro σ H5 ⟨v, rfl, s5, h0⟩
          rw [List.length_map, List.take_length] at h0
          rw [if_neg (by rw [h0]; exact Bool.false_ne_true)] at k
          have s15 := s14.trans s5
          have R5 := R.same s15
          have ht5 := R5.t
          have hn := R.n
          cases h with
          | one n =>
            refine ⟨_, rfl, _, _, _, _, rfl, rfl, .of (ht5), atI_nat (j := 0) rfl, rfl, _, rfl, ifTd rfl ?_⟩
            exact k H5 s15
          | kids n g =>
            refine ⟨_, rfl, _, _, _, _, rfl, rfl, .of (ht5), atI_nat (j := 0) rfl, rfl, _, rfl, ifFd (by decide +kernel) ?_⟩
            refine ⟨_, rfl, _, rfl, _, _, _, _, rfl, rfl, .of (ht5), atI_nat (j := 1) rfl, _, rfl, _, _, _, _, rfl, rfl, .of (ht5), atI_nat (j := 2) rfl, _, rfl, a, m, n, g, q, m.leftOut n, rfl, R5.w, R.wf, hn, ((s2.trans s3).trans s4).trans s5 |>.seq hq, fun H6 s6 => ⟨rfl, _, rfl, ?_⟩⟩
            show if (!decide (sV _ = sV .hangs)) = true then _ else _
            rw [sV_ne]
            simp only [M.classPart] at k
            refine ifB (fun hb => ?_) (fun hb => ?_)
            · have hb : ¬ m.classS n g (m.leftOut n) = .hangs := by simpa using hb
              rw [if_neg hb] at k
              exact k H6 (s15.trans s6)
            · have hb : m.classS n g (m.leftOut n) = .hangs := by simpa using hb
              rw [if_pos hb] at k
              have R6 := R.same (s15.trans s6)
              refine ⟨_, rfl, _, rfl, _, rfl, a, m, t, n, g, term, rfl, R6.w, hn, R6.t, fun H7 s7 => k H7 ((s15.trans s6).trans s7)⟩
    have R0 := R.same s0
    have ht0 := R0.t
    cases h with
    | one n =>
      refine ⟨_, rfl, _, _, _, _, rfl, rfl, .of (ht0), atI_nat (j := 0) rfl, rfl, _, rfl, ifFd (by decide +kernel) ?_⟩
      exact main u H0 s0 (.of hu0)
    | kids n g =>
      refine ⟨_, rfl, _, _, _, _, rfl, rfl, .of (ht0), atI_nat (j := 0) rfl, rfl, _, rfl, ifTd rfl ?_⟩
      refine ⟨_, rfl, _, rfl, _, _, _, _, rfl, rfl, .of (ht0), atI_nat (j := 1) rfl, a, m, n, rfl, R0.w, R.wf, R.n.two, fun H1 q s1 hq hq1 => ?_⟩
      exact main q H1 (s0.trans s1) (.of hq1)
end
end DH

namespace DH
open PySem PySem.Spec PyProof.Rows L2 TL
section
variable {P : Program} {w : World} {K : PySem.W.Frag} {mg : Str → Option Value} {base : Heap}
def putN (l : List (Nm × Int)) (n : Nm) (v : Int) : List (Nm × Int) := if (lk l n).isSome = true then l.map (fun p => if p.1 = n then (p.1, v) else p) else l ++ [(n, v)]
theorem putK_putN (l : List (Nm × Int)) (n : Nm) (v : Int) : putK (kN l) (Sum.inr (enc n)) (.int v) = kN (putN l n v) := by
  unfold putN
  cases e : lk l n with
  | none => rw [putK_kvs enc_inj' l n v e]; rfl
  | some y =>
    rw [putK_hit (x := .int y) (by rw [vN, e]; rfl)]
    show _ = kN (if true = true then _ else _)
    rw [if_pos rfl]
    unfold kN kvs
    rw [List.map_map, List.map_map]
    refine List.map_congr_left fun p _ => ?_
    show (if (Sum.inr (enc p.1) : Key) = Sum.inr (enc n) then ((Sum.inr (enc p.1) : Key), V.int v) else (Sum.inr (enc p.1), V.int p.2)) = _
    by_cases h : p.1 = n
    · rw [if_pos (by rw [h])]
      show _ = ((Sum.inr (enc (if p.1 = n then (p.1, v) else p).1) : Key), V.int (if p.1 = n then (p.1, v) else p).2)
      rw [if_pos h]
    · rw [if_neg (fun z => h (key_inj.mp z))]
      show _ = ((Sum.inr (enc (if p.1 = n then (p.1, v) else p).1) : Key), V.int (if p.1 = n then (p.1, v) else p).2)
      rw [if_neg h]
theorem putN_len (l : List (Nm × Int)) (n : Nm) (v : Int) : (putN l n v).length ≤ l.length + 1 := by
  unfold putN
  split
  · rw [List.length_map]; omega
  · rw [List.length_append]; exact Nat.le_refl _
theorem mapGetD (o : Option Int) (d : Int) : (o.map V.int).getD (.int d) = .int (o.getD d) := by cases o <;> rfl
namespace M
def wantStep (m : M) (D : List (Nm × Int)) (n : Nm) : List (Nm × Int) := match m.near n with
  | some r => if r ≠ n ∧ m.alive r = true then putN D r (maxP ((lk D r).getD 0) ((n.l.getD r.l.length 0 : Nat) : Int)) else D
  | none => D
def want0 (m : M) : Hol → List (Nm × Int)
  | .one _ => []
  | .kids n _ => if m.alive n = true then [(n, (m.kc n : Int) + 1)] else []
def holN : Hol → List Nm
  | .one _ => []
  | .kids n _ => [n]
def hopesL (m : M) (h : Hol) (ts : List Atom) : List Nm := (m.hangL h ts).filterMap Atom.nm ++ holN h
def wantD (m : M) (h : Hol) (ts : List Atom) : List (Nm × Int) := (m.hopesL h ts).foldl m.wantStep (m.want0 h)
theorem wantStep_len (m : M) (D : List (Nm × Int)) (n : Nm) : (m.wantStep D n).length ≤ D.length + 1 := by
  unfold wantStep
  split
  · split
    · exact putN_len ..
    · omega
  · omega
theorem want0_len (m : M) (h : Hol) : (m.want0 h).length ≤ 1 := by
  cases h with
  | one n => exact Nat.zero_le _
  | kids n g =>
    show (if m.alive n = true then [(n, (m.kc n : Int) + 1)] else []).length ≤ 1
    by_cases h : m.alive n = true
    · rw [if_pos h]; exact Nat.le_refl _
    · rw [if_neg h]; exact Nat.zero_le _
theorem near_lt {m : M} {n r : Nm} (h : m.near n = some r) (hne : r ≠ n) : r.l.length < n.l.length := by
  obtain ⟨j, hj, rfl⟩ := near_take h
  show (n.l.take j).length < n.l.length
  rw [List.length_take]
  by_cases e : j = n.l.length
  · exfalso
    apply hne
    obtain ⟨w, l⟩ := n
    have e : j = l.length := e
    show Nm.mk w (l.take j) = _
    rw [e, List.take_length]
  · omega
end M
theorem nm_ok {m : M} {h : Hol} {ps : List (Addr × Atom)} (hn : NmOk m h.nm) (ok : ∀ p ∈ ps, AtomOk m p.2) {x : Atom} (hx : x ∈ m.hangL h (ps.map (·.2))) : AtomOk m x := by
  have hm := (List.mem_filter.mp hx).1
  cases h with
  | one n =>
    rcases List.mem_cons.mp hm with hm | hm
    · rw [hm]; intro y hy; cases hy; exact hn
    · obtain ⟨q, hq, e2⟩ := List.mem_map.mp hm
      rw [← e2]; exact ok q hq
  | kids n g =>
    obtain ⟨q, hq, e2⟩ := List.mem_map.mp hm
    rw [← e2]; exact ok q hq
theorem hang_len (m : M) (h : Hol) (ts : List Atom) : (m.hangL h ts).length ≤ ts.length + 1 := Nat.le_trans (List.length_filter_le ..) (whole_len h ts)
theorem fmNm (l : List Atom) : (l.filter isNm).filterMap Atom.nm = l.filterMap Atom.nm := by
  induction l with
  | nil => rfl
  | cons x r ih =>
    rw [List.filter_cons]
    cases x <;> simp [isNm, Atom.nm, ih, List.filterMap_cons]
def sp_wanted (K : PySem.W.Frag) : Sp := fun vs H Q _ => ∃ A m t h o ps, vs = [.ref A.p, .ref t, .ref o] ∧ RowAt K H A m t h o ps ∧ ∀ H' p, Same H H' → H p = none → H' p = some (.dK (kN (m.wantD h (ps.map (·.2))))) → Q (.ref p) H'
theorem sc_wanted : FnScope ["world", "holder", "atoms", "found", "hopes", "atom", "name", "near", "child"] ["world", "holder", "atoms"] (defScope s_wanted) :=
  ⟨rfl, rfl, rfl, by decide +kernel, rfl, by decide +kernel, by decide +kernel⟩
theorem ok_wanted (T : Txt K mg) : Cal P w K mg base 8 "wanted" ["world", "holder", "atoms"] (sp_wanted K) := by
  obtain ⟨f_Lives_alive, fd_Lives_alive, m_Lives_alive, b_Lives_alive, G_Lives_alive⟩ := ok_Lives_alive T
  obtain ⟨f_parts, fd_parts, g_parts, k_parts, b_parts, G_parts⟩ := ok_parts T
  obtain ⟨f_Lives_nearest, fd_Lives_nearest, m_Lives_nearest, b_Lives_nearest, G_Lives_nearest⟩ := ok_Lives_nearest T
  obtain ⟨f_Lives_children, fd_Lives_children, m_Lives_children, b_Lives_children, G_Lives_children⟩ := ok_Lives_children T
  obtain ⟨f_named, fd_named, g_named, k_named, b_named, G_named⟩ := ok_named T
  obtain ⟨f_hanging, fd_hanging, g_hanging, k_hanging, b_hanging, G_hanging⟩ := ok_hanging T
  refine cal_of T.g_wanted T.f_wanted sc_wanted (fun _ _ _ _ _ _ us hl => match us, hl with | [_, _, _], _ => rfl) (fun vs H Q E h => ?_) (fun f cdv A outer s H vs Q E hr h => ?_)
  · obtain ⟨A, m, t, h, o, ps, rfl, _⟩ := h; rfl
  · obtain ⟨a, m, t, h, o, ps, rfl, R, k⟩ := h
    have hu := hu_of hr
    refine ⟨_, (pss_cons (ps_set (i := 3) sc_wanted.nd rfl (by first | exact Or.inl rfl | exact Or.inr rfl) pe_dnewK)
        (pss_cons (ps_setLc (i := 4) (own := [("atom", 5)]) rfl sc_wanted.nd rfl rfl (sw_true rfl rfl rfl (by decide +kernel)) (pi_listK K (pe_call G_named (hr.mono (by decide)) rfl g_named k_named b_named .nil pass0 (pa_cons (pe_call G_hanging (hr.mono (by decide)) rfl g_hanging k_hanging b_hanging .nil pass0 (pa_cons (pv 0) (pa_cons (pv 1) (pa_cons (pv 2) pa_nil)))) pa_nil))) (blkOk_by (own := [("atom", 5)]) (N := ["world", "holder", "atoms", "found", "hopes", "atom", "name", "near", "child"]) (sc := defScope s_wanted) (by decide +kernel)) (fun _ _ _ _ _ => pg_name (i := 5) sc_wanted.nd rfl (Or.inl rfl)) (fun _ _ _ _ _ => pts_nil) (fun _ _ _ _ _ => (pe_ix (ix_tupK K) (pv 5) pe_int (fun _ _ => rfl))))
        (pss_cons (ps_if (PW.pt (pw_and (pt_cmpR op_eq (pe_ix (ix_tupK K) (pv 1) pe_int (fun _ _ => rfl)) pe_str (nomark _)) (pw_and1 (pt_val (pe_meth (pe_fldK K (pv 0) rfl) T.c_Lives m_Lives_alive G_Lives_alive (hr.mono (by decide)) b_Lives_alive .nil pass0 (pa_cons (pe_ix (ix_tupK K) (pv 1) pe_int (fun _ _ => rfl)) pa_nil)))))) (pss_one (ps_dput hu (pv 3) (pe_ix (ix_tupK K) (pv 1) pe_int (fun _ _ => rfl)) (pe_op op_add (pe_callB (call_lenK K) (by rfl) T.b_len PySem.boot_len (pa_cons (pe_meth (pe_fldK K (pv 0) rfl) T.c_Lives m_Lives_children G_Lives_children (hr.mono (by decide)) b_Lives_children .nil pass0 (pa_cons (pe_ix (ix_tupK K) (pv 1) pe_int (fun _ _ => rfl)) pa_nil)) pa_nil)) pe_int) rfl)) pss_nil)
        (pss_cons (ps_if (pt_cmpR op_eq (pe_ix (ix_tupK K) (pv 1) pe_int (fun _ _ => rfl)) pe_str (nomark _)) (pss_one (ps_expr (bmK K (pe_bm PySem.F.plainAttrs_list PySem.F.slot_list_append PySem.F.type_list_append mt_append (pv 4) (pa_cons (pe_ix (ix_tupK K) (pv 1) pe_int (fun _ _ => rfl)) pa_nil))))) pss_nil)
        (pss_cons (ps_for PassesOwn.never rfl (pi_listK K (pv 4)) (pg_name (i := 6) sc_wanted.nd rfl (by first | exact Or.inl rfl | exact Or.inr rfl)) (pss_cons (ps_set (i := 7) sc_wanted.nd rfl (by first | exact Or.inl rfl | exact Or.inr rfl) (pe_meth (pe_fldK K (pv 0) rfl) T.c_Lives m_Lives_nearest G_Lives_nearest (hr.mono (by decide)) b_Lives_nearest .nil pass0 (pa_cons (pv 6) pa_nil)))
        (pss_one (ps_if (PW.pt (pw_and (pt_cmpR op_ne (pv 7) (pv 6) (nomark _)) (pw_and1 (pt_val (pe_meth (pe_fldK K (pv 0) rfl) T.c_Lives m_Lives_alive G_Lives_alive (hr.mono (by decide)) b_Lives_alive .nil pass0 (pa_cons (pv 7) pa_nil)))))) (pss_cons (ps_set (i := 8) sc_wanted.nd rfl (by first | exact Or.inl rfl | exact Or.inr rfl) (pe_ix (ix_listK K) (pe_call G_parts (hr.mono (by decide)) rfl g_parts k_parts b_parts .nil pass0 (pa_cons (pv 6) pa_nil)) (pe_callB (call_lenK K) (by rfl) T.b_len PySem.boot_len (pa_cons (pe_call G_parts (hr.mono (by decide)) rfl g_parts k_parts b_parts .nil pass0 (pa_cons (pv 7) pa_nil)) pa_nil)) (fun _ _ => rfl)))
        (pss_one (ps_dput hu (pv 3) (pv 7) (pe_callB (call_max2 rfl) (by rfl) T.b_max (by decide +kernel) (pa_cons (pe_dget2 hu (pv 3) (pv 7) pe_int ⟨rfl, rfl, rfl, rfl⟩) (pa_cons (pv 8) pa_nil))) rfl))) pss_nil))))
        (pss_one (ps_ret (pv 3)))))))), ?_⟩
    have hz := R.z
    intro d hd
    have s0 : Same H (upd H d (.dK (kN []))) := Same.upd hd
    have hd0 : (upd H d (.dK (kN []))) d = some (.dK (kN [])) := upd_same
    show tSeq _ _ _ _ (upd H d (.dK (kN [])))
    generalize (upd H d (.dK (kN []))) = H0 at s0 hd0 ⊢
    have R0 := R.same s0
    refine ⟨_, rfl, _, rfl, _, rfl, a, m, t, h, o, ps, rfl, R0.w, R0.t, R.n, R0.l, R.ok, by omega, fun H1 p ps1 s1 hp B1 e1 => ?_⟩
    have s01 := s0.trans s1
    have hl1 : ps1.length ≤ 21 := by
      have h1 := congrArg List.length e1
      have h2 := hang_len m h (ps.map (·.2))
      rw [List.length_map] at h1 h2
      omega
    refine ⟨p, ps1, rfl, B1, by omega, fun H2 q s2 hq B2 => ?_⟩
    have s02 := s01.trans s2
    refine ⟨q, rfl, ⟨_, B2.l⟩, fun D hD => lc_fm (e := rV) (ys := ps1.filter fun p => isNm p.2) (fun p => p.2.nm.map nmV) hD B2.l (small (k := 21) (Nat.le_trans (List.length_filter_le ..) hl1) (by decide)) ?_ ?_⟩
    · intro i y H' C hy s3 hC
      have hm := List.mem_of_getElem? hy
      have hty := s3 _ _ (B2.t y hm)
      have hm2 := (List.mem_filter.mp hm).2
      obtain ⟨ya, y⟩ := y
      cases y with
      | year y => cases hm2
      | comes x => cases hm2
      | born n => exact ⟨rfl, _, rfl, _, _, _, _, rfl, rfl, .of (hty), atI_nat (j := 1) rfl, hC _ _ (Same.refl _) rfl⟩
      | dead n => exact ⟨rfl, _, rfl, _, _, _, _, rfl, rfl, .of (hty), atI_nat (j := 1) rfl, hC _ _ (Same.refl _) rfl⟩
      | age n g => exact ⟨rfl, _, rfl, _, _, _, _, rfl, rfl, .of (hty), atI_nat (j := 1) rfl, hC _ _ (Same.refl _) rfl⟩
    · intro H3 s3 hDD
      have s03 := s02.trans s3
      have eh : ((ps1.filter fun p => isNm p.2).filterMap fun p => p.2.nm.map nmV) = ((m.hangL h (ps.map (·.2))).filterMap Atom.nm).map nmV := by
        rw [← fmNm, ← e1, ← fm_map, List.filterMap_map, List.map_filterMap]; rfl
      rw [eh] at hDD
      have hd3 : H3 d = some (.dK (kN [])) := s3 _ _ (s2 _ _ (s1 _ _ hd0))
      have hDn : H D = none := s02.free hD
      -- the loop over the hopes
      have main : ∀ (D0 : List (Nm × Int)) (hs : List Nm) (H4 : Hp), Same H H4 → H4 d = some (.dK (kN D0)) → H4 D = some (.lst (hs.map nmV)) → D0.length ≤ 1 → hs.length ≤ 100 → (∀ n ∈ hs, NmOk m n) → hs.foldl m.wantStep D0 = m.wantD h (ps.map (·.2)) →
          (tSeq (tFor (iList K (tVar 4)) (gName 6) (tSeq (tAsg (tMeth (He.ga K "Lives") "nearest" (sp_nearest K) [] E0 (tFld K (tVar 0) "lives") (tCons (tVar 6) tNil)) (gName 7))
              (tIfS (tAnd (tTest (tOp rNe (tVar 7) (tVar 6))) (tB (tMeth (He.ga K "Lives") "alive" (sp_alive K) [] E0 (tFld K (tVar 0) "lives") (tCons (tVar 7) tNil))))
                (tSeq (tAsg (tOp (rIxL K) (tCall sp_parts [] E0 (tCons (tVar 6) tNil)) (tCB (fun xs H Q => ∃ x n, xs = [x] ∧ LenV K x H n ∧ Q (.int n) H) (tCons (tCall sp_parts [] E0 (tCons (tVar 7) tNil)) tNil))) (gName 8))
                  (sDPut (tVar 3) (tVar 7) (tCB (fun xs H Q => ∃ i j, xs = [.int i, .int j] ∧ Q (.int (if j > i then j else i)) H) (tCons (tDGet2 (tVar 3) (tVar 7) (tC (.int 0))) (tCons (tVar 8) tNil))))) tNext)))
            (tRet (tVar 3))) { nx := fun _ H' => Q .non H', rt := Q }
            [some (.ref a.p), some (.ref t), some (.ref o), some (.ref d), some (.ref D), none, none, none, none] H4 := by
        intro D0 hs H4 s4 hd4 hD4 l0 lh okh ef
        have nDd : D ≠ d := ne_of hD4 hd4 (by intro z; cases z)
        refine ⟨_, rfl, D, rfl, ⟨_, .of hD4⟩, for_list (K := K) (a := D) (xs := hs.map nmV) (fun i σ H' => ∃ v1 v2 v3, σ = [some (.ref a.p), some (.ref t), some (.ref o), some (.ref d), some (.ref D), none, v1, v2, v3] ∧ Same H H' ∧ H' D = some (.lst (hs.map nmV)) ∧ H' d = some (.dK (kN ((hs.take i).foldl m.wantStep D0))) ∧ ((hs.take i).foldl m.wantStep D0).length ≤ i + 1) ⟨none, none, none, rfl, s4, hD4, hd4, l0⟩ (fun i σ H' _ ⟨_, _, _, _, _, h5, _⟩ => .of h5) ?_ ?_⟩
        · rintro i x σ H' hx ⟨v1, v2, v3, rfl, s5, hD5, hd5, l5⟩
          rw [List.getElem?_map] at hx
          cases ei : hs[i]? with
          | none => rw [ei] at hx; cases hx
          | some n =>
            rw [ei] at hx
            cases hx
            have hi : i < hs.length := (List.getElem?_eq_some_iff.mp ei).1
            obtain ⟨h2, r, hn⟩ := okh n (List.mem_of_getElem? ei)
            have W5 := R.w.same s5
            have et : (hs.take (i + 1)).foldl m.wantStep D0 = m.wantStep ((hs.take i).foldl m.wantStep D0) n := by rw [take_snoc ei, List.foldl_append]; rfl
            rw [et]
            generalize (hs.take i).foldl m.wantStep D0 = Di at hd5 l5 ⊢
            have lw := m.wantStep_len Di n
            refine ⟨_, rfl, a.p, _, a.px, _, _, rfl, W5.o, T.c_World, T.n_lives, fW_lives, a.l, a.lx, _, rfl, W5.l.o, fL_no (by decide +kernel) (by decide +kernel) (by decide +kernel), _, rfl, a, m, n, r, rfl, W5.l, h2, hn, fun H6 s6 => ?_⟩
            have W6 := W5.same s6
            refine ⟨_, rfl, _, rfl, rfl, _, rfl, ?_⟩
            rw [nmV_eq]
            have keep : m.wantStep Di n = Di → ∃ v1 v2 v3, [some (V.ref a.p), some (.ref t), some (.ref o), some (.ref d), some (.ref D), none, some (nmV n), some (nmV r), v1] = [some (V.ref a.p), some (.ref t), some (.ref o), some (.ref d), some (.ref D), none, v2, v3, v1] ∧ True := fun _ => ⟨v3, _, _, rfl, trivial⟩
            refine ifB (fun hb => ?_) (fun hb => ?_)
            · have hb : r ≠ n := by simpa using hb
              refine ⟨_, rfl, a.p, _, a.px, _, _, rfl, W6.o, T.c_World, T.n_lives, fW_lives, a.l, a.lx, _, rfl, W6.l.o, fL_no (by decide +kernel) (by decide +kernel) (by decide +kernel), _, rfl, a, m, r, rfl, W6.l, _, rfl, ?_⟩
              refine ifB (fun hl => ?_) (fun hl => ?_)
              · have ew : m.wantStep Di n = putN Di r (maxP ((lk Di r).getD 0) ((n.l.getD r.l.length 0 : Nat) : Int)) := by
                  unfold M.wantStep
                  rw [hn]
                  exact if_pos ⟨hb, hl⟩
                rw [ew] at lw ⊢
                have hlt := M.near_lt hn hb
                refine ⟨_, rfl, n, rfl, h2, fun H7 p7 s7 hp7 hp71 => ?_⟩
                refine ⟨_, rfl, r, rfl, h2.near hn, fun H8 p8 s8 hp8 hp81 => ⟨_, _, rfl, .inl ⟨_, .of hp81, rfl⟩, ?_⟩⟩
                refine ⟨p7, _, _, V.int ((n.l.getD r.l.length 0 : Nat) : Int), rfl, rfl, .of (s8 _ _ hp71), atI_nat ?_, ?_⟩
                · rw [partsV_len]
                  show (V.str n.w.s :: n.l.map fun i : Nat => V.int (i : Int))[r.l.length + 1]? = _
                  rw [List.getElem?_cons_succ, List.getElem?_map, List.getElem?_eq_getElem hlt]
                  simp [List.getD_eq_getElem?_getD, List.getElem?_eq_getElem hlt]
                have s68 := (s6.trans s7).trans s8
                have hd8 := s68 _ _ hd5
                have g : DGet H8 d (nmV r) ((lk Di r).map V.int) := by
                  have := DGet.k (k := Sum.inr (enc r)) hd8
                  rw [vN] at this; exact this
                refine ⟨_, rfl, d, rfl, .inl ⟨_, .of hd8⟩, _, rfl, _, g, _, rfl, ?_⟩
                rw [mapGetD]
                refine ⟨_, _, rfl, _, rfl, _, rfl, d, _, rfl, DPut.k (k := Sum.inr (enc r)) hd8 (by rw [kvs_len]; exact small' (k := 200) (by omega) (by decide)), ?_⟩
                refine ⟨_, _, _, rfl, (s5.trans s68).put hd, ?_, ?_, by omega⟩
                · rw [upd_ne nDd]; exact s68 _ _ hD5
                · rw [upd_same]
                  exact congrArg (fun z => some (HO.dK z)) (putK_putN ..)
              · have ew : m.wantStep Di n = Di := by
                  unfold M.wantStep
                  rw [hn]
                  exact if_neg (fun z => by rw [z.2] at hl; cases hl)
                rw [ew]
                exact ⟨_, _, _, rfl, s5.trans s6, s6 _ _ hD5, s6 _ _ hd5, by omega⟩
            · have hb : r = n := by simpa using hb
              have ew : m.wantStep Di n = Di := by
                unfold M.wantStep
                rw [hn]
                exact if_neg (fun z => z.1 hb)
              rw [ew]
              exact ⟨_, _, _, rfl, s5.trans s6, s6 _ _ hD5, s6 _ _ hd5, by omega⟩
        · rintro σ H5 ⟨v1, v2, v3, rfl, s5, hD5, hd5, l5⟩
          rw [List.length_map, List.take_length, ef] at hd5
          exact ⟨_, rfl, k H5 d s5 hd hd5⟩
      have lh : ((m.hangL h (ps.map (·.2))).filterMap Atom.nm).length ≤ 21 := by
        refine Nat.le_trans (List.length_filterMap_le ..) (Nat.le_trans (hang_len ..) ?_)
        rw [List.length_map]; omega
      have okh : ∀ n ∈ (m.hangL h (ps.map (·.2))).filterMap Atom.nm, NmOk m n := fun n hn => by
        obtain ⟨x, hx, e⟩ := List.mem_filterMap.mp hn
        exact nm_ok R.n R.ok hx n e
      have R3 := R.same s03
      have ht3 := R3.t
      have hn := R.n
      cases h with
      | one n =>
        refine ⟨_, rfl, _, _, _, _, rfl, rfl, .of (ht3), atI_nat (j := 0) rfl, rfl, _, rfl, ifFd (by decide +kernel) ?_⟩
        refine ifF rfl ?_
        refine ⟨_, rfl, _, _, _, _, rfl, rfl, .of (ht3), atI_nat (j := 0) rfl, rfl, _, rfl, ifFd (by decide +kernel) ?_⟩
        exact main [] _ H3 s03 hd3 hDD (Nat.zero_le _) (by omega) okh (by unfold M.wantD M.hopesL; rw [show M.holN (.one n) = [] from rfl, List.append_nil]; rfl)
      | kids n g =>
        refine ⟨_, rfl, _, _, _, _, rfl, rfl, .of (ht3), atI_nat (j := 0) rfl, rfl, _, rfl, ifTd rfl ?_⟩
        refine ⟨_, rfl, a.p, _, a.px, _, _, rfl, R3.w.o, T.c_World, T.n_lives, fW_lives, a.l, a.lx, _, rfl, R3.w.l.o, fL_no (by decide +kernel) (by decide +kernel) (by decide +kernel), _, rfl, _, _, _, _, rfl, rfl, .of (ht3), atI_nat (j := 1) rfl, a, m, n, rfl, R3.w.l, _, rfl, ?_⟩
        have fin : ∀ (H4 : Hp), Same H H4 → H4 d = some (.dK (kN (m.want0 (.kids n g)))) → H4 D = some (.lst (((m.hangL (.kids n g) (ps.map (·.2))).filterMap Atom.nm).map nmV)) → _ := fun H4 s4 hd4 hD4 =>
          main (m.want0 (.kids n g)) ((m.hangL (.kids n g) (ps.map (·.2))).filterMap Atom.nm ++ [n]) (upd H4 D (.lst (((m.hangL (.kids n g) (ps.map (·.2))).filterMap Atom.nm).map nmV ++ [nmV n])))
            (s4.put hDn) (by rw [upd_ne (ne_of hd4 hD4 (by intro z; cases z))]; exact hd4) (by rw [upd_same, List.map_append]; rfl) (M.want0_len ..) (by rw [List.length_append]; simp; omega)
            (fun x hx => by
              rcases List.mem_append.mp hx with hx | hx
              · exact okh x hx
              · rw [List.mem_singleton.mp hx]; exact hn) rfl
        refine ifB (fun hb => ?_) (fun hb => ?_)
        · have e0 : m.want0 (.kids n g) = [(n, (m.kc n : Int) + 1)] := if_pos hb
          refine ⟨_, rfl, a.p, _, a.px, _, _, rfl, R3.w.o, T.c_World, T.n_lives, fW_lives, a.l, a.lx, _, rfl, R3.w.l.o, fL_no (by decide +kernel) (by decide +kernel) (by decide +kernel), _, rfl, _, _, _, _, rfl, rfl, .of (ht3), atI_nat (j := 1) rfl, a, m, n, rfl, R3.w.l, (M.alive_iff.mp hb).1, hn.two, fun H4 c s4 hc hc1 => ⟨_, _, rfl, .inl ⟨_, .of hc1, rfl⟩, _, _, rfl, rfl, ?_⟩⟩
          have ht4 := s4 _ _ ht3
          have hd4 := s4 _ _ hd3
          refine ⟨_, rfl, _, rfl, _, _, _, _, rfl, rfl, .of (ht4), atI_nat (j := 1) rfl, d, _, rfl, DPut.k (k := Sum.inr (enc n)) hd4 (small' (k := 0) (Nat.le_refl _) (by decide)), ?_⟩
          have ek : putK (kN []) (Sum.inr (enc n)) (.int ((((m.kids n).map nmV).length : Int) + 1)) = kN (m.want0 (.kids n g)) := by
            rw [List.length_map, M.kids_len, putK_putN, e0]; rfl
          show tSeq _ _ _ _ (upd H4 d (.dK (putK (kN []) (Sum.inr (enc n)) (.int ((((m.kids n).map nmV).length : Int) + 1)))))
          rw [ek]
          have s5 : Same H (upd H4 d (.dK (kN (m.want0 (.kids n g))))) := (s03.trans s4).put hd
          have hd5 : (upd H4 d (.dK (kN (m.want0 (.kids n g))))) d = some (.dK (kN (m.want0 (.kids n g)))) := upd_same
          have hD5 : (upd H4 d (.dK (kN (m.want0 (.kids n g))))) D = some (.lst (((m.hangL (.kids n g) (ps.map (·.2))).filterMap Atom.nm).map nmV)) := by
            rw [upd_ne (ne_of hDD hd3 (by intro z; cases z))]; exact s4 _ _ hDD
          generalize (upd H4 d (.dK (kN (m.want0 (.kids n g))))) = H5 at s5 hd5 hD5 ⊢
          have ht5 := s5 _ _ R.t
          refine ⟨_, rfl, _, _, _, _, rfl, rfl, .of (ht5), atI_nat (j := 0) rfl, rfl, _, rfl, ifTd rfl ?_⟩
          refine ⟨_, rfl, .inl ⟨rfl, _, .of hD5⟩, _, rfl, _, _, _, _, rfl, rfl, .of (ht5), atI_nat (j := 1) rfl, D, _, _, rfl, rfl, hD5, small' (k := 21) (by rw [List.length_map]; omega) (by decide), ?_⟩
          exact fin H5 s5 hd5 hD5
        · have e0 : m.want0 (.kids n g) = [] := if_neg (by rw [hb]; exact Bool.false_ne_true)
          refine ⟨_, rfl, _, _, _, _, rfl, rfl, .of (ht3), atI_nat (j := 0) rfl, rfl, _, rfl, ifTd rfl ?_⟩
          refine ⟨_, rfl, .inl ⟨rfl, _, .of hDD⟩, _, rfl, _, _, _, _, rfl, rfl, .of (ht3), atI_nat (j := 1) rfl, D, _, _, rfl, rfl, hDD, small' (k := 21) (by rw [List.length_map]; omega) (by decide), ?_⟩
          exact fin H3 s03 (by rw [e0]; exact hd3) hDD
end
end DH

namespace DH
open PySem PySem.Spec PyProof.Rows L2 TL
section
variable {P : Program} {w : World} {K : PySem.W.Frag} {mg : Str → Option Value} {base : Heap}
theorem putK_keys {kvs : List (Key × V)} {ks : List Str} (h : kvs.map (·.1) = ks.map Sum.inr) (z : Str) (v : V) : ∃ ks' : List Str, (putK kvs (Sum.inr z) v).map (·.1) = ks'.map Sum.inr ∧ ks'.length ≤ ks.length + 1 := by
  unfold putK
  split
  · refine ⟨ks, ?_, Nat.le_succ _⟩
    rw [← h, List.map_map]
    refine List.map_congr_left fun p _ => ?_
    show (if p.1 = Sum.inr z then (p.1, v) else p).1 = p.1
    split <;> rfl
  · exact ⟨ks ++ [z], by rw [List.map_append, List.map_append, h]; rfl, by simp⟩
theorem keys_len {kvs : List (Key × V)} {ks : List Str} (h : kvs.map (·.1) = ks.map Sum.inr) : kvs.length = ks.length := by
  have := congrArg List.length h
  rw [List.length_map, List.length_map] at this
  exact this
def sp_measure (K : PySem.W.Frag) : Sp := fun vs H Q _ => ∃ A m t h o ps, vs = [.ref A.p, .ref t, .ref o] ∧ RowAt K H A m t h o ps ∧ m.bo.length ≤ 30 ∧ ∀ H' p, Same H H' → Q (.ref p) H'
theorem sc_measure : FnScope ["world", "holder", "atoms", "out", "found", "atom", "child"] ["world", "holder", "atoms"] (defScope s_measure) :=
  ⟨rfl, rfl, rfl, by decide +kernel, rfl, by decide +kernel, by decide +kernel⟩
theorem ok_measure (T : Txt K mg) : Cal P w K mg base 9 "measure" ["world", "holder", "atoms"] (sp_measure K) := by
  obtain ⟨f_waiting, fd_waiting, g_waiting, k_waiting, b_waiting, G_waiting⟩ := ok_waiting T
  obtain ⟨f_Lives_alive, fd_Lives_alive, m_Lives_alive, b_Lives_alive, G_Lives_alive⟩ := ok_Lives_alive T
  obtain ⟨f_named, fd_named, g_named, k_named, b_named, G_named⟩ := ok_named T
  obtain ⟨f_hanging, fd_hanging, g_hanging, k_hanging, b_hanging, G_hanging⟩ := ok_hanging T
  obtain ⟨f_Lives_nearest, fd_Lives_nearest, m_Lives_nearest, b_Lives_nearest, G_Lives_nearest⟩ := ok_Lives_nearest T
  obtain ⟨f_row_stand, fd_row_stand, g_row_stand, k_row_stand, b_row_stand, G_row_stand⟩ := ok_row_stand T
  obtain ⟨f_left_out, fd_left_out, g_left_out, k_left_out, b_left_out, G_left_out⟩ := ok_left_out T
  refine cal_of T.g_measure T.f_measure sc_measure (fun _ _ _ _ _ _ us hl => match us, hl with | [_, _, _], _ => rfl) (fun vs H Q E h => ?_) (fun f cdv A outer s H vs Q E hr h => ?_)
  · obtain ⟨A, m, t, h, o, ps, rfl, _⟩ := h; rfl
  · obtain ⟨a, m, t, h, o, ps, rfl, R, hbo, k⟩ := h
    have hu := hu_of hr
    refine ⟨_, (pss_cons (ps_set (i := 3) sc_measure.nd rfl (by first | exact Or.inl rfl | exact Or.inr rfl) (pe_lst pa_nil))
        (pss_cons (ps_if (pt_cmpR op_eq (pe_ix (ix_tupK K) (pv 1) pe_int (fun _ _ => rfl)) pe_str (nomark _)) (pss_one (ps_set (i := 3) sc_measure.nd rfl (by first | exact Or.inl rfl | exact Or.inr rfl) (pe_call G_left_out (hr.mono (by decide)) rfl g_left_out k_left_out b_left_out .nil pass0 (pa_cons (pv 0) (pa_cons (pe_ix (ix_tupK K) (pv 1) pe_int (fun _ _ => rfl)) pa_nil))))) pss_nil)
        (pss_cons (ps_if (pt_cmpR op_ne (pe_call G_row_stand (hr.mono (by decide)) rfl g_row_stand k_row_stand b_row_stand .nil pass0 (pa_cons (pv 0) (pa_cons (pv 1) (pa_cons (pv 2) (pa_cons (pv 3) pa_nil))))) pe_str (nomark _)) (pss_one (ps_ret (pe_lst pa_nil))) pss_nil)
        (pss_cons (ps_set (i := 4) sc_measure.nd rfl (by first | exact Or.inl rfl | exact Or.inr rfl) pe_dnewK)
        (pss_cons (ps_for PassesOwn.never rfl (pi_listK K (pe_call G_named (hr.mono (by decide)) rfl g_named k_named b_named .nil pass0 (pa_cons (pe_call G_hanging (hr.mono (by decide)) rfl g_hanging k_hanging b_hanging .nil pass0 (pa_cons (pv 0) (pa_cons (pv 1) (pa_cons (pv 2) pa_nil)))) pa_nil))) (pg_name (i := 5) sc_measure.nd rfl (by first | exact Or.inl rfl | exact Or.inr rfl)) (pss_one (ps_dput hu (pv 4) (pe_meth (pe_fldK K (pv 0) rfl) T.c_Lives m_Lives_nearest G_Lives_nearest (hr.mono (by decide)) b_Lives_nearest .nil pass0 (pa_cons (pe_ix (ix_tupK K) (pv 5) pe_int (fun _ _ => rfl)) pa_nil)) pe_bl rfl)))
        (pss_cons (ps_if (pt_cmpR op_eq (pe_ix (ix_tupK K) (pv 1) pe_int (fun _ _ => rfl)) pe_str (nomark _)) (pss_cons (ps_if (pt_val (pe_meth (pe_fldK K (pv 0) rfl) T.c_Lives m_Lives_alive G_Lives_alive (hr.mono (by decide)) b_Lives_alive .nil pass0 (pa_cons (pe_ix (ix_tupK K) (pv 1) pe_int (fun _ _ => rfl)) pa_nil))) (pss_one (ps_dput hu (pv 4) (pe_ix (ix_tupK K) (pv 1) pe_int (fun _ _ => rfl)) pe_bl rfl)) pss_nil)
        (pss_one (ps_for PassesOwn.never rfl (pi_listK K (pe_call G_waiting (hr.mono (by decide)) rfl g_waiting k_waiting b_waiting .nil pass0 (pa_cons (pv 0) (pa_cons (pe_ix (ix_tupK K) (pv 1) pe_int (fun _ _ => rfl)) (pa_cons (pe_ix (ix_tupK K) (pv 1) pe_int (fun _ _ => rfl)) (pa_cons (pv 3) pa_nil)))))) (pg_name (i := 6) sc_measure.nd rfl (by first | exact Or.inl rfl | exact Or.inr rfl)) (pss_one (ps_dput hu (pv 4) (pv 6) pe_bl rfl))))) pss_nil)
        (pss_one (ps_ret (pe_callB (call_sortedD rfl) (by rfl) T.b_sorted (by decide +kernel) (pa_cons (pv 4) pa_nil)))))))))), ?_⟩
    have hz := R.z
    refine ⟨small (k := 0) (Nat.le_refl _) (by decide), fun u hu' => ?_⟩
    have s0 : Same H (upd H u (.lst [])) := Same.upd hu'
    have hu0 : (upd H u (.lst [])) u = some (.lst []) := upd_same
    show tSeq _ _ _ _ (upd H u (.lst []))
    generalize (upd H u (.lst [])) = H0 at s0 hu0 ⊢
    have main : ∀ (q : Addr) (H1 : Hp), Same H H1 → SqL K H1 q ((m.outH h).map nmV) →
        (tSeq (tIfS (tTest (tOp rNe (tCall (sp_row_stand K) [] E0 (tCons (tVar 0) (tCons (tVar 1) (tCons (tVar 2) (tCons (tVar 3) tNil))))) (tC (.str "hangs")))) (tRet (tLst tNil)) tNext)
          (tSeq (tAsg tDNewK (gName 4))
            (tSeq (tFor (iList K (tCall (sp_named K) [] E0 (tCons (tCall (sp_hanging K) [] E0 (tCons (tVar 0) (tCons (tVar 1) (tCons (tVar 2) tNil)))) tNil))) (gName 5)
                (sDPut (tVar 4) (tMeth (He.ga K "Lives") "nearest" (sp_nearest K) [] E0 (tFld K (tVar 0) "lives") (tCons (tOp (rIxT K) (tVar 5) (tC (.int 1))) tNil)) (tC (.bl true))))
              (tSeq (tIfS (tTest (tOp rEq (tOp (rIxT K) (tVar 1) (tC (.int 0))) (tC (.str "kids"))))
                  (tSeq (tIfS (tB (tMeth (He.ga K "Lives") "alive" (sp_alive K) [] E0 (tFld K (tVar 0) "lives") (tCons (tOp (rIxT K) (tVar 1) (tC (.int 1))) tNil)))
                      (sDPut (tVar 4) (tOp (rIxT K) (tVar 1) (tC (.int 1))) (tC (.bl true))) tNext)
                    (tFor (iList K (tCall (sp_waiting K) [] E0 (tCons (tVar 0) (tCons (tOp (rIxT K) (tVar 1) (tC (.int 1))) (tCons (tOp (rIxT K) (tVar 1) (tC (.int 2))) (tCons (tVar 3) tNil)))))) (gName 6)
                      (sDPut (tVar 4) (tVar 6) (tC (.bl true))))) tNext)
                (tRet (tCB (fun xs H Q => ∃ (a : Addr) (kvs : List (Key × V)) (ks : List Str), xs = [.ref a] ∧ Rd H a (.dK kvs) ∧ kvs.map (·.1) = ks.map Sum.inr ∧ ks.length < 64 ∧
    ∀ ys p, ys.Perm ks → sortedS ys = true → H p = none → Q (.ref p) (upd H p (.lst (ys.map V.str)))) (tCons (tVar 4) tNil))))))) { nx := fun _ H' => Q .non H', rt := Q }
          [some (.ref a.p), some (.ref t), some (.ref o), some (.ref q), none, none, none] H1 := by
      intro q H1 s1 hq
      have R1 := R.same s1
      refine ⟨_, rfl, _, rfl, _, rfl, _, rfl, a, m, t, h, o, ps, q, m.outH h, rfl, R1.w, R.wf, R1.t, R.n, R1.l, R.ok, by omega, hq, fun H2 s2 => ⟨rfl, _, rfl, ?_⟩⟩
      have s12 := s1.trans s2
      refine ifB (fun hb => ?_) (fun hb => ?_)
      · exact ⟨small (k := 0) (Nat.le_refl _) (by decide), fun p hp => k _ p (s12.trans (Same.upd hp))⟩
      · intro d hd
        have hd' : H d = none := s12.free hd
        have s3 : Same H (upd H2 d (.dK [])) := s12.trans (Same.upd hd)
        have hd3 : (upd H2 d (.dK [])) d = some (.dK []) := upd_same
        have hq3 := (s2.trans (Same.upd (o := .dK []) hd)).seq hq
        show tSeq _ _ _ _ (upd H2 d (.dK []))
        generalize (upd H2 d (.dK [])) = H3 at s3 hd3 hq3 ⊢
        have R3 := R.same s3
        refine ⟨_, rfl, _, rfl, _, rfl, a, m, t, h, o, ps, rfl, R3.w, R3.t, R.n, R3.l, R.ok, by omega, fun H4 p ps1 s4 hp B1 e1 => ?_⟩
        have hl1 : ps1.length ≤ 21 := by
          have h1 := congrArg List.length e1
          have h2 := hang_len m h (ps.map (·.2))
          rw [List.length_map] at h1 h2
          omega
        refine ⟨p, ps1, rfl, B1, by omega, fun H5 p2 s5 hp2 B2 => ?_⟩
        have s35 := s4.trans s5
        -- the last part
        have last : ∀ (H6 : Hp) (kvs : List (Key × V)) (ks : List Str) (v5 v6 : Option V), Same H H6 → H6 d = some (.dK kvs) → kvs.map (·.1) = ks.map Sum.inr → ks.length < 64 →
            (tRet (tCB (fun xs H Q => ∃ (a : Addr) (kvs : List (Key × V)) (ks : List Str), xs = [.ref a] ∧ Rd H a (.dK kvs) ∧ kvs.map (·.1) = ks.map Sum.inr ∧ ks.length < 64 ∧
              ∀ ys p, ys.Perm ks → sortedS ys = true → H p = none → Q (.ref p) (upd H p (.lst (ys.map V.str)))) (tCons (tVar 4) tNil))) { nx := fun _ H' => Q .non H', rt := Q }
              [some (.ref a.p), some (.ref t), some (.ref o), some (.ref q), some (.ref d), v5, v6] H6 := by
          intro H6 kvs ks v5 v6 s6 hd6 ek hk
          exact ⟨_, rfl, d, kvs, ks, rfl, .of hd6, ek, hk, fun ys p _ _ hp => k _ p (s6.trans (Same.upd hp))⟩
        refine ⟨p2, rfl, ⟨_, B2.l⟩, for_list (K := K) (a := p2) (xs := (ps1.filter fun p => isNm p.2).map rV) (fun i σ H' => ∃ v kvs ks, σ = [some (.ref a.p), some (.ref t), some (.ref o), some (.ref q), some (.ref d), v, none] ∧ Off [d] H5 H' ∧ Same H H' ∧ H' d = some (.dK kvs) ∧ kvs.map (·.1) = ks.map Sum.inr ∧ ks.length ≤ i) ⟨none, [], [], rfl, Off.refl _ _, s3.trans s35, s35 _ _ hd3, rfl, Nat.le_refl _⟩ ?_ ?_ ?_⟩
        · rintro i σ H' _ ⟨_, _, _, _, off, s6, hd6, _⟩
          have hB : SqL K H5 p2 ((ps1.filter fun p => isNm p.2).map rV) := B2.l
          have np : p2 ≠ d := fun z => by subst z; rw [s4 _ _ hd3] at hp2; cases hp2
          rcases hB with (hB | ⟨ob, hB⟩) | hB
          · exact .inl (.inl (off _ _ hB (by simp [np])))
          · exact .inl (.inr ⟨ob, off _ _ hB (by simp [np])⟩)
          · exact .inr hB
        · rintro i x σ H' hx ⟨v, kvs, ks, rfl, off, s6, hd6, ek, hk⟩
          rw [List.getElem?_map] at hx
          cases ei : (ps1.filter fun p => isNm p.2)[i]? with
          | none => rw [ei] at hx; cases hx
          | some y =>
            rw [ei] at hx
            cases hx
            have hi := (List.getElem?_eq_some_iff.mp ei).1
            have hi2 : (ps1.filter fun p => isNm p.2).length ≤ 21 := Nat.le_trans (List.length_filter_le ..) hl1
            have hm := List.mem_of_getElem? ei
            obtain ⟨hm1, hm2⟩ := List.mem_filter.mp hm
            have hyd : y.1 ≠ d := ne_of (s35 _ _ hd3 |> fun _ => B2.t y hm) (s35 _ _ hd3) (by intro z; cases z)
            have hy := off _ _ (B2.t y hm) (by simp [hyd])
            have hal : AtomOk m y.2 := nm_ok R.n R.ok (by rw [← e1]; exact List.mem_map.mpr ⟨y, hm1, rfl⟩)
            have W6 := R.w.same s6
            have fin : ∀ (n : Nm) (H7 : Hp), Same H' H7 → ∃ (v' : Option V) (kvs' : List (Key × V)) (ks' : List Str), [some (V.ref a.p), some (.ref t), some (.ref o), some (.ref q), some (.ref d), some (rV y), none] = [some (V.ref a.p), some (.ref t), some (.ref o), some (.ref q), some (.ref d), v', none] ∧ Off [d] H5 (upd H7 d (.dK (putK kvs (Sum.inr (enc n)) (.bl true)))) ∧ Same H (upd H7 d (.dK (putK kvs (Sum.inr (enc n)) (.bl true)))) ∧ (upd H7 d (.dK (putK kvs (Sum.inr (enc n)) (.bl true)))) d = some (.dK kvs') ∧ kvs'.map (·.1) = ks'.map Sum.inr ∧ ks'.length ≤ i + 1 := by
              intro n H7 s7
              obtain ⟨ks', e', l'⟩ := putK_keys ek (enc n) (.bl true)
              exact ⟨_, _, ks', rfl, (off.trans (Off.of s7)).trans (Off.upd (by simp)), (s6.trans s7).put hd', upd_same, e', by omega⟩
            have hlen := keys_len ek
            have near : ∀ (n : Nm), y.2.nm = some n → H' y.1 = some (.tup (encA y.2)) → atI (encA y.2) 1 = some (nmV n) → _ := fun n en hyy hat => hal n en
            obtain ⟨ya, y⟩ := y
            have fit : kvs.length < sizeLine := small' (k := 100) (by omega) (by decide)
            cases y with
            | year y => cases hm2
            | comes x => cases hm2
            | born n =>
              obtain ⟨h2, r, hn⟩ := hal n rfl
              exact ⟨_, rfl, _, rfl, a.p, _, a.px, _, _, rfl, W6.o, T.c_World, T.n_lives, fW_lives, a.l, a.lx, _, rfl, W6.l.o, fL_no (by decide +kernel) (by decide +kernel) (by decide +kernel), _, rfl, _, _, _, _, rfl, rfl, .of (hy), atI_nat (j := 1) rfl, a, m, n, r, rfl, W6.l, h2, hn, fun H7 s7 => ⟨d, _, rfl, DPut.k (k := Sum.inr (enc r)) (s7 _ _ hd6) fit, fin r H7 s7⟩⟩
            | dead n =>
              obtain ⟨h2, r, hn⟩ := hal n rfl
              exact ⟨_, rfl, _, rfl, a.p, _, a.px, _, _, rfl, W6.o, T.c_World, T.n_lives, fW_lives, a.l, a.lx, _, rfl, W6.l.o, fL_no (by decide +kernel) (by decide +kernel) (by decide +kernel), _, rfl, _, _, _, _, rfl, rfl, .of (hy), atI_nat (j := 1) rfl, a, m, n, r, rfl, W6.l, h2, hn, fun H7 s7 => ⟨d, _, rfl, DPut.k (k := Sum.inr (enc r)) (s7 _ _ hd6) fit, fin r H7 s7⟩⟩
            | age n g =>
              obtain ⟨h2, r, hn⟩ := hal n rfl
              exact ⟨_, rfl, _, rfl, a.p, _, a.px, _, _, rfl, W6.o, T.c_World, T.n_lives, fW_lives, a.l, a.lx, _, rfl, W6.l.o, fL_no (by decide +kernel) (by decide +kernel) (by decide +kernel), _, rfl, _, _, _, _, rfl, rfl, .of (hy), atI_nat (j := 1) rfl, a, m, n, r, rfl, W6.l, h2, hn, fun H7 s7 => ⟨d, _, rfl, DPut.k (k := Sum.inr (enc r)) (s7 _ _ hd6) fit, fin r H7 s7⟩⟩
        · rintro σ H6 ⟨v, kvs, ks, rfl, off, s6, hd6, ek, hk⟩
          have hi2 : (ps1.filter fun p => isNm p.2).length ≤ 21 := Nat.le_trans (List.length_filter_le ..) hl1
          rw [List.length_map] at hk
          have R6 := R.same s6
          have ht6 := R6.t
          have hn := R.n
          have hlen := keys_len ek
          have hq6 : SqL K H6 q ((m.outH h).map nmV) := by
            have hq5 := s35.seq hq3
            have nq : ∀ u, H5 q = some u → q ≠ d ∨ ∃ kv, u = .dK kv := fun u hu => by
              by_cases z : q = d
              · subst z; rw [s35 _ _ hd3] at hu; cases hu; exact .inr ⟨_, rfl⟩
              · exact .inl z
            rcases hq5 with (hB | ⟨ob, hB⟩) | hB
            · rcases nq _ hB with z | ⟨_, z⟩
              · exact .inl (.inl (off _ _ hB (by simp [z])))
              · cases z
            · rcases nq _ hB with z | ⟨_, z⟩
              · exact .inl (.inr ⟨ob, off _ _ hB (by simp [z])⟩)
              · cases z
            · exact .inr hB
          cases h with
          | one n =>
            refine ⟨_, rfl, _, _, _, _, rfl, rfl, .of (ht6), atI_nat (j := 0) rfl, rfl, _, rfl, ifFd (by decide +kernel) ?_⟩
            exact last H6 kvs ks _ _ s6 hd6 ek (by omega)
          | kids n g =>
            refine ⟨_, rfl, _, _, _, _, rfl, rfl, .of (ht6), atI_nat (j := 0) rfl, rfl, _, rfl, ifTd rfl ?_⟩
            refine ⟨_, rfl, a.p, _, a.px, _, _, rfl, R6.w.o, T.c_World, T.n_lives, fW_lives, a.l, a.lx, _, rfl, R6.w.l.o, fL_no (by decide +kernel) (by decide +kernel) (by decide +kernel), _, rfl, _, _, _, _, rfl, rfl, .of (ht6), atI_nat (j := 1) rfl, a, m, n, rfl, R6.w.l, _, rfl, ?_⟩
            have loop : ∀ (H7 : Hp) (kvs : List (Key × V)) (ks : List Str) (v5 : Option V), Same H H7 → SqL K H7 q ((m.leftOut n).map nmV) → H7 d = some (.dK kvs) → kvs.map (·.1) = ks.map Sum.inr → ks.length ≤ 22 →
                (tFor (iList K (tCall (sp_waiting K) [] E0 (tCons (tVar 0) (tCons (tOp (rIxT K) (tVar 1) (tC (.int 1))) (tCons (tOp (rIxT K) (tVar 1) (tC (.int 2))) (tCons (tVar 3) tNil)))))) (gName 6)
                      (sDPut (tVar 4) (tVar 6) (tC (.bl true)))) { nx := fun σ H' => (tRet (tCB (fun xs H Q => ∃ (a : Addr) (kvs : List (Key × V)) (ks : List Str), xs = [.ref a] ∧ Rd H a (.dK kvs) ∧ kvs.map (·.1) = ks.map Sum.inr ∧ ks.length < 64 ∧
              ∀ ys p, ys.Perm ks → sortedS ys = true → H p = none → Q (.ref p) (upd H p (.lst (ys.map V.str)))) (tCons (tVar 4) tNil))) { nx := fun _ H' => Q .non H', rt := Q } σ H', rt := Q }
              [some (.ref a.p), some (.ref t), some (.ref o), some (.ref q), some (.ref d), v5, none] H7 := by
              intro H7 kvs ks v5 s7 hq7 hd7 ek hk
              have R7 := R.same s7
              have ht7 := R7.t
              refine ⟨_, rfl, _, rfl, _, _, _, _, rfl, rfl, .of (ht7), atI_nat (j := 1) rfl, _, rfl, _, _, _, _, rfl, rfl, .of (ht7), atI_nat (j := 2) rfl, _, rfl, a, m, n, g, q, m.leftOut n, rfl, R7.w, R.wf, hn.two, hq7, fun H8 w s8 hw hw1 => ?_⟩
              have nwd : w ≠ d := fun z => by subst z; rw [hd7] at hw; cases hw
              have hwl := m.waiting_len n g (m.leftOut n)
              have hkc := M.kc_le m n
              refine ⟨w, rfl, ⟨_, .of hw1⟩, for_list (K := K) (a := w) (xs := (m.waiting n g (m.leftOut n)).map nmV) (fun i σ H' => ∃ v kvs ks, σ = [some (.ref a.p), some (.ref t), some (.ref o), some (.ref q), some (.ref d), v5, v] ∧ Same H H' ∧ H' w = some (.lst ((m.waiting n g (m.leftOut n)).map nmV)) ∧ H' d = some (.dK kvs) ∧ kvs.map (·.1) = ks.map Sum.inr ∧ ks.length ≤ 22 + i) ⟨none, kvs, ks, rfl, s7.trans s8, hw1, s8 _ _ hd7, ek, by omega⟩ (fun i σ H' _ ⟨_, _, _, _, _, h, _⟩ => .of h) ?_ ?_⟩
              · rintro i x σ H' hx ⟨v, kvs, ks, rfl, s9, hw9, hd9, ek, hk⟩
                rw [List.getElem?_map] at hx
                cases ei : (m.waiting n g (m.leftOut n))[i]? with
                | none => rw [ei] at hx; cases hx
                | some y =>
                  rw [ei] at hx
                  cases hx
                  have hi := (List.getElem?_eq_some_iff.mp ei).1
                  obtain ⟨ks', e', l'⟩ := putK_keys ek (enc y) (.bl true)
                  have hlen := keys_len ek
                  refine ⟨_, rfl, _, rfl, d, _, rfl, DPut.k (k := Sum.inr (enc y)) hd9 (small' (k := 100) (by omega) (by decide)), ?_⟩
                  exact ⟨_, _, ks', rfl, s9.put hd', by rw [upd_ne nwd]; exact hw9, upd_same, e', by omega⟩
              · rintro σ H9 ⟨v, kvs, ks, rfl, s9, hw9, hd9, ek, hk⟩
                rw [List.length_map] at hk
                exact last H9 kvs ks _ _ s9 hd9 ek (by omega)
            refine ifB (fun hb => ?_) (fun hb => ?_)
            · obtain ⟨ks', e', l'⟩ := putK_keys ek (enc n) (.bl true)
              refine ⟨_, rfl, _, rfl, _, _, _, _, rfl, rfl, .of (ht6), atI_nat (j := 1) rfl, d, _, rfl, DPut.k (k := Sum.inr (enc n)) hd6 (small' (k := 100) (by omega) (by decide)), ?_⟩
              refine loop _ _ ks' _ (s6.put hd') ?_ upd_same e' (by omega)
              rcases hq6 with (hB | ⟨ob, hB⟩) | hB
              · exact .inl (.inl (by rw [upd_ne (ne_of hB hd6 (by intro z; cases z))]; exact hB))
              · exact .inl (.inr ⟨ob, by rw [upd_ne (ne_of hB hd6 (by intro z; cases z))]; exact hB⟩)
              · exact .inr hB
            · exact loop H6 kvs ks _ s6 hq6 hd6 ek (by omega)
    have R0 := R.same s0
    have ht0 := R0.t
    cases h with
    | one n =>
      refine ⟨_, rfl, _, _, _, _, rfl, rfl, .of (ht0), atI_nat (j := 0) rfl, rfl, _, rfl, ifFd (by decide +kernel) ?_⟩
      exact main u H0 s0 (.of hu0)
    | kids n g =>
      refine ⟨_, rfl, _, _, _, _, rfl, rfl, .of (ht0), atI_nat (j := 0) rfl, rfl, _, rfl, ifTd rfl ?_⟩
      refine ⟨_, rfl, _, rfl, _, _, _, _, rfl, rfl, .of (ht0), atI_nat (j := 1) rfl, a, m, n, rfl, R0.w, R.wf, R.n.two, fun H1 q s1 hq hq1 => ?_⟩
      exact main q H1 (s0.trans s1) (.of hq1)
end
end DH

namespace DH
open PySem PySem.Spec PyProof.Rows L2 TL
section
variable {P : Program} {w : World} {K : PySem.W.Frag} {mg : Str → Option Value} {base : Heap}
theorem mem_putN {l : List (Nm × Int)} {n : Nm} {v : Int} {p : Nm × Int} (h : p ∈ putN l n v) : p = (n, v) ∨ p ∈ l := by
  unfold putN at h
  split at h
  · obtain ⟨q, hq, e⟩ := List.mem_map.mp h
    by_cases c : q.1 = n
    · rw [if_pos c] at e
      left; rw [← e, c]
    · rw [if_neg c] at e
      right; rw [← e]; exact hq
  · rcases List.mem_append.mp h with h | h
    · exact .inr h
    · exact .inl (List.mem_singleton.mp h)
theorem putN_nd {l : List (Nm × Int)} {n : Nm} {v : Int} (h : (l.map (·.1)).Nodup) : ((putN l n v).map (·.1)).Nodup := by
  unfold putN
  cases e : (lk l n).isSome with
  | true =>
    rw [if_pos rfl, List.map_map]
    have : ((fun p : Nm × Int => p.1) ∘ fun p : Nm × Int => if p.1 = n then (p.1, v) else p) = fun p => p.1 := by
      funext p
      show (if p.1 = n then (p.1, v) else p).1 = p.1
      split <;> rfl
    rw [this]; exact h
  | false =>
    rw [if_neg Bool.false_ne_true, List.map_append]
    refine nd_snoc h fun hm => ?_
    rw [lk_isSome.mpr hm] at e
    cases e
theorem lk_putN (l : List (Nm × Int)) (n k : Nm) (v : Int) : lk (putN l n v) k = if k = n then some v else lk l k := by
  have h := vN (putN l n v) k
  rw [← putK_putN, valV_put, vN] at h
  by_cases e : k = n
  · subst e
    rw [if_pos rfl] at h ⊢
    cases e2 : lk (putN l k v) k with
    | none => rw [e2] at h; cases h
    | some x => rw [e2] at h; injection h with h; injection h with h; rw [h]
  · rw [if_neg (fun z => e (key_inj.mp z))] at h
    rw [if_neg e]
    cases e2 : lk (putN l n v) k <;> cases e3 : lk l k <;> rw [e2, e3] at h <;> first | rfl | (cases h; done) | (cases h; rfl)
namespace M
/-- what the wish list keeps -/
structure WOk (m : M) (D : List (Nm × Int)) : Prop where
  al : ∀ p ∈ D, m.alive p.1 = true
  two : ∀ p ∈ D, Two p.1
  top : ∀ p ∈ D, 0 ≤ p.2 ∧ p.2 ≤ 10001
  nd : (D.map (·.1)).Nodup
end M
theorem Two.getD {n : Nm} (h : Two n) (i : Nat) : n.l.getD i 0 ≤ 99 := by
  rw [List.getD_eq_getElem?_getD]
  cases e : n.l[i]? with
  | none => simp
  | some x => exact (h.2 x (List.mem_of_getElem? e)).2
theorem lk_val {m : M} {D : List (Nm × Int)} (W : m.WOk D) (n : Nm) : 0 ≤ (lk D n).getD 0 ∧ (lk D n).getD 0 ≤ 10001 := by
  cases e : lk D n with
  | none => simp
  | some x => exact W.top _ (lk_some_mem e)
theorem WOk_step {m : M} {D : List (Nm × Int)} (W : m.WOk D) {n : Nm} (hn : NmOk m n) : m.WOk (m.wantStep D n) := by
  obtain ⟨h2, r, hr⟩ := hn
  unfold M.wantStep
  rw [hr]
  show m.WOk (if r ≠ n ∧ m.alive r = true then putN D r (maxP ((lk D r).getD 0) ((n.l.getD r.l.length 0 : Nat) : Int)) else D)
  by_cases c : r ≠ n ∧ m.alive r = true
  · rw [if_pos c]
    refine ⟨fun p hp => ?_, fun p hp => ?_, fun p hp => ?_, putN_nd W.nd⟩
    · rcases mem_putN hp with rfl | hp
      · exact c.2
      · exact W.al p hp
    · rcases mem_putN hp with rfl | hp
      · exact h2.near hr
      · exact W.two p hp
    · rcases mem_putN hp with rfl | hp
      · have h1 := lk_val W r
        have h3 := h2.getD r.l.length
        show 0 ≤ maxP _ _ ∧ maxP _ _ ≤ _
        unfold maxP
        split <;> omega
      · exact W.top p hp
  · rw [if_neg c]; exact W
theorem WOk_fold {m : M} : ∀ (hs : List Nm) (D : List (Nm × Int)), m.WOk D → (∀ n ∈ hs, NmOk m n) → m.WOk (hs.foldl m.wantStep D)
  | [], _, W, _ => W
  | n :: r, D, W, h => WOk_fold r _ (WOk_step W (h n (List.mem_cons_self ..))) fun x hx => h x (List.mem_cons_of_mem _ hx)
theorem WOk_0 {m : M} {h : Hol} (hn : NmOk m h.nm) (hz : m.size ≤ 10000) : m.WOk (m.want0 h) := by
  cases h with
  | one n => exact ⟨fun p hp => (nomatch hp), fun p hp => (nomatch hp), fun p hp => (nomatch hp), List.nodup_nil⟩
  | kids n g =>
    show m.WOk (if m.alive n = true then [(n, (m.kc n : Int) + 1)] else [])
    by_cases c : m.alive n = true
    · rw [if_pos c]
      refine ⟨fun p hp => ?_, fun p hp => ?_, fun p hp => ?_, by simp⟩
      · rw [List.mem_singleton.mp hp]; exact c
      · rw [List.mem_singleton.mp hp]; exact hn.two
      · rw [List.mem_singleton.mp hp]
        have := kc10 hz n
        show 0 ≤ (m.kc n : Int) + 1 ∧ (m.kc n : Int) + 1 ≤ 10001
        omega
    · rw [if_neg c]
      exact ⟨fun p hp => (nomatch hp), fun p hp => (nomatch hp), fun p hp => (nomatch hp), List.nodup_nil⟩
theorem hopes_ok {m : M} {h : Hol} {ts : List Atom} (hn : NmOk m h.nm) (ok : ∀ x ∈ ts, AtomOk m x) : ∀ n ∈ m.hopesL h ts, NmOk m n := by
  intro n hm
  unfold M.hopesL at hm
  rcases List.mem_append.mp hm with hm | hm
  · obtain ⟨x, hx, e⟩ := List.mem_filterMap.mp hm
    have hx := (List.mem_filter.mp hx).1
    cases h with
    | one k =>
      rcases List.mem_cons.mp hx with hx | hx
      · subst hx; cases e; exact hn
      · exact ok x hx n e
    | kids k g => exact ok x hx n e
  · cases h with
    | one k => cases hm
    | kids k g => rw [List.mem_singleton.mp hm]; exact hn
theorem want_ok {m : M} {h : Hol} {ts : List Atom} (hn : NmOk m h.nm) (ok : ∀ x ∈ ts, AtomOk m x) (hz : m.size ≤ 10000) : m.WOk (m.wantD h ts) := WOk_fold _ _ (WOk_0 hn hz) (hopes_ok hn ok)
theorem want_len (m : M) (h : Hol) (ts : List Atom) : (m.wantD h ts).length ≤ ts.length + 3 := by
  have : ∀ (hs : List Nm) (D : List (Nm × Int)), (hs.foldl m.wantStep D).length ≤ D.length + hs.length := by
    intro hs
    induction hs with
    | nil => intro D; exact Nat.le_refl _
    | cons n r ih =>
      intro D
      have h1 := ih (m.wantStep D n)
      have h2 := m.wantStep_len D n
      rw [List.length_cons]
      show (r.foldl m.wantStep (m.wantStep D n)).length ≤ _
      omega
  have h1 := this (m.hopesL h ts) (m.want0 h)
  have h2 := m.want0_len h
  have h3 : (m.hopesL h ts).length ≤ ts.length + 2 := by
    unfold M.hopesL
    rw [List.length_append]
    have a1 := List.length_filterMap_le Atom.nm (m.hangL h ts)
    have a2 := hang_len m h ts
    cases h with
    | one n => show _ + 0 ≤ _; omega
    | kids n g =>
      have a3 : (m.hangL (.kids n g) ts).length ≤ ts.length := List.length_filter_le ..
      show _ + 1 ≤ _; omega
  unfold M.wantD
  omega
theorem yearsL_len (k : Int) : (yearsL k).length ≤ k.toNat := by
  induction h : k.toNat using Nat.strongRecOn generalizing k with
  | ind n ih =>
    by_cases c : 0 < k
    · rw [yearsL_pos c, List.length_cons]
      have := ih (k - 60).toNat (by omega) (k - 60) rfl
      omega
    · rw [yearsL_neg c]; exact Nat.zero_le _
theorem perm_enc {ys : List Str} {l : List Nm} (h : ys.Perm (l.map enc)) : ∃ zs : List Nm, ys = zs.map enc ∧ zs.Perm l := by
  cases l with
  | nil =>
    have := h.length_eq
    rw [List.map_nil, List.length_nil] at this
    exact ⟨[], by rw [List.length_eq_zero_iff.mp this]; rfl, List.Perm.nil⟩
  | cons d r =>
    have hg : ∃ g : Str → Nm, ∀ n, g (enc n) = n := by
      refine ⟨fun s => @dite _ (∃ n, enc n = s) (Classical.propDecidable _) (fun h => Classical.choose h) fun _ => d, fun n => ?_⟩
      have hx : ∃ k, enc k = enc n := ⟨n, rfl⟩
      show @dite _ (∃ k, enc k = enc n) (Classical.propDecidable _) (fun h => Classical.choose h) (fun _ => d) = n
      rw [dif_pos hx]
      exact enc_inj (Classical.choose_spec hx)
    obtain ⟨g, hg⟩ := hg
    refine ⟨ys.map g, ?_, ?_⟩
    · rw [List.map_map]
      have : ∀ y ∈ ys, (enc ∘ g) y = y := fun y hy => by
        obtain ⟨n, _, e⟩ := List.mem_map.mp (h.mem_iff.mp hy)
        show enc (g y) = y
        rw [← e, hg]
      rw [List.map_congr_left this, List.map_id'']
      exact fun _ => rfl
    · have := h.map g
      rw [List.map_map] at this
      have e : (d :: r).map (g ∘ enc) = d :: r := by
        rw [List.map_congr_left (f := g ∘ enc) (g := id) (fun x _ => hg x), List.map_id]
      rw [e] at this
      exact this
def birthN (m : M) (D : List (Nm × Int)) (n : Nm) : Nat := ((lk D n).getD 0 - (m.kc n : Int)).toNat
def birthsOf (m : M) (D : List (Nm × Int)) (zs : List Nm) : List Deed := zs.flatMap fun n => List.replicate (birthN m D n) (Deed.birth n)
def StoryIs (m : M) (h : Hol) (ts : List Atom) (term : Int) (ds : List Deed) : Prop :=
  ∃ zs : List Nm, zs.Perm ((m.wantD h ts).map (·.1)) ∧ ds = (yearsL (m.firstEnd h ts - m.yr)).map Deed.years ++ birthsOf m (m.wantD h ts) zs ++ m.living.map Deed.death ++ (yearsL term).map Deed.years
def sp_story (K : PySem.W.Frag) : Sp := fun vs H Q _ => ∃ A m t h o ps term, vs = [.ref A.p, .ref t, .ref o, .int term] ∧ RowAt K H A m t h o ps ∧ m.firstEnd h (ps.map (·.2)) - m.yr ≤ 100000 ∧ term ≤ 100000 ∧
  ∀ H' p qs, Same H H' → H p = none → DsL H' p qs → StoryIs m h (ps.map (·.2)) term (qs.map (·.2)) → Q (.ref p) H'
theorem sc_story : FnScope ["world", "holder", "atoms", "term", "deeds", "more", "name", "k"] ["world", "holder", "atoms", "term"] (defScope s_story) :=
  ⟨rfl, rfl, rfl, by decide +kernel, rfl, by decide +kernel, by decide +kernel⟩
theorem ok_story (T : Txt K mg) : Cal P w K mg base 9 "story" ["world", "holder", "atoms", "term"] (sp_story K) := by
  obtain ⟨f_years_of, fd_years_of, g_years_of, k_years_of, b_years_of, G_years_of⟩ := ok_years_of T
  obtain ⟨f_Lives_living, fd_Lives_living, m_Lives_living, b_Lives_living, G_Lives_living⟩ := ok_Lives_living T
  obtain ⟨f_Lives_children, fd_Lives_children, m_Lives_children, b_Lives_children, G_Lives_children⟩ := ok_Lives_children T
  obtain ⟨f_wanted, fd_wanted, g_wanted, k_wanted, b_wanted, G_wanted⟩ := ok_wanted T
  obtain ⟨f_first_end, fd_first_end, g_first_end, k_first_end, b_first_end, G_first_end⟩ := ok_first_end T
  refine cal_of T.g_story T.f_story sc_story (fun _ _ _ _ _ _ us hl => match us, hl with | [_, _, _, _], _ => rfl) (fun vs H Q E h => ?_) (fun f cdv A outer s H vs Q E hr h => ?_)
  · obtain ⟨A, m, t, h, o, ps, term, rfl, _⟩ := h; rfl
  · obtain ⟨a, m, t, h, o, ps, term, rfl, R, hF, hT, k⟩ := h
    have hu := hu_of hr
    refine ⟨_, (pss_cons (ps_set (i := 4) sc_story.nd rfl (by first | exact Or.inl rfl | exact Or.inr rfl) (pe_call G_years_of (hr.mono (by decide)) rfl g_years_of k_years_of b_years_of .nil pass0 (pa_cons (pe_op op_sub (pe_call G_first_end (hr.mono (by decide)) rfl g_first_end k_first_end b_first_end .nil pass0 (pa_cons (pv 0) (pa_cons (pv 1) (pa_cons (pv 2) pa_nil)))) (pe_fldK K (pv 0) rfl)) pa_nil)))
        (pss_cons (ps_set (i := 5) sc_story.nd rfl (by first | exact Or.inl rfl | exact Or.inr rfl) (pe_call G_wanted (hr.mono (by decide)) rfl g_wanted k_wanted b_wanted .nil pass0 (pa_cons (pv 0) (pa_cons (pv 1) (pa_cons (pv 2) pa_nil)))))
        (pss_cons (ps_for PassesOwn.never rfl (pi_listK K (pe_callB (call_sortedD rfl) (by rfl) T.b_sorted (by decide +kernel) (pa_cons (pv 5) pa_nil))) (pg_name (i := 6) sc_story.nd rfl (by first | exact Or.inl rfl | exact Or.inr rfl)) (pss_one (ps_for PassesOwn.never rfl (pi_range1 rfl T.b_range (pa_cons (pe_op op_sub (pe_dget hu (pv 5) (pv 6) (fun _ _ => rfl)) (pe_callB (call_lenK K) (by rfl) T.b_len PySem.boot_len (pa_cons (pe_meth (pe_fldK K (pv 0) rfl) T.c_Lives m_Lives_children G_Lives_children (hr.mono (by decide)) b_Lives_children .nil pass0 (pa_cons (pv 6) pa_nil)) pa_nil))) pa_nil)) (pg_name (i := 7) sc_story.nd rfl (by first | exact Or.inl rfl | exact Or.inr rfl)) (pss_one (ps_expr (bmK K (pe_bm PySem.F.plainAttrs_list PySem.F.slot_list_append PySem.F.type_list_append mt_append (pv 4) (pa_cons (pe_tup (pa_cons pe_str (pa_cons (pv 6) pa_nil))) pa_nil))))))))
        (pss_cons (ps_for PassesOwn.never rfl (pi_listK K (pe_meth0 (pe_fldK K (pv 0) rfl) T.c_Lives m_Lives_living G_Lives_living (hr.mono (by decide)) b_Lives_living .nil pass0)) (pg_name (i := 6) sc_story.nd rfl (by first | exact Or.inl rfl | exact Or.inr rfl)) (pss_one (ps_expr (bmK K (pe_bm PySem.F.plainAttrs_list PySem.F.slot_list_append PySem.F.type_list_append mt_append (pv 4) (pa_cons (pe_tup (pa_cons pe_str (pa_cons (pv 6) pa_nil))) pa_nil))))))
        (pss_one (ps_ret (pe_op op_cat (pv 4) (pe_call G_years_of (hr.mono (by decide)) rfl g_years_of k_years_of b_years_of .nil pass0 (pa_cons (pv 3) pa_nil))))))))), ?_⟩
    have hz := R.z
    have okts : ∀ x ∈ ps.map (·.2), AtomOk m x := fun x hx => by
      obtain ⟨p, hp, e⟩ := List.mem_map.mp hx
      rw [← e]; exact R.ok p hp
    have wok := want_ok R.n okts R.w.l.sz
    have wl := want_len m h (ps.map (·.2))
    rw [List.length_map] at wl
    refine ⟨_, rfl, _, rfl, _, rfl, a, m, t, h, o, ps, rfl, R.w, R.wf, R.t, R.n, R.l, R.ok, by omega, fun H1 s1 => ?_⟩
    have R1 := R.same s1
    refine ⟨_, rfl, a.p, _, a.px, _, _, rfl, R1.w.o, T.c_World, T.n_year, fW_year, _, _, rfl, rfl, _, rfl, hF, fun H2 l qs0 s2 hl D0 e0 => ?_⟩
    have hlH : H l = none := s1.free hl
    have s02 := s1.trans s2
    have R2 := R.same s02
    refine ⟨_, rfl, _, rfl, _, rfl, a, m, t, h, o, ps, rfl, R2, fun H3 d s3 hd hd3 => ?_⟩
    have s03 := s02.trans s3
    have D3 := D0.same s3
    have q0 : qs0.length ≤ 100000 := by
      have h1 := congrArg List.length e0
      rw [List.length_map, List.length_map] at h1
      have h2 := yearsL_len (m.firstEnd h (ps.map (·.2)) - m.yr)
      omega
    generalize hW : m.wantD h (ps.map (·.2)) = WD at wok wl hd3
    refine ⟨_, rfl, d, _, WD.map (fun p => enc p.1), rfl, .of hd3, kvs_keys enc WD, by rw [List.length_map]; omega, fun ys p hys _ hp => ?_⟩
    have hys' : ys.Perm ((WD.map (·.1)).map enc) := by rw [List.map_map]; exact hys
    obtain ⟨zs, rfl, hzs⟩ := perm_enc hys'
    have hpH : H p = none := s03.free hp
    have hzl : zs.length ≤ 23 := by
      have := hzs.length_eq
      rw [List.length_map] at this
      omega
    have npl : p ≠ l := fun z => by subst z; rw [D3.l] at hp; cases hp
    have npd : p ≠ d := fun z => by subst z; rw [hd3] at hp; cases hp
    have ndl : d ≠ l := ne_of hd3 D3.l (by intro z; cases z)
    refine ⟨p, rfl, ⟨_, .of upd_same⟩, for_list (K := K) (a := p) (xs := (zs.map enc).map V.str) (fun i σ H' => ∃ v6 v7 qs, σ = [some (.ref a.p), some (.ref t), some (.ref o), some (.int term), some (.ref l), some (.ref d), v6, v7] ∧ Same H H' ∧ H' d = some (.dK (kN WD)) ∧ H' p = some (.lst ((zs.map enc).map V.str)) ∧ DsL H' l qs ∧ qs.map (·.2) = (yearsL (m.firstEnd h (ps.map (·.2)) - m.yr)).map Deed.years ++ birthsOf m WD (zs.take i) ∧ qs.length ≤ 100000 + i * 10001)
      ⟨none, none, qs0, rfl, s03.trans (Same.upd hp), Same.upd hp _ _ hd3, upd_same, D3.same (Same.upd hp), by rw [e0]; unfold birthsOf; rw [List.take_zero, List.flatMap_nil, List.append_nil], by omega⟩ (fun i σ H' _ ⟨_, _, _, _, _, _, h, _⟩ => .of h) ?_ ?_⟩
    · rintro i x σ H' hx ⟨v6, v7, qs, rfl, s4, hd4, hp4, D4, e4, l4⟩
      rw [List.getElem?_map, List.getElem?_map] at hx
      cases ei : zs[i]? with
      | none => rw [ei] at hx; cases hx
      | some n =>
        rw [ei] at hx
        cases hx
        have hi := (List.getElem?_eq_some_iff.mp ei).1
        have hm : n ∈ WD.map (·.1) := hzs.mem_iff.mp (List.mem_of_getElem? ei)
        have hlk := lk_isSome.mpr hm
        obtain ⟨q, hq, eq⟩ := List.mem_map.mp hm
        have hal := wok.al q hq
        have htw := wok.two q hq
        rw [eq] at hal htw
        cases ev : lk WD n with
        | none => rw [ev] at hlk; cases hlk
        | some v =>
          have hv := wok.top _ (lk_some_mem ev)
          have hv : 0 ≤ v ∧ v ≤ 10001 := hv
          have g : DGet H' d (nmV n) (some (.int v)) := by
            have := DGet.k (k := Sum.inr (enc n)) hd4
            rw [vN, ev] at this; exact this
          have W4 := R.w.same s4
          refine ⟨_, rfl, _, rfl, d, _, rfl, g, _, rfl, a.p, _, a.px, _, _, rfl, W4.o, T.c_World, T.n_lives, fW_lives, a.l, a.lx, _, rfl, W4.l.o, fL_no (by decide +kernel) (by decide +kernel) (by decide +kernel), _, rfl, a, m, n, rfl, W4.l, (M.alive_iff.mp hal).1, htw, fun H5 c s5 hc hc1 => ⟨_, _, rfl, .inl ⟨_, .of hc1, rfl⟩, _, _, rfl, rfl, _, rfl, ?_, ?_, ?_⟩⟩
          · have := kc10 R.w.l.sz n
            rw [List.length_map, M.kids_len]; omega
          · omega
          rw [List.length_map, M.kids_len]
          have eb : birthN m WD n = (v - (m.kc n : Int)).toNat := by unfold birthN; rw [ev]; rfl
          have hb : birthN m WD n ≤ 10001 := by rw [eb]; omega
          rw [← eb]
          refine for_range (lo := 0) (n := birthN m WD n) (fun j σ H' => ∃ v7 qs, σ = [some (.ref a.p), some (.ref t), some (.ref o), some (.int term), some (.ref l), some (.ref d), some (nmV n), v7] ∧ Same H H' ∧ H' d = some (.dK (kN WD)) ∧ H' p = some (.lst ((zs.map enc).map V.str)) ∧ DsL H' l qs ∧ qs.map (·.2) = (yearsL (m.firstEnd h (ps.map (·.2)) - m.yr)).map Deed.years ++ birthsOf m WD (zs.take i) ++ List.replicate j (Deed.birth n) ∧ qs.length ≤ 100000 + i * 10001 + j)
            ⟨v7, qs, rfl, s4.trans s5, s5 _ _ hd4, s5 _ _ hp4, D4.same s5, by rw [e4, List.replicate_zero, List.append_nil], l4⟩ ?_ ?_
          · rintro j σ H6 hj ⟨v7, qs, rfl, s6, hd6, hp6, D6, e6, l6⟩
            refine ⟨_, rfl, .inl ⟨rfl, _, .of D6.l⟩, _, rfl, small (k := 2) (Nat.le_refl _) (by decide), fun u hu6 => ?_⟩
            have s7 : Same H6 (upd H6 u (.tup (encD (.birth n)))) := Same.upd hu6
            refine ⟨l, _, _, rfl, rfl, s7 _ _ D6.l, small' (k := 400000) (by rw [List.length_map]; omega) (by decide), ?_⟩
            refine ⟨_, qs ++ [(u, .birth n)], rfl, (s6.trans s7).put hlH, ?_, ?_, (D6.same s7).push upd_same, ?_, ?_⟩
            · rw [upd_ne ndl]; exact s7 _ _ hd6
            · rw [upd_ne npl]; exact s7 _ _ hp6
            · rw [List.map_append, e6, List.replicate_succ', ← List.append_assoc]; rfl
            · rw [List.length_append, List.length_cons, List.length_nil]; omega
          · rintro σ H6 ⟨v7, qs, rfl, s6, hd6, hp6, D6, e6, l6⟩
            refine ⟨_, _, qs, rfl, s6, hd6, hp6, D6, ?_, by omega⟩
            rw [e6, List.append_assoc]
            congr 1
            unfold birthsOf
            rw [take_snoc ei, List.flatMap_append]
            simp
    · rintro σ H4 ⟨v6, v7, qs, rfl, s4, hd4, hp4, D4, e4, l4⟩
      rw [List.length_map, List.length_map] at e4 l4
      rw [List.take_length] at e4
      have W4 := R.w.same s4
      refine ⟨_, rfl, a.p, _, a.px, _, _, rfl, W4.o, T.c_World, T.n_lives, fW_lives, a.l, a.lx, _, rfl, W4.l.o, fL_no (by decide +kernel) (by decide +kernel) (by decide +kernel), a, m, rfl, W4.l, fun H5 w s5 hw hw1 => ?_⟩
      have nwl : w ≠ l := fun z => by subst z; rw [D4.l] at hw; cases hw
      have hliv : m.living.length ≤ 10000 := by
        refine Nat.le_trans (List.length_filter_le ..) ?_
        rw [List.length_map]
        have := bo_size m
        have := R.w.l.sz
        omega
      refine ⟨w, rfl, ⟨_, .of hw1⟩, for_list (K := K) (a := w) (xs := m.living.map nmV) (fun i σ H' => ∃ v6 v7 qs, σ = [some (.ref a.p), some (.ref t), some (.ref o), some (.int term), some (.ref l), some (.ref d), v6, v7] ∧ Same H H' ∧ H' w = some (.lst (m.living.map nmV)) ∧ DsL H' l qs ∧ qs.map (·.2) = (yearsL (m.firstEnd h (ps.map (·.2)) - m.yr)).map Deed.years ++ birthsOf m WD zs ++ (m.living.take i).map Deed.death ∧ qs.length ≤ 400000 + i)
        ⟨_, _, qs, rfl, s4.trans s5, hw1, D4.same s5, by rw [e4, List.take_zero, List.map_nil, List.append_nil], by omega⟩ (fun i σ H' _ ⟨_, _, _, _, _, h, _⟩ => .of h) ?_ ?_⟩
      · rintro i x σ H6 hx ⟨v6, v7, qs, rfl, s6, hw6, D6, e6, l6⟩
        rw [List.getElem?_map] at hx
        cases ei : m.living[i]? with
        | none => rw [ei] at hx; cases hx
        | some n =>
          rw [ei] at hx
          cases hx
          have hi := (List.getElem?_eq_some_iff.mp ei).1
          refine ⟨_, rfl, .inl ⟨rfl, _, .of D6.l⟩, _, rfl, small (k := 2) (Nat.le_refl _) (by decide), fun u hu6 => ?_⟩
          have s7 : Same H6 (upd H6 u (.tup (encD (.death n)))) := Same.upd hu6
          refine ⟨l, _, _, rfl, rfl, s7 _ _ D6.l, small' (k := 500000) (by rw [List.length_map]; omega) (by decide), ?_⟩
          refine ⟨_, _, qs ++ [(u, .death n)], rfl, (s6.trans s7).put hlH, ?_, (D6.same s7).push upd_same, ?_, ?_⟩
          · rw [upd_ne nwl]; exact s7 _ _ hw6
          · rw [List.map_append, e6, take_snoc ei, List.map_append, ← List.append_assoc]; rfl
          · rw [List.length_append, List.length_cons, List.length_nil]; omega
      · rintro σ H6 ⟨v6, v7, qs, rfl, s6, hw6, D6, e6, l6⟩
        rw [List.length_map] at e6 l6
        rw [List.take_length] at e6
        refine ⟨_, rfl, _, rfl, term, rfl, hT, fun H7 b qs2 s7 hb D7 e7 => ?_⟩
        have D67 := D6.same s7
        have q2 : qs2.length ≤ 100000 := by
          have h1 := congrArg List.length e7
          rw [List.length_map, List.length_map] at h1
          have h2 := yearsL_len term
          omega
        refine ⟨l, b, _, _, rfl, rfl, D67.l, D7.l, small (k := 600000) (by rw [List.length_map, List.length_map]; omega) (by decide), fun r hr7 => ?_⟩
        have s8 : Same H7 (upd H7 r (.lst ((qs.map fun p => V.ref p.1) ++ (qs2.map fun p => V.ref p.1)))) := Same.upd hr7
        refine k _ r (qs ++ qs2) ((s6.trans s7).trans s8) ((s6.trans s7).free hr7) ⟨by rw [upd_same, List.map_append], fun p hp => ?_⟩ ⟨zs, by rw [hW]; exact hzs, ?_⟩
        · rcases List.mem_append.mp hp with hp | hp
          · exact s8 _ _ (D67.t p hp)
          · exact s8 _ _ (D7.t p hp)
        · rw [List.map_append, e6, e7, hW]
def sp_judged (K : PySem.W.Frag) : Sp := fun vs H Q _ => ∃ A m t h o ps term, vs = [.ref A.p, .ref t, .ref o, .int term] ∧ RowAt K H A m t h o ps ∧ m.firstEnd h (ps.map (·.2)) - m.yr ≤ 100000 ∧ term ≤ 100000 ∧ m.bo.length ≤ 30 ∧
  (m.isLate h (ps.map (·.2)) term = true → ∀ H' p l qs, Same H H' → H p = none → H' p = some (.tup [.str "late", .ref l]) → DsL H' l qs → StoryIs m h (ps.map (·.2)) term (qs.map (·.2)) → Q (.ref p) H') ∧
  (m.isLate h (ps.map (·.2)) term = false → ∀ H' p l, Same H H' → H p = none → H' p = some (.tup [.str "sure", .ref l]) → Q (.ref p) H')
theorem sc_judged : FnScope ["world", "holder", "atoms", "term"] ["world", "holder", "atoms", "term"] (defScope s_judged) :=
  ⟨rfl, rfl, rfl, by decide +kernel, rfl, by decide +kernel, by decide +kernel⟩
theorem ok_judged (T : Txt K mg) : Cal P w K mg base 10 "judged" ["world", "holder", "atoms", "term"] (sp_judged K) := by
  obtain ⟨f_measure, fd_measure, g_measure, k_measure, b_measure, G_measure⟩ := ok_measure T
  obtain ⟨f_is_late, fd_is_late, g_is_late, k_is_late, b_is_late, G_is_late⟩ := ok_is_late T
  obtain ⟨f_story, fd_story, g_story, k_story, b_story, G_story⟩ := ok_story T
  refine cal_of T.g_judged T.f_judged sc_judged (fun _ _ _ _ _ _ us hl => match us, hl with | [_, _, _, _], _ => rfl) (fun vs H Q E h => ?_) (fun f cdv A outer s H vs Q E hr h => ?_)
  · obtain ⟨A, m, t, h, o, ps, term, rfl, _⟩ := h; rfl
  · obtain ⟨a, m, t, h, o, ps, term, rfl, R, hF, hT, hbo, k1, k2⟩ := h
    refine ⟨_, (pss_cons (ps_if (pt_val (pe_call G_is_late (hr.mono (by decide)) rfl g_is_late k_is_late b_is_late .nil pass0 (pa_cons (pv 0) (pa_cons (pv 1) (pa_cons (pv 2) (pa_cons (pv 3) pa_nil)))))) (pss_one (ps_ret (pe_tup (pa_cons pe_str (pa_cons (pe_call G_story (hr.mono (by decide)) rfl g_story k_story b_story .nil pass0 (pa_cons (pv 0) (pa_cons (pv 1) (pa_cons (pv 2) (pa_cons (pv 3) pa_nil))))) pa_nil))))) pss_nil)
        (pss_one (ps_ret (pe_tup (pa_cons pe_str (pa_cons (pe_call G_measure (hr.mono (by decide)) rfl g_measure k_measure b_measure .nil pass0 (pa_cons (pv 0) (pa_cons (pv 1) (pa_cons (pv 2) pa_nil)))) pa_nil)))))), ?_⟩
    refine ⟨_, rfl, _, rfl, _, rfl, _, rfl, a, m, t, h, o, ps, term, rfl, R, fun H1 s1 => ⟨_, rfl, ?_⟩⟩
    have R1 := R.same s1
    refine ifB (fun hb => ?_) (fun hb => ?_)
    · refine ⟨_, rfl, _, rfl, _, rfl, _, rfl, a, m, t, h, o, ps, term, rfl, R1, hF, hT, fun H2 l qs s2 hl D2 S2 => ⟨small (k := 2) (Nat.le_refl _) (by decide), fun p hp => ?_⟩⟩
      have s3 : Same H2 (upd H2 p (.tup [.str "late", .ref l])) := Same.upd hp
      exact k1 hb _ p l qs ((s1.trans s2).trans s3) ((s1.trans s2).free hp) upd_same (D2.same s3) S2
    · refine ⟨_, rfl, _, rfl, _, rfl, a, m, t, h, o, ps, rfl, R1, hbo, fun H2 l s2 => ⟨small (k := 2) (Nat.le_refl _) (by decide), fun p hp => ?_⟩⟩
      exact k2 hb _ p l ((s1.trans s2).trans (Same.upd hp)) ((s1.trans s2).free hp) upd_same
end
end DH

namespace DH
open PySem PySem.Spec PyProof.Rows L2 TL
section
variable {P : Program} {w : World} {K : PySem.W.Frag} {mg : Str → Option Value} {base : Heap}
/-! ### the law's own reading: where its plain world stands -/
structure MA where
  t : Addr
  c : Addr
  b : Addr
  d : Addr
  e : Addr
structure MAt (H : Hp) (A : MA) (m : M) : Prop where
  t : H A.t = some (.tup [.ref A.c, .ref A.b, .ref A.d, .ref A.e])
  c : H A.c = some (.lst [.int m.yr])
  b : H A.b = some (.dK (kN m.bo))
  d : H A.d = some (.dK (kN m.de))
  e : H A.e = some (.dK (kW m.ca))
  bd : A.b ≠ A.d
  be : A.b ≠ A.e
  de : A.d ≠ A.e
  sz : m.size ≤ 10000
theorem MAt.same {H H' : Hp} {A : MA} {m : M} (B : MAt H A m) (s : Same H H') : MAt H' A m := ⟨s _ _ B.t, s _ _ B.c, s _ _ B.b, s _ _ B.d, s _ _ B.e, B.bd, B.be, B.de, B.sz⟩
abbrev fpM (A : MA) : List Addr := [A.c, A.b, A.d, A.e]
theorem MAt.getB {H : Hp} {A : MA} {m : M} (B : MAt H A m) (n : Nm) : DGet H A.b (nmV n) ((lk m.bo n).map V.int) := by
  have := DGet.k (k := Sum.inr (enc n)) B.b
  rw [vN] at this; exact this
theorem MAt.getD {H : Hp} {A : MA} {m : M} (B : MAt H A m) (n : Nm) : DGet H A.d (nmV n) ((lk m.de n).map V.int) := by
  have := DGet.k (k := Sum.inr (enc n)) B.d
  rw [vN] at this; exact this
theorem MAt.getE {H : Hp} {A : MA} {m : M} (B : MAt H A m) (x : Wd) : DGet H A.e (.str x.s) ((lk m.ca x).map V.int) := by
  have := DGet.k (k := Sum.inr x.s) B.e
  rw [vW] at this; exact this
def sp_num : Sp := fun vs H Q _ => ∃ k : Int, vs = [.int k] ∧ Q (.bl true) H
theorem sc__law_num : FnScope ["_law_found"] ["_law_found"] (defScope s__law_num) :=
  ⟨rfl, rfl, rfl, by decide +kernel, rfl, by decide +kernel, by decide +kernel⟩
theorem ok__law_num (T : Txt K mg) : Cal P w K mg base 1 "_law_num" ["_law_found"] sp_num := by
  refine cal_of T.g__law_num T.f__law_num sc__law_num (fun _ _ _ _ _ _ us hl => match us, hl with | [_], _ => rfl) (fun vs H Q E h => ?_) (fun f cdv A outer s H vs Q E hr h => ?_)
  · obtain ⟨k, rfl, _⟩ := h; rfl
  · obtain ⟨i, rfl, k⟩ := h
    refine ⟨_, (pss_one (ps_ret (pe_and (pe_callB (isiK K) (by rfl) T.b_isinstance (by decide +kernel) (pa_cons (pv 0) (pa_cons (pe_bltn (v := .ty "int") (u := .type "int") rfl T.b_int (by decide +kernel) rfl) pa_nil))) (pe_one (pe_not (pe_callB (isiK K) (by rfl) T.b_isinstance (by decide +kernel) (pa_cons (pv 0) (pa_cons (pe_bltn (v := .ty "bool") (u := .type "bool") rfl T.b_bool (by decide +kernel) rfl) pa_nil)))))))), ?_⟩
    refine ⟨_, rfl, _, _, _, _, true, rfl, .ty "int", .base (.int i), kit_ty (by decide +kernel), _, rfl, ?_⟩
    exact ⟨_, rfl, _, _, _, _, false, rfl, .ty "bool", .base (.int i), kit_ty (by decide +kernel), _, rfl, k⟩
def sp_cell (K : PySem.W.Frag) : Sp := fun vs H Q _ => ∃ (a : Addr) (ns : List Int) (k : Nat), vs = [.ref a, .int k] ∧ SqL K H a (ns.map V.int) ∧ ∀ i : Int, Q (.int i) H
theorem sc__law_cell_at : FnScope ["_law_script", "_law_k"] ["_law_script", "_law_k"] (defScope s__law_cell_at) :=
  ⟨rfl, rfl, rfl, by decide +kernel, rfl, by decide +kernel, by decide +kernel⟩
theorem ok__law_cell_at (T : Txt K mg) : Cal P w K mg base 1 "_law_cell_at" ["_law_script", "_law_k"] (sp_cell K) := by
  refine cal_of T.g__law_cell_at T.f__law_cell_at sc__law_cell_at (fun _ _ _ _ _ _ us hl => match us, hl with | [_, _], _ => rfl) (fun vs H Q E h => ?_) (fun f cdv A outer s H vs Q E hr h => ?_)
  · obtain ⟨a, ns, k, rfl, _⟩ := h; rfl
  · obtain ⟨a, ns, j, rfl, hS, k⟩ := h
    refine ⟨_, (pss_cons (ps_if (pt_cmpR op_lt (pv 1) (pe_callB (call_lenK K) (by rfl) T.b_len PySem.boot_len (pa_cons (pv 0) pa_nil)) (nomark _)) (pss_one (ps_ret (pe_ix (ix_listK K) (pv 0) (pv 1) (fun _ _ => rfl)))) pss_nil)
        (pss_one (ps_ret pe_int))), ?_⟩
    refine ⟨_, rfl, _, rfl, _, _, rfl, .inl ⟨_, hS, rfl⟩, _, _, rfl, rfl, _, rfl, ?_⟩
    rw [List.length_map]
    refine ifB (fun hb => ?_) (fun hb => ?_)
    · have hb : (j : Int) < ns.length := of_decide_eq_true hb
      have hj : j < ns.length := by omega
      refine ⟨_, rfl, _, rfl, a, _, _, .int ns[j], rfl, rfl, hS, atI_nat ?_, k _⟩
      rw [List.getElem?_map, List.getElem?_eq_getElem hj]; rfl
    · exact k _
def sp_rich : Sp := fun vs H Q _ => ∃ c p : Int, vs = [.int c, .int p] ∧ ∀ i : Int, 0 ≤ i → Q (.int i) H
theorem sc__law_rich : FnScope ["_law_cell", "_law_place", "_law_one", "_law_two"] ["_law_cell", "_law_place"] (defScope s__law_rich) :=
  ⟨rfl, rfl, rfl, by decide +kernel, rfl, by decide +kernel, by decide +kernel⟩
theorem ok__law_rich (T : Txt K mg) : Cal P w K mg base 1 "_law_rich" ["_law_cell", "_law_place"] sp_rich := by
  refine cal_of T.g__law_rich T.f__law_rich sc__law_rich (fun _ _ _ _ _ _ us hl => match us, hl with | [_, _], _ => rfl) (fun vs H Q E h => ?_) (fun f cdv A outer s H vs Q E hr h => ?_)
  · obtain ⟨c, p, rfl, _⟩ := h; rfl
  · obtain ⟨c, p, rfl, k⟩ := h
    refine ⟨_, (pss_cons (ps_if (pt_cmpR op_ge (pv 0) (pe_op op_pow pe_int pe_int) (nomark _)) (pss_one (ps_ret (pv 0))) pss_nil)
        (pss_cons (ps_set (i := 2) sc__law_rich.nd rfl (by first | exact Or.inl rfl | exact Or.inr rfl) (pe_op op_mod (pe_op op_add (pe_op op_add (pe_op op_mul (pv 0) pe_int) (pe_op op_mul (pv 1) pe_int)) pe_int) pe_int))
        (pss_cons (ps_set (i := 3) sc__law_rich.nd rfl (by first | exact Or.inl rfl | exact Or.inr rfl) (pe_op op_mod (pe_op op_add (pe_op op_add (pe_op op_mul (pv 2) (pv 2)) (pe_op op_mul (pv 0) pe_int)) (pe_op op_mul (pv 1) pe_int)) pe_int))
        (pss_one (ps_ret (pe_op op_add (pe_op op_mul (pv 2) pe_int) (pv 3))))))), ?_⟩
    refine ⟨_, rfl, _, _, rfl, rfl, ⟨by decide, by decide, by decide⟩, _, _, rfl, rfl, _, rfl, ?_⟩
    refine ifB (fun hb => ?_) (fun hb => ?_)
    · have hb : (10 : Int) ^ (18 : Int).toNat ≤ c := of_decide_eq_true hb
      have e : (10 : Int) ^ (18 : Int).toNat = 1000000000000000000 := by decide
      exact ⟨_, rfl, k c (by omega)⟩
    · refine ⟨_, rfl, _, _, rfl, rfl, .inr ⟨by decide, by decide⟩, _, rfl, _, _, rfl, rfl, .inr ⟨by decide, by decide⟩, _, _, rfl, rfl, _, _, rfl, rfl, _, _, rfl, rfl, (show (0 : Int) < 2147483647 by decide), ?_⟩
      generalize ho : (c * 48271 + p * 16807 + 7919) % 2147483647 = o
      have o0 : 0 ≤ o := by rw [← ho]; exact Int.emod_nonneg _ (by decide)
      have o1 : o < 2147483647 := by rw [← ho]; exact Int.emod_lt_of_pos _ (by decide)
      refine ⟨_, rfl, _, rfl, _, _, rfl, rfl, .inl ⟨by omega, by omega⟩, _, rfl, _, _, rfl, rfl, .inr ⟨by decide, by decide⟩, _, _, rfl, rfl, _, rfl, _, _, rfl, rfl, .inr ⟨by decide, by decide⟩, _, _, rfl, rfl, _, _, rfl, rfl, (show (0 : Int) < 2147483629 by decide), ?_⟩
      generalize ht : (o * o + c * 69621 + p * 40692) % 2147483629 = t
      have t0 : 0 ≤ t := by rw [← ht]; exact Int.emod_nonneg _ (by decide)
      refine ⟨_, rfl, _, _, rfl, rfl, .inr ⟨by decide, by decide⟩, _, rfl, _, _, rfl, rfl, k _ (by omega)⟩
def sp_word : Sp := fun vs H Q _ => ∃ i : Int, vs = [.int i] ∧ 0 ≤ i ∧ ∀ x : Wd, Q (.str x.s) H
theorem abc_at (i : Int) (h0 : 0 ≤ i) (h : i < 26) : atI (("abcdefghijklmnopqrstuvwxyz" : Str)).cps.toList i = some (97 + i.toNat) := by
  have e : (("abcdefghijklmnopqrstuvwxyz" : Str)).cps.toList = List.range' 97 26 := by decide +kernel
  rw [e]
  have ei : i = (i.toNat : Int) := by omega
  rw [ei]
  refine atI_nat ?_
  rw [List.getElem?_range' (by omega)]
  congr 1
  omega
theorem sc__law_word : FnScope ["_law_n", "_law_size", "_law_word_here", "_law_k"] ["_law_n"] (defScope s__law_word) :=
  ⟨rfl, rfl, rfl, by decide +kernel, rfl, by decide +kernel, by decide +kernel⟩
theorem ok__law_word (T : Txt K mg) : Cal P w K mg base 1 "_law_word" ["_law_n"] sp_word := by
  refine cal_of T.g__law_word T.f__law_word sc__law_word (fun _ _ _ _ _ _ us hl => match us, hl with | [_], _ => rfl) (fun vs H Q E h => ?_) (fun f cdv A outer s H vs Q E hr h => ?_)
  · obtain ⟨c, rfl, _⟩ := h; rfl
  · obtain ⟨i, rfl, hi, k⟩ := h
    refine ⟨_, (pss_cons (ps_set (i := 1) sc__law_word.nd rfl (by first | exact Or.inl rfl | exact Or.inr rfl) (pe_op op_add pe_int (pe_op op_mod (pv 0) pe_int)))
        (pss_cons (ps_set (i := 0) sc__law_word.nd rfl (by first | exact Or.inl rfl | exact Or.inr rfl) (pe_op op_fdiv (pv 0) pe_int))
        (pss_cons (ps_set (i := 2) sc__law_word.nd rfl (by first | exact Or.inl rfl | exact Or.inr rfl) pe_str)
        (pss_cons (ps_for PassesOwn.never rfl (pi_range1 rfl T.b_range (pa_cons (pv 1) pa_nil)) (pg_name (i := 3) sc__law_word.nd rfl (by first | exact Or.inl rfl | exact Or.inr rfl)) (pss_cons (ps_set (i := 2) sc__law_word.nd rfl (by first | exact Or.inl rfl | exact Or.inr rfl) (pe_op op_add_str (pv 2) (pe_ix ix_str pe_str (pe_op op_mod (pv 0) pe_int) (fun _ _ => rfl))))
        (pss_one (ps_set (i := 0) sc__law_word.nd rfl (by first | exact Or.inl rfl | exact Or.inr rfl) (pe_op op_fdiv (pv 0) pe_int)))))
        (pss_cons (ps_if (PW.pt (pw_or (pt_cmpR op_eq (pv 2) pe_str (nomark _)) (pw_or1 (pt_cmpR op_eq (pv 2) pe_str (nomark _))))) (pss_one (ps_ret (pe_slice sl_str (pv 2) po_none (po_some pe_int)))) pss_nil)
        (pss_one (ps_ret (pv 2)))))))), ?_⟩
    refine ⟨_, rfl, _, _, rfl, rfl, (show (0 : Int) < 8 by decide), _, _, rfl, rfl, ?_⟩
    have z0 : 0 ≤ i % 8 := Int.emod_nonneg _ (by decide)
    have z8 : i % 8 < 8 := Int.emod_lt_of_pos _ (by decide)
    refine ⟨_, rfl, _, _, rfl, rfl, ⟨by decide, by decide⟩, ?_⟩
    have i8 : 0 ≤ i / 8 := Int.ediv_nonneg hi (by decide)
    refine ⟨_, rfl, _, rfl, by omega, by omega, ?_⟩
    refine for_range (lo := 0) (n := (1 + i % 8).toNat) (fun j σ H' => ∃ n x v, σ = [some (.int n), some (.int (1 + i % 8)), some (.str x), v] ∧ H' = H ∧ 0 ≤ n ∧ x.length = j ∧ ∀ c ∈ tl x, 97 ≤ c ∧ c ≤ 122) ⟨i / 8, "", none, rfl, rfl, i8, by decide +kernel, ?_⟩ ?_ ?_
    · have : tl ("" : Str) = [] := by decide +kernel
      rw [this]; intro c hc; cases hc
    · rintro j σ H' hj ⟨n, x, v, rfl, rfl, hn, hx, hc⟩
      have m0 : 0 ≤ n % 26 := Int.emod_nonneg _ (by decide)
      have m26 : n % 26 < 26 := Int.emod_lt_of_pos _ (by decide)
      have hone : (⟨#[97 + (n % 26).toNat]⟩ : Str).length = 1 := rfl
      refine ⟨_, rfl, _, rfl, _, _, rfl, rfl, (show (0 : Int) < 26 by decide), _, _, 97 + (n % 26).toNat, rfl, rfl, by decide +kernel, abc_at _ m0 m26, _, _, rfl, rfl, small (k := 20) (by rw [hone]; omega) (by decide), ?_⟩
      refine ⟨_, rfl, _, _, rfl, rfl, ⟨by decide, by decide⟩, n / 26, x ++ ⟨#[97 + (n % 26).toNat]⟩, _, rfl, rfl, Int.ediv_nonneg hn (by decide), ?_, ?_⟩
      · rw [len_tl, tl_append, List.length_append, ← len_tl, hx]; rfl
      · intro c hc2
        rw [tl_append] at hc2
        rcases List.mem_append.mp hc2 with h | h
        · exact hc c h
        · have : c = 97 + (n % 26).toNat := List.mem_singleton.mp h
          omega
    · rintro σ H' ⟨n, x, v, rfl, rfl, hn, hx, hc⟩
      have l1 : 1 ≤ x.length := by omega
      have l8 : x.length ≤ 8 := by omega
      have cut : ∀ z : Str, x = z → goodW (cutS z none (some 3)) = true → Q (.str (cutS x none (some 3))) H' := fun z e h => by
        subst e; exact k ⟨_, h⟩
      refine ⟨_, rfl, rfl, _, rfl, ?_⟩
      refine ifB (fun hb => ?_) (fun hb => ?_)
      · have e := V.str.inj (of_decide_eq_true hb)
        exact ⟨_, rfl, _, rfl, x, rfl, small (k := 8) l8 (by decide), cut _ e (by decide +kernel)⟩
      · refine ⟨_, rfl, rfl, _, rfl, ?_⟩
        refine ifB (fun hb2 => ?_) (fun hb2 => ?_)
        · have e := V.str.inj (of_decide_eq_true hb2)
          exact ⟨_, rfl, _, rfl, x, rfl, small (k := 8) l8 (by decide), cut _ e (by decide +kernel)⟩
        · exact ⟨_, rfl, k ⟨x, goodW_mk l1 l8 hc (fun z => of_decide_eq_false hb (by rw [z])) (fun z => of_decide_eq_false hb2 (by rw [z]))⟩⟩
def sp_model : Sp := fun vs H Q _ => ∃ y : Int, vs = [.int y] ∧ ∀ (A : MA) (H' : Hp), H A.t = none → H A.c = none → H A.b = none → H A.d = none → H A.e = none → Same H H' → MAt H' A (M.init y) → Q (.ref A.t) H'
theorem sc__law_model : FnScope ["_law_year"] ["_law_year"] (defScope s__law_model) :=
  ⟨rfl, rfl, rfl, by decide +kernel, rfl, by decide +kernel, by decide +kernel⟩
theorem ok__law_model (T : Txt K mg) : Cal P w K mg base 1 "_law_model" ["_law_year"] sp_model := by
  refine cal_of T.g__law_model T.f__law_model sc__law_model (fun _ _ _ _ _ _ us hl => match us, hl with | [_], _ => rfl) (fun vs H Q E h => ?_) (fun f cdv A outer s H vs Q E hr h => ?_)
  · obtain ⟨c, rfl, _⟩ := h; rfl
  · obtain ⟨y, rfl, k⟩ := h
    refine ⟨_, (pss_one (ps_ret (pe_tup (pa_cons (pe_lst (pa_cons (pv 0) pa_nil)) (pa_cons pe_dnewK (pa_cons pe_dnewK (pa_cons pe_dnewK pa_nil))))))), ?_⟩
    refine ⟨_, rfl, small (k := 1) (Nat.le_refl _) (by decide), fun c hc b hb d hd e he => ⟨small (k := 4) (Nat.le_refl _) (by decide), fun t ht => ?_⟩⟩
    have s1 : Same H (upd H c (.lst [.int y])) := Same.upd hc
    have s2 := s1.put (o := .dK []) (s1.free hb)
    have s3 := s2.put (o := .dK []) (s2.free hd)
    have s4 := s3.put (o := .dK []) (s3.free he)
    have ncb : c ≠ b := fun z => by subst z; rw [upd_same] at hb; cases hb
    have nbd : b ≠ d := fun z => by subst z; rw [upd_same] at hd; cases hd
    have ncd : c ≠ d := fun z => by subst z; rw [upd_ne ncb, upd_same] at hd; cases hd
    have nde : d ≠ e := fun z => by subst z; rw [upd_same] at he; cases he
    have nbe : b ≠ e := fun z => by subst z; rw [upd_ne nbd, upd_same] at he; cases he
    have nce : c ≠ e := fun z => by subst z; rw [upd_ne ncd, upd_ne ncb, upd_same] at he; cases he
    have net : e ≠ t := fun z => by subst z; rw [upd_same] at ht; cases ht
    have ndt : d ≠ t := fun z => by subst z; rw [upd_ne nde, upd_same] at ht; cases ht
    have nbt : b ≠ t := fun z => by subst z; rw [upd_ne nbe, upd_ne nbd, upd_same] at ht; cases ht
    have nct : c ≠ t := fun z => by subst z; rw [upd_ne nce, upd_ne ncd, upd_ne ncb, upd_same] at ht; cases ht
    refine k ⟨t, c, b, d, e⟩ _ (s4.free ht) hc (s1.free hb) (s2.free hd) (s3.free he) (s4.put (s4.free ht)) ⟨upd_same, ?_, ?_, ?_, ?_, nbd, nbe, nde, Nat.zero_le _⟩
    · show upd _ t _ c = _
      rw [upd_ne nct, upd_ne nce, upd_ne ncd, upd_ne ncb, upd_same]; rfl
    · show upd _ t _ b = _
      rw [upd_ne nbt, upd_ne nbe, upd_ne nbd, upd_same]; rfl
    · show upd _ t _ d = _
      rw [upd_ne ndt, upd_ne nde, upd_same]; rfl
    · show upd _ t _ e = _
      rw [upd_ne net, upd_same]; rfl
end
end DH

namespace DH
open PySem PySem.Spec PyProof.Rows L2 TL
section
variable {P : Program} {w : World} {K : PySem.W.Frag} {mg : Str → Option Value} {base : Heap}
def sp_kids (K : PySem.W.Frag) : Sp := fun vs H Q _ => ∃ A m n, vs = [.ref (MA.t A), nmV n] ∧ MAt H A m ∧ m.WF ∧ Sm n ∧ ∀ H' p, Same H H' → H p = none → H' p = some (.lst ((m.kids n).map nmV)) → Q (.ref p) H'
theorem kids_take (m : M) (n : Nm) {i : Nat} (h : i < m.kc n) : (m.kids n)[i]? = some (n.snoc (i + 1)) := by
  unfold M.kids
  rw [List.getElem?_map, List.getElem?_range h]; rfl
theorem kid_txt (n : Nm) (i : Nat) : (enc n ++ dot) ++ Str.ofString (toString ((i : Int) + 1)) = enc (n.snoc (i + 1)) := by rw [enc_snoc]; rfl
theorem dot_len (n : Nm) : (enc n ++ dot).length = (enc n).length + 1 := by
  have e1 : dot.length = 1 := by decide +kernel
  rw [len_tl, tl_append, List.length_append, ← len_tl, ← len_tl, e1]
theorem sc__law_kids : FnScope ["_law_model_here", "_law_name", "_law_found"] ["_law_model_here", "_law_name"] (defScope s__law_kids) :=
  ⟨rfl, rfl, rfl, by decide +kernel, rfl, by decide +kernel, by decide +kernel⟩
theorem ok__law_kids (T : Txt K mg) : Cal P w K mg base 1 "_law_kids" ["_law_model_here", "_law_name"] (sp_kids K) := by
  refine cal_of T.g__law_kids T.f__law_kids sc__law_kids (fun _ _ _ _ _ _ us hl => match us, hl with | [_, _], _ => rfl) (fun vs H Q E h => ?_) (fun f cdv A outer s H vs Q E hr h => ?_)
  · obtain ⟨a, m, n, rfl, _⟩ := h; rfl
  · obtain ⟨a, m, n, rfl, B, wf, sm, k⟩ := h
    have hu := hu_of hr
    refine ⟨_, (pss_cons (ps_set (i := 2) sc__law_kids.nd rfl (by first | exact Or.inl rfl | exact Or.inr rfl) (pe_lst pa_nil))
        (pss_cons (ps_while PassesOwn.never (pt_cmp (pc_din hu (pe_op op_add_str (pe_op op_add_str (pv 1) pe_str) (pe_callTy call_str_int (by rfl) T.b_str (by decide +kernel) (pa_cons (pe_op op_add (pe_callB (call_lenK K) (by rfl) T.b_len PySem.boot_len (pa_cons (pv 2) pa_nil)) pe_int) pa_nil))) (pe_ix (ix_tupK K) (pv 0) pe_int (fun _ _ => rfl)))) (pss_one (ps_expr (bmK K (pe_bm PySem.F.plainAttrs_list PySem.F.slot_list_append PySem.F.type_list_append mt_append (pv 2) (pa_cons (pe_op op_add_str (pe_op op_add_str (pv 1) pe_str) (pe_callTy call_str_int (by rfl) T.b_str (by decide +kernel) (pa_cons (pe_op op_add (pe_callB (call_lenK K) (by rfl) T.b_len PySem.boot_len (pa_cons (pv 2) pa_nil)) pe_int) pa_nil))) pa_nil))))))
        (pss_one (ps_ret (pv 2))))), ?_⟩
    have hL := sm.len
    have hk := kc10 B.sz n
    have e1 : dot.length = 1 := by decide +kernel
    refine ⟨small (k := 0) (Nat.le_refl _) (by decide), fun l hl => ?_⟩
    refine ⟨fun j σ H' => ∃ i, σ = [some (.ref a.t), some (nmV n), some (.ref l)] ∧ j + i = m.kc n ∧ Same H H' ∧ H' l = some (.lst (((m.kids n).take i).map nmV)), ⟨m.kc n, 0, rfl, rfl, Same.upd hl, by rw [upd_same]; rfl⟩, ?_⟩
    rintro j σ H' ⟨i, rfl, hj, s1, h1⟩
    have B1 := B.same s1
    have hB := B1.t
    have hlen : ((m.kids n).take i).length = i := by rw [List.length_take, M.kids_len]; omega
    have e3 := num_len' (i := i + 1) (by omega)
    refine ⟨_, rfl, _, _, rfl, rfl, small (k := 60) (by show (enc n).length + dot.length ≤ 60; omega) (by decide), _, rfl, _, _, rfl, .inl ⟨_, .of h1, rfl⟩, _, _, rfl, rfl, _, rfl, ?_, _, _, rfl, rfl, ?_, ?_⟩
    · rw [List.length_map, hlen]; exact log_ok (by omega)
    · rw [List.length_map, hlen]
      show (enc n ++ dot).length + (num (i + 1)).length ≤ sizeLine
      rw [dot_len]
      exact small (k := 100) (by omega) (by decide)
    rw [List.length_map, hlen]
    show tVar 0 _ _ _
    rw [show (enc n ++ Str.ofString ".") ++ Str.ofString (toString ((i : Int) + 1)) = enc (n.snoc (i + 1)) from kid_txt n i]
    refine ⟨_, rfl, _, _, _, _, rfl, rfl, .of (hB), atI_nat (j := 1) rfl, a.b, _, rfl, B1.getB _, _, rfl, ?_⟩
    rw [mapSome]
    refine ifB (fun hb => ?_) (fun hb => ?_)
    · have hb : m.isB (n.snoc (i + 1)) = true := hb
      have hi : i < m.kc n := by have := ((wf.kid n (i + 1)).mp hb).2; omega
      refine ⟨fun σ' H4 => σ' = [some (.ref a.t), some (nmV n), some (.ref l)] ∧ Same H H4 ∧ H4 l = some (.lst (((m.kids n).take (i + 1)).map nmV)), fun σ' H4 ⟨e, s4, h4⟩ => ⟨j - 1, by omega, i + 1, e, by omega, s4, h4⟩, ?_⟩
      refine ⟨_, rfl, .inl ⟨rfl, _, .of h1⟩, _, rfl, _, _, rfl, rfl, small (k := 60) (by show (enc n).length + dot.length ≤ 60; omega) (by decide), _, rfl, _, _, rfl, .inl ⟨_, .of h1, rfl⟩, _, _, rfl, rfl, _, rfl, ?_, _, _, rfl, rfl, ?_, ?_⟩
      · rw [List.length_map, hlen]; exact log_ok (by omega)
      · rw [List.length_map, hlen]
        show (enc n ++ dot).length + (num (i + 1)).length ≤ sizeLine
        rw [dot_len]
        exact small (k := 100) (by omega) (by decide)
      rw [List.length_map, hlen]
      refine ⟨l, _, _, rfl, rfl, h1, small' (k := 10000) (by rw [List.length_map, hlen]; omega) (by decide), rfl, s1.put hl, ?_⟩
      rw [upd_same, take_snoc (kids_take m n hi), List.map_append]
      show some (HO.lst (_ ++ [V.str ((enc n ++ dot) ++ Str.ofString (toString ((i : Int) + 1)))])) = _
      rw [kid_txt]; rfl
    · have hb : m.isB (n.snoc (i + 1)) = false := hb
      have hi : i = m.kc n := by
        by_cases c : i < m.kc n
        · have := (wf.kid n (i + 1)).mpr ⟨by omega, by omega⟩
          rw [hb] at this; cases this
        · omega
      refine ⟨_, rfl, k H' l s1 hl ?_⟩
      rw [h1, List.take_of_length_le (by rw [M.kids_len]; omega)]
def sp_mliving : Sp := fun vs H Q _ => ∃ A m, vs = [.ref (MA.t A)] ∧ MAt H A m ∧ ∀ H' p, Same H H' → H p = none → H' p = some (.lst (m.living.map nmV)) → Q (.ref p) H'
theorem sc__law_living : FnScope ["_law_model_here", "_law_name"] ["_law_model_here"] (defScope s__law_living) :=
  ⟨rfl, rfl, rfl, by decide +kernel, rfl, by decide +kernel, by decide +kernel⟩
theorem ok__law_living (T : Txt K mg) : Cal P w K mg base 1 "_law_living" ["_law_model_here"] sp_mliving := by
  refine cal_of T.g__law_living T.f__law_living sc__law_living (fun _ _ _ _ _ _ us hl => match us, hl with | [_], _ => rfl) (fun vs H Q E h => ?_) (fun f cdv A outer s H vs Q E hr h => ?_)
  · obtain ⟨A, m, rfl, _⟩ := h; rfl
  · obtain ⟨a, m, rfl, B, k⟩ := h
    have hu := hu_of hr
    refine ⟨_, (pss_one (ps_ret (pe_lock (pe_lc (own := [("_law_name", 1)]) rfl sc__law_living.nd (pi_keys (pe_ix (ix_tupK K) (pv 0) pe_int (fun _ _ => rfl))) (blkOk_by (own := [("_law_name", 1)]) (N := ["_law_model_here", "_law_name"]) (sc := defScope s__law_living) (by decide +kernel)) (fun _ _ _ _ _ => pg_name (i := 1) sc__law_living.nd rfl (Or.inl rfl)) (fun _ _ _ _ _ => (pts_one (pt_cmp (pc_dnotin hu (pv 1) (pe_ix (ix_tupK K) (pv 0) pe_int (fun _ _ => rfl)))))) (fun _ _ _ _ _ => (pv 1)))))), ?_⟩
    have hz := B.sz
    have hz2 := bo_size m
    have ntb : a.t ≠ a.b := ne_of B.t B.b (by intro z; cases z)
    refine ⟨a.b, _, B.b, trivial, fun od => ?_⟩
    have ht : (upd H a.b (.frz od (.dK (kN m.bo)))) a.t = some (.tup [.ref a.c, .ref a.b, .ref a.d, .ref a.e]) := by rw [upd_ne ntb]; exact B.t
    refine ⟨_, rfl, _, _, _, _, rfl, rfl, .of (ht), atI_nat (j := 1) rfl, a.b, od, rfl, .inl ⟨_, upd_same, fun D hD => ?_⟩⟩
    have nDb : D ≠ a.b := fun z => by rw [z, upd_same] at hD; cases hD
    have hD0 : H D = none := by rw [upd_ne nDb] at hD; exact hD
    refine lc_gen (n := (kN m.bo).length) (fun i H' => Same (upd H a.b (.frz od (.dK (kN m.bo)))) H' ∧ H' D = some (.lst ((((m.bo.map (·.1)).take i).filter fun n => !m.isD n).map nmV))) ?_ ?_ ?_ ?_ ?_
    · exact ⟨Same.upd hD, upd_same⟩
    · rintro i H' hi ⟨s1, _⟩
      exact ⟨s1 _ _ upd_same, hi⟩
    · rintro H' ⟨s1, _⟩
      exact ⟨s1 _ _ upd_same, Nat.le_refl _⟩
    · rintro i x H' H'' hi ⟨s1, hDD⟩ ⟨rfl, kk, v, hk, rfl⟩
      have hk : (kN m.bo)[i]? = some (kk, v) := hk
      rw [kvs_len] at hi
      have hk' : m.bo[i]? = some m.bo[i] := List.getElem?_eq_getElem hi
      have hk2 : (kN m.bo)[i]? = some (Sum.inr (enc m.bo[i].1), V.int m.bo[i].2) := by
        unfold kN kvs; rw [List.getElem?_map, hk']; rfl
      rw [hk2] at hk
      cases hk
      have hn : (m.bo.map (·.1))[i]? = some m.bo[i].1 := by rw [List.getElem?_map, hk']; rfl
      have g : DGet H'' a.d (.str (enc m.bo[i].1)) ((lk m.de m.bo[i].1).map V.int) := by
        have hE : H'' a.d = some (.dK (kN m.de)) := s1 _ _ (by rw [upd_ne B.bd.symm]; exact B.d)
        have := DGet.k (k := Sum.inr (enc m.bo[i].1)) hE
        rw [vN] at this; exact this
      have ht2 := s1 _ _ ht
      refine ⟨rfl, _, rfl, _, rfl, _, _, _, _, rfl, rfl, .of (ht2), atI_nat (j := 2) rfl, a.d, _, rfl, g, _, rfl, ?_⟩
      rw [mapSome]
      have ht := filt_take (f := fun n => !m.isD n) hn
      refine ifB (fun hb => ?_) (fun hb => ?_)
      · refine ⟨_, rfl, _, hDD, ?_, s1.put hD, ?_⟩
        · rw [List.length_map]
          refine small' (k := 10000) (Nat.le_trans (List.length_filter_le ..) ?_) (by decide)
          rw [List.length_take, List.length_map]; omega
        · rw [upd_same, ht, if_pos (show (!m.isD m.bo[i].1) = true from hb), List.map_append]; rfl
      · refine ⟨s1, ?_⟩
        rw [ht, if_neg (fun z => by rw [show (!m.isD m.bo[i].1) = false from hb] at z; cases z), List.append_nil]
        exact hDD
    · rintro H' ⟨s1, hDD⟩
      refine ⟨s1 _ _ upd_same, k _ D ?_ hD0 ?_⟩
      · intro c o e
        by_cases hc : c = a.b
        · subst hc; rw [upd_same]; rw [B.b] at e; exact e
        · rw [upd_ne hc]
          exact s1 _ _ (by rw [upd_ne hc]; exact e)
      · rw [upd_ne nDb, hDD, kvs_len]
        have : (m.bo.map (·.1)).take m.bo.length = m.bo.map (·.1) := List.take_of_length_le (by rw [List.length_map]; exact Nat.le_refl _)
        rw [this]; rfl
/-- the law's play -/
def sp_play (K : PySem.W.Frag) : Sp := fun vs H Q _ => ∃ A m t d, vs = [.ref (MA.t A), .ref t] ∧ MAt H A m ∧ m.WF ∧ m.Can d ∧ H t = some (.tup (encD d)) ∧ m.size + 1 ≤ 10000 ∧ ∀ H', MAt H' A (m.play d) → Off (fpM A) H H' → Q .non H'
theorem MAt.nt {H : Hp} {A : MA} {m : M} (B : MAt H A m) : A.t ∉ fpM A := by
  have h1 : A.t ≠ A.c := ne_of B.t B.c (by intro z; cases z)
  have h2 : A.t ≠ A.b := ne_of B.t B.b (by intro z; cases z)
  have h3 : A.t ≠ A.d := ne_of B.t B.d (by intro z; cases z)
  have h4 : A.t ≠ A.e := ne_of B.t B.e (by intro z; cases z)
  simp [h1, h2, h3, h4]
theorem MAt.cb {H : Hp} {A : MA} {m : M} (B : MAt H A m) : A.c ≠ A.b ∧ A.c ≠ A.d ∧ A.c ≠ A.e ∧ A.t ≠ A.c ∧ A.t ≠ A.b ∧ A.t ≠ A.d ∧ A.t ≠ A.e :=
  ⟨ne_of B.c B.b (by intro z; cases z), ne_of B.c B.d (by intro z; cases z), ne_of B.c B.e (by intro z; cases z), ne_of B.t B.c (by intro z; cases z), ne_of B.t B.b (by intro z; cases z), ne_of B.t B.d (by intro z; cases z), ne_of B.t B.e (by intro z; cases z)⟩
theorem sc__law_play : FnScope ["_law_model_here", "_law_deed", "_law_clock", "_law_born", "_law_dead", "_law_came"] ["_law_model_here", "_law_deed"] (defScope s__law_play) :=
  ⟨rfl, rfl, rfl, by decide +kernel, rfl, by decide +kernel, by decide +kernel⟩
theorem ok__law_play (T : Txt K mg) : Cal P w K mg base 2 "_law_play" ["_law_model_here", "_law_deed"] (sp_play K) := by
  obtain ⟨f__law_kids, fd__law_kids, g__law_kids, k__law_kids, b__law_kids, G__law_kids⟩ := ok__law_kids T
  refine cal_of T.g__law_play T.f__law_play sc__law_play (fun _ _ _ _ _ _ us hl => match us, hl with | [_, _], _ => rfl) (fun vs H Q E h => ?_) (fun f cdv A outer s H vs Q E hr h => ?_)
  · obtain ⟨A, m, t, d, rfl, _⟩ := h; rfl
  · obtain ⟨a, m, t, d, rfl, B, wf, can, ht, hz, k⟩ := h
    have hu := hu_of hr
    refine ⟨_, (pss_cons (ps_asg (pv 0) (pg_tupK K (by rfl) (pgs_cons (pg_name (i := 2) sc__law_play.nd rfl (by first | exact Or.inl rfl | exact Or.inr rfl)) (pgs_cons (pg_name (i := 3) sc__law_play.nd rfl (by first | exact Or.inl rfl | exact Or.inr rfl)) (pgs_cons (pg_name (i := 4) sc__law_play.nd rfl (by first | exact Or.inl rfl | exact Or.inr rfl)) (pgs_cons (pg_name (i := 5) sc__law_play.nd rfl (by first | exact Or.inl rfl | exact Or.inr rfl)) pgs_nil))))))
        (pss_cons (ps_if (pt_cmpR op_eq (pe_ix (ix_tupK K) (pv 1) pe_int (fun _ _ => rfl)) pe_str (nomark _)) (pss_one (ps_asg (pe_op op_add (pe_ix (ix_listK K) (pv 2) pe_int (fun _ _ => rfl)) (pe_ix (ix_tupK K) (pv 1) pe_int (fun _ _ => rfl))) (pg_sub (pv 2) pe_int set_list))) pss_nil)
        (pss_cons (ps_if (pt_cmpR op_eq (pe_ix (ix_tupK K) (pv 1) pe_int (fun _ _ => rfl)) pe_str (nomark _)) (pss_one (ps_dput hu (pv 3) (pe_ix (ix_tupK K) (pv 1) pe_int (fun _ _ => rfl)) (pe_op op_sub (pe_ix (ix_listK K) (pv 2) pe_int (fun _ _ => rfl)) (pe_ix (ix_tupK K) (pv 1) pe_int (fun _ _ => rfl))) rfl)) pss_nil)
        (pss_cons (ps_if (pt_cmpR op_eq (pe_ix (ix_tupK K) (pv 1) pe_int (fun _ _ => rfl)) pe_str (nomark _)) (pss_one (ps_dput hu (pv 3) (pe_op op_add_str (pe_op op_add_str (pe_ix (ix_tupK K) (pv 1) pe_int (fun _ _ => rfl)) pe_str) (pe_callTy call_str_int (by rfl) T.b_str (by decide +kernel) (pa_cons (pe_op op_add (pe_callB (call_lenK K) (by rfl) T.b_len PySem.boot_len (pa_cons (pe_call G__law_kids (hr.mono (by decide)) rfl g__law_kids k__law_kids b__law_kids .nil pass0 (pa_cons (pv 0) (pa_cons (pe_ix (ix_tupK K) (pv 1) pe_int (fun _ _ => rfl)) pa_nil))) pa_nil)) pe_int) pa_nil))) (pe_ix (ix_listK K) (pv 2) pe_int (fun _ _ => rfl)) rfl)) pss_nil)
        (pss_cons (ps_if (pt_cmpR op_eq (pe_ix (ix_tupK K) (pv 1) pe_int (fun _ _ => rfl)) pe_str (nomark _)) (pss_one (ps_dput hu (pv 4) (pe_ix (ix_tupK K) (pv 1) pe_int (fun _ _ => rfl)) (pe_ix (ix_listK K) (pv 2) pe_int (fun _ _ => rfl)) rfl)) pss_nil)
        (pss_one (ps_if (pt_cmpR op_eq (pe_ix (ix_tupK K) (pv 1) pe_int (fun _ _ => rfl)) pe_str (nomark _)) (pss_one (ps_dput hu (pv 5) (pe_ix (ix_tupK K) (pv 1) pe_int (fun _ _ => rfl)) (pe_ix (ix_listK K) (pv 2) pe_int (fun _ _ => rfl)) rfl)) pss_nil))))))), ?_⟩
    obtain ⟨n1, n2, n3, n4, n5, n6, n7⟩ := B.cb
    have hb2 := bo_size m
    have hd2 := de_size m
    have he2 := ca_size m
    refine ⟨_, rfl, a.t, _, rfl, .of B.t, rfl, _, _, rfl, _, _, rfl, _, _, rfl, _, _, rfl, rfl, ?_⟩
    have ntc : t ≠ a.c := ne_of ht B.c (by intro z; cases z)
    have ntb : t ≠ a.b := ne_of ht B.b (by intro z; cases z)
    have ntd : t ≠ a.d := ne_of ht B.d (by intro z; cases z)
    have nte : t ≠ a.e := ne_of ht B.e (by intro z; cases z)
    cases d with
    | years j =>
      refine ⟨_, rfl, _, _, _, _, rfl, rfl, .of (ht), atI_nat (j := 0) rfl, rfl, _, rfl, ifTd rfl ?_⟩
      refine ⟨_, rfl, a.c, _, _, _, rfl, rfl, .of B.c, atI_nat (j := 0) rfl, _, rfl, _, _, _, _, rfl, rfl, .of (ht), atI_nat (j := 1) rfl, _, _, rfl, rfl, _, rfl, a.c, _, _, 0, rfl, rfl, B.c, rfl, ?_⟩
      have ht2 : (upd H a.c (.lst ([V.int m.yr].set 0 (V.int (m.yr + j))))) t = some (.tup (encD (.years j))) := by rw [upd_ne ntc]; exact ht
      refine ⟨_, rfl, _, _, _, _, rfl, rfl, .of (ht2), atI_nat (j := 0) rfl, rfl, _, rfl, ifFd (by decide +kernel) ?_⟩
      refine ⟨_, rfl, _, _, _, _, rfl, rfl, .of (ht2), atI_nat (j := 0) rfl, rfl, _, rfl, ifFd (by decide +kernel) ?_⟩
      refine ⟨_, rfl, _, _, _, _, rfl, rfl, .of (ht2), atI_nat (j := 0) rfl, rfl, _, rfl, ifFd (by decide +kernel) ?_⟩
      refine ⟨_, rfl, _, _, _, _, rfl, rfl, .of (ht2), atI_nat (j := 0) rfl, rfl, _, rfl, ifFd (by decide +kernel) ?_⟩
      refine k _ ⟨?_, upd_same, ?_, ?_, ?_, B.bd, B.be, B.de, B.sz⟩ (Off.upd (by simp))
      · rw [upd_ne n4]; exact B.t
      · rw [upd_ne n1.symm]; exact B.b
      · rw [upd_ne n2.symm]; exact B.d
      · rw [upd_ne n3.symm]; exact B.e
    | arrive x g =>
      obtain ⟨hb, _, _⟩ := can
      have e0 : lk m.bo (Nm.root x) = none := by
        unfold M.isB at hb
        cases e : lk m.bo (Nm.root x) with
        | none => rfl
        | some _ => rw [e] at hb; cases hb
      refine ⟨_, rfl, _, _, _, _, rfl, rfl, .of (ht), atI_nat (j := 0) rfl, rfl, _, rfl, ifFd (by decide +kernel) ?_⟩
      refine ⟨_, rfl, _, _, _, _, rfl, rfl, .of (ht), atI_nat (j := 0) rfl, rfl, _, rfl, ifTd rfl ?_⟩
      refine ⟨_, rfl, a.c, _, _, _, rfl, rfl, .of B.c, atI_nat (j := 0) rfl, _, rfl, _, _, _, _, rfl, rfl, .of (ht), atI_nat (j := 2) rfl, _, _, rfl, rfl, _, rfl, _, rfl, _, _, _, _, rfl, rfl, .of (ht), atI_nat (j := 1) rfl, a.b, _, rfl, DPut.k (k := Sum.inr x.s) B.b (by rw [kvs_len]; exact small' (k := 10000) (by omega) (by decide)), ?_⟩
      have ht2 : (upd H a.b (.dK (putK (kN m.bo) (Sum.inr x.s) (.int (m.yr - g))))) t = some (.tup (encD (.arrive x g))) := by rw [upd_ne ntb]; exact ht
      refine ⟨_, rfl, _, _, _, _, rfl, rfl, .of (ht2), atI_nat (j := 0) rfl, rfl, _, rfl, ifFd (by decide +kernel) ?_⟩
      refine ⟨_, rfl, _, _, _, _, rfl, rfl, .of (ht2), atI_nat (j := 0) rfl, rfl, _, rfl, ifFd (by decide +kernel) ?_⟩
      refine ⟨_, rfl, _, _, _, _, rfl, rfl, .of (ht2), atI_nat (j := 0) rfl, rfl, _, rfl, ifFd (by decide +kernel) ?_⟩
      refine k _ ⟨?_, ?_, ?_, ?_, ?_, B.bd, B.be, B.de, Nat.le_trans (M.size_play m _) hz⟩ (Off.upd (by simp))
      · rw [upd_ne n5]; exact B.t
      · rw [upd_ne n1]; exact B.c
      · rw [upd_same]; exact congrArg (fun z => some (HO.dK z)) (putK_kvs enc_inj' m.bo (Nm.root x) (m.yr - g) e0)
      · rw [upd_ne B.bd.symm]; exact B.d
      · rw [upd_ne B.be.symm]; exact B.e
    | birth n =>
      obtain ⟨hal, hl⟩ := can
      have hB := (M.alive_iff.mp hal).1
      have sm := wf.sm hB B.sz
      have hkc := kc10 B.sz n
      have hL := sm.len
      have e1 : dot.length = 1 := by decide +kernel
      have e3 := num_len' (i := m.kc n + 1) (by omega)
      have hnew := M.next_new wf n
      have e0 : lk m.bo (n.snoc (m.kc n + 1)) = none := by
        unfold M.isB at hnew
        cases e : lk m.bo (n.snoc (m.kc n + 1)) with
        | none => rfl
        | some _ => rw [e] at hnew; cases hnew
      refine ⟨_, rfl, _, _, _, _, rfl, rfl, .of (ht), atI_nat (j := 0) rfl, rfl, _, rfl, ifFd (by decide +kernel) ?_⟩
      refine ⟨_, rfl, _, _, _, _, rfl, rfl, .of (ht), atI_nat (j := 0) rfl, rfl, _, rfl, ifFd (by decide +kernel) ?_⟩
      refine ⟨_, rfl, _, _, _, _, rfl, rfl, .of (ht), atI_nat (j := 0) rfl, rfl, _, rfl, ifTd rfl ?_⟩
      refine ⟨_, rfl, a.c, _, _, _, rfl, rfl, .of B.c, atI_nat (j := 0) rfl, _, rfl, _, rfl, _, _, _, _, rfl, rfl, .of (ht), atI_nat (j := 1) rfl, _, _, rfl, rfl, small (k := 60) (by show (enc n).length + dot.length ≤ 60; omega) (by decide), _, rfl, _, rfl, _, _, _, _, rfl, rfl, .of (ht), atI_nat (j := 1) rfl, a, m, n, rfl, B, wf, sm, fun H1 p s1 hp hp1 => ⟨_, _, rfl, .inl ⟨_, .of hp1, rfl⟩, _, _, rfl, rfl, ?_⟩⟩
      rw [List.length_map, M.kids_len]
      refine ⟨_, rfl, log_ok (by omega), _, _, rfl, rfl, ?_, ?_⟩
      · show (enc n ++ dot).length + (num (m.kc n + 1)).length ≤ sizeLine
        rw [dot_len]
        exact small (k := 100) (by omega) (by decide)
      have ek : V.str ((enc n ++ dot) ++ Str.ofString (toString ((m.kc n : Int) + 1))) = nmV (n.snoc (m.kc n + 1)) := by rw [kid_txt]
      have B1 := B.same s1
      have ht1 := s1 _ _ ht
      refine ⟨a.b, _, rfl, (by rw [show V.str ((enc n ++ Str.ofString ".") ++ Str.ofString (toString ((m.kc n : Int) + 1))) = nmV (n.snoc (m.kc n + 1)) from ek]; exact DPut.k (k := Sum.inr (enc (n.snoc (m.kc n + 1)))) B1.b (by rw [kvs_len]; exact small' (k := 10000) (by omega) (by decide))), ?_⟩
      have ht2 : (upd H1 a.b (.dK (putK (kN m.bo) (Sum.inr (enc (n.snoc (m.kc n + 1)))) (.int m.yr)))) t = some (.tup (encD (.birth n))) := by rw [upd_ne ntb]; exact ht1
      refine ⟨_, rfl, _, _, _, _, rfl, rfl, .of (ht2), atI_nat (j := 0) rfl, rfl, _, rfl, ifFd (by decide +kernel) ?_⟩
      refine ⟨_, rfl, _, _, _, _, rfl, rfl, .of (ht2), atI_nat (j := 0) rfl, rfl, _, rfl, ifFd (by decide +kernel) ?_⟩
      refine k _ ⟨?_, ?_, ?_, ?_, ?_, B.bd, B.be, B.de, Nat.le_trans (M.size_play m _) hz⟩ ((Off.of s1).trans (Off.upd (by simp)))
      · rw [upd_ne n5]; exact B1.t
      · rw [upd_ne n1]; exact B1.c
      · rw [upd_same]; exact congrArg (fun z => some (HO.dK z)) (putK_kvs enc_inj' m.bo _ m.yr e0)
      · rw [upd_ne B.bd.symm]; exact B1.d
      · rw [upd_ne B.be.symm]; exact B1.e
    | death n =>
      have h2 := (M.alive_iff.mp can).2
      have e0 : lk m.de n = none := by
        unfold M.isD at h2
        cases e : lk m.de n with
        | none => rfl
        | some _ => rw [e] at h2; cases h2
      refine ⟨_, rfl, _, _, _, _, rfl, rfl, .of (ht), atI_nat (j := 0) rfl, rfl, _, rfl, ifFd (by decide +kernel) ?_⟩
      refine ⟨_, rfl, _, _, _, _, rfl, rfl, .of (ht), atI_nat (j := 0) rfl, rfl, _, rfl, ifFd (by decide +kernel) ?_⟩
      refine ⟨_, rfl, _, _, _, _, rfl, rfl, .of (ht), atI_nat (j := 0) rfl, rfl, _, rfl, ifFd (by decide +kernel) ?_⟩
      refine ⟨_, rfl, _, _, _, _, rfl, rfl, .of (ht), atI_nat (j := 0) rfl, rfl, _, rfl, ifTd rfl ?_⟩
      refine ⟨_, rfl, a.c, _, _, _, rfl, rfl, .of B.c, atI_nat (j := 0) rfl, _, rfl, _, rfl, _, _, _, _, rfl, rfl, .of (ht), atI_nat (j := 1) rfl, a.d, _, rfl, DPut.k (k := Sum.inr (enc n)) B.d (by rw [kvs_len]; exact small' (k := 10000) (by omega) (by decide)), ?_⟩
      have ht2 : (upd H a.d (.dK (putK (kN m.de) (Sum.inr (enc n)) (.int m.yr)))) t = some (.tup (encD (.death n))) := by rw [upd_ne ntd]; exact ht
      refine ⟨_, rfl, _, _, _, _, rfl, rfl, .of (ht2), atI_nat (j := 0) rfl, rfl, _, rfl, ifFd (by decide +kernel) ?_⟩
      refine k _ ⟨?_, ?_, ?_, ?_, ?_, B.bd, B.be, B.de, Nat.le_trans (M.size_play m _) hz⟩ (Off.upd (by simp))
      · rw [upd_ne n6]; exact B.t
      · rw [upd_ne n2]; exact B.c
      · rw [upd_ne B.bd]; exact B.b
      · rw [upd_same]; exact congrArg (fun z => some (HO.dK z)) (putK_kvs enc_inj' m.de n m.yr e0)
      · rw [upd_ne B.de.symm]; exact B.e
    | comes x =>
      have can : (lk m.ca x).isSome = false := can
      have e0 : lk m.ca x = none := by
        cases e : lk m.ca x with
        | none => rfl
        | some _ => rw [e] at can; cases can
      refine ⟨_, rfl, _, _, _, _, rfl, rfl, .of (ht), atI_nat (j := 0) rfl, rfl, _, rfl, ifFd (by decide +kernel) ?_⟩
      refine ⟨_, rfl, _, _, _, _, rfl, rfl, .of (ht), atI_nat (j := 0) rfl, rfl, _, rfl, ifFd (by decide +kernel) ?_⟩
      refine ⟨_, rfl, _, _, _, _, rfl, rfl, .of (ht), atI_nat (j := 0) rfl, rfl, _, rfl, ifFd (by decide +kernel) ?_⟩
      refine ⟨_, rfl, _, _, _, _, rfl, rfl, .of (ht), atI_nat (j := 0) rfl, rfl, _, rfl, ifFd (by decide +kernel) ?_⟩
      refine ⟨_, rfl, _, _, _, _, rfl, rfl, .of (ht), atI_nat (j := 0) rfl, rfl, _, rfl, ifTd rfl ?_⟩
      refine ⟨_, rfl, a.c, _, _, _, rfl, rfl, .of B.c, atI_nat (j := 0) rfl, _, rfl, _, rfl, _, _, _, _, rfl, rfl, .of (ht), atI_nat (j := 1) rfl, a.e, _, rfl, DPut.k (k := Sum.inr x.s) B.e (by rw [kvs_len]; exact small' (k := 10000) (by omega) (by decide)), ?_⟩
      refine k _ ⟨?_, ?_, ?_, ?_, ?_, B.bd, B.be, B.de, Nat.le_trans (M.size_play m _) hz⟩ (Off.upd (by simp))
      · rw [upd_ne n7]; exact B.t
      · rw [upd_ne n3]; exact B.c
      · rw [upd_ne B.be]; exact B.b
      · rw [upd_ne B.de]; exact B.d
      · rw [upd_same]; exact congrArg (fun z => some (HO.dK z)) (putK_kvs Wd.inj m.ca x m.yr e0)
end
end DH

namespace DH
open PySem PySem.Spec PyProof.Rows L2 TL
section
variable {P : Program} {w : World} {K : PySem.W.Frag} {mg : Str → Option Value} {base : Heap}
/-- a join: what follows is read once -/
theorem cut {U : L2.St → Hp → Prop} {G : Prop} (P : L2.St → Hp → Prop) (main : (∀ σ H, P σ H → U σ H) → G) (rest : ∀ σ H, P σ H → U σ H) : G := main rest
def sp_do (K : PySem.W.Frag) : Sp := fun vs H Q _ => ∃ A m t d, vs = [.ref (WA.p A), .ref t] ∧ WAt K H A m ∧ m.WF ∧ m.Can d ∧ H t = some (.tup (encD d)) ∧ m.size + 1 ≤ 10000 ∧ ∀ v H', WAt K H' A (m.play d) → Off (fpW A) H H' → Q v H'
theorem sc__law_do : FnScope ["_law_world", "_law_deed"] ["_law_world", "_law_deed"] (defScope s__law_do) :=
  ⟨rfl, rfl, rfl, by decide +kernel, rfl, by decide +kernel, by decide +kernel⟩
theorem ok__law_do (T : Txt K mg) : Cal P w K mg base 4 "_law_do" ["_law_world", "_law_deed"] (sp_do K) := by
  obtain ⟨f_World_comes, fd_World_comes, m_World_comes, b_World_comes, G_World_comes⟩ := ok_World_comes T
  obtain ⟨f_World_death, fd_World_death, m_World_death, b_World_death, G_World_death⟩ := ok_World_death T
  obtain ⟨f_World_birth, fd_World_birth, m_World_birth, b_World_birth, G_World_birth⟩ := ok_World_birth T
  obtain ⟨f_World_arrive, fd_World_arrive, m_World_arrive, b_World_arrive, G_World_arrive⟩ := ok_World_arrive T
  obtain ⟨f_World_pass_years, fd_World_pass_years, m_World_pass_years, b_World_pass_years, G_World_pass_years⟩ := ok_World_pass_years T
  refine cal_of T.g__law_do T.f__law_do sc__law_do (fun _ _ _ _ _ _ us hl => match us, hl with | [_, _], _ => rfl) (fun vs H Q E h => ?_) (fun f cdv A outer s H vs Q E hr h => ?_)
  · obtain ⟨A, m, t, d, rfl, _⟩ := h; rfl
  · obtain ⟨a, m, t, d, rfl, W, wf, can, ht, hz, k⟩ := h
    refine ⟨_, (pss_cons (ps_if (pt_cmpR op_eq (pe_ix (ix_tupK K) (pv 1) pe_int (fun _ _ => rfl)) pe_str (nomark _)) (pss_one (ps_ret (pe_meth (pv 0) T.c_World m_World_pass_years G_World_pass_years (hr.mono (by decide)) b_World_pass_years .nil pass0 (pa_cons (pe_ix (ix_tupK K) (pv 1) pe_int (fun _ _ => rfl)) pa_nil)))) pss_nil)
        (pss_cons (ps_if (pt_cmpR op_eq (pe_ix (ix_tupK K) (pv 1) pe_int (fun _ _ => rfl)) pe_str (nomark _)) (pss_one (ps_ret (pe_meth (pv 0) T.c_World m_World_arrive G_World_arrive (hr.mono (by decide)) b_World_arrive .nil pass0 (pa_cons (pe_ix (ix_tupK K) (pv 1) pe_int (fun _ _ => rfl)) (pa_cons (pe_ix (ix_tupK K) (pv 1) pe_int (fun _ _ => rfl)) pa_nil))))) pss_nil)
        (pss_cons (ps_if (pt_cmpR op_eq (pe_ix (ix_tupK K) (pv 1) pe_int (fun _ _ => rfl)) pe_str (nomark _)) (pss_one (ps_ret (pe_meth (pv 0) T.c_World m_World_birth G_World_birth (hr.mono (by decide)) b_World_birth .nil pass0 (pa_cons (pe_ix (ix_tupK K) (pv 1) pe_int (fun _ _ => rfl)) pa_nil)))) pss_nil)
        (pss_cons (ps_if (pt_cmpR op_eq (pe_ix (ix_tupK K) (pv 1) pe_int (fun _ _ => rfl)) pe_str (nomark _)) (pss_one (ps_ret (pe_meth (pv 0) T.c_World m_World_death G_World_death (hr.mono (by decide)) b_World_death .nil pass0 (pa_cons (pe_ix (ix_tupK K) (pv 1) pe_int (fun _ _ => rfl)) pa_nil)))) pss_nil)
        (pss_one (ps_ret (pe_meth (pv 0) T.c_World m_World_comes G_World_comes (hr.mono (by decide)) b_World_comes .nil pass0 (pa_cons (pe_ix (ix_tupK K) (pv 1) pe_int (fun _ _ => rfl)) pa_nil)))))))), ?_⟩
    cases d with
    | years j =>
      refine ⟨_, rfl, _, _, _, _, rfl, rfl, .of (ht), atI_nat (j := 0) rfl, rfl, _, rfl, ifTd rfl ?_⟩
      exact ⟨_, rfl, a.p, a.px, _, rfl, W.o, fW_no (by decide +kernel) (by decide +kernel) (by decide +kernel), _, rfl, _, _, _, _, rfl, rfl, .of (ht), atI_nat (j := 1) rfl, a, m, j, rfl, W, can.1, can.2, fun H' W' O => k _ H' W' O⟩
    | arrive x g =>
      refine ⟨_, rfl, _, _, _, _, rfl, rfl, .of (ht), atI_nat (j := 0) rfl, rfl, _, rfl, ifFd (by decide +kernel) ?_⟩
      refine ⟨_, rfl, _, _, _, _, rfl, rfl, .of (ht), atI_nat (j := 0) rfl, rfl, _, rfl, ifTd rfl ?_⟩
      exact ⟨_, rfl, a.p, a.px, _, rfl, W.o, fW_no (by decide +kernel) (by decide +kernel) (by decide +kernel), _, rfl, _, _, _, _, rfl, rfl, .of (ht), atI_nat (j := 1) rfl, _, rfl, _, _, _, _, rfl, rfl, .of (ht), atI_nat (j := 2) rfl, a, m, x, g, rfl, W, wf, can, hz, fun H' W' O => k _ H' W' O⟩
    | birth n =>
      refine ⟨_, rfl, _, _, _, _, rfl, rfl, .of (ht), atI_nat (j := 0) rfl, rfl, _, rfl, ifFd (by decide +kernel) ?_⟩
      refine ⟨_, rfl, _, _, _, _, rfl, rfl, .of (ht), atI_nat (j := 0) rfl, rfl, _, rfl, ifFd (by decide +kernel) ?_⟩
      refine ⟨_, rfl, _, _, _, _, rfl, rfl, .of (ht), atI_nat (j := 0) rfl, rfl, _, rfl, ifTd rfl ?_⟩
      exact ⟨_, rfl, a.p, a.px, _, rfl, W.o, fW_no (by decide +kernel) (by decide +kernel) (by decide +kernel), _, rfl, _, _, _, _, rfl, rfl, .of (ht), atI_nat (j := 1) rfl, a, m, n, rfl, W, wf, can, hz, fun v H' W' O => k v H' W' O⟩
    | death n =>
      refine ⟨_, rfl, _, _, _, _, rfl, rfl, .of (ht), atI_nat (j := 0) rfl, rfl, _, rfl, ifFd (by decide +kernel) ?_⟩
      refine ⟨_, rfl, _, _, _, _, rfl, rfl, .of (ht), atI_nat (j := 0) rfl, rfl, _, rfl, ifFd (by decide +kernel) ?_⟩
      refine ⟨_, rfl, _, _, _, _, rfl, rfl, .of (ht), atI_nat (j := 0) rfl, rfl, _, rfl, ifFd (by decide +kernel) ?_⟩
      refine ⟨_, rfl, _, _, _, _, rfl, rfl, .of (ht), atI_nat (j := 0) rfl, rfl, _, rfl, ifTd rfl ?_⟩
      exact ⟨_, rfl, a.p, a.px, _, rfl, W.o, fW_no (by decide +kernel) (by decide +kernel) (by decide +kernel), _, rfl, _, _, _, _, rfl, rfl, .of (ht), atI_nat (j := 1) rfl, a, m, n, rfl, W, can, hz, fun H' W' O => k _ H' W' O⟩
    | comes x =>
      refine ⟨_, rfl, _, _, _, _, rfl, rfl, .of (ht), atI_nat (j := 0) rfl, rfl, _, rfl, ifFd (by decide +kernel) ?_⟩
      refine ⟨_, rfl, _, _, _, _, rfl, rfl, .of (ht), atI_nat (j := 0) rfl, rfl, _, rfl, ifFd (by decide +kernel) ?_⟩
      refine ⟨_, rfl, _, _, _, _, rfl, rfl, .of (ht), atI_nat (j := 0) rfl, rfl, _, rfl, ifFd (by decide +kernel) ?_⟩
      refine ⟨_, rfl, _, _, _, _, rfl, rfl, .of (ht), atI_nat (j := 0) rfl, rfl, _, rfl, ifFd (by decide +kernel) ?_⟩
      exact ⟨_, rfl, a.p, a.px, _, rfl, W.o, fW_no (by decide +kernel) (by decide +kernel) (by decide +kernel), _, rfl, _, _, _, _, rfl, rfl, .of (ht), atI_nat (j := 1) rfl, a, m, x, rfl, W, can, hz, fun H' W' O => k _ H' W' O⟩
def wWar : Wd := ⟨"war", by decide +kernel⟩
def wFlood : Wd := ⟨"flood", by decide +kernel⟩
def wA : Wd := ⟨"a", by decide +kernel⟩
theorem pick4 (x : Wd) (i : Int) (h0 : 0 ≤ i) (h4 : i < 4) : ∃ y : Wd, atI [V.str "war", V.str "flood", V.str "a", V.str x.s] i = some (.str y.s) := by
  obtain ⟨j, rfl⟩ : ∃ j : Nat, i = j := ⟨i.toNat, by omega⟩
  have hj : j < 4 := by omega
  match j, hj with
  | 0, _ => exact ⟨wWar, atI_nat (j := 0) rfl⟩
  | 1, _ => exact ⟨wFlood, atI_nat (j := 1) rfl⟩
  | 2, _ => exact ⟨wA, atI_nat (j := 2) rfl⟩
  | 3, _ => exact ⟨x, atI_nat (j := 3) rfl⟩
theorem at_nm {l : List Nm} {i : Int} (h0 : 0 ≤ i) (h : i < l.length) : ∃ c ∈ l, atI (l.map nmV) i = some (nmV c) := by
  obtain ⟨j, rfl⟩ : ∃ j : Nat, i = j := ⟨i.toNat, by omega⟩
  have hj : j < l.length := by omega
  refine ⟨l[j], List.getElem_mem hj, atI_nat ?_⟩
  rw [List.getElem?_map, List.getElem?_eq_getElem hj]; rfl
theorem count_nm (n : Nm) : Txt.count (enc n) (Str.ofString ".") = (n.l.length : Int) := count_enc n
def sp_next : Sp := fun vs H Q _ => ∃ A m n, vs = [.ref (MA.t A), .int n, .int 25] ∧ MAt H A m ∧ 0 ≤ n ∧ ∀ d t H', Same H H' → H t = none → H' t = some (.tup (encD d)) → m.Can d → Q (.ref t) H'
theorem sc__law_next_deed : FnScope ["_law_model_here", "_law_n", "_law_far", "_law_some", "_law_kind", "_law_word_here", "_law_name"] ["_law_model_here", "_law_n", "_law_far"] (defScope s__law_next_deed) :=
  ⟨rfl, rfl, rfl, by decide +kernel, rfl, by decide +kernel, by decide +kernel⟩
theorem ok__law_next_deed (T : Txt K mg) : Cal P w K mg base 2 "_law_next_deed" ["_law_model_here", "_law_n", "_law_far"] sp_next := by
  obtain ⟨f__law_word, fd__law_word, g__law_word, k__law_word, b__law_word, G__law_word⟩ := ok__law_word T
  obtain ⟨f__law_living, fd__law_living, g__law_living, k__law_living, b__law_living, G__law_living⟩ := ok__law_living T
  refine cal_of T.g__law_next_deed T.f__law_next_deed sc__law_next_deed (fun _ _ _ _ _ _ us hl => match us, hl with | [_, _, _], _ => rfl) (fun vs H Q E h => ?_) (fun f cdv A outer s H vs Q E hr h => ?_)
  · obtain ⟨A, m, n, rfl, _⟩ := h; rfl
  · obtain ⟨a, m, n, rfl, B, hn, k⟩ := h
    have hu := hu_of hr
    refine ⟨_, (pss_cons (ps_set (i := 3) sc__law_next_deed.nd rfl (by first | exact Or.inl rfl | exact Or.inr rfl) (pe_call G__law_living (hr.mono (by decide)) rfl g__law_living k__law_living b__law_living .nil pass0 (pa_cons (pv 0) pa_nil)))
        (pss_cons (ps_set (i := 4) sc__law_next_deed.nd rfl (by first | exact Or.inl rfl | exact Or.inr rfl) (pe_op op_mod (pv 1) pe_int))
        (pss_cons (ps_set (i := 1) sc__law_next_deed.nd rfl (by first | exact Or.inl rfl | exact Or.inr rfl) (pe_op op_fdiv (pv 1) pe_int))
        (pss_cons (ps_if (PW.pt (pw_or (pt_cmpR op_eq (pv 4) pe_int (nomark _)) (pw_or1 (PW.pt (pw_and (pt_cmpR op_lt (pv 4) pe_int (nomark _)) (pw_and1 (pt_cmpR op_eq (pe_callB (call_lenK K) (by rfl) T.b_len PySem.boot_len (pa_cons (pv 3) pa_nil)) pe_int (nomark _)))))))) (pss_cons (ps_set (i := 5) sc__law_next_deed.nd rfl (by first | exact Or.inl rfl | exact Or.inr rfl) (pe_call G__law_word (hr.mono (by decide)) rfl g__law_word k__law_word b__law_word .nil pass0 (pa_cons (pe_op op_fdiv (pv 1) pe_int) pa_nil)))
        (pss_one (ps_if (pt_cmp (pc_dnotin hu (pv 5) (pe_ix (ix_tupK K) (pv 0) pe_int (fun _ _ => rfl)))) (pss_one (ps_ret (pe_tup (pa_cons pe_str (pa_cons (pv 5) (pa_cons (pe_op op_mod (pv 1) pe_int) pa_nil)))))) pss_nil))) pss_nil)
        (pss_cons (ps_if (PW.pt (pw_and (pt_cmpR op_gt (pv 4) pe_int (nomark _)) (pw_and (pt_cmpR op_lt (pv 4) pe_int (nomark _)) (pw_and1 (pt_cmpR op_gt (pe_callB (call_lenK K) (by rfl) T.b_len PySem.boot_len (pa_cons (pv 3) pa_nil)) pe_int (nomark _)))))) (pss_cons (ps_set (i := 6) sc__law_next_deed.nd rfl (by first | exact Or.inl rfl | exact Or.inr rfl) (pe_ix (ix_listK K) (pv 3) (pe_op op_mod (pv 1) (pe_callB (call_lenK K) (by rfl) T.b_len PySem.boot_len (pa_cons (pv 3) pa_nil))) (fun _ _ => rfl)))
        (pss_cons (ps_if (pt_cmpR op_gt (pv 4) pe_int (nomark _)) (pss_one (ps_ret (pe_tup (pa_cons pe_str (pa_cons (pv 6) pa_nil))))) pss_nil)
        (pss_one (ps_if (pt_cmpR op_lt (pe_m1 PySem.F.slot_str_count PySem.F.type_str_count mt_count (pv 6) pe_str) pe_int (nomark _)) (pss_one (ps_ret (pe_tup (pa_cons pe_str (pa_cons (pv 6) pa_nil))))) pss_nil)))) pss_nil)
        (pss_cons (ps_if (pt_cmpR op_eq (pv 4) pe_int (nomark _)) (pss_cons (ps_set (i := 5) sc__law_next_deed.nd rfl (by first | exact Or.inl rfl | exact Or.inr rfl) (pe_ix (ix_listK K) (pe_lst (pa_cons pe_str (pa_cons pe_str (pa_cons pe_str (pa_cons (pe_call G__law_word (hr.mono (by decide)) rfl g__law_word k__law_word b__law_word .nil pass0 (pa_cons (pe_op op_fdiv (pv 1) pe_int) pa_nil)) pa_nil))))) (pe_op op_mod (pv 1) pe_int) (fun _ _ => rfl)))
        (pss_one (ps_if (pt_cmp (pc_dnotin hu (pv 5) (pe_ix (ix_tupK K) (pv 0) pe_int (fun _ _ => rfl)))) (pss_one (ps_ret (pe_tup (pa_cons pe_str (pa_cons (pv 5) pa_nil))))) pss_nil))) pss_nil)
        (pss_one (ps_ret (pe_tup (pa_cons pe_str (pa_cons (pe_op op_add pe_int (pe_op op_mod (pv 1) (pv 2))) pa_nil))))))))))), ?_⟩
    refine ⟨_, rfl, a, m, rfl, B, fun H1 p s1 hp hp1 => ?_⟩
    refine ⟨_, rfl, _, _, rfl, rfl, (show (0 : Int) < 9 by decide), ?_⟩
    refine ⟨_, rfl, _, _, rfl, rfl, ⟨by decide, by decide⟩, ?_⟩
    have k9 : 0 ≤ n % 9 := Int.emod_nonneg _ (by decide)
    have n9 : 0 ≤ n / 9 := Int.ediv_nonneg hn (by decide)
    have hlenL : m.living.length ≤ 10000 := by
      refine Nat.le_trans (List.length_filter_le ..) ?_
      rw [List.length_map]
      have := bo_size m
      have := B.sz
      omega
    -- behind the first if
    refine' cut (fun σ H' => ∃ v5, σ = [some (.ref a.t), some (.int (n / 9)), some (.int 25), some (.ref p), some (.int (n % 9)), v5, none] ∧ Same H1 H') (fun r1 => ?_) (fun σ H2 hp2 => ?_); rotate_left
    · -- its body
      refine' cut (fun σ H' => σ = [some (.ref a.t), some (.int (n / 9)), some (.int 25), some (.ref p), some (.int (n % 9)), none, none] ∧ Same H1 H') (fun b1 => ?_) (fun σ H2 hp2 => ?_); rotate_left
      · refine ⟨_, rfl, rfl, _, rfl, ?_⟩
        refine ifB (fun _ => ?_) (fun _ => ?_)
        · first | exact b1 _ _ ⟨rfl, Same.refl _⟩ | (dsimp only; rw [if_pos rfl]; exact b1 _ _ ⟨rfl, Same.refl _⟩)
        · refine ⟨_, rfl, _, _, rfl, rfl, _, rfl, ?_⟩
          refine ifB (fun _ => ?_) (fun _ => ?_)
          · refine ⟨_, rfl, _, _, rfl, .inl ⟨_, .of hp1, rfl⟩, rfl, _, rfl, ?_⟩
            refine ifB (fun _ => ?_) (fun _ => ?_)
            · first | exact b1 _ _ ⟨rfl, Same.refl _⟩ | (dsimp only; rw [if_pos rfl]; exact b1 _ _ ⟨rfl, Same.refl _⟩)
            · first | exact r1 _ _ ⟨none, rfl, Same.refl _⟩ | (dsimp only; rw [if_neg Bool.false_ne_true]; exact r1 _ _ ⟨none, rfl, Same.refl _⟩)
          · first | exact r1 _ _ ⟨none, rfl, Same.refl _⟩ | (dsimp only; rw [if_neg Bool.false_ne_true]; exact r1 _ _ ⟨none, rfl, Same.refl _⟩)
      · obtain ⟨rfl, s2⟩ := hp2
        have B2 := (B.same s1).same s2
        have ht := B2.t
        refine ⟨_, rfl, _, _, rfl, rfl, ⟨by decide, by decide⟩, _, rfl, Int.ediv_nonneg n9 (by decide), fun x => ?_⟩
        refine ⟨_, rfl, _, rfl, _, _, _, _, rfl, rfl, .of (ht), atI_nat (j := 1) rfl, a.b, _, rfl, B2.getB (Nm.root x), _, rfl, ?_⟩
        rw [mapSome]
        refine ifB (fun hb => ?_) (fun hb => ?_)
        · have hb : m.isB (Nm.root x) = false := by
            unfold M.isB
            cases e : (lk m.bo (Nm.root x)).isSome with
            | false => rfl
            | true => rw [e] at hb; cases hb
          refine ⟨_, rfl, _, rfl, _, _, rfl, rfl, (show (0 : Int) < 121 by decide), small (k := 3) (Nat.le_refl _) (by decide), fun t ht => ?_⟩
          have z0 : 0 ≤ (n / 9) % 121 := Int.emod_nonneg _ (by decide)
          have z1 : (n / 9) % 121 < 121 := Int.emod_lt_of_pos _ (by decide)
          exact k (.arrive x ((n / 9) % 121)) t _ ((s1.trans s2).trans (Same.upd ht)) ((s1.trans s2).free ht) upd_same ⟨hb, z0, by omega⟩
        · exact r1 _ _ ⟨_, rfl, s2⟩
    · obtain ⟨v5, rfl, s2⟩ := hp2
      have s12 := s1.trans s2
      have hp2 := s2 _ _ hp1
      refine' cut (fun σ H' => ∃ v5 v6, σ = [some (.ref a.t), some (.int (n / 9)), some (.int 25), some (.ref p), some (.int (n % 9)), v5, v6] ∧ Same H2 H') (fun r2 => ?_) (fun σ H3 hp3 => ?_); rotate_left
      · refine ⟨_, rfl, _, _, rfl, rfl, _, rfl, ?_⟩
        refine ifB (fun _ => ?_) (fun _ => ?_)
        · refine ⟨_, rfl, _, _, rfl, rfl, _, rfl, ?_⟩
          refine ifB (fun _ => ?_) (fun _ => ?_)
          · refine ⟨_, rfl, _, _, rfl, .inl ⟨_, .of hp2, rfl⟩, _, _, rfl, rfl, _, rfl, ?_⟩
            rw [List.length_map]
            refine ifB (fun hl => ?_) (fun _ => ?_)
            · have hl : (0 : Int) < (m.living.length : Int) := of_decide_eq_true hl
              have z0 : 0 ≤ (n / 9) % (m.living.length : Int) := Int.emod_nonneg _ (by omega)
              have z1 : (n / 9) % (m.living.length : Int) < (m.living.length : Int) := Int.emod_lt_of_pos _ hl
              obtain ⟨c, hc, hat⟩ := at_nm z0 z1
              have hal := M.mem_living.mp hc
              refine ⟨_, rfl, _, rfl, _, rfl, _, _, rfl, .inl ⟨_, .of hp2, rfl⟩, _, _, rfl, rfl, (by rw [List.length_map]; exact hl), p, _, _, nmV c, rfl, rfl, .of hp2, (by rw [List.length_map]; exact hat), ?_⟩
              refine ⟨_, rfl, _, _, rfl, rfl, _, rfl, ?_⟩
              refine ifB (fun _ => ?_) (fun _ => ?_)
              · refine ⟨_, rfl, small (k := 2) (Nat.le_refl _) (by decide), fun t ht => ?_⟩
                exact k (.death c) t _ (s12.trans (Same.upd ht)) (s12.free ht) upd_same hal
              · refine ⟨_, rfl, ⟨_, rfl⟩, _, _, rfl, rfl, _, _, rfl, rfl, _, rfl, ?_⟩
                rw [count_nm]
                refine ifB (fun h5 => ?_) (fun _ => ?_)
                · have h5 : (c.l.length : Int) < 5 := of_decide_eq_true h5
                  refine ⟨_, rfl, small (k := 2) (Nat.le_refl _) (by decide), fun t ht => ?_⟩
                  exact k (.birth c) t _ (s12.trans (Same.upd ht)) (s12.free ht) upd_same ⟨hal, by omega⟩
                · exact r2 _ _ ⟨_, _, rfl, Same.refl _⟩
            · first | exact r2 _ _ ⟨_, _, rfl, Same.refl _⟩ | (dsimp only; rw [if_neg Bool.false_ne_true]; exact r2 _ _ ⟨_, _, rfl, Same.refl _⟩)
          · first | exact r2 _ _ ⟨_, _, rfl, Same.refl _⟩ | (dsimp only; rw [if_neg Bool.false_ne_true]; exact r2 _ _ ⟨_, _, rfl, Same.refl _⟩)
        · first | exact r2 _ _ ⟨_, _, rfl, Same.refl _⟩ | (dsimp only; rw [if_neg Bool.false_ne_true]; exact r2 _ _ ⟨_, _, rfl, Same.refl _⟩)
      · obtain ⟨v5, v6, rfl, s3⟩ := hp3
        have s13 := s12.trans s3
        refine' cut (fun σ H' => ∃ v5 v6, σ = [some (.ref a.t), some (.int (n / 9)), some (.int 25), some (.ref p), some (.int (n % 9)), v5, v6] ∧ Same H3 H') (fun r3 => ?_) (fun σ H4 hp4 => ?_); rotate_left
        · refine ⟨_, rfl, rfl, _, rfl, ?_⟩
          refine ifB (fun _ => ?_) (fun _ => ?_)
          · have z0 : 0 ≤ (n / 9) % 4 := Int.emod_nonneg _ (by decide)
            have z1 : (n / 9) % 4 < 4 := Int.emod_lt_of_pos _ (by decide)
            refine ⟨_, rfl, _, _, rfl, rfl, ⟨by decide, by decide⟩, _, rfl, Int.ediv_nonneg n9 (by decide), fun x => ⟨small (k := 4) (Nat.le_refl _) (by decide), fun l hl => ?_⟩⟩
            obtain ⟨y, hy⟩ := pick4 x _ z0 z1
            refine ⟨_, rfl, _, _, rfl, rfl, (show (0 : Int) < 4 by decide), l, _, _, .str y.s, rfl, rfl, .of upd_same, hy, ?_⟩
            have s4 : Same H3 (upd H3 l (.lst [V.str "war", V.str "flood", V.str "a", V.str x.s])) := Same.upd hl
            have s14 := s13.trans s4
            have B4 := B.same s14
            have ht := B4.t
            refine ⟨_, rfl, _, rfl, _, _, _, _, rfl, rfl, .of (ht), atI_nat (j := 3) rfl, a.e, _, rfl, B4.getE y, _, rfl, ?_⟩
            rw [mapSome]
            refine ifB (fun hb => ?_) (fun hb => ?_)
            · have hb : (lk m.ca y).isSome = false := by
                cases e : (lk m.ca y).isSome with
                | false => rfl
                | true => rw [e] at hb; cases hb
              refine ⟨_, rfl, small (k := 2) (Nat.le_refl _) (by decide), fun t ht => ?_⟩
              exact k (.comes y) t _ (s14.trans (Same.upd ht)) (s14.free ht) upd_same hb
            · exact r3 _ _ ⟨_, _, rfl, s4⟩
          · exact r3 _ _ ⟨_, _, rfl, Same.refl _⟩
        · obtain ⟨v5, v6, rfl, s4⟩ := hp4
          have s14 := s13.trans s4
          refine ⟨_, rfl, _, rfl, _, _, rfl, rfl, (show (0 : Int) < 25 by decide), _, _, rfl, rfl, small (k := 2) (Nat.le_refl _) (by decide), fun t ht => ?_⟩
          have z0 : 0 ≤ (n / 9) % 25 := Int.emod_nonneg _ (by decide)
          have z1 : (n / 9) % 25 < 25 := Int.emod_lt_of_pos _ (by decide)
          exact k (.years (1 + (n / 9) % 25)) t _ (s14.trans (Same.upd ht)) (s14.free ht) upd_same ⟨by omega, by omega⟩
end
end DH

namespace DH
open PySem PySem.Spec PyProof.Rows L2 TL
section
variable {P : Program} {w : World} {K : PySem.W.Frag} {mg : Str → Option Value} {base : Heap}
def wK (ws : List (Wd × Int)) : List (Key × V) := ws.map fun p => (Sum.inr p.1.s, V.bl true)
theorem wK_has (ws : List (Wd × Int)) (x : Wd) : (valV (wK ws) (Sum.inr x.s)).isSome = decide (x ∈ ws.map (·.1)) := by
  induction ws with
  | nil => rfl
  | cons p r ih =>
    show (valV ((Sum.inr p.1.s, V.bl true) :: wK r) _).isSome = _
    by_cases e : p.1 = x
    · rw [valV_pos (by show (Sum.inr p.1.s : Key) = _; rw [e])]
      simp [e]
    · rw [valV_neg (fun z => e (Wd.inj _ _ (Sum.inr.inj z))), ih, List.map_cons]
      by_cases m : x ∈ r.map (·.1)
      · rw [decide_eq_true m, decide_eq_true (List.mem_cons_of_mem _ m)]
      · rw [decide_eq_false m, decide_eq_false]
        intro z
        rcases List.mem_cons.mp z with z | z
        · exact e z.symm
        · exact m z
def arr (ws : List (Wd × Int)) : List Deed := ws.map fun p => Deed.arrive p.1 p.2
structure ArrOk (ws : List (Wd × Int)) : Prop where
  nd : (ws.map (·.1)).Nodup
  age : ∀ p ∈ ws, 0 ≤ p.2 ∧ p.2 ≤ 120
def sp_start : Sp := fun vs H Q _ => ∃ n : Int, vs = [.int n] ∧ 0 ≤ n ∧ ∀ H' p ps ws, Same H H' → H p = none → DsL H' p ps → ps.map (·.2) = arr ws → ArrOk ws → ws ≠ [] → ws.length ≤ 3 → Q (.ref p) H'
theorem sc__law_start : FnScope ["_law_n", "_law_deeds", "_law_words", "_law_k", "_law_word_here"] ["_law_n"] (defScope s__law_start) :=
  ⟨rfl, rfl, rfl, by decide +kernel, rfl, by decide +kernel, by decide +kernel⟩
theorem ok__law_start (T : Txt K mg) : Cal P w K mg base 2 "_law_start" ["_law_n"] sp_start := by
  obtain ⟨f__law_word, fd__law_word, g__law_word, k__law_word, b__law_word, G__law_word⟩ := ok__law_word T
  refine cal_of T.g__law_start T.f__law_start sc__law_start (fun _ _ _ _ _ _ us hl => match us, hl with | [_], _ => rfl) (fun vs H Q E h => ?_) (fun f cdv A outer s H vs Q E hr h => ?_)
  · obtain ⟨n, rfl, _⟩ := h; rfl
  · obtain ⟨n, rfl, hn, k⟩ := h
    have hu := hu_of hr
    refine ⟨_, (pss_cons (ps_set (i := 1) sc__law_start.nd rfl (by first | exact Or.inl rfl | exact Or.inr rfl) (pe_lst pa_nil))
        (pss_cons (ps_set (i := 2) sc__law_start.nd rfl (by first | exact Or.inl rfl | exact Or.inr rfl) pe_dnewK)
        (pss_cons (ps_for PassesOwn.never rfl (pi_range1 rfl T.b_range (pa_cons (pe_op op_add pe_int (pe_op op_mod (pv 0) pe_int)) pa_nil)) (pg_name (i := 3) sc__law_start.nd rfl (by first | exact Or.inl rfl | exact Or.inr rfl)) (pss_cons (ps_set (i := 0) sc__law_start.nd rfl (by first | exact Or.inl rfl | exact Or.inr rfl) (pe_op op_add (pe_op op_fdiv (pv 0) pe_int) (pe_op op_mul (pv 3) pe_int)))
        (pss_cons (ps_set (i := 4) sc__law_start.nd rfl (by first | exact Or.inl rfl | exact Or.inr rfl) (pe_call G__law_word (hr.mono (by decide)) rfl g__law_word k__law_word b__law_word .nil pass0 (pa_cons (pe_op op_fdiv (pv 0) pe_int) pa_nil)))
        (pss_one (ps_if (pt_cmp (pc_dnotin hu (pv 4) (pv 2))) (pss_cons (ps_dput hu (pv 2) (pv 4) pe_bl rfl)
        (pss_one (ps_expr (bmK K (pe_bm PySem.F.plainAttrs_list PySem.F.slot_list_append PySem.F.type_list_append mt_append (pv 1) (pa_cons (pe_tup (pa_cons pe_str (pa_cons (pv 4) (pa_cons (pe_op op_mod (pv 0) pe_int) pa_nil)))) pa_nil)))))) pss_nil)))))
        (pss_one (ps_ret (pv 1)))))), ?_⟩
    have z0 : 0 ≤ n % 3 := Int.emod_nonneg _ (by decide)
    have z3 : n % 3 < 3 := Int.emod_lt_of_pos _ (by decide)
    refine ⟨small (k := 0) (Nat.le_refl _) (by decide), fun l hl d hd => ?_⟩
    have s1 : Same H (upd H l (.lst [])) := Same.upd hl
    have nld : l ≠ d := fun z => by subst z; rw [upd_same] at hd; cases hd
    have hdH : H d = none := s1.free hd
    refine ⟨_, rfl, _, _, rfl, rfl, (show (0 : Int) < 3 by decide), _, _, rfl, rfl, _, rfl, by omega, by omega, ?_⟩
    refine for_range (lo := 0) (n := (1 + n % 3).toNat) (fun i σ H' => ∃ n' ws ps v3 v4, σ = [some (.int n'), some (.ref l), some (.ref d), v3, v4] ∧ 0 ≤ n' ∧ Same H H' ∧ H' d = some (.dK (wK ws)) ∧ DsL H' l ps ∧ ps.map (·.2) = arr ws ∧ ArrOk ws ∧ ws.length ≤ i ∧ (1 ≤ i → ws ≠ []))
      ⟨n, [], [], none, none, rfl, hn, s1.put hdH, upd_same, ⟨by rw [upd_ne nld, upd_same]; rfl, fun p hp => nomatch hp⟩, rfl, ⟨List.nodup_nil, fun p hp => nomatch hp⟩, Nat.le_refl _, fun h => absurd h (by decide)⟩ ?_ ?_
    · rintro i σ H' hi ⟨n', ws, ps, v3, v4, rfl, hn', s2, hd2, D2, e2, ok2, l2, ne2⟩
      have hps : ps.length = ws.length := by
        have := congrArg List.length e2
        rw [List.length_map] at this
        unfold arr at this
        rw [List.length_map] at this
        exact this
      refine ⟨_, rfl, _, _, rfl, rfl, ⟨by decide, by decide⟩, _, rfl, _, _, rfl, rfl, .inr ⟨by decide, by decide⟩, _, _, rfl, rfl, ?_⟩
      have n2 : 0 ≤ n' / 3 + (0 + (i : Int)) * 104729 := by
        have := Int.ediv_nonneg hn' (show (0 : Int) ≤ 3 by decide)
        omega
      refine ⟨_, rfl, _, _, rfl, rfl, ⟨by decide, by decide⟩, _, rfl, Int.ediv_nonneg n2 (by decide), fun x => ?_⟩
      have g : DGet H' d (.str x.s) (valV (wK ws) (Sum.inr x.s)) := DGet.k (k := Sum.inr x.s) hd2
      refine ⟨_, rfl, _, rfl, d, _, rfl, g, _, rfl, ?_⟩
      rw [wK_has]
      refine ifB (fun hb => ?_) (fun hb => ?_)
      · have hx : ¬ x ∈ ws.map (·.1) := fun z => by rw [decide_eq_true z] at hb; cases hb
        refine ⟨_, rfl, _, rfl, d, _, rfl, DPut.k (k := Sum.inr x.s) hd2 (by unfold wK; rw [List.length_map]; exact small' (k := 3) (by omega) (by decide)), ?_⟩
        have hput : putK (wK ws) (Sum.inr x.s) (.bl true) = wK (ws ++ [(x, (n' / 3 + (0 + (i : Int)) * 104729) % 67)]) := by
          rw [putK_new]
          · unfold wK; rw [List.map_append]; rfl
          · cases e : valV (wK ws) (Sum.inr x.s) with
            | none => rfl
            | some v =>
              have := wK_has ws x
              rw [e, decide_eq_false hx] at this
              cases this
        dsimp only
        rw [hput]
        have nld2 : l ≠ d := nld
        have D3 : DsL (upd H' d (.dK (wK (ws ++ [(x, (n' / 3 + (0 + (i : Int)) * 104729) % 67)])))) l ps := ⟨by rw [upd_ne nld]; exact D2.l, fun p hp => by rw [upd_ne (ne_of (D2.t p hp) hd2 (by intro z; cases z))]; exact D2.t p hp⟩
        have s3 : Same H (upd H' d (.dK (wK (ws ++ [(x, (n' / 3 + (0 + (i : Int)) * 104729) % 67)])))) := s2.put hdH
        have hd3 : (upd H' d (.dK (wK (ws ++ [(x, (n' / 3 + (0 + (i : Int)) * 104729) % 67)])))) d = some (.dK (wK (ws ++ [(x, (n' / 3 + (0 + (i : Int)) * 104729) % 67)]))) := upd_same
        generalize (upd H' d (.dK (wK (ws ++ [(x, (n' / 3 + (0 + (i : Int)) * 104729) % 67)])))) = H3 at D3 s3 hd3 ⊢
        refine ⟨_, rfl, .inl ⟨rfl, _, .of D3.l⟩, _, rfl, _, rfl, _, _, rfl, rfl, (show (0 : Int) < 67 by decide), small (k := 3) (Nat.le_refl _) (by decide), fun t ht => ?_⟩
        have s4 : Same H3 (upd H3 t (.tup (encD (.arrive x ((n' / 3 + (0 + (i : Int)) * 104729) % 67))))) := Same.upd ht
        refine ⟨l, _, _, rfl, rfl, s4 _ _ D3.l, small' (k := 3) (by rw [List.length_map]; omega) (by decide), ?_⟩
        have a0 : 0 ≤ (n' / 3 + (0 + (i : Int)) * 104729) % 67 := Int.emod_nonneg _ (by decide)
        have a1 : (n' / 3 + (0 + (i : Int)) * 104729) % 67 < 67 := Int.emod_lt_of_pos _ (by decide)
        refine ⟨_, ws ++ [(x, (n' / 3 + (0 + (i : Int)) * 104729) % 67)], ps ++ [(t, _)], _, _, rfl, n2, (s3.trans s4).put hl, ?_, (D3.same s4).push upd_same, ?_, ⟨?_, ?_⟩, ?_, ?_⟩
        · rw [upd_ne nld.symm]; exact s4 _ _ hd3
        · rw [List.map_append, e2]; unfold arr; rw [List.map_append]; rfl
        · rw [List.map_append]; exact nd_snoc ok2.nd hx
        · intro p hp
          rcases List.mem_append.mp hp with hp | hp
          · exact ok2.age p hp
          · rw [List.mem_singleton.mp hp]; exact ⟨a0, by show _ % 67 ≤ (120 : Int); omega⟩
        · rw [List.length_append, List.length_cons, List.length_nil]; omega
        · intro _ z; simp at z
      · refine ⟨_, ws, ps, _, _, rfl, n2, s2, hd2, D2, e2, ok2, by omega, fun _ z => ?_⟩
        rw [z] at hb
        cases hb
    · rintro σ H' ⟨n', ws, ps, v3, v4, rfl, hn', s2, hd2, D2, e2, ok2, l2, ne2⟩
      exact ⟨_, rfl, k H' l ps ws s2 hl D2 e2 ok2 (ne2 (by omega)) (by omega)⟩
/-! ### names that the law draws -/
namespace M
theorem near_of_root {m : M} {n : Nm} (h : m.isB ⟨n.w, []⟩ = true) : ∃ r, m.near n = some r := by
  have : ∀ k, ∃ r, m.nearK n.w n.l k = some r := by
    intro k
    induction k with
    | zero => exact ⟨_, if_pos h⟩
    | succ k ih =>
      unfold nearK
      by_cases c : m.isB ⟨n.w, n.l.take (k + 1)⟩ = true
      · exact ⟨_, if_pos c⟩
      · rw [if_neg c]; exact ih
  exact this _
theorem up_root {m : M} (W : m.WF) : ∀ (l : List Nat) (w : Wd), m.isB ⟨w, l⟩ = true → m.isB ⟨w, []⟩ = true := by
  intro l
  induction h : l.length generalizing l with
  | zero => intro w hb; rw [List.length_eq_zero_iff.mp h] at hb; exact hb
  | succ k ih =>
    intro w hb
    rcases root_or ⟨w, l⟩ with ⟨v, e⟩ | ⟨p, j, e⟩
    · injection e with _ e2
      rw [e2] at h; simp at h
    · rw [e] at hb
      have h2 := W.up p j hb
      injection e with e1 e2
      rw [e1]
      rw [e2] at h
      refine ih p.l ?_ p.w h2
      simpa using h
end M
/-- a name that the law may draw: its word is in the book -/
structure Dr (m : M) (n : Nm) : Prop where
  two : Two n
  root : m.isB ⟨n.w, []⟩ = true
theorem Dr.ok {m : M} {n : Nm} (d : Dr m n) : NmOk m n := ⟨d.two, M.near_of_root d.root⟩
theorem Dr.of_isB {m : M} (W : m.WF) (hz : m.bo.length ≤ 99) {n : Nm} (h : m.isB n = true) : Dr m n :=
  ⟨⟨W.dep n h, fun i hi => by have := W.nums n.l n.w h i hi; omega⟩, M.up_root W n.l n.w h⟩
theorem Dr.snoc {m : M} {n : Nm} (d : Dr m n) (h : n.l.length < 5) {i : Nat} (h1 : 1 ≤ i) (h9 : i ≤ 99) : Dr m (n.snoc i) := by
  refine ⟨⟨?_, ?_⟩, d.root⟩
  · show (n.l ++ [i]).length ≤ 5
    simp; omega
  · intro j hj
    rcases List.mem_append.mp hj with hj | hj
    · exact d.two.2 j hj
    · rw [List.mem_singleton.mp hj]; exact ⟨h1, h9⟩
theorem pick5 (i : Int) (h0 : 0 ≤ i) (h5 : i < 5) : ∃ y : Int, atI [V.int 0, V.int 1, V.int 0, V.int 2, V.int 1] i = some (.int y) ∧ 0 ≤ y ∧ y ≤ 2 := by
  obtain ⟨j, rfl⟩ : ∃ j : Nat, i = j := ⟨i.toNat, by omega⟩
  have hj : j < 5 := by omega
  match j, hj with
  | 0, _ => exact ⟨0, atI_nat (j := 0) rfl, by decide, by decide⟩
  | 1, _ => exact ⟨1, atI_nat (j := 1) rfl, by decide, by decide⟩
  | 2, _ => exact ⟨0, atI_nat (j := 2) rfl, by decide, by decide⟩
  | 3, _ => exact ⟨2, atI_nat (j := 3) rfl, by decide, by decide⟩
  | 4, _ => exact ⟨1, atI_nat (j := 4) rfl, by decide, by decide⟩
structure LawM (H : Hp) (A : MA) (m : M) : Prop where
  b : MAt H A m
  wf : m.WF
  z : m.bo.length ≤ 30
  ne : m.bo ≠ []
theorem LawM.same {H H' : Hp} {A : MA} {m : M} (L : LawM H A m) (s : Same H H') : LawM H' A m := ⟨L.b.same s, L.wf, L.z, L.ne⟩
def sp_path : Sp := fun vs H Q _ => ∃ A m n, vs = [.ref (MA.t A), .int n] ∧ LawM H A m ∧ 0 ≤ n ∧ ∀ H' c, Same H H' → Dr m c → Q (nmV c) H'
theorem sc__law_path : FnScope ["_law_model_here", "_law_n", "_law_names", "_law_name", "_law_k"] ["_law_model_here", "_law_n"] (defScope s__law_path) :=
  ⟨rfl, rfl, rfl, by decide +kernel, rfl, by decide +kernel, by decide +kernel⟩
theorem ok__law_path (T : Txt K mg) : Cal P w K mg base 1 "_law_path" ["_law_model_here", "_law_n"] sp_path := by
  refine cal_of T.g__law_path T.f__law_path sc__law_path (fun _ _ _ _ _ _ us hl => match us, hl with | [_, _], _ => rfl) (fun vs H Q E h => ?_) (fun f cdv A outer s H vs Q E hr h => ?_)
  · obtain ⟨A, m, n, rfl, _⟩ := h; rfl
  · obtain ⟨a, m, n, rfl, L, hn, k⟩ := h
    have hu := hu_of hr
    refine ⟨_, (pss_cons (ps_set (i := 2) sc__law_path.nd rfl (by first | exact Or.inl rfl | exact Or.inr rfl) (pe_callTy (call_list_dK rfl) (by rfl) T.b_list (by decide +kernel) (pa_cons (pe_ix (ix_tupK K) (pv 0) pe_int (fun _ _ => rfl)) pa_nil)))
        (pss_cons (ps_set (i := 3) sc__law_path.nd rfl (by first | exact Or.inl rfl | exact Or.inr rfl) (pe_ix (ix_listK K) (pv 2) (pe_op op_mod (pv 1) (pe_callB (call_lenK K) (by rfl) T.b_len PySem.boot_len (pa_cons (pv 2) pa_nil))) (fun _ _ => rfl)))
        (pss_cons (ps_set (i := 1) sc__law_path.nd rfl (by first | exact Or.inl rfl | exact Or.inr rfl) (pe_op op_fdiv (pv 1) (pe_callB (call_lenK K) (by rfl) T.b_len PySem.boot_len (pa_cons (pv 2) pa_nil))))
        (pss_cons (ps_for PassesOwn.never rfl (pi_range1 rfl T.b_range (pa_cons (pe_ix (ix_listK K) (pe_lst (pa_cons pe_int (pa_cons pe_int (pa_cons pe_int (pa_cons pe_int (pa_cons pe_int pa_nil)))))) (pe_op op_mod (pv 1) pe_int) (fun _ _ => rfl)) pa_nil)) (pg_name (i := 4) sc__law_path.nd rfl (by first | exact Or.inl rfl | exact Or.inr rfl)) (pss_cons (ps_set (i := 1) sc__law_path.nd rfl (by first | exact Or.inl rfl | exact Or.inr rfl) (pe_op op_fdiv (pv 1) pe_int))
        (pss_one (ps_if (pt_cmpR op_lt (pe_m1 PySem.F.slot_str_count PySem.F.type_str_count mt_count (pv 3) pe_str) pe_int (nomark _)) (pss_one (ps_set (i := 3) sc__law_path.nd rfl (by first | exact Or.inl rfl | exact Or.inr rfl) (pe_op op_add_str (pe_op op_add_str (pv 3) pe_str) (pe_callTy call_str_int (by rfl) T.b_str (by decide +kernel) (pa_cons (pe_op op_add pe_int (pe_op op_mod (pv 1) pe_int)) pa_nil))))) pss_nil))))
        (pss_one (ps_ret (pv 3))))))), ?_⟩
    have ht := L.b.t
    have hpos : 0 < m.bo.length := List.length_pos_iff.mpr L.ne
    have hz := L.z
    refine ⟨_, rfl, _, _, _, _, rfl, rfl, .of (ht), atI_nat (j := 1) rfl, a.b, _, rfl, L.b.b, fun p hp => ?_⟩
    have ek : ((kN m.bo).map fun kv => kV kv.1) = (m.bo.map (·.1)).map nmV := by
      unfold kN kvs
      rw [List.map_map, List.map_map]; rfl
    rw [ek]
    have s1 : Same H (upd H p (.lst ((m.bo.map (·.1)).map nmV))) := Same.upd hp
    have hp1 : (upd H p (.lst ((m.bo.map (·.1)).map nmV))) p = some (.lst ((m.bo.map (·.1)).map nmV)) := upd_same
    show tSeq _ _ _ _ (upd H p (.lst ((m.bo.map (·.1)).map nmV)))
    generalize (upd H p (.lst ((m.bo.map (·.1)).map nmV))) = H1 at s1 hp1 ⊢
    have el : ((m.bo.map (·.1)).map nmV).length = m.bo.length := by rw [List.length_map, List.length_map]
    have z0 : 0 ≤ n % (m.bo.length : Int) := Int.emod_nonneg _ (by omega)
    have z1 : n % (m.bo.length : Int) < (m.bo.length : Int) := Int.emod_lt_of_pos _ (by omega)
    obtain ⟨c, hc, hat⟩ := at_nm (l := m.bo.map (·.1)) z0 (by rw [List.length_map]; exact z1)
    have dc := Dr.of_isB L.wf (by omega) (M.isB_mem.mpr hc)
    refine ⟨_, rfl, _, rfl, _, rfl, _, _, rfl, .inl ⟨_, .of hp1, rfl⟩, _, _, rfl, rfl, (by rw [el]; omega), p, _, _, nmV c, rfl, rfl, .of hp1, (by rw [el]; exact hat), ?_⟩
    refine ⟨_, rfl, _, rfl, _, _, rfl, .inl ⟨_, .of hp1, rfl⟩, _, _, rfl, rfl, ⟨by rw [el]; omega, by rw [el]; omega⟩, ?_⟩
    rw [el]
    have n1 : 0 ≤ n / (m.bo.length : Int) := Int.ediv_nonneg hn (by omega)
    refine ⟨small (k := 5) (Nat.le_refl _) (by decide), fun l hl => ?_⟩
    have y0 : 0 ≤ n / (m.bo.length : Int) % 5 := Int.emod_nonneg _ (by decide)
    have y1 : n / (m.bo.length : Int) % 5 < 5 := Int.emod_lt_of_pos _ (by decide)
    obtain ⟨y, hy, hy0, hy2⟩ := pick5 _ y0 y1
    refine ⟨_, rfl, _, _, rfl, rfl, (show (0 : Int) < 5 by decide), l, _, _, _, rfl, rfl, .of upd_same, hy, _, rfl, by omega, by omega, ?_⟩
    refine for_range (lo := 0) (n := y.toNat) (fun i σ H' => ∃ n' c v, σ = [some (.ref a.t), some (.int n'), some (.ref p), some (nmV c), v] ∧ 0 ≤ n' ∧ Same H H' ∧ Dr m c) ⟨_, c, none, rfl, n1, s1.trans (Same.upd hl), dc⟩ ?_ ?_
    · rintro i σ H' hi ⟨n', c, v, rfl, hn', s2, dc⟩
      refine ⟨_, rfl, _, _, rfl, rfl, ⟨by decide, by decide⟩, ?_⟩
      have n2 : 0 ≤ n' / 5 := Int.ediv_nonneg hn' (by decide)
      refine ⟨_, rfl, ⟨_, rfl⟩, _, _, rfl, rfl, _, _, rfl, rfl, _, rfl, ?_⟩
      rw [count_nm]
      refine ifB (fun h5 => ?_) (fun _ => ?_)
      · have h5 : (c.l.length : Int) < 5 := of_decide_eq_true h5
        have x0 : 0 ≤ n' / 5 % 3 := Int.emod_nonneg _ (by decide)
        have x1 : n' / 5 % 3 < 3 := Int.emod_lt_of_pos _ (by decide)
        have hL := dc.two.len
        have e1 : dot.length = 1 := by decide +kernel
        obtain ⟨j, hj⟩ : ∃ j : Nat, n' / 5 % 3 = j := ⟨(n' / 5 % 3).toNat, by omega⟩
        have e3 := num_len' (i := j + 1) (by omega)
        have ej : Str.ofString (toString (1 + n' / 5 % 3)) = num (j + 1) := by rw [hj, Int.add_comm]; rfl
        refine ⟨_, rfl, _, _, rfl, rfl, small (k := 60) (by show (enc c).length + dot.length ≤ 60; omega) (by decide), _, rfl, _, _, rfl, rfl, (show (0 : Int) < 3 by decide), _, _, rfl, rfl, _, rfl, log_ok (by omega), _, _, rfl, rfl, ?_, ?_⟩
        · rw [ej]
          show (enc c ++ dot).length + (num (j + 1)).length ≤ sizeLine
          rw [dot_len]
          exact small (k := 100) (by omega) (by decide)
        · have ev : nmV (c.snoc (j + 1)) = V.str ((enc c ++ Str.ofString ".") ++ Str.ofString (toString (1 + n' / 5 % 3))) := by
            rw [ej]
            show V.str (enc (c.snoc (j + 1))) = _
            rw [enc_snoc]
          refine ⟨n' / 5, c.snoc (j + 1), some (.int (0 + (i : Int))), ?_, n2, s2, dc.snoc (by omega) (by omega) (by omega)⟩
          rw [ev]; rfl
      · exact ⟨_, c, _, rfl, n2, s2, dc⟩
    · rintro σ H' ⟨n', c, v, rfl, hn', s2, dc⟩
      exact ⟨_, rfl, k H' c s2 dc⟩
end
end DH

namespace DH
open PySem PySem.Spec PyProof.Rows L2 TL
section
variable {P : Program} {w : World} {K : PySem.W.Frag} {mg : Str → Option Value} {base : Heap}
def AtomFit : Atom → Prop
  | .age _ k => 0 ≤ k ∧ k ≤ 120
  | _ => True
theorem pick2 (a b : V) (i : Int) (h0 : 0 ≤ i) (h2 : i < 2) : ∃ v, atI [a, b] i = some v ∧ (v = a ∨ v = b) := by
  obtain ⟨j, rfl⟩ : ∃ j : Nat, i = j := ⟨i.toNat, by omega⟩
  have hj : j < 2 := by omega
  match j, hj with
  | 0, _ => exact ⟨a, atI_nat (j := 0) rfl, .inl rfl⟩
  | 1, _ => exact ⟨b, atI_nat (j := 1) rfl, .inr rfl⟩
theorem pick3 (a b c : V) (i : Int) (h0 : 0 ≤ i) (h2 : i < 3) : ∃ v, atI [a, b, c] i = some v ∧ (v = a ∨ v = b ∨ v = c) := by
  obtain ⟨j, rfl⟩ : ∃ j : Nat, i = j := ⟨i.toNat, by omega⟩
  have hj : j < 3 := by omega
  match j, hj with
  | 0, _ => exact ⟨a, atI_nat (j := 0) rfl, .inl rfl⟩
  | 1, _ => exact ⟨b, atI_nat (j := 1) rfl, .inr (.inl rfl)⟩
  | 2, _ => exact ⟨c, atI_nat (j := 2) rfl, .inr (.inr rfl)⟩
theorem pickB (a b : V) (k : Bool) : atI [a, b] (if k = true then 1 else 0) = some (if k = true then b else a) := by
  cases k
  · exact atI_nat (j := 0) rfl
  · exact atI_nat (j := 1) rfl
def sp_need : Sp := fun vs H Q _ => ∃ A m n, vs = [.ref (MA.t A), .int n] ∧ LawM H A m ∧ 0 ≤ n ∧ ∀ H' t x, Same H H' → H t = none → H' t = some (.tup (encA x)) → AtomOk m x → AtomFit x → Q (.ref t) H'
theorem sc__law_need : FnScope ["_law_model_here", "_law_n", "_law_kind", "_law_name"] ["_law_model_here", "_law_n"] (defScope s__law_need) :=
  ⟨rfl, rfl, rfl, by decide +kernel, rfl, by decide +kernel, by decide +kernel⟩
theorem ok__law_need (T : Txt K mg) : Cal P w K mg base 2 "_law_need" ["_law_model_here", "_law_n"] sp_need := by
  obtain ⟨f__law_path, fd__law_path, g__law_path, k__law_path, b__law_path, G__law_path⟩ := ok__law_path T
  obtain ⟨f__law_word, fd__law_word, g__law_word, k__law_word, b__law_word, G__law_word⟩ := ok__law_word T
  refine cal_of T.g__law_need T.f__law_need sc__law_need (fun _ _ _ _ _ _ us hl => match us, hl with | [_, _], _ => rfl) (fun vs H Q E h => ?_) (fun f cdv A outer s H vs Q E hr h => ?_)
  · obtain ⟨A, m, n, rfl, _⟩ := h; rfl
  · obtain ⟨a, m, n, rfl, L, hn, k⟩ := h
    refine ⟨_, (pss_cons (ps_set (i := 2) sc__law_need.nd rfl (by first | exact Or.inl rfl | exact Or.inr rfl) (pe_op op_mod (pv 1) pe_int))
        (pss_cons (ps_set (i := 1) sc__law_need.nd rfl (by first | exact Or.inl rfl | exact Or.inr rfl) (pe_op op_fdiv (pv 1) pe_int))
        (pss_cons (ps_if (pt_cmpR op_eq (pv 2) pe_int (nomark _)) (pss_one (ps_ret (pe_tup (pa_cons pe_str (pa_cons (pe_op op_mod (pe_ix (ix_listK K) (pe_lst (pa_cons (pe_callB (call_max2 rfl) (by rfl) T.b_max (by decide +kernel) (pa_cons pe_int (pa_cons (pe_op op_sub (pe_op op_add (pe_ix (ix_listK K) (pe_ix (ix_tupK K) (pv 0) pe_int (fun _ _ => rfl)) pe_int (fun _ _ => rfl)) (pe_op op_mod (pv 1) pe_int)) pe_int) pa_nil))) (pa_cons (pe_op op_fdiv (pv 1) pe_int) pa_nil))) (pe_op op_mod (pe_op op_fdiv (pv 1) pe_int) pe_int) (fun _ _ => rfl)) pe_int) pa_nil))))) pss_nil)
        (pss_cons (ps_if (pt_cmpR op_eq (pv 2) pe_int (nomark _)) (pss_one (ps_ret (pe_tup (pa_cons pe_str (pa_cons (pe_ix (ix_listK K) (pe_lst (pa_cons pe_str (pa_cons pe_str (pa_cons pe_str (pa_cons (pe_call G__law_word (hr.mono (by decide)) rfl g__law_word k__law_word b__law_word .nil pass0 (pa_cons (pe_op op_fdiv (pv 1) pe_int) pa_nil)) pa_nil))))) (pe_op op_mod (pv 1) pe_int) (fun _ _ => rfl)) pa_nil))))) pss_nil)
        (pss_cons (ps_set (i := 3) sc__law_need.nd rfl (by first | exact Or.inl rfl | exact Or.inr rfl) (pe_call G__law_path (hr.mono (by decide)) rfl g__law_path k__law_path b__law_path .nil pass0 (pa_cons (pv 0) (pa_cons (pe_op op_fdiv (pv 1) pe_int) pa_nil))))
        (pss_cons (ps_if (pt_cmpR op_lt (pv 2) pe_int (nomark _)) (pss_one (ps_ret (pe_tup (pa_cons (pe_ix (ix_listK K) (pe_lst (pa_cons pe_str (pa_cons pe_str (pa_cons pe_str pa_nil)))) (pe_op op_sub (pv 2) pe_int) (fun _ _ => rfl)) (pa_cons (pv 3) pa_nil))))) pss_nil)
        (pss_one (ps_ret (pe_tup (pa_cons pe_str (pa_cons (pv 3) (pa_cons (pe_ix (ix_listK K) (pe_lst (pa_cons (pe_op op_mod (pv 1) pe_int) (pa_cons (pe_op op_mod (pv 1) pe_int) pa_nil))) (pe_op op_mod (pe_op op_fdiv (pv 1) pe_int) pe_int) (fun _ _ => rfl)) pa_nil)))))))))))), ?_⟩
    have ht := L.b.t
    have B := L.b
    have z0 : 0 ≤ n % 8 := Int.emod_nonneg _ (by decide)
    have z8 : n % 8 < 8 := Int.emod_lt_of_pos _ (by decide)
    have n8 : 0 ≤ n / 8 := Int.ediv_nonneg hn (by decide)
    refine ⟨_, rfl, _, _, rfl, rfl, (show (0 : Int) < 8 by decide), _, rfl, _, _, rfl, rfl, ⟨by decide, by decide⟩, ?_⟩
    refine ⟨_, rfl, rfl, _, rfl, ?_⟩
    refine ifB (fun hb => ?_) (fun hb => ?_)
    · refine ⟨_, rfl, _, _, _, _, rfl, rfl, .of (ht), atI_nat (j := 0) rfl, a.c, _, _, _, rfl, rfl, .of B.c, atI_nat (j := 0) rfl, _, rfl, _, _, rfl, rfl, (show (0 : Int) < 97 by decide), _, _, rfl, rfl, _, _, rfl, rfl, _, _, rfl, _, rfl, _, _, rfl, rfl, ⟨by decide, by decide⟩, small (k := 2) (Nat.le_refl _) (by decide), fun l hl => ?_⟩
      have y0 : 0 ≤ n / 8 / 9 % 2 := Int.emod_nonneg _ (by decide)
      have y1 : n / 8 / 9 % 2 < 2 := Int.emod_lt_of_pos _ (by decide)
      have s1 := Same.upd (o := .lst [V.int (if m.yr + n / 8 % 97 - 20 > 0 then m.yr + n / 8 % 97 - 20 else 0), V.int (n / 8 / 97)]) hl
      have fin : ∀ y : Int, (tC (.int 10000)) (start ["_law_model_here", "_law_n", "_law_kind", "_law_name"] [.ref a.t, .int n]) (upd H l (.lst [V.int (if m.yr + n / 8 % 97 - 20 > 0 then m.yr + n / 8 % 97 - 20 else 0), V.int (n / 8 / 97)])) fun v H2 => (rI (fun _ j => 0 < j) fun i j => .int (i % j)) (.int y) v H2 fun w H3 => ([V.str "year", w] : List V).length ≤ sizeLine ∧ ∀ p, H3 p = none → Q (.ref p) (upd H3 p (.tup [V.str "year", w])) := fun y =>
        ⟨_, _, rfl, rfl, (show (0 : Int) < 10000 by decide), small (k := 2) (Nat.le_refl _) (by decide), fun t ht => k _ t (.year (y % 10000)) (s1.put (s1.free ht)) (s1.free ht) upd_same (fun x hx => by cases hx) trivial⟩
      obtain ⟨v, hv, rfl | rfl⟩ := pick2 (V.int (if m.yr + n / 8 % 97 - 20 > 0 then m.yr + n / 8 % 97 - 20 else 0)) (V.int (n / 8 / 97)) _ y0 y1
      · exact ⟨_, rfl, _, _, rfl, rfl, ⟨by decide, by decide⟩, _, _, rfl, rfl, (show (0 : Int) < 2 by decide), l, _, _, _, rfl, rfl, .of upd_same, hv, fin _⟩
      · exact ⟨_, rfl, _, _, rfl, rfl, ⟨by decide, by decide⟩, _, _, rfl, rfl, (show (0 : Int) < 2 by decide), l, _, _, _, rfl, rfl, .of upd_same, hv, fin _⟩
    · have k0 : ¬ n % 8 = 0 := fun z => of_decide_eq_false hb (by show V.int _ = V.int _; rw [z])
      refine ⟨_, rfl, rfl, _, rfl, ?_⟩
      refine ifB (fun hb => ?_) (fun hb => ?_)
      · have y0 : 0 ≤ n / 8 % 4 := Int.emod_nonneg _ (by decide)
        have y1 : n / 8 % 4 < 4 := Int.emod_lt_of_pos _ (by decide)
        refine ⟨_, rfl, _, _, rfl, rfl, ⟨by decide, by decide⟩, _, rfl, Int.ediv_nonneg n8 (by decide), fun x => ⟨small (k := 4) (Nat.le_refl _) (by decide), fun l hl => ?_⟩⟩
        obtain ⟨y, hy⟩ := pick4 x _ y0 y1
        refine ⟨_, rfl, _, _, rfl, rfl, (show (0 : Int) < 4 by decide), l, _, _, .str y.s, rfl, rfl, .of upd_same, hy, small (k := 2) (Nat.le_refl _) (by decide), fun t ht => ?_⟩
        have s1 := Same.upd (o := .lst [V.str "war", V.str "flood", V.str "a", V.str x.s]) hl
        exact k _ t (.comes y) (s1.put (s1.free ht)) (s1.free ht) upd_same (fun x hx => by cases hx) trivial
      · have k1 : ¬ n % 8 = 1 := fun z => of_decide_eq_false hb (by show V.int _ = V.int _; rw [z])
        refine ⟨_, rfl, _, rfl, _, _, rfl, rfl, ⟨by decide, by decide⟩, a, m, _, rfl, L, Int.ediv_nonneg n8 (by decide), fun H1 c s1 dc => ?_⟩
        refine ⟨_, rfl, _, _, rfl, rfl, _, rfl, ?_⟩
        refine ifB (fun hb => ?_) (fun hb => ?_)
        · have k5 : n % 8 < 5 := of_decide_eq_true hb
          refine ⟨small (k := 3) (Nat.le_refl _) (by decide), fun l hl => ?_⟩
          obtain ⟨v, hv, hv2⟩ := pick3 (V.str "born") (V.str "dead") (V.str "dead") (n % 8 - 2) (by omega) (by omega)
          have s2 := Same.upd (o := .lst [V.str "born", V.str "dead", V.str "dead"]) hl
          have s12 := s1.trans s2
          refine ⟨_, rfl, _, _, rfl, rfl, l, _, _, v, rfl, rfl, .of upd_same, hv, _, rfl, small (k := 2) (Nat.le_refl _) (by decide), fun t ht => ?_⟩
          have s3 := s12.put (o := .tup [v, nmV c]) (s12.free ht)
          rcases hv2 with rfl | rfl | rfl
          · exact k _ t (.born c) s3 (s12.free ht) upd_same (fun x hx => by cases hx; exact dc.ok) trivial
          · exact k _ t (.dead c) s3 (s12.free ht) upd_same (fun x hx => by cases hx; exact dc.ok) trivial
          · exact k _ t (.dead c) s3 (s12.free ht) upd_same (fun x hx => by cases hx; exact dc.ok) trivial
        · refine ⟨_, rfl, _, rfl, _, _, rfl, rfl, (show (0 : Int) < 37 by decide), _, rfl, _, _, rfl, rfl, (show (0 : Int) < 121 by decide), small (k := 2) (Nat.le_refl _) (by decide), fun l hl => ?_⟩
          have y0 : 0 ≤ n / 8 / 121 % 2 := Int.emod_nonneg _ (by decide)
          have y1 : n / 8 / 121 % 2 < 2 := Int.emod_lt_of_pos _ (by decide)
          obtain ⟨v, hv, hv2⟩ := pick2 (V.int (n / 8 % 37)) (V.int (n / 8 % 121)) _ y0 y1
          have s2 := Same.upd (o := .lst [V.int (n / 8 % 37), V.int (n / 8 % 121)]) hl
          have s12 := s1.trans s2
          refine ⟨_, rfl, _, _, rfl, rfl, ⟨by decide, by decide⟩, _, _, rfl, rfl, (show (0 : Int) < 2 by decide), l, _, _, v, rfl, rfl, .of upd_same, hv, small (k := 3) (Nat.le_refl _) (by decide), fun t ht => ?_⟩
          have a0 : 0 ≤ n / 8 % 37 := Int.emod_nonneg _ (by decide)
          have a1 : n / 8 % 37 < 37 := Int.emod_lt_of_pos _ (by decide)
          have b0 : 0 ≤ n / 8 % 121 := Int.emod_nonneg _ (by decide)
          have b1 : n / 8 % 121 < 121 := Int.emod_lt_of_pos _ (by decide)
          have s3 := s12.put (o := .tup [V.str "age", nmV c, v]) (s12.free ht)
          rcases hv2 with rfl | rfl
          · exact k _ t (.age c (n / 8 % 37)) s3 (s12.free ht) upd_same (fun x hx => by cases hx; exact dc.ok) ⟨a0, by omega⟩
          · exact k _ t (.age c (n / 8 % 121)) s3 (s12.free ht) upd_same (fun x hx => by cases hx; exact dc.ok) ⟨b0, by omega⟩
structure AtsOk (m : M) (ps : List (Addr × Atom)) : Prop where
  ok : ∀ p ∈ ps, AtomOk m p.2
  fit : ∀ p ∈ ps, AtomFit p.2
def sp_needs (K : PySem.W.Frag) : Sp := fun vs H Q _ => ∃ A m n most, vs = [.ref (MA.t A), .int n, .int most] ∧ LawM H A m ∧ 0 ≤ n ∧ 0 ≤ most ∧ most ≤ 6 ∧ ∀ H' p ps, Same H H' → H p = none → AtL K H' p ps → AtsOk m ps → ps.length ≤ 6 → Q (.ref p) H'
theorem sc__law_needs : FnScope ["_law_model_here", "_law_n", "_law_most", "_law_k"] ["_law_model_here", "_law_n", "_law_most"] (defScope s__law_needs) :=
  ⟨rfl, rfl, rfl, by decide +kernel, rfl, by decide +kernel, by decide +kernel⟩
theorem ok__law_needs (T : Txt K mg) : Cal P w K mg base 3 "_law_needs" ["_law_model_here", "_law_n", "_law_most"] (sp_needs K) := by
  obtain ⟨f__law_need, fd__law_need, g__law_need, k__law_need, b__law_need, G__law_need⟩ := ok__law_need T
  obtain ⟨f__law_rich, fd__law_rich, g__law_rich, k__law_rich, b__law_rich, G__law_rich⟩ := ok__law_rich T
  refine cal_of T.g__law_needs T.f__law_needs sc__law_needs (fun _ _ _ _ _ _ us hl => match us, hl with | [_, _, _], _ => rfl) (fun vs H Q E h => ?_) (fun f cdv A outer s H vs Q E hr h => ?_)
  · obtain ⟨A, m, n, most, rfl, _⟩ := h; rfl
  · obtain ⟨a, m, n, most, rfl, L, hn, h0, h6, k⟩ := h
    refine ⟨_, (pss_one (ps_ret (pe_lc (own := [("_law_k", 3)]) rfl sc__law_needs.nd (pi_range1 rfl T.b_range (pa_cons (pe_op op_mod (pv 1) (pe_op op_add (pv 2) pe_int)) pa_nil)) (blkOk_by (own := [("_law_k", 3)]) (N := ["_law_model_here", "_law_n", "_law_most", "_law_k"]) (sc := defScope s__law_needs) (by decide +kernel)) (fun _ _ _ _ _ => pg_name (i := 3) sc__law_needs.nd rfl (Or.inl rfl)) (fun _ _ _ _ _ => pts_nil) (fun _ _ _ _ _ => (pe_call G__law_need (hr.mono (by decide)) rfl g__law_need k__law_need b__law_need .nil pass0 (pa_cons (pv 0) (pa_cons (pe_call G__law_rich (hr.mono (by decide)) rfl g__law_rich k__law_rich b__law_rich .nil pass0 (pa_cons (pe_op op_add (pe_op op_mod (pv 1) pe_int) (pe_op op_mul pe_int (pv 3))) (pa_cons (pe_op op_add (pv 3) pe_int) pa_nil))) pa_nil))))))), ?_⟩
    have y0 : 0 ≤ n % (most + 1) := Int.emod_nonneg _ (by omega)
    have y1 : n % (most + 1) < most + 1 := Int.emod_lt_of_pos _ (by omega)
    refine ⟨_, rfl, _, rfl, _, _, rfl, rfl, _, _, rfl, rfl, (show (0 : Int) < most + 1 by omega), _, rfl, by omega, by omega, fun D hD => ?_⟩
    refine lc_range (lo := 0) (n := (n % (most + 1)).toNat) (tt := tYes) (fun i H' => ∃ ps : List (Addr × Atom), Same H H' ∧ H' D = some (.lst (ps.map rV)) ∧ (∀ p ∈ ps, H' p.1 = some (.tup (encA p.2))) ∧ AtsOk m ps ∧ ps.length = i) ⟨[], Same.upd hD, upd_same, fun p hp => (nomatch hp), ⟨fun p hp => (nomatch hp), fun p hp => (nomatch hp)⟩, rfl⟩ ?_ ?_
    · rintro i H' hi ⟨ps, s1, hD1, t1, ok1, l1⟩
      refine ⟨rfl, ?_⟩
      refine ⟨_, rfl, _, rfl, _, _, rfl, rfl, (show (0 : Int) < 1000000007 by decide), _, rfl, _, _, rfl, rfl, .inl ⟨by decide, by decide⟩, _, _, rfl, rfl, _, rfl, _, _, rfl, rfl, _, _, rfl, fun c hc => ?_⟩
      refine ⟨a, m, c, rfl, L.same s1, hc, fun H2 t x s2 ht ht1 okx fitx => ?_⟩
      refine ⟨_, s2 _ _ hD1, small' (k := 10) (by rw [List.length_map]; omega) (by decide), ps ++ [(t, x)], (s1.trans s2).put hD, by rw [upd_same, List.map_append]; rfl, ?_, ⟨?_, ?_⟩, by simp [l1]⟩
      · intro p hp
        have hn2 : ∀ {q : Addr} {xs : List V}, H2 q = some (.tup xs) → q ≠ D := fun h => ne_of h (s2 _ _ hD1) (by intro z; cases z)
        rcases List.mem_append.mp hp with hp | hp
        · have := s2 _ _ (t1 p hp)
          rw [upd_ne (hn2 this)]; exact this
        · rw [List.mem_singleton.mp hp]
          rw [upd_ne (hn2 ht1)]; exact ht1
      · intro p hp
        rcases List.mem_append.mp hp with hp | hp
        · exact ok1.ok p hp
        · rw [List.mem_singleton.mp hp]; exact okx
      · intro p hp
        rcases List.mem_append.mp hp with hp | hp
        · exact ok1.fit p hp
        · rw [List.mem_singleton.mp hp]; exact fitx
    · rintro H' ⟨ps, s1, hD1, t1, ok1, l1⟩
      exact k H' D ps s1 hD ⟨.of hD1, t1⟩ ok1 (by omega)
def sp_mnear : Sp := fun vs H Q _ => ∃ A m n r, vs = [.ref (MA.t A), nmV n] ∧ MAt H A m ∧ m.near n = some r ∧ Sm n ∧ Q (nmV r) H
theorem dotV : V.str "." = V.str ⟨#[46]⟩ := by decide +kernel
theorem sc__law_near : FnScope ["_law_model_here", "_law_name"] ["_law_model_here", "_law_name"] (defScope s__law_near) :=
  ⟨rfl, rfl, rfl, by decide +kernel, rfl, by decide +kernel, by decide +kernel⟩
theorem ok__law_near (T : Txt K mg) : Cal P w K mg base 1 "_law_near" ["_law_model_here", "_law_name"] sp_mnear := by
  refine cal_of T.g__law_near T.f__law_near sc__law_near (fun _ _ _ _ _ _ us hl => match us, hl with | [_, _], _ => rfl) (fun vs H Q E h => ?_) (fun f cdv A outer s H vs Q E hr h => ?_)
  · obtain ⟨A, m, n, r, rfl, _⟩ := h; rfl
  · obtain ⟨a, m, ⟨w0, l⟩, r, rfl, B, hn, sm, k⟩ := h
    have hu := hu_of hr
    have ht := B.t
    refine ⟨_, (pss_cons (ps_while PassesOwn.never (PW.pt (pw_and (pt_cmpR op_ne (pv 1) pe_str (nomark _)) (pw_and1 (pt_cmp (pc_dnotin hu (pv 1) (pe_ix (ix_tupK K) (pv 0) pe_int (fun _ _ => rfl))))))) (pss_one (ps_if (pt_cmpR op_in_sign pe_str (pv 1) rfl) (pss_one (ps_set (i := 1) sc__law_near.nd rfl (by first | exact Or.inl rfl | exact Or.inr rfl) (pe_slice sl_str (pv 1) po_none (po_some (pe_m1 PySem.F.slot_str_rfind PySem.F.type_str_rfind mt_rfind (pv 1) pe_str))))) (pss_one (ps_set (i := 1) sc__law_near.nd rfl (by first | exact Or.inl rfl | exact Or.inr rfl) pe_str)))))
        (pss_one (ps_ret (pv 1)))), ?_⟩
    refine ⟨fun j σ H' => σ = [some (.ref a.t), some (nmV ⟨w0, l.take j⟩)] ∧ H' = H ∧ j ≤ l.length ∧ m.nearK w0 l j = some r, ⟨l.length, by rw [List.take_length]; rfl, rfl, Nat.le_refl _, hn⟩, ?_⟩
    rintro j σ H' ⟨rfl, rfl, hj, hnj⟩
    have sm' : Sm ⟨w0, l.take j⟩ := ⟨by have h1 : l.length ≤ 5 := sm.1
                                        show (l.take j).length ≤ 5
                                        rw [List.length_take]; omega, fun i hi => sm.2 i (List.mem_of_mem_take hi)⟩
    refine ⟨_, rfl, rfl, _, rfl, ?_⟩
    refine ifB (fun _ => ?_) (fun hb => ?_)
    · refine ⟨_, rfl, _, rfl, _, _, _, _, rfl, rfl, .of (ht), atI_nat (j := 1) rfl, a.b, _, rfl, B.getB _, _, rfl, ?_⟩
      rw [mapSome]
      refine ifB (fun hb => ?_) (fun hb => ?_)
      · have hb' : m.isB ⟨w0, l.take j⟩ = false := by
          unfold M.isB
          cases e : (lk m.bo ⟨w0, l.take j⟩).isSome with
          | false => rfl
          | true => rw [e] at hb; cases hb
        obtain ⟨i, rfl, hi⟩ := M.nearK_miss hb' hnj
        refine ⟨fun σ H4 => σ = [some (.ref a.t), some (nmV ⟨w0, l.take i⟩)] ∧ H4 = H', fun σ' H4 ⟨e, e4⟩ => ⟨i, Nat.lt_succ_self _, e, e4, by omega, hi⟩, ?_⟩
        have et : (⟨w0, l.take (i + 1)⟩ : Nm) = (⟨w0, l.take i⟩ : Nm).snoc l[i] := by
          unfold Nm.snoc
          rw [take_snoc (List.getElem?_eq_getElem hj)]
        refine ⟨_, rfl, 46, enc ⟨w0, l.take (i + 1)⟩, dotV, rfl, _, rfl, ifT ?_ ?_⟩
        · refine decide_eq_true ((dot_in _).mpr ?_)
          show l.take (i + 1) ≠ []
          rw [take_snoc (List.getElem?_eq_getElem hj)]
          intro e
          cases (List.append_eq_nil_iff.mp e).2
        · refine ⟨_, rfl, _, rfl, ⟨_, rfl⟩, _, _, rfl, rfl, _, rfl, _, rfl, small (k := 60) (Nat.le_trans sm'.len (by decide)) (by decide), ?_, rfl⟩
          have e1 : Txt.rfind (enc ⟨w0, l.take (i + 1)⟩) (Str.ofString ".") = ((enc ⟨w0, l.take i⟩).length : Int) := by rw [et]; exact rfind_enc _ _
          have e2 : cutS (enc ⟨w0, l.take (i + 1)⟩) none (some (Txt.rfind (enc ⟨w0, l.take (i + 1)⟩) (Str.ofString "."))) = enc ⟨w0, l.take i⟩ := by rw [e1, et]; exact cut_enc _ _
          show [some (V.ref a.t), some (V.str (cutS (enc ⟨w0, l.take (i + 1)⟩) none (some (Txt.rfind (enc ⟨w0, l.take (i + 1)⟩) (Str.ofString ".")))))] = _
          rw [e2]
      · have hb' : m.isB ⟨w0, l.take j⟩ = true := by
          unfold M.isB
          cases e : (lk m.bo ⟨w0, l.take j⟩).isSome with
          | true => rfl
          | false => rw [e] at hb; cases hb
        rw [M.nearK_hit hb'] at hnj
        cases hnj
        exact ⟨_, rfl, k⟩
    · exfalso
      have hb : (!decide (nmV ⟨w0, l.take j⟩ = V.str "")) = false := hb
      rw [decide_eq_false (fun z => enc_ne _ (V.str.inj z))] at hb
      cases hb
def sp_mage : Sp := fun vs H Q _ => ∃ A m n, vs = [.ref (MA.t A), nmV n] ∧ MAt H A m ∧ m.isB n = true ∧ Q (.int (m.age n)) H
theorem sc__law_age : FnScope ["_law_model_here", "_law_name"] ["_law_model_here", "_law_name"] (defScope s__law_age) :=
  ⟨rfl, rfl, rfl, by decide +kernel, rfl, by decide +kernel, by decide +kernel⟩
theorem ok__law_age (T : Txt K mg) : Cal P w K mg base 1 "_law_age" ["_law_model_here", "_law_name"] sp_mage := by
  refine cal_of T.g__law_age T.f__law_age sc__law_age (fun _ _ _ _ _ _ us hl => match us, hl with | [_, _], _ => rfl) (fun vs H Q E h => ?_) (fun f cdv A outer s H vs Q E hr h => ?_)
  · obtain ⟨A, m, n, rfl, _⟩ := h; rfl
  · obtain ⟨a, m, n, rfl, B, hb, k⟩ := h
    have hu := hu_of hr
    have ht := B.t
    refine ⟨_, (pss_one (ps_ret (pe_op op_sub (pe_dget2 hu (pe_ix (ix_tupK K) (pv 0) pe_int (fun _ _ => rfl)) (pv 1) (pe_ix (ix_listK K) (pe_ix (ix_tupK K) (pv 0) pe_int (fun _ _ => rfl)) pe_int (fun _ _ => rfl)) ⟨rfl, rfl, rfl, rfl⟩) (pe_dget hu (pe_ix (ix_tupK K) (pv 0) pe_int (fun _ _ => rfl)) (pv 1) (fun _ _ => rfl))))), ?_⟩
    have g := B.getB n
    unfold M.isB at hb
    unfold M.age M.born at k
    cases e : lk m.bo n with
    | none => rw [e] at hb; cases hb
    | some y =>
      rw [e] at g k
      refine ⟨_, rfl, _, _, _, _, rfl, rfl, .of (ht), atI_nat (j := 2) rfl, a.d, rfl, .inl ⟨_, .of B.d⟩, _, rfl, _, rfl, _, _, _, _, rfl, rfl, .of (ht), atI_nat (j := 0) rfl, a.c, _, _, _, rfl, rfl, .of B.c, atI_nat (j := 0) rfl, _, B.getD n, _, rfl, _, _, _, _, rfl, rfl, .of (ht), atI_nat (j := 1) rfl, _, rfl, a.b, _, rfl, g, _, _, ?_, rfl, k⟩
      rw [mapGetD]
theorem atomS_unb {m : M} {n r : Nm} (hn : m.near n = some r) : m.unb n = if m.isD r = true then .failed else .hangs := by
  have hb := M.near_isB hn
  unfold M.unb M.nearLives
  rw [hn]
  show (if m.alive r = true then S3.hangs else S3.failed) = _
  unfold M.alive
  rw [hb]
  cases m.isD r <;> rfl
def sp_matom : Sp := fun vs H Q _ => ∃ A m t x, vs = [.ref (MA.t A), .ref t] ∧ MAt H A m ∧ m.WF ∧ AtomOk m x ∧ H t = some (.tup (encA x)) ∧ ∀ H', Same H H' → Q (sV (m.atomS x)) H'
theorem pickS (H : Hp) (l : Addr) (a b : S3) (k : Bool) (Q : VK) (h : Q (sV (if k = true then b else a)) H) : Q (if k = true then sV b else sV a) H := by cases k <;> exact h
theorem sc__law_atom : FnScope ["_law_model_here", "_law_atom_here", "_law_name"] ["_law_model_here", "_law_atom_here"] (defScope s__law_atom) :=
  ⟨rfl, rfl, rfl, by decide +kernel, rfl, by decide +kernel, by decide +kernel⟩
theorem ok__law_atom (T : Txt K mg) : Cal P w K mg base 2 "_law_atom" ["_law_model_here", "_law_atom_here"] sp_matom := by
  obtain ⟨f__law_age, fd__law_age, g__law_age, k__law_age, b__law_age, G__law_age⟩ := ok__law_age T
  obtain ⟨f__law_near, fd__law_near, g__law_near, k__law_near, b__law_near, G__law_near⟩ := ok__law_near T
  refine cal_of T.g__law_atom T.f__law_atom sc__law_atom (fun _ _ _ _ _ _ us hl => match us, hl with | [_, _], _ => rfl) (fun vs H Q E h => ?_) (fun f cdv A outer s H vs Q E hr h => ?_)
  · obtain ⟨A, m, t, x, rfl, _⟩ := h; rfl
  · obtain ⟨a, m, t, x, rfl, B, wf, ok, ht, k⟩ := h
    have hu := hu_of hr
    have hB := B.t
    refine ⟨_, (pss_cons (ps_if (pt_cmpR op_eq (pe_ix (ix_tupK K) (pv 1) pe_int (fun _ _ => rfl)) pe_str (nomark _)) (pss_one (ps_ret (pe_ix (ix_listK K) (pe_lst (pa_cons pe_str (pa_cons pe_str pa_nil))) (pe_callTy call_int1 (by rfl) T.b_int (by decide +kernel) (pa_cons (pe_cmpR op_ge (pe_ix (ix_listK K) (pe_ix (ix_tupK K) (pv 0) pe_int (fun _ _ => rfl)) pe_int (fun _ _ => rfl)) (pe_ix (ix_tupK K) (pv 1) pe_int (fun _ _ => rfl)) (nomark _)) pa_nil)) (fun _ _ => rfl)))) pss_nil)
        (pss_cons (ps_if (pt_cmpR op_eq (pe_ix (ix_tupK K) (pv 1) pe_int (fun _ _ => rfl)) pe_str (nomark _)) (pss_one (ps_ret (pe_ix (ix_listK K) (pe_lst (pa_cons pe_str (pa_cons pe_str pa_nil))) (pe_callTy call_int1 (by rfl) T.b_int (by decide +kernel) (pa_cons (pe_cmp (pc_din hu (pe_ix (ix_tupK K) (pv 1) pe_int (fun _ _ => rfl)) (pe_ix (ix_tupK K) (pv 0) pe_int (fun _ _ => rfl)))) pa_nil)) (fun _ _ => rfl)))) pss_nil)
        (pss_cons (ps_set (i := 2) sc__law_atom.nd rfl (by first | exact Or.inl rfl | exact Or.inr rfl) (pe_ix (ix_tupK K) (pv 1) pe_int (fun _ _ => rfl)))
        (pss_cons (ps_if (pt_cmp (pc_dnotin hu (pv 2) (pe_ix (ix_tupK K) (pv 0) pe_int (fun _ _ => rfl)))) (pss_one (ps_ret (pe_ix (ix_listK K) (pe_lst (pa_cons pe_str (pa_cons pe_str pa_nil))) (pe_callTy call_int1 (by rfl) T.b_int (by decide +kernel) (pa_cons (pe_cmp (pc_din hu (pe_call G__law_near (hr.mono (by decide)) rfl g__law_near k__law_near b__law_near .nil pass0 (pa_cons (pv 0) (pa_cons (pv 2) pa_nil))) (pe_ix (ix_tupK K) (pv 0) pe_int (fun _ _ => rfl)))) pa_nil)) (fun _ _ => rfl)))) pss_nil)
        (pss_cons (ps_if (pt_cmpR op_eq (pe_ix (ix_tupK K) (pv 1) pe_int (fun _ _ => rfl)) pe_str (nomark _)) (pss_one (ps_ret pe_str)) pss_nil)
        (pss_cons (ps_if (pt_cmpR op_eq (pe_ix (ix_tupK K) (pv 1) pe_int (fun _ _ => rfl)) pe_str (nomark _)) (pss_one (ps_ret (pe_ix (ix_listK K) (pe_lst (pa_cons pe_str (pa_cons pe_str pa_nil))) (pe_callTy call_int1 (by rfl) T.b_int (by decide +kernel) (pa_cons (pe_cmp (pc_din hu (pv 2) (pe_ix (ix_tupK K) (pv 0) pe_int (fun _ _ => rfl)))) pa_nil)) (fun _ _ => rfl)))) pss_nil)
        (pss_cons (ps_if (pt_cmpR op_ge (pe_call G__law_age (hr.mono (by decide)) rfl g__law_age k__law_age b__law_age .nil pass0 (pa_cons (pv 0) (pa_cons (pv 2) pa_nil))) (pe_ix (ix_tupK K) (pv 1) pe_int (fun _ _ => rfl)) (nomark _)) (pss_one (ps_ret pe_str)) pss_nil)
        (pss_one (ps_ret (pe_ix (ix_listK K) (pe_lst (pa_cons pe_str (pa_cons pe_str pa_nil))) (pe_callTy call_int1 (by rfl) T.b_int (by decide +kernel) (pa_cons (pe_cmp (pc_din hu (pv 2) (pe_ix (ix_tupK K) (pv 0) pe_int (fun _ _ => rfl)))) pa_nil)) (fun _ _ => rfl))))))))))), ?_⟩
    have fin : ∀ (p q c : S3) (b : Bool) (H0 : Hp) (l : Addr), Same H H0 → H0 l = none → m.atomS x = c → (if b = true then q else p) = c → Q (if b = true then sV q else sV p) (upd H0 l (.lst [sV p, sV q])) := by
      intro p q c b H0 l s0 hl e1 e2
      have k := k _ (s0.put (o := .lst [sV p, sV q]) (s0.free hl))
      rw [e1, ← e2] at k
      cases b <;> exact k
    have unborn : ∀ (n : Nm), x.nm = some n → m.isB n = false → m.atomS x = m.unb n → ∃ r, m.near n = some r ∧ m.atomS x = (if m.isD r = true then .failed else .hangs) := fun n e hb eu => by
      obtain ⟨_, r, hr⟩ := ok n e
      exact ⟨r, hr, by rw [eu, atomS_unb hr]⟩
    cases x with
    | year y =>
      refine ⟨_, rfl, _, _, _, _, rfl, rfl, .of (ht), atI_nat (j := 0) rfl, rfl, _, rfl, ifTd rfl ?_⟩
      refine ⟨small (k := 2) (Nat.le_refl _) (by decide), fun l hl => ?_⟩
      have s1 := Same.upd (o := .lst [V.str "hangs", V.str "met"]) hl
      have B1 := B.same s1
      have hB1 := B1.t
      have ht1 := s1 _ _ ht
      refine ⟨_, rfl, _, _, _, _, rfl, rfl, .of (hB1), atI_nat (j := 0) rfl, a.c, _, _, _, rfl, rfl, .of B1.c, atI_nat (j := 0) rfl, _, rfl, _, _, _, _, rfl, rfl, .of (ht1), atI_nat (j := 1) rfl, _, _, rfl, rfl, .inr ⟨_, rfl, l, _, _, _, rfl, rfl, .of upd_same, pickB _ _ _, ?_⟩⟩
      refine fin .hangs .met _ _ H l (Same.refl _) hl rfl ?_
      simp only [M.atomS]
      by_cases c : y ≤ m.yr
      · rw [if_pos c, if_pos (decide_eq_true c)]
      · rw [if_neg c, if_neg (fun z => c (of_decide_eq_true z))]
    | comes y =>
      refine ⟨_, rfl, _, _, _, _, rfl, rfl, .of (ht), atI_nat (j := 0) rfl, rfl, _, rfl, ifFd (by decide +kernel) ?_⟩
      refine ⟨_, rfl, _, _, _, _, rfl, rfl, .of (ht), atI_nat (j := 0) rfl, rfl, _, rfl, ifTd rfl ?_⟩
      refine ⟨small (k := 2) (Nat.le_refl _) (by decide), fun l hl => ?_⟩
      have s1 := Same.upd (o := .lst [V.str "hangs", V.str "met"]) hl
      have B1 := B.same s1
      have hB1 := B1.t
      have ht1 := s1 _ _ ht
      refine ⟨_, rfl, _, _, _, _, rfl, rfl, .of (ht1), atI_nat (j := 1) rfl, _, rfl, _, _, _, _, rfl, rfl, .of (hB1), atI_nat (j := 3) rfl, a.e, _, rfl, B1.getE y, .inr ⟨_, rfl, l, _, _, _, rfl, rfl, .of upd_same, pickB _ _ _, ?_⟩⟩
      rw [mapSome]
      exact fin .hangs .met _ _ H l (Same.refl _) hl rfl rfl
    | born n =>
      have sm := (ok n rfl).two.sm
      refine ⟨_, rfl, _, _, _, _, rfl, rfl, .of (ht), atI_nat (j := 0) rfl, rfl, _, rfl, ifFd (by decide +kernel) ?_⟩
      refine ⟨_, rfl, _, _, _, _, rfl, rfl, .of (ht), atI_nat (j := 0) rfl, rfl, _, rfl, ifFd (by decide +kernel) ?_⟩
      refine ⟨_, rfl, _, _, _, _, rfl, rfl, .of (ht), atI_nat (j := 1) rfl, ?_⟩
      refine ⟨_, rfl, _, rfl, _, _, _, _, rfl, rfl, .of (hB), atI_nat (j := 1) rfl, a.b, _, rfl, B.getB n, _, rfl, ?_⟩
      rw [mapSome]
      refine ifB (fun hb => ?_) (fun hb => ?_)
      · have hb : m.isB n = false := by
          unfold M.isB
          cases e : (lk m.bo n).isSome with
          | false => rfl
          | true => rw [e] at hb; cases hb
        obtain ⟨r, hr, er⟩ := unborn n rfl hb (if_neg (by rw [hb]; exact Bool.false_ne_true))
        refine ⟨small (k := 2) (Nat.le_refl _) (by decide), fun l hl => ?_⟩
        have s1 := Same.upd (o := .lst [V.str "hangs", V.str "failed"]) hl
        have B1 := B.same s1
        have hB1 := B1.t
        refine ⟨_, rfl, _, rfl, a, m, n, r, rfl, B1, hr, sm, _, rfl, _, _, _, _, rfl, rfl, .of (hB1), atI_nat (j := 2) rfl, a.d, _, rfl, B1.getD r, .inr ⟨_, rfl, l, _, _, _, rfl, rfl, .of upd_same, pickB _ _ _, ?_⟩⟩
        rw [mapSome]
        exact fin .hangs .failed _ _ H l (Same.refl _) hl er rfl
      · have hb : m.isB n = true := by
          unfold M.isB
          cases e : (lk m.bo n).isSome with
          | true => rfl
          | false => rw [e] at hb; cases hb
        refine ⟨_, rfl, _, _, _, _, rfl, rfl, .of (ht), atI_nat (j := 0) rfl, rfl, _, rfl, ifTd rfl ?_⟩
        have k := k H (Same.refl _)
        simp only [M.atomS] at k
        rw [if_pos hb] at k
        exact k
    | dead n =>
      have sm := (ok n rfl).two.sm
      refine ⟨_, rfl, _, _, _, _, rfl, rfl, .of (ht), atI_nat (j := 0) rfl, rfl, _, rfl, ifFd (by decide +kernel) ?_⟩
      refine ⟨_, rfl, _, _, _, _, rfl, rfl, .of (ht), atI_nat (j := 0) rfl, rfl, _, rfl, ifFd (by decide +kernel) ?_⟩
      refine ⟨_, rfl, _, _, _, _, rfl, rfl, .of (ht), atI_nat (j := 1) rfl, ?_⟩
      refine ⟨_, rfl, _, rfl, _, _, _, _, rfl, rfl, .of (hB), atI_nat (j := 1) rfl, a.b, _, rfl, B.getB n, _, rfl, ?_⟩
      rw [mapSome]
      refine ifB (fun hb => ?_) (fun hb => ?_)
      · have hb : m.isB n = false := by
          unfold M.isB
          cases e : (lk m.bo n).isSome with
          | false => rfl
          | true => rw [e] at hb; cases hb
        obtain ⟨r, hr, er⟩ := unborn n rfl hb (if_neg (by rw [hb]; exact Bool.false_ne_true))
        refine ⟨small (k := 2) (Nat.le_refl _) (by decide), fun l hl => ?_⟩
        have s1 := Same.upd (o := .lst [V.str "hangs", V.str "failed"]) hl
        have B1 := B.same s1
        have hB1 := B1.t
        refine ⟨_, rfl, _, rfl, a, m, n, r, rfl, B1, hr, sm, _, rfl, _, _, _, _, rfl, rfl, .of (hB1), atI_nat (j := 2) rfl, a.d, _, rfl, B1.getD r, .inr ⟨_, rfl, l, _, _, _, rfl, rfl, .of upd_same, pickB _ _ _, ?_⟩⟩
        rw [mapSome]
        exact fin .hangs .failed _ _ H l (Same.refl _) hl er rfl
      · have hb : m.isB n = true := by
          unfold M.isB
          cases e : (lk m.bo n).isSome with
          | true => rfl
          | false => rw [e] at hb; cases hb
        refine ⟨_, rfl, _, _, _, _, rfl, rfl, .of (ht), atI_nat (j := 0) rfl, rfl, _, rfl, ifFd (by decide +kernel) ?_⟩
        refine ⟨_, rfl, _, _, _, _, rfl, rfl, .of (ht), atI_nat (j := 0) rfl, rfl, _, rfl, ifTd rfl ?_⟩
        refine ⟨small (k := 2) (Nat.le_refl _) (by decide), fun l hl => ?_⟩
        have s1 := Same.upd (o := .lst [V.str "hangs", V.str "met"]) hl
        have B1 := B.same s1
        have hB1 := B1.t
        refine ⟨_, rfl, _, rfl, _, _, _, _, rfl, rfl, .of (hB1), atI_nat (j := 2) rfl, a.d, _, rfl, B1.getD n, .inr ⟨_, rfl, l, _, _, _, rfl, rfl, .of upd_same, pickB _ _ _, ?_⟩⟩
        rw [mapSome]
        refine fin .hangs .met _ _ H l (Same.refl _) hl rfl ?_
        simp only [M.atomS]
        rw [if_pos hb]
        unfold M.alive
        rw [hb]
        show (if m.isD n = true then S3.met else S3.hangs) = _
        cases m.isD n <;> rfl
    | age n g =>
      have sm := (ok n rfl).two.sm
      refine ⟨_, rfl, _, _, _, _, rfl, rfl, .of (ht), atI_nat (j := 0) rfl, rfl, _, rfl, ifFd (by decide +kernel) ?_⟩
      refine ⟨_, rfl, _, _, _, _, rfl, rfl, .of (ht), atI_nat (j := 0) rfl, rfl, _, rfl, ifFd (by decide +kernel) ?_⟩
      refine ⟨_, rfl, _, _, _, _, rfl, rfl, .of (ht), atI_nat (j := 1) rfl, ?_⟩
      refine ⟨_, rfl, _, rfl, _, _, _, _, rfl, rfl, .of (hB), atI_nat (j := 1) rfl, a.b, _, rfl, B.getB n, _, rfl, ?_⟩
      rw [mapSome]
      refine ifB (fun hb => ?_) (fun hb => ?_)
      · have hb : m.isB n = false := by
          unfold M.isB
          cases e : (lk m.bo n).isSome with
          | false => rfl
          | true => rw [e] at hb; cases hb
        obtain ⟨r, hr, er⟩ := unborn n rfl hb (if_neg (by rw [hb]; exact Bool.false_ne_true))
        refine ⟨small (k := 2) (Nat.le_refl _) (by decide), fun l hl => ?_⟩
        have s1 := Same.upd (o := .lst [V.str "hangs", V.str "failed"]) hl
        have B1 := B.same s1
        have hB1 := B1.t
        refine ⟨_, rfl, _, rfl, a, m, n, r, rfl, B1, hr, sm, _, rfl, _, _, _, _, rfl, rfl, .of (hB1), atI_nat (j := 2) rfl, a.d, _, rfl, B1.getD r, .inr ⟨_, rfl, l, _, _, _, rfl, rfl, .of upd_same, pickB _ _ _, ?_⟩⟩
        rw [mapSome]
        exact fin .hangs .failed _ _ H l (Same.refl _) hl er rfl
      · have hb : m.isB n = true := by
          unfold M.isB
          cases e : (lk m.bo n).isSome with
          | true => rfl
          | false => rw [e] at hb; cases hb
        refine ⟨_, rfl, _, _, _, _, rfl, rfl, .of (ht), atI_nat (j := 0) rfl, rfl, _, rfl, ifFd (by decide +kernel) ?_⟩
        refine ⟨_, rfl, _, _, _, _, rfl, rfl, .of (ht), atI_nat (j := 0) rfl, rfl, _, rfl, ifFd (by decide +kernel) ?_⟩
        refine ⟨_, rfl, _, rfl, a, m, n, rfl, B, hb, _, rfl, _, _, _, _, rfl, rfl, .of (ht), atI_nat (j := 2) rfl, _, _, rfl, rfl, _, rfl, ?_⟩
        refine ifB (fun hc => ?_) (fun hc => ?_)
        · have k := k H (Same.refl _)
          simp only [M.atomS] at k
          rw [if_pos hb, if_pos (of_decide_eq_true hc)] at k
          exact k
        · refine ⟨small (k := 2) (Nat.le_refl _) (by decide), fun l hl => ?_⟩
          have s1 := Same.upd (o := .lst [V.str "hangs", V.str "failed"]) hl
          have B1 := B.same s1
          have hB1 := B1.t
          refine ⟨_, rfl, _, rfl, _, _, _, _, rfl, rfl, .of (hB1), atI_nat (j := 2) rfl, a.d, _, rfl, B1.getD n, .inr ⟨_, rfl, l, _, _, _, rfl, rfl, .of upd_same, pickB _ _ _, ?_⟩⟩
          rw [mapSome]
          refine fin .hangs .failed _ _ H l (Same.refl _) hl rfl ?_
          simp only [M.atomS]
          rw [if_pos hb, if_neg (of_decide_eq_false hc)]
          unfold M.alive
          rw [hb]
          show (if m.isD n = true then S3.failed else S3.hangs) = _
          cases m.isD n <;> rfl
end
end DH

namespace DH
open PySem PySem.Spec PyProof.Rows L2 TL
section
variable {P : Program} {w : World} {K : PySem.W.Frag} {mg : Str → Option Value} {base : Heap}

def sp_mfold (K : PySem.W.Frag) : Sp := fun vs H Q _ => ∃ l sts, vs = [.ref l] ∧ SqL K H l (sts.map sV) ∧ Q (sV (foldS sts)) H
theorem sc__law_fold : FnScope ["_law_stands"] ["_law_stands"] (defScope s__law_fold) :=
  ⟨rfl, rfl, rfl, by decide +kernel, rfl, by decide +kernel, by decide +kernel⟩
theorem ok__law_fold (T : Txt K mg) : Cal P w K mg base 1 "_law_fold" ["_law_stands"] (sp_mfold K) := by
  refine cal_of T.g__law_fold T.f__law_fold sc__law_fold (fun _ _ _ _ _ _ us hl => match us, hl with | [_], _ => rfl) (fun vs H Q E h => ?_) (fun f cdv A outer s H vs Q E hr h => ?_)
  · obtain ⟨l, sts, rfl, _⟩ := h; rfl
  · obtain ⟨l, sts, rfl, hl, k⟩ := h
    refine ⟨_, (pss_cons (ps_if (pt_cmpR (op_in_seqK K) pe_str (pv 0) rfl) (pss_one (ps_ret pe_str)) pss_nil)
        (pss_cons (ps_if (pt_cmpR (op_in_seqK K) pe_str (pv 0) rfl) (pss_one (ps_ret pe_str)) pss_nil)
        (pss_one (ps_ret pe_str)))), ?_⟩
    unfold foldS at k
    refine ⟨_, rfl, l, _, rfl, .inl hl, rfl, flatS _, _, rfl, ?_⟩
    refine ifB (fun hb => ?_) (fun hb => ?_)
    · have hb : inV (sV .failed) _ = true := hb
      rw [inS] at hb
      rw [if_pos (of_decide_eq_true hb)] at k
      exact k
    · have hb : inV (sV .failed) _ = false := hb
      rw [inS] at hb
      rw [if_neg (of_decide_eq_false hb)] at k
      refine ⟨_, rfl, l, _, rfl, .inl hl, rfl, flatS _, _, rfl, ?_⟩
      refine ifB (fun hb => ?_) (fun hb => ?_)
      · have hb : inV (sV .hangs) _ = true := hb
        rw [inS] at hb
        rw [if_pos (of_decide_eq_true hb)] at k
        exact k
      · have hb : inV (sV .hangs) _ = false := hb
        rw [inS] at hb
        rw [if_neg (of_decide_eq_false hb)] at k
        exact k
def sp_mmembers (K : PySem.W.Frag) : Sp := fun vs H Q _ => ∃ A m n o out, vs = [.ref (MA.t A), nmV n, .ref o] ∧ MAt H A m ∧ m.WF ∧ Sm n ∧ SqL K H o (out.map nmV) ∧
  ∀ H' p, Same H H' → H p = none → H' p = some (.lst ((m.members n out).map nmV)) → Q (.ref p) H'
theorem sc__law_members : FnScope ["_law_model_here", "_law_name", "_law_out_here", "_law_child"] ["_law_model_here", "_law_name", "_law_out_here"] (defScope s__law_members) :=
  ⟨rfl, rfl, rfl, by decide +kernel, rfl, by decide +kernel, by decide +kernel⟩
theorem ok__law_members (T : Txt K mg) : Cal P w K mg base 2 "_law_members" ["_law_model_here", "_law_name", "_law_out_here"] (sp_mmembers K) := by
  obtain ⟨f__law_kids, fd__law_kids, g__law_kids, k__law_kids, b__law_kids, G__law_kids⟩ := ok__law_kids T
  refine cal_of T.g__law_members T.f__law_members sc__law_members (fun _ _ _ _ _ _ us hl => match us, hl with | [_, _, _], _ => rfl) (fun vs H Q E h => ?_) (fun f cdv A outer s H vs Q E hr h => ?_)
  · obtain ⟨A, m, n, o, out, rfl, _⟩ := h; rfl
  · obtain ⟨a, m, n, o, out, rfl, B, wf, h2, ho, k⟩ := h
    have hu := hu_of hr
    refine ⟨_, (pss_one (ps_ret (pe_lc (own := [("_law_child", 3)]) rfl sc__law_members.nd (pi_listK K (pe_call G__law_kids (hr.mono (by decide)) rfl g__law_kids k__law_kids b__law_kids .nil pass0 (pa_cons (pv 0) (pa_cons (pv 1) pa_nil)))) (blkOk_by (own := [("_law_child", 3)]) (N := ["_law_model_here", "_law_name", "_law_out_here", "_law_child"]) (sc := defScope s__law_members) (by decide +kernel)) (fun _ _ _ _ _ => pg_name (i := 3) sc__law_members.nd rfl (Or.inl rfl)) (fun _ _ _ _ _ => (pts_one (pt_cmpR (op_notIn_seqK K) (pv 3) (pv 2) rfl))) (fun _ _ _ _ _ => (pv 3))))), ?_⟩
    refine ⟨_, rfl, _, rfl, a, m, n, rfl, B, wf, h2, fun H1 p s1 hp hp1 => ?_⟩
    refine ⟨p, rfl, ⟨_, .of hp1⟩, fun D hD => lc_fm (e := nmV) (ys := m.kids n) (fIf fun c => !decide (c ∈ out)) hD (.of hp1) (small (k := 10000) (by rw [M.kids_len]; exact kc10 B.sz n) (by decide)) ?_ ?_⟩
    · intro i y H' C hy s2 hC
      refine ⟨rfl, _, rfl, _, rfl, o, _, rfl, .inl ((s1.trans s2).seq ho), rfl, flatN out, _, rfl, ?_⟩
      rw [inN]
      refine ifB (fun hb => ?_) (fun hb => ?_)
      · exact ⟨_, rfl, hC _ _ (Same.refl _) (fT hb)⟩
      · exact hC _ _ (Same.refl _) (fF hb)
    · intro H' s2 hDD
      refine k H' D (s1.trans s2) (s1.free hD) ?_
      rw [hDD, fm_if]; rfl
theorem waiting_eq {m : M} (wf : m.WF) (n : Nm) (g : Int) (out : List Nm) : m.waiting n g out = ((m.members n out).filter fun c => !m.isD c).filter fun c => decide (m.age c < g) := by
  unfold M.waiting
  rw [List.filter_filter, List.filter_filter]
  apply List.filter_congr
  intro c hc
  have hb := M.members_isB wf hc
  unfold M.alive
  rw [hb]
  cases m.isD c <;> cases decide (m.age c < g) <;> rfl
def sp_young (K : PySem.W.Frag) : Sp := fun vs H Q _ => ∃ A m n g o out, vs = [.ref (MA.t A), nmV n, .int g, .ref o] ∧ MAt H A m ∧ m.WF ∧ Sm n ∧ SqL K H o (out.map nmV) ∧
  ∀ H' p, Same H H' → H p = none → H' p = some (.lst ((m.waiting n g out).map nmV)) → Q (.ref p) H'
theorem sc__law_young : FnScope ["_law_model_here", "_law_name", "_law_age_here", "_law_out_here", "_law_some", "_law_child"] ["_law_model_here", "_law_name", "_law_age_here", "_law_out_here"] (defScope s__law_young) :=
  ⟨rfl, rfl, rfl, by decide +kernel, rfl, by decide +kernel, by decide +kernel⟩
theorem ok__law_young (T : Txt K mg) : Cal P w K mg base 3 "_law_young" ["_law_model_here", "_law_name", "_law_age_here", "_law_out_here"] (sp_young K) := by
  obtain ⟨f__law_age, fd__law_age, g__law_age, k__law_age, b__law_age, G__law_age⟩ := ok__law_age T
  obtain ⟨f__law_members, fd__law_members, g__law_members, k__law_members, b__law_members, G__law_members⟩ := ok__law_members T
  refine cal_of T.g__law_young T.f__law_young sc__law_young (fun _ _ _ _ _ _ us hl => match us, hl with | [_, _, _, _], _ => rfl) (fun vs H Q E h => ?_) (fun f cdv A outer s H vs Q E hr h => ?_)
  · obtain ⟨A, m, n, g, o, out, rfl, _⟩ := h; rfl
  · obtain ⟨a, m, n, g, o, out, rfl, B, wf, h2, ho, k⟩ := h
    have hu := hu_of hr
    refine ⟨_, (pss_cons (ps_setLc (i := 4) (own := [("_law_child", 5)]) rfl sc__law_young.nd rfl rfl (sw_true rfl rfl rfl (by decide +kernel)) (pi_listK K (pe_call G__law_members (hr.mono (by decide)) rfl g__law_members k__law_members b__law_members .nil pass0 (pa_cons (pv 0) (pa_cons (pv 1) (pa_cons (pv 3) pa_nil))))) (blkOk_by (own := [("_law_child", 5)]) (N := ["_law_model_here", "_law_name", "_law_age_here", "_law_out_here", "_law_some", "_law_child"]) (sc := defScope s__law_young) (by decide +kernel)) (fun _ _ _ _ _ => pg_name (i := 5) sc__law_young.nd rfl (Or.inl rfl)) (fun _ _ _ _ _ => (pts_one (pt_cmp (pc_dnotin hu (pv 5) (pe_ix (ix_tupK K) (pv 0) pe_int (fun _ _ => rfl)))))) (fun _ _ _ _ _ => (pv 5)))
        (pss_one (ps_ret (pe_lc (own := [("_law_child", 5)]) rfl sc__law_young.nd (pi_listK K (pv 4)) (blkOk_by (own := [("_law_child", 5)]) (N := ["_law_model_here", "_law_name", "_law_age_here", "_law_out_here", "_law_some", "_law_child"]) (sc := defScope s__law_young) (by decide +kernel)) (fun _ _ _ _ _ => pg_name (i := 5) sc__law_young.nd rfl (Or.inl rfl)) (fun _ _ _ _ _ => (pts_one (pt_cmpR op_lt (pe_call G__law_age (hr.mono (by decide)) rfl g__law_age k__law_age b__law_age .nil pass0 (pa_cons (pv 0) (pa_cons (pv 5) pa_nil))) (pv 2) (nomark _)))) (fun _ _ _ _ _ => (pv 5)))))), ?_⟩
    have hz : (m.members n out).length ≤ 10000 := Nat.le_trans (M.members_len ..) (kc10 B.sz n)
    refine ⟨_, rfl, _, rfl, _, rfl, a, m, n, o, out, rfl, B, wf, h2, ho, fun H1 p s1 hp hp1 => ?_⟩
    refine ⟨p, rfl, ⟨_, .of hp1⟩, fun D hD => lc_fm (e := nmV) (ys := m.members n out) (fIf fun c => !m.isD c) hD (.of hp1) (small (k := 10000) hz (by decide)) ?_ ?_⟩
    · intro i y H' C hy s2 hC
      have B' := (B.same s1).same s2
      have ht := B'.t
      refine ⟨rfl, _, rfl, _, rfl, _, _, _, _, rfl, rfl, .of (ht), atI_nat (j := 2) rfl, a.d, _, rfl, B'.getD y, _, rfl, ?_⟩
      rw [mapSome]
      refine ifB (fun hb => ?_) (fun hb => ?_)
      · exact ⟨_, rfl, hC _ _ (Same.refl _) (fT hb)⟩
      · exact hC _ _ (Same.refl _) (fF hb)
    · intro H2 s2 hDD
      rw [fm_if] at hDD
      have s12 := s1.trans s2
      refine ⟨_, rfl, D, rfl, ⟨_, .of hDD⟩, fun D2 hD2 => lc_fm (e := nmV) (ys := (m.members n out).filter fun c => !m.isD c) (fIf fun c => decide (m.age c < g)) hD2 (.of hDD) (small (k := 10000) (Nat.le_trans (List.length_filter_le ..) hz) (by decide)) ?_ ?_⟩
      · intro i y H' C hy s3 hC
        have B' := (B.same s12).same s3
        have hb := M.members_isB wf (List.mem_filter.mp (List.mem_of_getElem? hy)).1
        refine ⟨rfl, _, rfl, _, rfl, a, m, y, rfl, B', hb, _, rfl, _, _, rfl, rfl, _, rfl, ?_⟩
        refine ifB (fun hb => ?_) (fun hb => ?_)
        · exact ⟨_, rfl, hC _ _ (Same.refl _) (fT hb)⟩
        · exact hC _ _ (Same.refl _) (fF hb)
      · intro H' s3 hDD
        refine k H' D2 (s12.trans s3) (s12.free hD2) ?_
        rw [hDD, fm_if, waiting_eq wf]
def sp_seated (K : PySem.W.Frag) : Sp := fun vs H Q _ => ∃ A m n g o out, vs = [.ref (MA.t A), nmV n, .int g, .ref o] ∧ MAt H A m ∧ m.WF ∧ Sm n ∧ SqL K H o (out.map nmV) ∧
  ∀ H' p, Same H H' → H p = none → H' p = some (.lst ((m.seats n g out).map nmV)) → Q (.ref p) H'
theorem sc__law_seated : FnScope ["_law_model_here", "_law_name", "_law_age_here", "_law_out_here", "_law_child"] ["_law_model_here", "_law_name", "_law_age_here", "_law_out_here"] (defScope s__law_seated) :=
  ⟨rfl, rfl, rfl, by decide +kernel, rfl, by decide +kernel, by decide +kernel⟩
theorem ok__law_seated (T : Txt K mg) : Cal P w K mg base 3 "_law_seated" ["_law_model_here", "_law_name", "_law_age_here", "_law_out_here"] (sp_seated K) := by
  obtain ⟨f__law_members, fd__law_members, g__law_members, k__law_members, b__law_members, G__law_members⟩ := ok__law_members T
  obtain ⟨f__law_age, fd__law_age, g__law_age, k__law_age, b__law_age, G__law_age⟩ := ok__law_age T
  refine cal_of T.g__law_seated T.f__law_seated sc__law_seated (fun _ _ _ _ _ _ us hl => match us, hl with | [_, _, _, _], _ => rfl) (fun vs H Q E h => ?_) (fun f cdv A outer s H vs Q E hr h => ?_)
  · obtain ⟨A, m, n, g, o, out, rfl, _⟩ := h; rfl
  · obtain ⟨a, m, n, g, o, out, rfl, B, wf, h2, ho, k⟩ := h
    have hu := hu_of hr
    refine ⟨_, (pss_one (ps_ret (pe_lc (own := [("_law_child", 4)]) rfl sc__law_seated.nd (pi_listK K (pe_call G__law_members (hr.mono (by decide)) rfl g__law_members k__law_members b__law_members .nil pass0 (pa_cons (pv 0) (pa_cons (pv 1) (pa_cons (pv 3) pa_nil))))) (blkOk_by (own := [("_law_child", 4)]) (N := ["_law_model_here", "_law_name", "_law_age_here", "_law_out_here", "_law_child"]) (sc := defScope s__law_seated) (by decide +kernel)) (fun _ _ _ _ _ => pg_name (i := 4) sc__law_seated.nd rfl (Or.inl rfl)) (fun _ _ _ _ _ => (pts_one (pt_cmpR op_ge (pe_call G__law_age (hr.mono (by decide)) rfl g__law_age k__law_age b__law_age .nil pass0 (pa_cons (pv 0) (pa_cons (pv 4) pa_nil))) (pv 2) (nomark _)))) (fun _ _ _ _ _ => (pv 4))))), ?_⟩
    have hz : (m.members n out).length ≤ 10000 := Nat.le_trans (M.members_len ..) (kc10 B.sz n)
    refine ⟨_, rfl, _, rfl, _, rfl, a, m, n, o, out, rfl, B, wf, h2, ho, fun H1 p s1 hp hp1 => ?_⟩
    refine ⟨p, rfl, ⟨_, .of hp1⟩, fun D hD => lc_fm (e := nmV) (ys := m.members n out) (fIf fun c => decide (g ≤ m.age c)) hD (.of hp1) (small (k := 10000) hz (by decide)) ?_ ?_⟩
    · intro i y H' C hy s2 hC
      have B' := (B.same s1).same s2
      have hb := M.members_isB wf (List.mem_of_getElem? hy)
      refine ⟨rfl, _, rfl, _, rfl, a, m, y, rfl, B', hb, _, rfl, _, _, rfl, rfl, _, rfl, ?_⟩
      refine ifB (fun hb => ?_) (fun hb => ?_)
      · exact ⟨_, rfl, hC _ _ (Same.refl _) (fT hb)⟩
      · exact hC _ _ (Same.refl _) (fF hb)
    · intro H' s2 hDD
      refine k H' D (s1.trans s2) (s1.free hD) ?_
      rw [hDD, fm_if]; rfl
theorem mayGrow_eq {m : M} {n r : Nm} (hn : m.near n = some r) : m.mayGrow n = !m.isD r := by
  have hb := M.near_isB hn
  unfold M.mayGrow M.nearLives
  by_cases h : m.isB n = true
  · rw [if_pos h]
    rw [M.near_self h] at hn
    cases hn
    unfold M.alive
    rw [h]; rfl
  · rw [if_neg h, hn]
    show m.alive r = _
    unfold M.alive
    rw [hb]; rfl
def sp_mclass (K : PySem.W.Frag) : Sp := fun vs H Q _ => ∃ A m n g o out, vs = [.ref (MA.t A), nmV n, .int g, .ref o] ∧ MAt H A m ∧ m.WF ∧ NmOk m n ∧ SqL K H o (out.map nmV) ∧ ∀ H', Same H H' → Q (sV (m.classS n g out)) H'
theorem sc__law_class : FnScope ["_law_model_here", "_law_name", "_law_age_here", "_law_out_here", "_law_near_here"] ["_law_model_here", "_law_name", "_law_age_here", "_law_out_here"] (defScope s__law_class) :=
  ⟨rfl, rfl, rfl, by decide +kernel, rfl, by decide +kernel, by decide +kernel⟩
theorem ok__law_class (T : Txt K mg) : Cal P w K mg base 4 "_law_class" ["_law_model_here", "_law_name", "_law_age_here", "_law_out_here"] (sp_mclass K) := by
  obtain ⟨f__law_seated, fd__law_seated, g__law_seated, k__law_seated, b__law_seated, G__law_seated⟩ := ok__law_seated T
  obtain ⟨f__law_young, fd__law_young, g__law_young, k__law_young, b__law_young, G__law_young⟩ := ok__law_young T
  obtain ⟨f__law_near, fd__law_near, g__law_near, k__law_near, b__law_near, G__law_near⟩ := ok__law_near T
  refine cal_of T.g__law_class T.f__law_class sc__law_class (fun _ _ _ _ _ _ us hl => match us, hl with | [_, _, _, _], _ => rfl) (fun vs H Q E h => ?_) (fun f cdv A outer s H vs Q E hr h => ?_)
  · obtain ⟨A, m, n, g, o, out, rfl, _⟩ := h; rfl
  · obtain ⟨a, m, n, g, o, out, rfl, B, wf, ok, ho, k⟩ := h
    have hu := hu_of hr
    refine ⟨_, (pss_cons (ps_set (i := 4) sc__law_class.nd rfl (by first | exact Or.inl rfl | exact Or.inr rfl) (pe_call G__law_near (hr.mono (by decide)) rfl g__law_near k__law_near b__law_near .nil pass0 (pa_cons (pv 0) (pa_cons (pv 1) pa_nil))))
        (pss_cons (ps_if (PW.pt (pw_or (pt_cmp (pc_dnotin hu (pv 4) (pe_ix (ix_tupK K) (pv 0) pe_int (fun _ _ => rfl)))) (pw_or1 (pt_cmpR op_gt (pe_callB (call_lenK K) (by rfl) T.b_len PySem.boot_len (pa_cons (pe_call G__law_young (hr.mono (by decide)) rfl g__law_young k__law_young b__law_young .nil pass0 (pa_cons (pv 0) (pa_cons (pv 1) (pa_cons (pv 2) (pa_cons (pv 3) pa_nil))))) pa_nil)) pe_int (nomark _))))) (pss_one (ps_ret pe_str)) pss_nil)
        (pss_one (ps_ret (pe_ix (ix_listK K) (pe_lst (pa_cons pe_str (pa_cons pe_str pa_nil))) (pe_callTy call_int1 (by rfl) T.b_int (by decide +kernel) (pa_cons (pe_cmpR op_gt (pe_callB (call_lenK K) (by rfl) T.b_len PySem.boot_len (pa_cons (pe_call G__law_seated (hr.mono (by decide)) rfl g__law_seated k__law_seated b__law_seated .nil pass0 (pa_cons (pv 0) (pa_cons (pv 1) (pa_cons (pv 2) (pa_cons (pv 3) pa_nil))))) pa_nil)) pe_int (nomark _)) pa_nil)) (fun _ _ => rfl)))))), ?_⟩
    obtain ⟨h2, r, hn⟩ := ok
    have ht := B.t
    have hz : ∀ out, (m.members n out).length ≤ 10000 := fun out => Nat.le_trans (M.members_len ..) (kc10 B.sz n)
    refine ⟨_, rfl, _, rfl, a, m, n, r, rfl, B, hn, h2.sm, ?_⟩
    refine ⟨_, rfl, _, rfl, _, _, _, _, rfl, rfl, .of (ht), atI_nat (j := 2) rfl, a.d, _, rfl, B.getD r, _, rfl, ?_⟩
    rw [mapSome]
    have e0 := mayGrow_eq hn
    refine ifB (fun hb => ?_) (fun hb => ?_)
    · have k := k H (Same.refl _)
      unfold M.classS at k
      rw [if_pos (.inl (e0.trans hb))] at k
      exact k
    · have hb : m.mayGrow n = false := e0.trans hb
      refine ⟨_, rfl, _, rfl, _, rfl, _, rfl, a, m, n, g, o, out, rfl, B, wf, h2.sm, ho, fun H1 p s1 hp hp1 => ?_⟩
      refine ⟨_, _, rfl, .inl ⟨_, .of hp1, rfl⟩, _, _, rfl, rfl, _, rfl, ?_⟩
      rw [List.length_map]
      refine ifB (fun hc => ?_) (fun hc => ?_)
      · have k := k H1 s1
        unfold M.classS at k
        have hc : (0 : Int) < ((m.waiting n g out).length : Int) := of_decide_eq_true hc
        rw [if_pos (.inr (by omega))] at k
        exact k
      · have hc : ¬ (0 : Int) < ((m.waiting n g out).length : Int) := of_decide_eq_false hc
        refine ⟨small (k := 2) (Nat.le_refl _) (by decide), fun l hl => ?_⟩
        have s2 := s1.put (o := .lst [V.str "failed", V.str "met"]) (s1.free hl)
        have hl2 : (upd H1 l (.lst [V.str "failed", V.str "met"])) l = some (.lst [V.str "failed", V.str "met"]) := upd_same
        generalize (upd H1 l (.lst [V.str "failed", V.str "met"])) = H2 at s2 hl2 ⊢
        refine ⟨_, rfl, _, rfl, _, rfl, _, rfl, a, m, n, g, o, out, rfl, B.same s2, wf, h2.sm, s2.seq ho, fun H3 q s3 hq hq3 => ?_⟩
        refine ⟨_, _, rfl, .inl ⟨_, .of hq3, rfl⟩, _, _, rfl, rfl, .inr ⟨_, rfl, l, _, _, _, rfl, rfl, .of (s3 _ _ hl2), pickB _ _ _, ?_⟩⟩
        have k := k H3 (s2.trans s3)
        unfold M.classS at k
        rw [if_neg (by rintro (z | z); (rw [hb] at z; cases z); omega)] at k
        rw [List.length_map]
        by_cases c : 0 < (m.seats n g out).length
        · rw [if_pos c] at k
          rw [if_pos (decide_eq_true (by show (0 : Int) < _; omega))]
          exact k
        · rw [if_neg c] at k
          rw [if_neg (fun z => c (by have := of_decide_eq_true z; omega))]
          exact k
end
end DH

namespace DH
open PySem PySem.Spec PyProof.Rows L2 TL
section
variable {P : Program} {w : World} {K : PySem.W.Frag} {mg : Str → Option Value} {base : Heap}
namespace M
def lastS (m : M) (out : List Nm) : Hol → S3
  | .one n => m.atomS (.born n)
  | .kids n g => m.classS n g out
def wholeS (m : M) (h : Hol) (ts : List Atom) (out : List Nm) : S3 := foldS (ts.map m.atomS ++ [m.lastS out h])
end M
def sp_mwhole (K : PySem.W.Frag) : Sp := fun vs H Q _ => ∃ A m t h o ps u out, vs = [.ref (MA.t A), .ref t, .ref o, .ref u] ∧ MAt H A m ∧ m.WF ∧ H t = some (.tup (encH h)) ∧ NmOk m h.nm ∧ AtL K H o ps ∧ (∀ p ∈ ps, AtomOk m p.2) ∧ ps.length ≤ 900 ∧ SqL K H u (out.map nmV) ∧
  ∀ H', Same H H' → Q (sV (m.wholeS h (ps.map (·.2)) out)) H'
theorem sc__law_whole : FnScope ["_law_model_here", "_law_holder_here", "_law_atoms", "_law_out_here", "_law_stands", "_law_atom_here"] ["_law_model_here", "_law_holder_here", "_law_atoms", "_law_out_here"] (defScope s__law_whole) :=
  ⟨rfl, rfl, rfl, by decide +kernel, rfl, by decide +kernel, by decide +kernel⟩
theorem ok__law_whole (T : Txt K mg) : Cal P w K mg base 5 "_law_whole" ["_law_model_here", "_law_holder_here", "_law_atoms", "_law_out_here"] (sp_mwhole K) := by
  obtain ⟨f__law_fold, fd__law_fold, g__law_fold, k__law_fold, b__law_fold, G__law_fold⟩ := ok__law_fold T
  obtain ⟨f__law_atom, fd__law_atom, g__law_atom, k__law_atom, b__law_atom, G__law_atom⟩ := ok__law_atom T
  obtain ⟨f__law_class, fd__law_class, g__law_class, k__law_class, b__law_class, G__law_class⟩ := ok__law_class T
  refine cal_of T.g__law_whole T.f__law_whole sc__law_whole (fun _ _ _ _ _ _ us hl => match us, hl with | [_, _, _, _], _ => rfl) (fun vs H Q E h => ?_) (fun f cdv A outer s H vs Q E hr h => ?_)
  · obtain ⟨A, m, t, h, o, ps, u, out, rfl, _⟩ := h; rfl
  · obtain ⟨a, m, t, h, o, ps, u, out, rfl, B, wf, ht, hn, L, ok, hz, hou, k⟩ := h
    refine ⟨_, (pss_cons (ps_setLc (i := 4) (own := [("_law_atom_here", 5)]) rfl sc__law_whole.nd rfl rfl (sw_true rfl rfl rfl (by decide +kernel)) (pi_listK K (pv 2)) (blkOk_by (own := [("_law_atom_here", 5)]) (N := ["_law_model_here", "_law_holder_here", "_law_atoms", "_law_out_here", "_law_stands", "_law_atom_here"]) (sc := defScope s__law_whole) (by decide +kernel)) (fun _ _ _ _ _ => pg_name (i := 5) sc__law_whole.nd rfl (Or.inl rfl)) (fun _ _ _ _ _ => pts_nil) (fun _ _ _ _ _ => (pe_call G__law_atom (hr.mono (by decide)) rfl g__law_atom k__law_atom b__law_atom .nil pass0 (pa_cons (pv 0) (pa_cons (pv 5) pa_nil)))))
        (pss_cons (ps_if (pt_cmpR op_eq (pe_ix (ix_tupK K) (pv 1) pe_int (fun _ _ => rfl)) pe_str (nomark _)) (pss_one (ps_expr (bmK K (pe_bm PySem.F.plainAttrs_list PySem.F.slot_list_append PySem.F.type_list_append mt_append (pv 4) (pa_cons (pe_call G__law_atom (hr.mono (by decide)) rfl g__law_atom k__law_atom b__law_atom .nil pass0 (pa_cons (pv 0) (pa_cons (pe_tup (pa_cons pe_str (pa_cons (pe_ix (ix_tupK K) (pv 1) pe_int (fun _ _ => rfl)) pa_nil))) pa_nil))) pa_nil))))) (pss_one (ps_expr (bmK K (pe_bm PySem.F.plainAttrs_list PySem.F.slot_list_append PySem.F.type_list_append mt_append (pv 4) (pa_cons (pe_call G__law_class (hr.mono (by decide)) rfl g__law_class k__law_class b__law_class .nil pass0 (pa_cons (pv 0) (pa_cons (pe_ix (ix_tupK K) (pv 1) pe_int (fun _ _ => rfl)) (pa_cons (pe_ix (ix_tupK K) (pv 1) pe_int (fun _ _ => rfl)) (pa_cons (pv 3) pa_nil))))) pa_nil))))))
        (pss_one (ps_ret (pe_call G__law_fold (hr.mono (by decide)) rfl g__law_fold k__law_fold b__law_fold .nil pass0 (pa_cons (pv 4) pa_nil)))))), ?_⟩
    refine ⟨_, rfl, o, rfl, ⟨_, L.l⟩, fun D hD => lc_fm (e := rV) (ys := ps) (fun p => some (sV (m.atomS p.2))) hD L.l (small (k := 1000) (by omega) (by decide)) ?_ ?_⟩
    · intro i y H' C hy s1 hC
      have hm := List.mem_of_getElem? hy
      refine ⟨rfl, _, rfl, _, rfl, a, m, y.1, y.2, rfl, B.same s1, wf, ok y hm, s1 _ _ (L.t y hm), fun H2 s2 => hC _ _ s2 rfl⟩
    · intro H1 s1 hDD
      have e : (ps.filterMap fun p => some (sV (m.atomS p.2))) = ((ps.map (·.2)).map m.atomS).map sV := by
        rw [List.map_map, List.map_map]
        exact congrFun (List.filterMap_eq_map) ps
      rw [e] at hDD
      have ht1 := s1 _ _ ht
      have hlen : (((ps.map (·.2)).map m.atomS).map sV).length < sizeLine := small' (k := 900) (by rw [List.length_map, List.length_map, List.length_map]; exact hz) (by decide)
      have fin : ∀ (x : S3) (H3 : Hp), Same H1 H3 → x = m.lastS out h → Q (sV (foldS ((ps.map (·.2)).map m.atomS ++ [x]))) (upd H3 D (.lst (((ps.map (·.2)).map m.atomS).map sV ++ [sV x]))) := fun x H3 s3 e => by
        rw [e]; exact k _ ((s1.trans s3).put hD)
      cases h with
      | one n =>
        refine ⟨_, rfl, _, _, _, _, rfl, rfl, .of (ht1), atI_nat (j := 0) rfl, rfl, _, rfl, ifTd rfl ?_⟩
        refine ⟨_, rfl, .inl ⟨rfl, _, .of hDD⟩, _, rfl, _, rfl, _, _, _, _, rfl, rfl, .of (ht1), atI_nat (j := 1) rfl, small (k := 2) (Nat.le_refl _) (by decide), fun q hq => ?_⟩
        have s2 := s1.put (o := .tup [V.str "born", nmV n]) (s1.free hq)
        have hq2 : (upd H1 q (.tup (encA (.born n)))) q = some (.tup (encA (.born n))) := upd_same
        have sq : Same H1 (upd H1 q (.tup (encA (.born n)))) := Same.upd hq
        refine ⟨a, m, q, .born n, rfl, (B.same s1).same sq, wf, fun x hx => by cases hx; exact hn, hq2, fun H3 s3 => ?_⟩
        refine ⟨D, _, _, rfl, rfl, (sq.trans s3) _ _ hDD, hlen, ?_⟩
        refine ⟨_, rfl, D, (ps.map (·.2)).map m.atomS ++ [m.atomS (.born n)], rfl, .of ?_, fin _ H3 (sq.trans s3) rfl⟩
        rw [upd_same, List.map_append]; rfl
      | kids n g =>
        refine ⟨_, rfl, _, _, _, _, rfl, rfl, .of (ht1), atI_nat (j := 0) rfl, rfl, _, rfl, ifFd (by decide +kernel) ?_⟩
        refine ⟨_, rfl, .inl ⟨rfl, _, .of hDD⟩, _, rfl, _, rfl, _, _, _, _, rfl, rfl, .of (ht1), atI_nat (j := 1) rfl, _, rfl, _, _, _, _, rfl, rfl, .of (ht1), atI_nat (j := 2) rfl, _, rfl, a, m, n, g, u, out, rfl, B.same s1, wf, hn, s1.seq hou, fun H3 s3 => ?_⟩
        refine ⟨D, _, _, rfl, rfl, s3 _ _ hDD, hlen, ?_⟩
        refine ⟨_, rfl, D, (ps.map (·.2)).map m.atomS ++ [m.classS n g out], rfl, .of ?_, fin _ H3 s3 rfl⟩
        rw [upd_same, List.map_append]; rfl
theorem leftOut_eq {m : M} (wf : m.WF) (n : Nm) : m.leftOut n = (m.kids n).filter fun c => m.isD c := by
  unfold M.leftOut
  apply List.filter_congr
  intro c hc
  have hb := M.kids_isB wf hc
  unfold M.alive
  rw [hb]
  cases m.isD c <;> rfl
def sp_mout (K : PySem.W.Frag) : Sp := fun vs H Q _ => ∃ A m t h, vs = [.ref (MA.t A), .ref t] ∧ MAt H A m ∧ m.WF ∧ H t = some (.tup (encH h)) ∧ Sm h.nm ∧
  ∀ H' p, Same H H' → H p = none → H' p = some (.lst ((m.outH h).map nmV)) → Q (.ref p) H'
theorem sc__law_out : FnScope ["_law_model_here", "_law_holder_here", "_law_child"] ["_law_model_here", "_law_holder_here"] (defScope s__law_out) :=
  ⟨rfl, rfl, rfl, by decide +kernel, rfl, by decide +kernel, by decide +kernel⟩
theorem ok__law_out (T : Txt K mg) : Cal P w K mg base 2 "_law_out" ["_law_model_here", "_law_holder_here"] (sp_mout K) := by
  obtain ⟨f__law_kids, fd__law_kids, g__law_kids, k__law_kids, b__law_kids, G__law_kids⟩ := ok__law_kids T
  refine cal_of T.g__law_out T.f__law_out sc__law_out (fun _ _ _ _ _ _ us hl => match us, hl with | [_, _], _ => rfl) (fun vs H Q E h => ?_) (fun f cdv A outer s H vs Q E hr h => ?_)
  · obtain ⟨A, m, t, h, rfl, _⟩ := h; rfl
  · obtain ⟨a, m, t, h, rfl, B, wf, ht, sm, k⟩ := h
    have hu := hu_of hr
    refine ⟨_, (pss_cons (ps_if (pt_cmpR op_eq (pe_ix (ix_tupK K) (pv 1) pe_int (fun _ _ => rfl)) pe_str (nomark _)) (pss_one (ps_ret (pe_lst pa_nil))) pss_nil)
        (pss_one (ps_ret (pe_lc (own := [("_law_child", 2)]) rfl sc__law_out.nd (pi_listK K (pe_call G__law_kids (hr.mono (by decide)) rfl g__law_kids k__law_kids b__law_kids .nil pass0 (pa_cons (pv 0) (pa_cons (pe_ix (ix_tupK K) (pv 1) pe_int (fun _ _ => rfl)) pa_nil)))) (blkOk_by (own := [("_law_child", 2)]) (N := ["_law_model_here", "_law_holder_here", "_law_child"]) (sc := defScope s__law_out) (by decide +kernel)) (fun _ _ _ _ _ => pg_name (i := 2) sc__law_out.nd rfl (Or.inl rfl)) (fun _ _ _ _ _ => (pts_one (pt_cmp (pc_din hu (pv 2) (pe_ix (ix_tupK K) (pv 0) pe_int (fun _ _ => rfl)))))) (fun _ _ _ _ _ => (pv 2)))))), ?_⟩
    cases h with
    | one n =>
      refine ⟨_, rfl, _, _, _, _, rfl, rfl, .of (ht), atI_nat (j := 0) rfl, rfl, _, rfl, ifTd rfl ?_⟩
      exact ⟨small (k := 0) (Nat.le_refl _) (by decide), fun p hp => k _ p (Same.upd hp) hp upd_same⟩
    | kids n g =>
      refine ⟨_, rfl, _, _, _, _, rfl, rfl, .of (ht), atI_nat (j := 0) rfl, rfl, _, rfl, ifFd (by decide +kernel) ?_⟩
      refine ⟨_, rfl, _, rfl, _, _, _, _, rfl, rfl, .of (ht), atI_nat (j := 1) rfl, a, m, n, rfl, B, wf, sm, fun H1 p s1 hp hp1 => ?_⟩
      refine ⟨p, rfl, ⟨_, .of hp1⟩, fun D hD => lc_fm (e := nmV) (ys := m.kids n) (fIf fun c => m.isD c) hD (.of hp1) (small (k := 10000) (by rw [M.kids_len]; exact kc10 B.sz n) (by decide)) ?_ ?_⟩
      · intro i y H' C hy s2 hC
        have B' := (B.same s1).same s2
        have hB := B'.t
        refine ⟨rfl, _, rfl, _, rfl, _, _, _, _, rfl, rfl, .of (hB), atI_nat (j := 2) rfl, a.d, _, rfl, B'.getD y, _, rfl, ?_⟩
        rw [mapSome]
        refine ifB (fun hb => ?_) (fun hb => ?_)
        · exact ⟨_, rfl, hC _ _ (Same.refl _) (fT hb)⟩
        · exact hC _ _ (Same.refl _) (fF hb)
      · intro H' s2 hDD
        refine k H' D (s1.trans s2) (s1.free hD) ?_
        rw [hDD, fm_if]
        show _ = some (HO.lst ((m.leftOut n).map nmV))
        rw [leftOut_eq wf]
def HolFit : Hol → Prop
  | .kids n g => n.l.length ≤ 4 ∧ 0 ≤ g ∧ g ≤ 120
  | _ => True
theorem Dr.near {m : M} {c r : Nm} (d : Dr m c) (wf : m.WF) (hz : m.bo.length ≤ 99) (h : m.near c = some r) : Dr m r := Dr.of_isB wf hz (M.near_isB h)
def sp_holder : Sp := fun vs H Q _ => ∃ A m n, vs = [.ref (MA.t A), .int n] ∧ LawM H A m ∧ 0 ≤ n ∧ ∀ H' t h, Same H H' → H t = none → H' t = some (.tup (encH h)) → Dr m h.nm → HolFit h → Q (.ref t) H'
theorem sc__law_holder : FnScope ["_law_model_here", "_law_n", "_law_name", "_law_near_here"] ["_law_model_here", "_law_n"] (defScope s__law_holder) :=
  ⟨rfl, rfl, rfl, by decide +kernel, rfl, by decide +kernel, by decide +kernel⟩
theorem ok__law_holder (T : Txt K mg) : Cal P w K mg base 2 "_law_holder" ["_law_model_here", "_law_n"] sp_holder := by
  obtain ⟨f__law_near, fd__law_near, g__law_near, k__law_near, b__law_near, G__law_near⟩ := ok__law_near T
  obtain ⟨f__law_path, fd__law_path, g__law_path, k__law_path, b__law_path, G__law_path⟩ := ok__law_path T
  refine cal_of T.g__law_holder T.f__law_holder sc__law_holder (fun _ _ _ _ _ _ us hl => match us, hl with | [_, _], _ => rfl) (fun vs H Q E h => ?_) (fun f cdv A outer s H vs Q E hr h => ?_)
  · obtain ⟨A, m, n, rfl, _⟩ := h; rfl
  · obtain ⟨a, m, n, rfl, L, hn, k⟩ := h
    have hu := hu_of hr
    refine ⟨_, (pss_cons (ps_set (i := 2) sc__law_holder.nd rfl (by first | exact Or.inl rfl | exact Or.inr rfl) (pe_call G__law_path (hr.mono (by decide)) rfl g__law_path k__law_path b__law_path .nil pass0 (pa_cons (pv 0) (pa_cons (pe_op op_fdiv (pv 1) pe_int) pa_nil))))
        (pss_cons (ps_set (i := 3) sc__law_holder.nd rfl (by first | exact Or.inl rfl | exact Or.inr rfl) (pe_call G__law_near (hr.mono (by decide)) rfl g__law_near k__law_near b__law_near .nil pass0 (pa_cons (pv 0) (pa_cons (pv 2) pa_nil))))
        (pss_cons (ps_if (pt_cmp (pc_din hu (pv 3) (pe_ix (ix_tupK K) (pv 0) pe_int (fun _ _ => rfl)))) (pss_one (ps_set (i := 2) sc__law_holder.nd rfl (by first | exact Or.inl rfl | exact Or.inr rfl) (pv 3))) pss_nil)
        (pss_cons (ps_if (PW.pt (pw_and (pt_cmpR op_lt (pe_m1 PySem.F.slot_str_count PySem.F.type_str_count mt_count (pv 2) pe_str) pe_int (nomark _)) (pw_and1 (PW.pt (pw_or (pt_cmp (pc_din hu (pv 3) (pe_ix (ix_tupK K) (pv 0) pe_int (fun _ _ => rfl)))) (pw_or1 (pt_cmpR op_lt (pe_op op_mod (pv 1) pe_int) pe_int (nomark _)))))))) (pss_one (ps_ret (pe_tup (pa_cons pe_str (pa_cons (pv 2) (pa_cons (pe_ix (ix_listK K) (pe_lst (pa_cons (pe_op op_mod (pe_op op_fdiv (pv 1) pe_int) pe_int) (pa_cons (pe_op op_mod (pe_op op_fdiv (pv 1) pe_int) pe_int) pa_nil))) (pe_op op_mod (pe_op op_fdiv (pv 1) pe_int) pe_int) (fun _ _ => rfl)) pa_nil)))))) pss_nil)
        (pss_cons (ps_if (pt_cmp (pc_din hu (pv 3) (pe_ix (ix_tupK K) (pv 0) pe_int (fun _ _ => rfl)))) (pss_one (ps_ret (pe_tup (pa_cons pe_str (pa_cons (pe_ix (ix_listK K) (pe_split (pv 2) pe_str) pe_int (fun _ _ => rfl)) (pa_cons (pe_op op_mod (pv 1) pe_int) pa_nil)))))) pss_nil)
        (pss_one (ps_ret (pe_tup (pa_cons pe_str (pa_cons (pv 2) pa_nil)))))))))), ?_⟩
    refine ⟨_, rfl, _, rfl, _, _, rfl, rfl, ⟨by decide, by decide⟩, a, m, _, rfl, L, Int.ediv_nonneg hn (by decide), fun H1 c s1 dc => ?_⟩
    have B := L.b.same s1
    have ht := B.t
    obtain ⟨r, hr⟩ := dc.ok.near
    have dr := dc.near L.wf (by have := L.z; omega) hr
    refine ⟨_, rfl, _, rfl, a, m, c, r, rfl, B, hr, dc.two.sm, ?_⟩
    refine ⟨_, rfl, _, rfl, _, _, _, _, rfl, rfl, .of (ht), atI_nat (j := 2) rfl, a.d, _, rfl, B.getD r, _, rfl, ?_⟩
    rw [mapSome]
    have g0 : 0 ≤ n / 5 % 37 := Int.emod_nonneg _ (by decide)
    have g1 : n / 5 % 37 < 37 := Int.emod_lt_of_pos _ (by decide)
    have g2 : 0 ≤ n / 5 % 121 := Int.emod_nonneg _ (by decide)
    have g3 : n / 5 % 121 < 121 := Int.emod_lt_of_pos _ (by decide)
    have y0 : 0 ≤ n / 605 % 2 := Int.emod_nonneg _ (by decide)
    have y1 : n / 605 % 2 < 2 := Int.emod_lt_of_pos _ (by decide)
    obtain ⟨v, hv, hv2⟩ := pick2 (V.int (n / 5 % 37)) (V.int (n / 5 % 121)) _ y0 y1
    have fin : ∀ (x : Nm) (t l : Addr), Dr m x → x.l.length < 5 → H1 l = none → (upd H1 l (.lst [V.int (n / 5 % 37), V.int (n / 5 % 121)])) t = none → Q (.ref t) (upd (upd H1 l (.lst [V.int (n / 5 % 37), V.int (n / 5 % 121)])) t (.tup [V.str "kids", nmV x, v])) := by
      intro x t l dx h5 hl ht
      have s2 := s1.put (o := .lst [V.int (n / 5 % 37), V.int (n / 5 % 121)]) (s1.free hl)
      rcases hv2 with rfl | rfl
      · exact k _ t (.kids x (n / 5 % 37)) (s2.put (s2.free ht)) (s2.free ht) upd_same dx ⟨by omega, g0, by omega⟩
      · exact k _ t (.kids x (n / 5 % 121)) (s2.put (s2.free ht)) (s2.free ht) upd_same dx ⟨by omega, g2, by omega⟩
    refine ifB (fun hD => ?_) (fun hD => ?_)
    · have hD : m.isD r = true := hD
      refine ⟨_, rfl, ?_⟩
      refine ⟨_, rfl, ⟨_, rfl⟩, _, _, rfl, rfl, _, _, rfl, rfl, _, rfl, ?_⟩
      rw [count_nm]
      refine ifB (fun h5 => ?_) (fun h5 => ?_)
      · have h5 : (r.l.length : Int) < 5 := of_decide_eq_true h5
        refine ⟨_, rfl, _, rfl, _, _, _, _, rfl, rfl, .of (ht), atI_nat (j := 2) rfl, a.d, _, rfl, B.getD r, _, rfl, ?_⟩
        rw [mapSome]
        refine ifT hD ?_
        try rw [if_pos rfl]
        refine ⟨_, rfl, _, rfl, _, _, rfl, rfl, ⟨by decide, by decide⟩, _, _, rfl, rfl, (show (0 : Int) < 37 by decide), _, rfl, _, _, rfl, rfl, ⟨by decide, by decide⟩, _, _, rfl, rfl, (show (0 : Int) < 121 by decide), small (k := 2) (Nat.le_refl _) (by decide), fun l hl => ?_⟩
        refine ⟨_, rfl, _, _, rfl, rfl, ⟨by decide, by decide⟩, _, _, rfl, rfl, (show (0 : Int) < 2 by decide), l, _, _, v, rfl, rfl, .of upd_same, hv, small (k := 3) (Nat.le_refl _) (by decide), fun t ht => ?_⟩
        exact fin r t l dr (by omega) hl ht
      · try rw [if_neg Bool.false_ne_true]
        refine ⟨_, rfl, _, rfl, _, _, _, _, rfl, rfl, .of (ht), atI_nat (j := 2) rfl, a.d, _, rfl, B.getD r, _, rfl, ?_⟩
        rw [mapSome]
        refine ifT hD ?_
        have hL := dr.two.len
        refine ⟨_, rfl, ⟨_, rfl⟩, _, _, rfl, rfl, by decide +kernel, small (k := 60) (by omega) (by decide), fun p hp => ?_⟩
        rw [split_enc]
        refine ⟨p, _, _, _, rfl, rfl, .of upd_same, atI_nat (j := 0) rfl, ?_⟩
        refine ⟨_, rfl, _, _, rfl, rfl, (show (0 : Int) < 37 by decide), small (k := 3) (Nat.le_refl _) (by decide), fun t ht => ?_⟩
        have z0 : 0 ≤ n % 37 := Int.emod_nonneg _ (by decide)
        have z1 : n % 37 < 37 := Int.emod_lt_of_pos _ (by decide)
        have s2 := s1.put (o := .lst ((r.w.s :: r.l.map num).map V.str)) (s1.free hp)
        exact k _ t (.kids (Nm.root r.w) (n % 37)) (s2.put (s2.free ht)) (s2.free ht) upd_same ⟨⟨Nat.zero_le _, fun i hi => nomatch hi⟩, dr.root⟩ ⟨Nat.zero_le _, z0, by omega⟩
    · have hD : m.isD r = false := hD
      have last : ∀ (X : V → Hp → Prop), True := fun _ => trivial
      refine ⟨_, rfl, ⟨_, rfl⟩, _, _, rfl, rfl, _, _, rfl, rfl, _, rfl, ?_⟩
      rw [count_nm]
      have one : ∀ t, H1 t = none → Q (.ref t) (upd H1 t (.tup (encH (.one c)))) := fun t ht => k _ t (.one c) (s1.put (s1.free ht)) (s1.free ht) upd_same dc trivial
      refine ifB (fun h5 => ?_) (fun h5 => ?_)
      · have h5 : (c.l.length : Int) < 5 := of_decide_eq_true h5
        refine ⟨_, rfl, _, rfl, _, _, _, _, rfl, rfl, .of (ht), atI_nat (j := 2) rfl, a.d, _, rfl, B.getD r, _, rfl, ?_⟩
        rw [mapSome]
        refine ifF hD ?_
        refine ⟨_, rfl, _, _, rfl, rfl, (show (0 : Int) < 5 by decide), _, _, rfl, rfl, _, rfl, ?_⟩
        refine ifB (fun h2 => ?_) (fun h2 => ?_)
        · try rw [if_pos rfl]
          refine ⟨_, rfl, _, rfl, _, _, rfl, rfl, ⟨by decide, by decide⟩, _, _, rfl, rfl, (show (0 : Int) < 37 by decide), _, rfl, _, _, rfl, rfl, ⟨by decide, by decide⟩, _, _, rfl, rfl, (show (0 : Int) < 121 by decide), small (k := 2) (Nat.le_refl _) (by decide), fun l hl => ?_⟩
          refine ⟨_, rfl, _, _, rfl, rfl, ⟨by decide, by decide⟩, _, _, rfl, rfl, (show (0 : Int) < 2 by decide), l, _, _, v, rfl, rfl, .of upd_same, hv, small (k := 3) (Nat.le_refl _) (by decide), fun t ht => ?_⟩
          exact fin c t l dc (by omega) hl ht
        · try rw [if_neg Bool.false_ne_true]
          refine ⟨_, rfl, _, rfl, _, _, _, _, rfl, rfl, .of (ht), atI_nat (j := 2) rfl, a.d, _, rfl, B.getD r, _, rfl, ?_⟩
          rw [mapSome]
          refine ifF hD ?_
          exact ⟨_, rfl, small (k := 2) (Nat.le_refl _) (by decide), one⟩
      · try rw [if_neg Bool.false_ne_true]
        refine ⟨_, rfl, _, rfl, _, _, _, _, rfl, rfl, .of (ht), atI_nat (j := 2) rfl, a.d, _, rfl, B.getD r, _, rfl, ?_⟩
        rw [mapSome]
        refine ifF hD ?_
        exact ⟨_, rfl, small (k := 2) (Nat.le_refl _) (by decide), one⟩
structure HolOk (m : M) (h : Hol) : Prop where
  dr : Dr m h.nm
  fit : HolFit h
def keepC (b : Bool) : Atom → Bool
  | .comes _ => b
  | _ => true
def sp_mrow (K : PySem.W.Frag) : Sp := fun vs H Q _ => ∃ A m n, vs = [.ref (MA.t A), .int n] ∧ LawM H A m ∧ 0 ≤ n ∧ ∀ H' p t h o ps, Same H H' → H p = none → H' p = some (.tup [.ref t, .ref o]) → H' t = some (.tup (encH h)) → HolOk m h → AtL K H' o ps → AtsOk m ps → ps.length ≤ 6 → Q (.ref p) H'
theorem pick446 (i : Int) (h0 : 0 ≤ i) (h3 : i < 3) : ∃ y : Int, atI [V.int 4, V.int 4, V.int 6] i = some (.int y) ∧ 0 ≤ y ∧ y ≤ 6 := by
  obtain ⟨v, hv, rfl | rfl | rfl⟩ := pick3 (V.int 4) (V.int 4) (V.int 6) i h0 h3
  · exact ⟨4, hv, by decide, by decide⟩
  · exact ⟨4, hv, by decide, by decide⟩
  · exact ⟨6, hv, by decide, by decide⟩
theorem sc__law_judged_row : FnScope ["_law_model_here", "_law_n", "_law_some", "_law_atom_here"] ["_law_model_here", "_law_n"] (defScope s__law_judged_row) :=
  ⟨rfl, rfl, rfl, by decide +kernel, rfl, by decide +kernel, by decide +kernel⟩
theorem ok__law_judged_row (T : Txt K mg) : Cal P w K mg base 4 "_law_judged_row" ["_law_model_here", "_law_n"] (sp_mrow K) := by
  obtain ⟨f__law_holder, fd__law_holder, g__law_holder, k__law_holder, b__law_holder, G__law_holder⟩ := ok__law_holder T
  obtain ⟨f__law_needs, fd__law_needs, g__law_needs, k__law_needs, b__law_needs, G__law_needs⟩ := ok__law_needs T
  refine cal_of T.g__law_judged_row T.f__law_judged_row sc__law_judged_row (fun _ _ _ _ _ _ us hl => match us, hl with | [_, _], _ => rfl) (fun vs H Q E h => ?_) (fun f cdv A outer s H vs Q E hr h => ?_)
  · obtain ⟨A, m, n, rfl, _⟩ := h; rfl
  · obtain ⟨a, m, n, rfl, L, hn, k⟩ := h
    refine ⟨_, (pss_cons (ps_set (i := 2) sc__law_judged_row.nd rfl (by first | exact Or.inl rfl | exact Or.inr rfl) (pe_call G__law_needs (hr.mono (by decide)) rfl g__law_needs k__law_needs b__law_needs .nil pass0 (pa_cons (pv 0) (pa_cons (pe_op op_fdiv (pv 1) pe_int) (pa_cons (pe_ix (ix_listK K) (pe_lst (pa_cons pe_int (pa_cons pe_int (pa_cons pe_int pa_nil)))) (pe_op op_mod (pe_op op_fdiv (pv 1) pe_int) pe_int) (fun _ _ => rfl)) pa_nil)))))
        (pss_one (ps_ret (pe_tup (pa_cons (pe_call G__law_holder (hr.mono (by decide)) rfl g__law_holder k__law_holder b__law_holder .nil pass0 (pa_cons (pv 0) (pa_cons (pe_op op_fdiv (pv 1) pe_int) pa_nil))) (pa_cons (pe_lc (own := [("_law_atom_here", 3)]) rfl sc__law_judged_row.nd (pi_listK K (pv 2)) (blkOk_by (own := [("_law_atom_here", 3)]) (N := ["_law_model_here", "_law_n", "_law_some", "_law_atom_here"]) (sc := defScope s__law_judged_row) (by decide +kernel)) (fun _ _ _ _ _ => pg_name (i := 3) sc__law_judged_row.nd rfl (Or.inl rfl)) (fun _ _ _ _ _ => (pts_one (PW.pt (pw_or (pt_cmpR op_ne (pe_ix (ix_tupK K) (pv 3) pe_int (fun _ _ => rfl)) pe_str (nomark _)) (pw_or1 (pt_cmpR op_eq (pe_op op_mod (pv 1) pe_int) pe_int (nomark _))))))) (fun _ _ _ _ _ => (pv 3))) pa_nil)))))), ?_⟩
    have y0 : 0 ≤ n / 7 % 3 := Int.emod_nonneg _ (by decide)
    have y1 : n / 7 % 3 < 3 := Int.emod_lt_of_pos _ (by decide)
    obtain ⟨y, hy, hy0, hy6⟩ := pick446 _ y0 y1
    refine ⟨_, rfl, _, rfl, _, _, rfl, rfl, ⟨by decide, by decide⟩, small (k := 3) (Nat.le_refl _) (by decide), fun l hl => ?_⟩
    have s1 : Same H (upd H l (.lst [V.int 4, V.int 4, V.int 6])) := Same.upd hl
    refine ⟨_, rfl, _, _, rfl, rfl, ⟨by decide, by decide⟩, _, _, rfl, rfl, (show (0 : Int) < 3 by decide), l, _, _, _, rfl, rfl, .of upd_same, hy, ?_⟩
    refine ⟨a, m, _, y, rfl, L.same s1, Int.ediv_nonneg hn (by decide), hy0, hy6, fun H2 o ps s2 ho B ok hz => ?_⟩
    have s12 := s1.trans s2
    refine ⟨_, rfl, _, rfl, _, _, rfl, rfl, ⟨by decide, by decide⟩, a, m, _, rfl, L.same s12, Int.ediv_nonneg hn (by decide), fun H3 t h s3 ht0 ht dh hf => ?_⟩
    have s13 := s12.trans s3
    have B3 := B.same s3
    refine ⟨_, rfl, o, rfl, ⟨_, B3.l⟩, fun D hD => lc_fm (e := rV) (ys := ps) (fPs fun p => keepC (decide (n % 3 = 0)) p.2) hD B3.l (small (k := 6) hz (by decide)) ?_ ?_⟩
    · intro i y H' C hy s4 hC
      have hm := List.mem_of_getElem? hy
      have ht := s4 _ _ (B3.t y hm)
      refine ⟨rfl, ?_⟩
      have yes : ∀ X : V → Hp → Prop, True := fun _ => trivial
      obtain ⟨ya, y⟩ := y
      cases y with
      | year y =>
        refine ⟨_, rfl, _, _, _, _, rfl, rfl, .of (ht), atI_nat (j := 0) rfl, rfl, _, rfl, ifT (by decide +kernel) ?_⟩
        exact ⟨_, rfl, hC _ _ (Same.refl _) (gT (p := fun p => keepC (decide (n % 3 = 0)) p.2) rfl)⟩
      | comes x =>
        refine ⟨_, rfl, _, _, _, _, rfl, rfl, .of (ht), atI_nat (j := 0) rfl, rfl, _, rfl, ifF (by decide +kernel) ?_⟩
        refine ⟨_, rfl, _, _, rfl, rfl, (show (0 : Int) < 3 by decide), rfl, _, rfl, ?_⟩
        have e : decide (V.int (n % 3) = V.int 0) = decide (n % 3 = 0) := by
          by_cases c : n % 3 = 0
          · rw [decide_eq_true c, decide_eq_true (by rw [c])]
          · rw [decide_eq_false c, decide_eq_false (fun z => c (V.int.inj z))]
        rw [e]
        refine ifB (fun hb => ?_) (fun hb => ?_)
        · exact ⟨_, rfl, hC _ _ (Same.refl _) (gT (p := fun p => keepC (decide (n % 3 = 0)) p.2) hb)⟩
        · exact hC _ _ (Same.refl _) (gF (p := fun p => keepC (decide (n % 3 = 0)) p.2) hb)
      | born x =>
        refine ⟨_, rfl, _, _, _, _, rfl, rfl, .of (ht), atI_nat (j := 0) rfl, rfl, _, rfl, ifT (by decide +kernel) ?_⟩
        exact ⟨_, rfl, hC _ _ (Same.refl _) (gT (p := fun p => keepC (decide (n % 3 = 0)) p.2) rfl)⟩
      | dead x =>
        refine ⟨_, rfl, _, _, _, _, rfl, rfl, .of (ht), atI_nat (j := 0) rfl, rfl, _, rfl, ifT (by decide +kernel) ?_⟩
        exact ⟨_, rfl, hC _ _ (Same.refl _) (gT (p := fun p => keepC (decide (n % 3 = 0)) p.2) rfl)⟩
      | age x g =>
        refine ⟨_, rfl, _, _, _, _, rfl, rfl, .of (ht), atI_nat (j := 0) rfl, rfl, _, rfl, ifT (by decide +kernel) ?_⟩
        exact ⟨_, rfl, hC _ _ (Same.refl _) (gT (p := fun p => keepC (decide (n % 3 = 0)) p.2) rfl)⟩
    · intro H4 s4 hDD
      have B4 := (B3.same s4).filter hDD
      refine ⟨small (k := 2) (Nat.le_refl _) (by decide), fun p hp => ?_⟩
      have s5 : Same H4 (upd H4 p (.tup [.ref t, .ref D])) := Same.upd hp
      have s14 := s13.trans s4
      refine k _ p t h D _ (s14.trans s5) (s14.free hp) upd_same (s5 _ _ (s4 _ _ ht)) ⟨dh, hf⟩ (B4.same s5) ⟨fun q hq => ok.ok q (List.mem_filter.mp hq).1, fun q hq => ok.fit q (List.mem_filter.mp hq).1⟩ ?_
      exact Nat.le_trans (List.length_filter_le ..) hz
end
end DH

namespace DH
open PySem PySem.Spec PyProof.Rows L2 TL
section
variable {P : Program} {w : World} {K : PySem.W.Frag} {mg : Str → Option Value} {base : Heap}
def Deed.ybd : Deed → Bool
  | .years _ => true
  | .birth _ => true
  | .death _ => true
  | _ => false
def sp_good : Sp := fun vs H Q _ => ∃ A m t d, vs = [.ref (MA.t A), .ref t] ∧ MAt H A m ∧ m.Can d ∧ Deed.ybd d = true ∧ H t = some (.tup (encD d)) ∧ Q (.bl true) H
theorem sc__law_good : FnScope ["_law_model_here", "_law_deed"] ["_law_model_here", "_law_deed"] (defScope s__law_good) :=
  ⟨rfl, rfl, rfl, by decide +kernel, rfl, by decide +kernel, by decide +kernel⟩
theorem ok__law_good (T : Txt K mg) : Cal P w K mg base 2 "_law_good" ["_law_model_here", "_law_deed"] sp_good := by
  obtain ⟨f__law_num, fd__law_num, g__law_num, k__law_num, b__law_num, G__law_num⟩ := ok__law_num T
  refine cal_of T.g__law_good T.f__law_good sc__law_good (fun _ _ _ _ _ _ us hl => match us, hl with | [_, _], _ => rfl) (fun vs H Q E h => ?_) (fun f cdv A outer s H vs Q E hr h => ?_)
  · obtain ⟨A, m, t, d, rfl, _⟩ := h; rfl
  · obtain ⟨a, m, t, d, rfl, B, can, yb, ht, k⟩ := h
    have hu := hu_of hr
    have hB := B.t
    refine ⟨_, (pss_cons (ps_if (PW.pt (pw_or (pt_not (pt_val (pe_callB (isiK K) (by rfl) T.b_isinstance (by decide +kernel) (pa_cons (pv 1) (pa_cons (pe_bltn (v := .ty "tuple") (u := .type "tuple") rfl T.b_tuple (by decide +kernel) rfl) pa_nil))))) (pw_or1 (pt_cmpR op_ne (pe_callB (call_lenK K) (by rfl) T.b_len PySem.boot_len (pa_cons (pv 1) pa_nil)) pe_int (nomark _))))) (pss_one (ps_ret pe_bl)) pss_nil)
        (pss_cons (ps_if (pt_cmpR op_eq (pe_ix (ix_tupK K) (pv 1) pe_int (fun _ _ => rfl)) pe_str (nomark _)) (pss_one (ps_ret (pe_and (pe_call G__law_num (hr.mono (by decide)) rfl g__law_num k__law_num b__law_num .nil pass0 (pa_cons (pe_ix (ix_tupK K) (pv 1) pe_int (fun _ _ => rfl)) pa_nil)) (pe_and (pe_cmpR op_le pe_int (pe_ix (ix_tupK K) (pv 1) pe_int (fun _ _ => rfl)) (nomark _)) (pe_one (pe_cmpR op_le (pe_ix (ix_tupK K) (pv 1) pe_int (fun _ _ => rfl)) pe_int (nomark _))))))) pss_nil)
        (pss_cons (ps_if (PW.pt (pw_and (pt_cmpR op_ne (pe_ix (ix_tupK K) (pv 1) pe_int (fun _ _ => rfl)) pe_str (nomark _)) (pw_and1 (pt_cmpR op_ne (pe_ix (ix_tupK K) (pv 1) pe_int (fun _ _ => rfl)) pe_str (nomark _))))) (pss_one (ps_ret pe_bl)) pss_nil)
        (pss_cons (ps_if (PW.pt (pw_or (pt_not (pt_val (pe_callB (isiK K) (by rfl) T.b_isinstance (by decide +kernel) (pa_cons (pe_ix (ix_tupK K) (pv 1) pe_int (fun _ _ => rfl)) (pa_cons (pe_bltn (v := .ty "str") (u := .type "str") rfl T.b_str (by decide +kernel) rfl) pa_nil))))) (pw_or (pt_cmp (pc_dnotin hu (pe_ix (ix_tupK K) (pv 1) pe_int (fun _ _ => rfl)) (pe_ix (ix_tupK K) (pv 0) pe_int (fun _ _ => rfl)))) (pw_or1 (pt_cmp (pc_din hu (pe_ix (ix_tupK K) (pv 1) pe_int (fun _ _ => rfl)) (pe_ix (ix_tupK K) (pv 0) pe_int (fun _ _ => rfl)))))))) (pss_one (ps_ret pe_bl)) pss_nil)
        (pss_one (ps_ret (pe_or (pe_cmpR op_eq (pe_ix (ix_tupK K) (pv 1) pe_int (fun _ _ => rfl)) pe_str (nomark _)) (pe_one (pe_cmpR op_lt (pe_m1 PySem.F.slot_str_count PySem.F.type_str_count mt_count (pe_ix (ix_tupK K) (pv 1) pe_int (fun _ _ => rfl)) pe_str) pe_int (nomark _)))))))))), ?_⟩
    cases d with
    | years j =>
      have c1 : 1 ≤ j := can.1
      have c2 : j ≤ 60 := can.2
      refine ⟨_, rfl, _, _, _, _, true, rfl, .ty "tuple", .base (.tup ht), kit_ty (by decide +kernel), _, rfl, ?_⟩
      refine ⟨_, rfl, _, _, rfl, .inr ⟨_, .inl (.inl ht), rfl⟩, rfl, _, rfl, ifF (by rfl) ?_⟩
      refine ⟨_, rfl, _, _, _, _, rfl, rfl, .of (ht), atI_nat (j := 0) rfl, rfl, _, rfl, ifTd rfl ?_⟩
      refine ⟨_, rfl, _, _, _, _, rfl, rfl, .of (ht), atI_nat (j := 1) rfl, j, rfl, ?_⟩
      refine ⟨_, rfl, ifT rfl ?_⟩
      refine ⟨_, rfl, _, _, _, _, rfl, rfl, .of (ht), atI_nat (j := 1) rfl, _, _, rfl, rfl, _, rfl, ifTd c1 ?_⟩
      refine ⟨_, rfl, _, _, _, _, rfl, rfl, .of (ht), atI_nat (j := 1) rfl, _, _, rfl, rfl, ?_⟩
      show Q (V.bl (decide (j ≤ 60))) H
      rw [decide_eq_true c2]
      exact k
    | arrive x g => cases yb
    | birth n =>
      have hal := M.alive_iff.mp can.1
      have h5 : n.l.length < 5 := can.2
      refine ⟨_, rfl, _, _, _, _, true, rfl, .ty "tuple", .base (.tup ht), kit_ty (by decide +kernel), _, rfl, ?_⟩
      refine ⟨_, rfl, _, _, rfl, .inr ⟨_, .inl (.inl ht), rfl⟩, rfl, _, rfl, ifF (by rfl) ?_⟩
      refine ⟨_, rfl, _, _, _, _, rfl, rfl, .of (ht), atI_nat (j := 0) rfl, rfl, _, rfl, ifFd (by decide +kernel) ?_⟩
      refine ⟨_, rfl, _, _, _, _, rfl, rfl, .of (ht), atI_nat (j := 0) rfl, rfl, _, rfl, ifF (by decide +kernel) ?_⟩
      try rw [if_neg Bool.false_ne_true]
      refine ⟨_, rfl, _, _, _, _, rfl, rfl, .of (ht), atI_nat (j := 1) rfl, _, _, _, _, true, rfl, .ty "str", .base (.str _), kit_ty (by decide +kernel), _, rfl, ?_⟩
      refine ⟨_, rfl, _, _, _, _, rfl, rfl, .of (ht), atI_nat (j := 1) rfl, _, rfl, _, _, _, _, rfl, rfl, .of (hB), atI_nat (j := 1) rfl, a.b, _, rfl, B.getB n, _, rfl, ?_⟩
      rw [mapSome]
      refine ifF (by show (!m.isB n) = false; rw [hal.1]; rfl) ?_
      refine ⟨_, rfl, _, _, _, _, rfl, rfl, .of (ht), atI_nat (j := 1) rfl, _, rfl, _, _, _, _, rfl, rfl, .of (hB), atI_nat (j := 2) rfl, a.d, _, rfl, B.getD n, _, rfl, ?_⟩
      rw [mapSome]
      refine ifF hal.2 ?_
      try rw [if_neg Bool.false_ne_true]
      refine ⟨_, rfl, _, _, _, _, rfl, rfl, .of (ht), atI_nat (j := 0) rfl, rfl, _, rfl, ifFd (by decide +kernel) ?_⟩
      refine ⟨_, rfl, _, _, _, _, rfl, rfl, .of (ht), atI_nat (j := 1) rfl, ⟨_, rfl⟩, _, _, rfl, rfl, _, _, rfl, rfl, ?_⟩
      rw [count_nm]
      show Q (V.bl (decide ((n.l.length : Int) < 5))) H
      rw [decide_eq_true (by omega)]
      exact k
    | death n =>
      have hal := M.alive_iff.mp can
      refine ⟨_, rfl, _, _, _, _, true, rfl, .ty "tuple", .base (.tup ht), kit_ty (by decide +kernel), _, rfl, ?_⟩
      refine ⟨_, rfl, _, _, rfl, .inr ⟨_, .inl (.inl ht), rfl⟩, rfl, _, rfl, ifF (by rfl) ?_⟩
      refine ⟨_, rfl, _, _, _, _, rfl, rfl, .of (ht), atI_nat (j := 0) rfl, rfl, _, rfl, ifFd (by decide +kernel) ?_⟩
      refine ⟨_, rfl, _, _, _, _, rfl, rfl, .of (ht), atI_nat (j := 0) rfl, rfl, _, rfl, ifT (by decide +kernel) ?_⟩
      refine ⟨_, rfl, _, _, _, _, rfl, rfl, .of (ht), atI_nat (j := 0) rfl, rfl, _, rfl, ifF (by decide +kernel) ?_⟩
      try rw [if_neg Bool.false_ne_true]
      refine ⟨_, rfl, _, _, _, _, rfl, rfl, .of (ht), atI_nat (j := 1) rfl, _, _, _, _, true, rfl, .ty "str", .base (.str _), kit_ty (by decide +kernel), _, rfl, ?_⟩
      refine ⟨_, rfl, _, _, _, _, rfl, rfl, .of (ht), atI_nat (j := 1) rfl, _, rfl, _, _, _, _, rfl, rfl, .of (hB), atI_nat (j := 1) rfl, a.b, _, rfl, B.getB n, _, rfl, ?_⟩
      rw [mapSome]
      refine ifF (by show (!m.isB n) = false; rw [hal.1]; rfl) ?_
      refine ⟨_, rfl, _, _, _, _, rfl, rfl, .of (ht), atI_nat (j := 1) rfl, _, rfl, _, _, _, _, rfl, rfl, .of (hB), atI_nat (j := 2) rfl, a.d, _, rfl, B.getD n, _, rfl, ?_⟩
      rw [mapSome]
      refine ifF hal.2 ?_
      try rw [if_neg Bool.false_ne_true]
      refine ⟨_, rfl, _, _, _, _, rfl, rfl, .of (ht), atI_nat (j := 0) rfl, rfl, _, rfl, ifTd rfl ?_⟩
      exact k
    | comes x => cases yb
/-! ### both worlds at once -/
def Apart (A : WA) (B : MA) : Prop := ∀ x ∈ [B.b, B.d, B.e], ∀ y ∈ [A.b, A.e, A.m, A.c], x ≠ y
theorem MAt.off {H H' : Hp} {A : WA} {B : MA} {m m' : M} (W : WAt K H A m) (G : MAt H B m') (ap : Apart A B) (O : Off (fpW A) H H') : MAt H' B m' := by
  have k1 : ∀ {q : Addr} {xs : List V}, H q = some (.tup xs) → q ∉ fpW A := fun h => by
    have a1 := ne_of h W.o (by intro z; cases z)
    have a2 := ne_of h W.l.b (by intro z; cases z)
    have a3 := ne_of h W.l.e (by intro z; cases z)
    have a4 := ne_of h W.l.mm (by intro z; cases z)
    have a5 := ne_of h W.c (by intro z; cases z)
    simp [a1, a2, a3, a4, a5]
  have k2 : ∀ {q : Addr} {xs : List V}, H q = some (.lst xs) → q ∉ fpW A := fun h => by
    have a1 := ne_of h W.o (by intro z; cases z)
    have a2 := ne_of h W.l.b (by intro z; cases z)
    have a3 := ne_of h W.l.e (by intro z; cases z)
    have a4 := ne_of h W.l.mm (by intro z; cases z)
    have a5 := ne_of h W.c (by intro z; cases z)
    simp [a1, a2, a3, a4, a5]
  have k3 : ∀ {q : Addr} {xs : List (Key × V)}, H q = some (.dK xs) → q ∈ [B.b, B.d, B.e] → q ∉ fpW A := fun {q xs} h hq => by
    have a1 := ne_of h W.o (by intro z; cases z)
    intro z
    rcases List.mem_cons.mp z with z | z
    · exact a1 z
    · exact ap q hq q z rfl
  exact ⟨O _ _ G.t (k1 G.t), O _ _ G.c (k2 G.c), O _ _ G.b (k3 G.b (by simp)), O _ _ G.d (k3 G.d (by simp)), O _ _ G.e (k3 G.e (by simp)), G.bd, G.be, G.de, G.sz⟩
theorem WAt.off {H H' : Hp} {A : WA} {B : MA} {m m' : M} (W : WAt K H A m) (G : MAt H B m') (ap : Apart A B) (O : Off (fpM B) H H') : WAt K H' A m := by
  have k1 : ∀ {q c x : Addr} {fs : List (Str × V)}, H q = some (.ins c x fs) → q ∉ fpM B := fun h => by
    have a1 := ne_of h G.c (by intro z; cases z)
    have a2 := ne_of h G.b (by intro z; cases z)
    have a3 := ne_of h G.d (by intro z; cases z)
    have a4 := ne_of h G.e (by intro z; cases z)
    simp [a1, a2, a3, a4]
  have k3 : ∀ {q : Addr} {xs : List (Key × V)}, H q = some (.dK xs) → q ∈ [A.b, A.e, A.m, A.c] → q ∉ fpM B := fun {q xs} h hq => by
    have a1 := ne_of h G.c (by intro z; cases z)
    intro z
    rcases List.mem_cons.mp z with z | z
    · exact a1 z
    · exact ap q z q hq rfl
  exact ⟨O _ _ W.o (k1 W.o), ⟨O _ _ W.l.o (k1 W.l.o), O _ _ W.l.b (k3 W.l.b (by simp)), O _ _ W.l.e (k3 W.l.e (by simp)), O _ _ W.l.mm (k3 W.l.mm (by simp)), W.l.be, W.l.bm, W.l.em, W.l.sz⟩, O _ _ W.c (k3 W.c (by simp)), W.bc, W.ec, W.mc, W.pl⟩
theorem mem_ne_none {α : Type} {f : α → Prop} {a b c d : α} (ha : f a) (hb : f b) (hc : f c) (hd : f d) : ∀ x ∈ [a, b, c, d], f x := by
  intro x hx
  simp only [List.mem_cons, List.not_mem_nil, or_false] at hx
  rcases hx with rfl | rfl | rfl | rfl
  · exact ha
  · exact hb
  · exact hc
  · exact hd
theorem mem_five {α : Type} {f : α → Prop} {a b c d e : α} (ha : f a) (hb : f b) (hc : f c) (hd : f d) (he : f e) : ∀ x ∈ [a, b, c, d, e], f x := by
  intro x hx
  rcases List.mem_cons.mp hx with rfl | hx
  · exact ha
  · exact mem_ne_none hb hc hd he x hx
theorem Runs_take {m : M} {ds : List Deed} {i : Nat} {d : Deed} (R : m.Runs ds) (h : ds[i]? = some d) : m.Runs (ds.take i) ∧ (m.run (ds.take i)).Can d := by
  have e : ds = ds.take i ++ d :: ds.drop (i + 1) := by
    obtain ⟨hi, e⟩ := List.getElem?_eq_some_iff.mp h
    rw [← e, List.getElem_cons_drop, List.take_append_drop]
  rw [e] at R
  have := M.Runs_append.mp R
  exact ⟨this.1, this.2.1⟩
def sp_again (K : PySem.W.Frag) : Sp := fun vs H Q _ => ∃ y l ps, vs = [.int y, .ref l] ∧ 0 ≤ y ∧ y ≤ 9999 ∧ DsL H l ps ∧ (M.init y).Runs (ps.map (·.2)) ∧ ps.length ≤ 5000 ∧
  ∀ (H' : Hp) (p : Addr) (A : WA) (B : MA), Same H H' → H p = none → H' p = some (.tup [.ref A.p, .ref B.t]) → WAt K H' A ((M.init y).run (ps.map (·.2))) → MAt H' B ((M.init y).run (ps.map (·.2))) → Apart A B → (∀ x ∈ fpW A, H x = none) → (∀ x ∈ fpM B, H x = none) → Q (.ref p) H'
theorem sc__law_again : FnScope ["_law_year", "_law_deeds", "_law_model_here", "_law_world", "_law_deed"] ["_law_year", "_law_deeds"] (defScope s__law_again) :=
  ⟨rfl, rfl, rfl, by decide +kernel, rfl, by decide +kernel, by decide +kernel⟩
theorem ok__law_again (T : Txt K mg) : Cal P w K mg base 5 "_law_again" ["_law_year", "_law_deeds"] (sp_again K) := by
  obtain ⟨f__law_play, fd__law_play, g__law_play, k__law_play, b__law_play, G__law_play⟩ := ok__law_play T
  obtain ⟨f__law_do, fd__law_do, g__law_do, k__law_do, b__law_do, G__law_do⟩ := ok__law_do T
  obtain ⟨f_World___init__, fd_World___init__, M_World, b_World___init__, G_World___init__⟩ := ok_World___init__ T
  obtain ⟨f__law_model, fd__law_model, g__law_model, k__law_model, b__law_model, G__law_model⟩ := ok__law_model T
  refine cal_of T.g__law_again T.f__law_again sc__law_again (fun _ _ _ _ _ _ us hl => match us, hl with | [_, _], _ => rfl) (fun vs H Q E h => ?_) (fun f cdv A outer s H vs Q E hr h => ?_)
  · obtain ⟨y, l, ps, rfl, _⟩ := h; rfl
  · obtain ⟨y, l, ps, rfl, y0, y9, D, R, hz, k⟩ := h
    refine ⟨_, (pss_cons (ps_set (i := 2) sc__law_again.nd rfl (by first | exact Or.inl rfl | exact Or.inr rfl) (pe_call G__law_model (hr.mono (by decide)) rfl g__law_model k__law_model b__law_model .nil pass0 (pa_cons (pv 0) pa_nil)))
        (pss_cons (ps_set (i := 3) sc__law_again.nd rfl (by first | exact Or.inl rfl | exact Or.inr rfl) (pe_make M_World G_World___init__ (hr.mono (by decide)) rfl T.g_World b_World___init__ .nil pass0 (pa_cons (pv 0) pa_nil)))
        (pss_cons (ps_for PassesOwn.never rfl (pi_listK K (pv 1)) (pg_name (i := 4) sc__law_again.nd rfl (by first | exact Or.inl rfl | exact Or.inr rfl)) (pss_cons (ps_expr (pe_call G__law_do (hr.mono (by decide)) rfl g__law_do k__law_do b__law_do .nil pass0 (pa_cons (pv 3) (pa_cons (pv 4) pa_nil))))
        (pss_one (ps_expr (pe_call G__law_play (hr.mono (by decide)) rfl g__law_play k__law_play b__law_play .nil pass0 (pa_cons (pv 2) (pa_cons (pv 4) pa_nil)))))))
        (pss_one (ps_ret (pe_tup (pa_cons (pv 3) (pa_cons (pv 2) pa_nil)))))))), ?_⟩
    refine ⟨_, rfl, y, rfl, fun G H1 ht hc hb hd he s1 B1 => ?_⟩
    refine ⟨_, rfl, ?_⟩
    intro q qx hq hqx nq
    refine ⟨q, qx, y, rfl, upd_same, y0, y9, fun A H2 ep ex hAb hAe hAm hAc W O => ⟨rfl, ?_⟩⟩
    subst ep
    have sA : Same H1 (upd (upd H1 qx (.own A.p)) A.p (.ins (He.ga K "World") qx [])) := (Same.upd hqx).put hq
    have s12 : Same H1 H2 := O.fresh sA (fun x hx => by rw [List.mem_singleton.mp hx]; exact hq)
    have s2 : Same H H2 := s1.trans s12
    have fA : ∀ x ∈ fpW A, H x = none := mem_five (f := fun x => H x = none) (s1.free hq) (s1.free (sA.free hAb)) (s1.free (sA.free hAe)) (s1.free (sA.free hAm)) (s1.free (sA.free hAc))
    have fG : ∀ x ∈ fpM G, H x = none := mem_ne_none (f := fun x => H x = none) hc hb hd he
    have ap : Apart A G := by
      have key : ∀ {x : Addr} {o : HO}, H1 x = some o → ∀ z ∈ [A.b, A.e, A.m, A.c], x ≠ z := fun {x o} hx => mem_ne_none (f := fun z => x ≠ z) (ne_of_none (sA _ _ hx) hAb) (ne_of_none (sA _ _ hx) hAe) (ne_of_none (sA _ _ hx) hAm) (ne_of_none (sA _ _ hx) hAc)
      intro x hx
      simp only [List.mem_cons, List.not_mem_nil, or_false] at hx
      rcases hx with rfl | rfl | rfl
      · exact key B1.b
      · exact key B1.d
      · exact key B1.e
    have G2 : MAt H2 G (M.init y) := B1.same s12
    refine ⟨_, rfl, l, rfl, ⟨_, .of (s2 _ _ D.l)⟩, for_list (K := K) (a := l) (xs := ps.map fun p => V.ref p.1) (fun i σ H' => ∃ v, σ = [some (.int y), some (.ref l), some (.ref G.t), some (.ref A.p), v] ∧ Same H H' ∧ WAt K H' A ((M.init y).run ((ps.map (·.2)).take i)) ∧ MAt H' G ((M.init y).run ((ps.map (·.2)).take i))) ?_ ?_ ?_ ?_⟩
    · exact ⟨none, rfl, s2, W, G2⟩
    · rintro i σ H' _ ⟨_, _, s3, _, _⟩
      exact .of (s3 _ _ D.l)
    · rintro i x σ H' hx ⟨v, rfl, s3, W3, G3⟩
      rw [List.getElem?_map] at hx
      cases ei : ps[i]? with
      | none => rw [ei] at hx; cases hx
      | some z =>
        obtain ⟨t, d⟩ := z
        rw [ei] at hx
        cases hx
        have ed : (ps.map (·.2))[i]? = some d := by rw [List.getElem?_map, ei]; rfl
        obtain ⟨R1, can⟩ := Runs_take R ed
        have wf := (M.WF.init y).run R1
        have htd := D.t _ (List.mem_of_getElem? ei)
        have hi : i < ps.length := (List.getElem?_eq_some_iff.mp ei).1
        have hsz : ((M.init y).run ((ps.map (·.2)).take i)).size + 1 ≤ 10000 := by
          have h1 := M.size_run (M.init y) ((ps.map (·.2)).take i)
          have h2 : (M.init y).size = 0 := rfl
          rw [List.length_take, List.length_map] at h1
          omega
        have e1 : (M.init y).run ((ps.map (·.2)).take (i + 1)) = ((M.init y).run ((ps.map (·.2)).take i)).play d := by
          rw [take_snoc ed, M.run_append]; rfl
        rw [e1]
        refine ⟨_, rfl, _, rfl, A, _, t, d, rfl, W3, wf, can, s3 _ _ htd, hsz, fun v H3 W4 O4 => ?_⟩
        have s4 : Same H H3 := O4.fresh s3 fA
        have G4 := G3.off W3 ap O4
        refine ⟨_, rfl, _, rfl, G, _, t, d, rfl, G4, wf, can, s4 _ _ htd, hsz, fun H4 G5 O5 => ?_⟩
        exact ⟨_, rfl, O5.fresh s4 fG, W4.off G4 ap O5, G5⟩
    · rintro σ H' ⟨v, rfl, s3, W3, G3⟩
      have e0 : (ps.map (·.2)).take (ps.map fun p => V.ref p.1).length = ps.map (·.2) := by
        rw [List.length_map]
        exact List.take_of_length_le (by rw [List.length_map]; exact Nat.le_refl _)
      rw [e0] at W3 G3
      refine ⟨_, rfl, _, rfl, small (k := 2) (Nat.le_refl _) (by decide), fun p hp => ?_⟩
      have s5 : Same H' (upd H' p (.tup [.ref A.p, .ref G.t])) := Same.upd hp
      exact k _ p A G (s3.trans s5) (s3.free hp) upd_same (W3.same s5) (G3.same s5) ap fA fG
end
end DH

namespace DH
open PySem PySem.Spec PyProof.Rows L2 TL
section
variable {P : Program} {w : World} {K : PySem.W.Frag} {mg : Str → Option Value} {base : Heap}
theorem enc_ok (n : Nm) : PyData.strOk (enc n) = true := by
  unfold PyData.strOk
  rw [← Array.all_toList, List.all_eq_true]
  intro c hc
  have hc : c ∈ tl (enc n) := hc
  rw [tl_enc] at hc
  refine decide_eq_true ?_
  rcases List.mem_append.mp hc with h | h
  · have := goodW_let n.w.ok c h; omega
  · obtain ⟨i, _, h⟩ := List.mem_flatMap.mp h
    rcases List.mem_cons.mp h with rfl | h
    · decide
    · have := numL_digits i c h; omega
def encL (l : List Nm) : List PyData := l.map fun n => .str (enc n)
theorem encL_all (l : List Nm) : PyData.canLayAll0 (encL l) = true ∧ PyData.depthAll (encL l) = 0 := by
  induction l with
  | nil => exact ⟨rfl, rfl⟩
  | cons a r ih =>
    constructor
    · show (PyData.canLay0 (.str (enc a)) && PyData.canLayAll0 (encL r)) = true
      rw [ih.1, Bool.and_true]
      unfold PyData.canLay0
      exact enc_ok a
    · show max (PyData.depth (.str (enc a))) (PyData.depthAll (encL r)) = 0
      rw [ih.2]
      unfold PyData.depth
      rfl
theorem encL_shaped (l : List Nm) : SeqAt.shaped (.list (encL l)) = true := by
  unfold SeqAt.shaped
  unfold PyData.canLay0 PyData.depth
  rw [(encL_all l).1, (encL_all l).2]
  rfl
theorem encL_eq (l : List Nm) : PyData.eqv (.list (encL l)) (.list (encL l)) = true := SeqAt.eqv_refl _ (by unfold PyData.canLay0; exact (encL_all l).1)
theorem encL_dp {H : Hp} (l : List Nm) : DpAll K H (l.map nmV) (encL l) := by
  induction l with
  | nil => exact .nil
  | cons a r ih => exact .cons (.str _) ih
structure Told (m : M) (h : Hol) (ts : List Atom) (out : List Nm) (term : Int) (es : List Deed) : Prop where
  runs : m.Runs es
  len : es.length ≤ 4000
  ybd : ∀ d ∈ es, Deed.ybd d = true
  dead : ∀ n ∈ m.living, ∃ v, lk (m.run es).de n = some v ∧ v + term ≤ (m.run es).yr
  day : m.yr + term ≤ (m.run es).yr
  stand : (m.run es).wholeS h ts out = .hangs
  nm : NmOk (m.run es) h.nm
  ats : ∀ x ∈ ts, AtomOk (m.run es) x
def sp_hangs (K : PySem.W.Frag) : Sp := fun vs H Q _ => ∃ y l ds t h o ps u out term g qs, vs = [.int y, .ref l, .ref t, .ref o, .ref u, .int term, .ref g] ∧ 0 ≤ y ∧ y ≤ 9999 ∧ DsL H l ds ∧ (M.init y).Runs (ds.map (·.2)) ∧ ds.length ≤ 100 ∧
  H t = some (.tup (encH h)) ∧ AtL K H o ps ∧ ps.length ≤ 20 ∧ SqL K H u (out.map nmV) ∧ DsL H g qs ∧ Told ((M.init y).run (ds.map (·.2))) h (ps.map (·.2)) out term (qs.map (·.2)) ∧ ∀ H', Same H H' → Q (.bl true) H'
theorem sc__law_hangs : FnScope ["_law_year", "_law_deeds", "_law_holder_here", "_law_atoms", "_law_out_here", "_law_term", "_law_told", "_law_world", "_law_model_here", "_law_day", "_law_then", "_law_deed", "_law_last", "_law_name"] ["_law_year", "_law_deeds", "_law_holder_here", "_law_atoms", "_law_out_here", "_law_term", "_law_told"] (defScope s__law_hangs) :=
  ⟨rfl, rfl, rfl, by decide +kernel, rfl, by decide +kernel, by decide +kernel⟩
theorem ok__law_hangs (T : Txt K mg) : Cal P w K mg base 6 "_law_hangs" ["_law_year", "_law_deeds", "_law_holder_here", "_law_atoms", "_law_out_here", "_law_term", "_law_told"] (sp_hangs K) := by
  obtain ⟨f__law_whole, fd__law_whole, g__law_whole, k__law_whole, b__law_whole, G__law_whole⟩ := ok__law_whole T
  obtain ⟨f_Lives_living, fd_Lives_living, m_Lives_living, b_Lives_living, G_Lives_living⟩ := ok_Lives_living T
  obtain ⟨f__law_living, fd__law_living, g__law_living, k__law_living, b__law_living, G__law_living⟩ := ok__law_living T
  obtain ⟨f__law_play, fd__law_play, g__law_play, k__law_play, b__law_play, G__law_play⟩ := ok__law_play T
  obtain ⟨f__law_do, fd__law_do, g__law_do, k__law_do, b__law_do, G__law_do⟩ := ok__law_do T
  obtain ⟨f__law_good, fd__law_good, g__law_good, k__law_good, b__law_good, G__law_good⟩ := ok__law_good T
  obtain ⟨f__law_again, fd__law_again, g__law_again, k__law_again, b__law_again, G__law_again⟩ := ok__law_again T
  refine cal_of T.g__law_hangs T.f__law_hangs sc__law_hangs (fun _ _ _ _ _ _ us hl => match us, hl with | [_, _, _, _, _, _, _], _ => rfl) (fun vs H Q E h => ?_) (fun f cdv A outer s H vs Q E hr h => ?_)
  · obtain ⟨y, l, ds, t, h, o, ps, u, out, term, g, qs, rfl, _⟩ := h; rfl
  · obtain ⟨y, l, ds, t, h, o, ps, u, out, term, g, qs, rfl, y0, y9, D, R, hz, ht, L, hlz, hou, D2, td, k⟩ := h
    have hu := hu_of hr
    refine ⟨_, (pss_cons (ps_asg (pe_call G__law_again (hr.mono (by decide)) rfl g__law_again k__law_again b__law_again .nil pass0 (pa_cons (pv 0) (pa_cons (pv 1) pa_nil))) (pg_tupK K (by rfl) (pgs_cons (pg_name (i := 7) sc__law_hangs.nd rfl (by first | exact Or.inl rfl | exact Or.inr rfl)) (pgs_cons (pg_name (i := 8) sc__law_hangs.nd rfl (by first | exact Or.inl rfl | exact Or.inr rfl)) pgs_nil))))
        (pss_cons (ps_set (i := 9) sc__law_hangs.nd rfl (by first | exact Or.inl rfl | exact Or.inr rfl) (pe_ix (ix_listK K) (pe_ix (ix_tupK K) (pv 8) pe_int (fun _ _ => rfl)) pe_int (fun _ _ => rfl)))
        (pss_cons (ps_set (i := 10) sc__law_hangs.nd rfl (by first | exact Or.inl rfl | exact Or.inr rfl) (pe_call G__law_living (hr.mono (by decide)) rfl g__law_living k__law_living b__law_living .nil pass0 (pa_cons (pv 8) pa_nil)))
        (pss_cons (ps_if (PW.pt (pw_or (pt_not (pt_val (pe_callB (isiK K) (by rfl) T.b_isinstance (by decide +kernel) (pa_cons (pv 6) (pa_cons (pe_bltn (v := .ty "list") (u := .type "list") rfl T.b_list (by decide +kernel) rfl) pa_nil))))) (pw_or1 (pt_cmpR op_gt (pe_callB (call_lenK K) (by rfl) T.b_len PySem.boot_len (pa_cons (pv 6) pa_nil)) pe_int (nomark _))))) (pss_one (ps_ret pe_bl)) pss_nil)
        (pss_cons (ps_for PassesOwn.never rfl (pi_listK K (pv 6)) (pg_name (i := 11) sc__law_hangs.nd rfl (by first | exact Or.inl rfl | exact Or.inr rfl)) (pss_cons (ps_if (pt_not (pt_val (pe_call G__law_good (hr.mono (by decide)) rfl g__law_good k__law_good b__law_good .nil pass0 (pa_cons (pv 8) (pa_cons (pv 11) pa_nil))))) (pss_one (ps_ret pe_bl)) pss_nil)
        (pss_cons (ps_expr (pe_call G__law_do (hr.mono (by decide)) rfl g__law_do k__law_do b__law_do .nil pass0 (pa_cons (pv 7) (pa_cons (pv 11) pa_nil))))
        (pss_one (ps_expr (pe_call G__law_play (hr.mono (by decide)) rfl g__law_play k__law_play b__law_play .nil pass0 (pa_cons (pv 8) (pa_cons (pv 11) pa_nil))))))))
        (pss_cons (ps_set (i := 12) sc__law_hangs.nd rfl (by first | exact Or.inl rfl | exact Or.inr rfl) (pv 9))
        (pss_cons (ps_for PassesOwn.never rfl (pi_listK K (pv 10)) (pg_name (i := 13) sc__law_hangs.nd rfl (by first | exact Or.inl rfl | exact Or.inr rfl)) (pss_cons (ps_if (pt_cmp (pc_dnotin hu (pv 13) (pe_ix (ix_tupK K) (pv 8) pe_int (fun _ _ => rfl)))) (pss_one (ps_ret pe_bl)) pss_nil)
        (pss_one (ps_set (i := 12) sc__law_hangs.nd rfl (by first | exact Or.inl rfl | exact Or.inr rfl) (pe_callB (call_max2 rfl) (by rfl) T.b_max (by decide +kernel) (pa_cons (pv 12) (pa_cons (pe_dget hu (pe_ix (ix_tupK K) (pv 8) pe_int (fun _ _ => rfl)) (pv 13) (fun _ _ => rfl)) pa_nil)))))))
        (pss_cons (ps_if (PW.pt (pw_or (pt_cmpR op_ne (pe_fldK K (pv 7) rfl) (pe_ix (ix_listK K) (pe_ix (ix_tupK K) (pv 8) pe_int (fun _ _ => rfl)) pe_int (fun _ _ => rfl)) (nomark _)) (pw_or1 (pt_cmpR (op_neD hr.units) (pe_meth0 (pe_fldK K (pv 7) rfl) T.c_Lives m_Lives_living G_Lives_living (hr.mono (by decide)) b_Lives_living .nil pass0) (pe_call G__law_living (hr.mono (by decide)) rfl g__law_living k__law_living b__law_living .nil pass0 (pa_cons (pv 8) pa_nil)) (nomark _))))) (pss_one (ps_ret pe_bl)) pss_nil)
        (pss_one (ps_ret (pe_and (pe_cmpR op_ge (pe_ix (ix_listK K) (pe_ix (ix_tupK K) (pv 8) pe_int (fun _ _ => rfl)) pe_int (fun _ _ => rfl)) (pe_op op_add (pv 12) (pv 5)) (nomark _)) (pe_one (pe_cmpR op_eq (pe_call G__law_whole (hr.mono (by decide)) rfl g__law_whole k__law_whole b__law_whole .nil pass0 (pa_cons (pv 8) (pa_cons (pv 2) (pa_cons (pv 3) (pa_cons (pv 4) pa_nil))))) pe_str (nomark _)))))))))))))), ?_⟩
    have wf := (M.WF.init y).run R
    have hsz : ((M.init y).run (ds.map (·.2))).size ≤ 100 := by
      have h1 := M.size_run (M.init y) (ds.map (·.2))
      have h2 : (M.init y).size = 0 := rfl
      rw [List.length_map] at h1
      omega
    refine ⟨_, rfl, _, rfl, y, l, ds, rfl, y0, y9, D, R, by omega, fun H1 p a b s1 hp hp1 W1 B1 ap fA fB => ?_⟩
    generalize (M.init y).run (ds.map (·.2)) = m at wf td hsz W1 B1
    have hbt := B1.t
    refine ⟨p, _, rfl, .of hp1, rfl, _, _, rfl, _, _, rfl, rfl, ?_⟩
    refine ⟨_, rfl, _, _, _, _, rfl, rfl, .of (hbt), atI_nat (j := 0) rfl, _, _, _, _, rfl, rfl, .of B1.c, atI_nat (j := 0) rfl, ?_⟩
    refine ⟨_, rfl, b, m, rfl, B1, fun H2 q s2 hq hq2 => ?_⟩
    have s12 := s1.trans s2
    have nW : ∀ x ∈ fpW a, x ≠ q := mem_five (f := fun x => x ≠ q) (ne_of_none W1.o hq) (ne_of_none W1.l.b hq) (ne_of_none W1.l.e hq) (ne_of_none W1.l.mm hq) (ne_of_none W1.c hq)
    have nB : ∀ x ∈ fpM b, x ≠ q := mem_ne_none (f := fun x => x ≠ q) (ne_of_none B1.c hq) (ne_of_none B1.b hq) (ne_of_none B1.d hq) (ne_of_none B1.e hq)
    have hlen : (qs.map fun p => V.ref p.1).length ≤ 4000 := by have := td.len; rw [List.length_map] at this ⊢; exact this
    refine ⟨_, rfl, _, _, _, _, true, rfl, .ty "list", .base (.lst (s12 _ _ D2.l)), kit_ty (by decide +kernel), _, rfl, ?_⟩
    refine ⟨_, rfl, _, _, rfl, .inl ⟨_, .of (s12 _ _ D2.l), rfl⟩, _, _, rfl, rfl, _, rfl, ifFd (by omega) ?_⟩
    refine ⟨_, rfl, g, rfl, ⟨_, .of (s12 _ _ D2.l)⟩, for_list (K := K) (a := g) (xs := qs.map fun p => V.ref p.1) (fun i σ H' => ∃ v, σ = [some (.int y), some (.ref l), some (.ref t), some (.ref o), some (.ref u), some (.int term), some (.ref g), some (.ref a.p), some (.ref b.t), some (.int m.yr), some (.ref q), v, none, none] ∧ Same H H' ∧ H' q = some (.lst (m.living.map nmV)) ∧ WAt K H' a (m.run ((qs.map (·.2)).take i)) ∧ MAt H' b (m.run ((qs.map (·.2)).take i))) ?_ ?_ ?_ ?_⟩
    · exact ⟨none, rfl, s12, hq2, W1.same s2, B1.same s2⟩
    · rintro i σ H' _ ⟨_, _, s3, _⟩
      exact .of (s3 _ _ D2.l)
    · rintro i x σ H' hx ⟨v, rfl, s3, hq3, W3, B3⟩
      rw [List.getElem?_map] at hx
      cases ei : qs[i]? with
      | none => rw [ei] at hx; cases hx
      | some z =>
        obtain ⟨c, d⟩ := z
        rw [ei] at hx
        cases hx
        have ed : (qs.map (·.2))[i]? = some d := by rw [List.getElem?_map, ei]; rfl
        obtain ⟨R1, can⟩ := Runs_take td.runs ed
        have wf' := wf.run R1
        have htd := D2.t _ (List.mem_of_getElem? ei)
        have hyb := td.ybd d (List.mem_of_getElem? ed)
        have hi : i < qs.length := (List.getElem?_eq_some_iff.mp ei).1
        have hsz' : (m.run ((qs.map (·.2)).take i)).size + 1 ≤ 10000 := by
          have h1 := M.size_run m ((qs.map (·.2)).take i)
          rw [List.length_take, List.length_map] at h1
          rw [List.length_map] at hlen
          omega
        have e1 : m.run ((qs.map (·.2)).take (i + 1)) = (m.run ((qs.map (·.2)).take i)).play d := by
          rw [take_snoc ed, M.run_append]; rfl
        rw [e1]
        refine ⟨_, rfl, _, rfl, b, _, c, d, rfl, B3, can, hyb, s3 _ _ htd, _, rfl, ?_⟩
        refine ifF rfl ?_
        refine ⟨_, rfl, _, rfl, a, _, c, d, rfl, W3, wf', can, s3 _ _ htd, hsz', fun v H3 W4 O4 => ?_⟩
        have s4 : Same H H3 := O4.fresh s3 fA
        have B4 := B3.off W3 ap O4
        have hq4 := O4 _ _ hq3 (fun z => nW _ z rfl)
        refine ⟨_, rfl, _, rfl, b, _, c, d, rfl, B4, wf', can, s4 _ _ htd, hsz', fun H4 B5 O5 => ?_⟩
        exact ⟨_, rfl, O5.fresh s4 fB, O5 _ _ hq4 (fun z => nB _ z rfl), W4.off B4 ap O5, B5⟩
    · rintro σ H' ⟨v, rfl, s3, hq3, W3, B3⟩
      have e0 : (qs.map (·.2)).take (qs.map fun p => V.ref p.1).length = qs.map (·.2) := by
        rw [List.length_map]
        exact List.take_of_length_le (by rw [List.length_map]; exact Nat.le_refl _)
      rw [e0] at W3 B3
      have wf' := wf.run td.runs
      have tdead := td.dead
      have tday := td.day
      have tst := td.stand
      have tnm := td.nm
      have tats := td.ats
      generalize m.run (qs.map (·.2)) = m' at W3 B3 wf' tdead tday tst tnm tats
      have hbt := B3.t
      refine ⟨_, rfl, ?_⟩
      refine ⟨_, rfl, q, rfl, ⟨_, .of hq3⟩, for_list (K := K) (a := q) (xs := m.living.map nmV) (fun i σ H4 => ∃ last v2, σ = [some (.int y), some (.ref l), some (.ref t), some (.ref o), some (.ref u), some (.int term), some (.ref g), some (.ref a.p), some (.ref b.t), some (.int m.yr), some (.ref q), v, some (.int last), v2] ∧ H4 = H' ∧ last + term ≤ m'.yr) ?_ ?_ ?_ ?_⟩
      · exact ⟨_, none, rfl, rfl, tday⟩
      · rintro i σ H4 _ ⟨_, _, _, rfl, _⟩
        exact .of hq3
      · rintro i x σ H4 hx ⟨last, v2, rfl, rfl, hl⟩
        rw [List.getElem?_map] at hx
        cases ei : m.living[i]? with
        | none => rw [ei] at hx; cases hx
        | some n =>
          rw [ei] at hx
          cases hx
          obtain ⟨dv, hv, hdv⟩ := tdead n (List.mem_of_getElem? ei)
          have gd := B3.getD n
          rw [hv] at gd
          refine ⟨_, rfl, _, rfl, _, _, _, _, rfl, rfl, .of (hbt), atI_nat (j := 2) rfl, b.d, _, rfl, gd, _, rfl, ifF rfl ?_⟩
          refine ⟨_, rfl, _, rfl, _, _, _, _, rfl, rfl, .of (hbt), atI_nat (j := 2) rfl, _, rfl, b.d, _, rfl, gd, _, _, rfl, ?_⟩
          refine ⟨_, _, rfl, rfl, ?_⟩
          show (if dv > last then dv else last) + term ≤ m'.yr
          split <;> omega
      · rintro σ H4 ⟨last, v2, rfl, rfl, hl⟩
        refine ⟨_, rfl, a.p, _, a.px, _, _, rfl, W3.o, T.c_World, T.n_year, fW_year, _, rfl, _, _, _, _, rfl, rfl, .of (hbt), atI_nat (j := 0) rfl, _, _, _, _, rfl, rfl, .of B3.c, atI_nat (j := 0) rfl, rfl, _, rfl, ifF (by simp) ?_⟩
        try rw [if_neg Bool.false_ne_true]
        refine ⟨_, rfl, a.p, _, a.px, _, _, rfl, W3.o, T.c_World, T.n_lives, fW_lives, a.l, a.lx, _, rfl, W3.l.o, fL_no (by decide +kernel) (by decide +kernel) (by decide +kernel), a, m', rfl, W3.l, fun H5 r s5 hr hr5 => ?_⟩
        refine ⟨_, rfl, b, m', rfl, B3.same s5, fun H6 r2 s6 hr' hr6 => ?_⟩
        refine ⟨.list (encL m'.living), .list (encL m'.living), .lst (.of (s6 _ _ hr5)) (encL_dp _), .lst (.of hr6) (encL_dp _), encL_shaped _, encL_shaped _, _, rfl, ?_⟩
        rw [encL_eq]
        refine ifF rfl ?_
        have s36 := s5.trans s6
        have B6 := B3.same s36
        have hb6 := B6.t
        refine ⟨_, rfl, _, _, _, _, rfl, rfl, .of (hb6), atI_nat (j := 0) rfl, _, _, _, _, rfl, rfl, .of B6.c, atI_nat (j := 0) rfl, _, rfl, _, rfl, _, _, rfl, rfl, _, _, rfl, rfl, _, rfl, ifTd hl ?_⟩
        have s6' := s3.trans s36
        refine ⟨_, rfl, _, rfl, _, rfl, _, rfl, b, m', t, h, o, ps, u, out, rfl, B6, wf', s6' _ _ ht, tnm, L.same s6', fun z hz => tats _ (List.mem_map.mpr ⟨z, hz, rfl⟩), by omega, s6'.seq hou, fun H7 s7 => ⟨rfl, ?_⟩⟩
        rw [tst]
        exact k H7 (s6'.trans s7)
end
end DH

namespace DH
open PySem PySem.Spec PyProof.Rows L2 TL
section
variable {P : Program} {w : World} {K : PySem.W.Frag} {mg : Str → Option Value} {base : Heap}
/-! ### the plain law: what a late story leaves -/
namespace M
theorem years_run : ∀ (ks : List Int) (m : M), (∀ k ∈ ks, 1 ≤ k ∧ k ≤ 60) → m.Runs (ks.map Deed.years) ∧ m.run (ks.map Deed.years) = { m with yr := m.yr + ks.sum } := by
  intro ks
  induction ks with
  | nil => intro m _; exact ⟨trivial, by show m = { m with yr := m.yr + 0 }; rw [Int.add_zero]⟩
  | cons k r ih =>
    intro m h
    obtain ⟨h1, h2⟩ := ih (m.play (.years k)) fun x hx => h x (List.mem_cons_of_mem _ hx)
    refine ⟨⟨h k (List.mem_cons_self ..), h1⟩, ?_⟩
    show (m.play (.years k)).run _ = _
    rw [h2, List.sum_cons]
    show M.mk (m.yr + k + r.sum) m.bo m.de m.ca = M.mk (m.yr + (k + r.sum)) m.bo m.de m.ca
    rw [Int.add_assoc]
end M
theorem yearsL_in (k : Int) : ∀ x ∈ yearsL k, 1 ≤ x ∧ x ≤ 60 := by
  induction h : k.toNat using Nat.strongRecOn generalizing k with
  | ind n ih =>
    by_cases c : 0 < k
    · rw [yearsL_pos c]
      intro x hx
      rcases List.mem_cons.mp hx with rfl | hx
      · split <;> omega
      · exact ih (k - 60).toNat (by omega) (k - 60) rfl x hx
    · rw [yearsL_neg c]; intro x hx; cases hx
theorem yearsL_sum (k : Int) (h0 : 0 ≤ k) : (yearsL k).sum = k := by
  induction h : k.toNat using Nat.strongRecOn generalizing k with
  | ind n ih =>
    by_cases c : 0 < k
    · rw [yearsL_pos c, List.sum_cons]
      by_cases d : 60 < k
      · rw [if_pos d, ih (k - 60).toNat (by omega) (k - 60) (by omega) rfl]; omega
      · rw [if_neg d, yearsL_neg (by omega)]
        show k + 0 = k
        omega
    · rw [yearsL_neg c]
      show (0 : Int) = k
      omega
namespace M
theorem births_run : ∀ (ns : List Nm) (m : M), m.WF → (∀ n ∈ ns, m.alive n = true ∧ n.l.length < 5) →
    m.Runs (ns.map Deed.birth) ∧ (m.run (ns.map Deed.birth)).yr = m.yr ∧ (m.run (ns.map Deed.birth)).de = m.de ∧ (m.run (ns.map Deed.birth)).ca = m.ca ∧
    (∀ n, (m.run (ns.map Deed.birth)).kc n = m.kc n + ns.count n) ∧ (∀ k v, lk m.bo k = some v → lk (m.run (ns.map Deed.birth)).bo k = some v) ∧
    (∀ k, m.isB k = false → (m.run (ns.map Deed.birth)).isB k = true → lk (m.run (ns.map Deed.birth)).bo k = some m.yr ∧ ∃ n ∈ ns, ∃ i, k = n.snoc i) := by
  intro ns
  induction ns with
  | nil => intro m _ _; exact ⟨trivial, rfl, rfl, rfl, fun n => rfl, fun k v h => h, fun k h1 h2 => by rw [show (m.run (([] : List Nm).map Deed.birth)) = m from rfl, h1] at h2; cases h2⟩
  | cons a r ih =>
    intro m wf h
    have ha := h a (List.mem_cons_self ..)
    have wf1 : (m.play (.birth a)).WF := wf.play (d := .birth a) ⟨ha.1, ha.2⟩
    have hr : ∀ n ∈ r, (m.play (.birth a)).alive n = true ∧ n.l.length < 5 := fun n hn => by
      obtain ⟨h1, h2⟩ := h n (List.mem_cons_of_mem _ hn)
      have h1 := alive_iff.mp h1
      refine ⟨alive_iff.mpr ⟨?_, h1.2⟩, h2⟩
      show (m.addB _ _).isB n = true
      rw [isB_addB, h1.1]; rfl
    obtain ⟨i1, i2, i3, i4, i5, i6, i7⟩ := ih (m.play (.birth a)) wf1 hr
    have e : m.run ((a :: r).map Deed.birth) = (m.play (.birth a)).run (r.map Deed.birth) := rfl
    rw [e]
    refine ⟨⟨⟨ha.1, ha.2⟩, i1⟩, i2, i3, i4, fun n => ?_, fun k v hk => ?_, fun k h1 h2 => ?_⟩
    · rw [i5]
      have : (m.play (.birth a)).kc n = m.kc n + if a = n then 1 else 0 := by
        show (m.addB _ _).kc n = _
        rw [kc_addB, par_snoc]
        by_cases c : a = n
        · subst c; simp
        · rw [if_neg c, if_neg (fun z => c (Option.some.inj z))]
      rw [this, List.count_cons]
      by_cases c : a = n
      · subst c; simp; omega
      · simp [c]
    · refine i6 k v ?_
      show lk (m.bo ++ [_]) k = _
      rw [lk_snoc, hk]; rfl
    · by_cases c : (m.play (.birth a)).isB k = true
      · have c2 : (m.isB k || decide (a.snoc (m.kc a + 1) = k)) = true := by rw [← isB_addB]; exact c
        rw [h1, Bool.false_or] at c2
        have c3 := of_decide_eq_true c2
        refine ⟨i6 k _ ?_, a, List.mem_cons_self .., _, c3.symm⟩
        show lk (m.bo ++ [_]) k = _
        rw [lk_snoc]
        unfold isB at h1
        cases e : lk m.bo k with
        | none => rw [if_pos c3]; rfl
        | some z => rw [e] at h1; cases h1
      · have c : (m.play (.birth a)).isB k = false := by simpa using c
        obtain ⟨j1, n, hn, i, j2⟩ := i7 k c h2
        exact ⟨j1, n, List.mem_cons_of_mem _ hn, i, j2⟩
theorem deaths_run : ∀ (ls : List Nm) (m : M), (∀ n ∈ ls, m.alive n = true) → ls.Nodup →
    m.Runs (ls.map Deed.death) ∧ m.run (ls.map Deed.death) = { m with de := m.de ++ ls.map fun n => (n, m.yr) } := by
  intro ls
  induction ls with
  | nil => intro m _ _; exact ⟨trivial, by show m = { m with de := m.de ++ [] }; rw [List.append_nil]⟩
  | cons a r ih =>
    intro m h nd
    rw [List.nodup_cons] at nd
    have hal : ∀ x ∈ r, (m.play (.death a)).alive x = true := fun x hx => by
      have hx1 := alive_iff.mp (h x (List.mem_cons_of_mem _ hx))
      refine alive_iff.mpr ⟨hx1.1, ?_⟩
      show (m.addD a m.yr).isD x = false
      rw [isD_addD, hx1.2, Bool.false_or]
      refine decide_eq_false fun z => nd.1 ?_
      rw [z]; exact hx
    obtain ⟨h1, h2⟩ := ih (m.play (.death a)) hal nd.2
    refine ⟨⟨h a (List.mem_cons_self ..), h1⟩, ?_⟩
    show (m.play (.death a)).run _ = _
    rw [h2]
    show M.mk m.yr m.bo ((m.de ++ [(a, m.yr)]) ++ _) m.ca = M.mk m.yr m.bo (m.de ++ _) m.ca
    rw [List.append_assoc]; rfl
end M
theorem lk_app {α : Type} [DecidableEq α] (l r : List (α × Int)) (a : α) : lk (l ++ r) a = (lk l a).or (lk r a) := by
  unfold lk
  rw [List.find?_append]
  cases List.find? (fun p => decide (p.1 = a)) l <;> rfl
theorem lk_const {ls : List Nm} {y : Int} (a : Nm) : lk (ls.map fun n => (n, y)) a = if a ∈ ls then some y else none := by
  induction ls with
  | nil => rfl
  | cons b r ih =>
    rw [List.map_cons, lk_cons, ih]
    by_cases h : b = a
    · subst h; simp
    · rw [if_neg h]
      by_cases h2 : a ∈ r
      · rw [if_pos h2, if_pos (List.mem_cons_of_mem _ h2)]
      · rw [if_neg h2, if_neg]
        intro z
        rcases List.mem_cons.mp z with z | z
        · exact h z.symm
        · exact h2 z
/-- the world that a late story leaves: F the year of the deaths -/
structure After (m m' : M) (F term : Int) (D : List (Nm × Int)) : Prop where
  wf : m'.WF
  yr : m'.yr = F + term
  ca : m'.ca = m.ca
  old : ∀ k v, lk m.bo k = some v → lk m'.bo k = some v
  new : ∀ k, m.isB k = false → m'.isB k = true → lk m'.bo k = some F ∧ ∃ n, m.alive n = true ∧ ∃ i, k = n.snoc i
  got : ∀ r v, lk D r = some v → v ≤ (m'.kc r : Int)
  kc0 : ∀ r, m.alive r = false → m'.kc r = m.kc r
  de : ∀ k, lk m'.de k = (lk m.de k).or (if m.alive k = true then some F else none)
theorem count_flat {D : List (Nm × Int)} {m : M} {zs : List Nm} {r : Nm} (h : r ∈ zs) : birthN m D r ≤ (zs.flatMap fun n => List.replicate (birthN m D n) n).count r := by
  induction zs with
  | nil => cases h
  | cons a t ih =>
    rw [List.flatMap_cons, List.count_append]
    rcases List.mem_cons.mp h with rfl | h
    · rw [List.count_replicate_self]; omega
    · have := ih h; omega
theorem living_nd {m : M} (wf : m.WF) : m.living.Nodup := wf.nd.filter _
theorem story_after {m : M} {h : Hol} {ts : List Atom} {term : Int} {ds : List Deed} (wf : m.WF) (t0 : 0 ≤ term) (hF : m.yr ≤ m.firstEnd h ts)
    (hD : ∀ p ∈ m.wantD h ts, m.alive p.1 = true ∧ p.1.l.length < 5) (S : StoryIs m h ts term ds) :
    m.Runs ds ∧ After m (m.run ds) (m.firstEnd h ts) term (m.wantD h ts) := by
  obtain ⟨zs, hz, rfl⟩ := S
  generalize m.firstEnd h ts = F at *
  generalize hDD : m.wantD h ts = D at *
  obtain ⟨r1, e1⟩ := M.years_run (yearsL (F - m.yr)) m (yearsL_in _)
  rw [yearsL_sum _ (by omega), show m.yr + (F - m.yr) = F by omega] at e1
  have wf1 : ({ m with yr := F } : M).WF := by rw [← e1]; exact wf.run r1
  have hzs : ∀ n ∈ zs, m.alive n = true ∧ n.l.length < 5 := fun n hn => by
    obtain ⟨p, hp, e⟩ := List.mem_map.mp (hz.mem_iff.mp hn)
    rw [← e]; exact hD p hp
  have hns : ∀ n ∈ (zs.flatMap fun n => List.replicate (birthN m D n) n), ({ m with yr := F } : M).alive n = true ∧ n.l.length < 5 := fun n hn => by
    obtain ⟨z, hz1, hz2⟩ := List.mem_flatMap.mp hn
    rw [(List.mem_replicate.mp hz2).2]
    exact hzs z hz1
  have eb : birthsOf m D zs = (zs.flatMap fun n => List.replicate (birthN m D n) n).map Deed.birth := by
    unfold birthsOf
    rw [List.map_flatMap]
    congr 1
    funext n
    rw [List.map_replicate]
  obtain ⟨r2, b1, b2, b3, b4, b5, b6⟩ := M.births_run _ ({ m with yr := F } : M) wf1 hns
  have hcz : ∀ r, m.alive r = false → (zs.flatMap fun n => List.replicate (birthN m D n) n).count r = 0 := fun r hr => by
    rw [List.count_eq_zero]
    intro hm
    have := (hns r hm).1
    rw [show ({ m with yr := F } : M).alive r = m.alive r from rfl, hr] at this
    cases this
  have hcm : ∀ r v, lk D r = some v → v ≤ ((m.kc r + (zs.flatMap fun n => List.replicate (birthN m D n) n).count r : Nat) : Int) := fun r v hv => by
    have hr : r ∈ zs := hz.mem_iff.mpr (lk_isSome.mp (by rw [hv]; rfl))
    have h1 := count_flat (m := m) (D := D) hr
    have h2 : birthN m D r = (v - (m.kc r : Int)).toNat := by unfold birthN; rw [hv]; rfl
    omega
  generalize (zs.flatMap fun n => List.replicate (birthN m D n) n) = ns at *
  have wf2 := wf1.run r2
  generalize hm2 : ({ m with yr := F } : M).run (ns.map Deed.birth) = m2 at *
  have hal2 : ∀ n ∈ m.living, m2.alive n = true := fun n hn => by
    have h1 := M.alive_iff.mp (M.mem_living.mp hn)
    refine M.alive_iff.mpr ⟨?_, ?_⟩
    · unfold M.isB
      cases e : lk m.bo n with
      | none => have h2 := h1.1; unfold M.isB at h2; rw [e] at h2; cases h2
      | some v => rw [b5 n v e]; rfl
    · unfold M.isD; rw [b2]; exact h1.2
  obtain ⟨r3, e3⟩ := M.deaths_run m.living m2 hal2 (living_nd wf)
  have wf3 := wf2.run r3
  rw [e3] at wf3
  obtain ⟨r4, e4⟩ := M.years_run (yearsL term) ({ m2 with de := m2.de ++ m.living.map fun n => (n, m2.yr) } : M) (yearsL_in _)
  have wf4 := wf3.run r4
  rw [yearsL_sum _ t0] at e4
  have rr : m.Runs ((yearsL (F - m.yr)).map Deed.years ++ birthsOf m D zs ++ m.living.map Deed.death ++ (yearsL term).map Deed.years) := by
    rw [M.Runs_append, M.Runs_append, M.Runs_append, M.run_append _ (_ ++ _) (m.living.map Deed.death), M.run_append _ _ (birthsOf m D zs), e1, eb, hm2, e3]
    exact ⟨⟨⟨r1, r2⟩, r3⟩, r4⟩
  have ee : m.run ((yearsL (F - m.yr)).map Deed.years ++ birthsOf m D zs ++ m.living.map Deed.death ++ (yearsL term).map Deed.years) = ({ yr := m2.yr + term, bo := m2.bo, de := m2.de ++ m.living.map fun n => (n, m2.yr), ca := m2.ca } : M) := by
    rw [M.run_append, M.run_append, M.run_append, e1, eb, hm2, e3, e4]
  refine ⟨rr, ?_⟩
  rw [ee]
  rw [e4] at wf4
  refine ⟨wf4, ?_, b3, b5, fun k h1 h2 => ?_, fun r v hv => ?_, fun r hr => ?_, fun k => ?_⟩
  · show m2.yr + term = _
    rw [b1]
  · obtain ⟨j1, n, hn, j2⟩ := b6 k h1 h2
    exact ⟨j1, n, (hns n hn).1, j2⟩
  · have := hcm r v hv
    show v ≤ (m2.kc r : Int)
    rw [b4 r]
    exact this
  · show m2.kc r = _
    rw [b4 r, hcz r hr]; rfl
  · show lk (m2.de ++ _) k = _
    rw [lk_app, b2, lk_const, b1]
    congr 1
    by_cases c : m.alive k = true
    · rw [if_pos c, if_pos (M.mem_living.mpr c)]
    · rw [if_neg c, if_neg (fun z => c (M.mem_living.mp z))]
end
end DH

namespace DH
open PySem PySem.Spec PyProof.Rows L2 TL
section
variable {P : Program} {w : World} {K : PySem.W.Frag} {mg : Str → Option Value} {base : Heap}
theorem maxP_l (f j : Int) : f ≤ maxP f j := by unfold maxP; split <;> omega
theorem maxP_r (f j : Int) : j ≤ maxP f j := by unfold maxP; split <;> omega
theorem maxP_le {f j z : Int} (h1 : f ≤ z) (h2 : j ≤ z) : maxP f j ≤ z := by unfold maxP; split <;> omega
namespace M
theorem born_le {m : M} (wf : m.WF) {n : Nm} (h : m.isB n = true) : m.born n ≤ m.yr := by
  unfold isB at h
  unfold born
  cases e : lk m.bo n with
  | none => rw [e] at h; cases h
  | some y => exact wf.byr n y e
theorem firstStep_ge (m : M) (f : Int) (x : Atom) : f ≤ m.firstStep f x := by
  cases x <;> try exact Int.le_refl _
  rename_i n k
  show f ≤ if m.alive n = true then maxP f (m.born n + k) else f
  split
  · exact maxP_l ..
  · exact Int.le_refl _
theorem fold_ge (m : M) : ∀ (l : List Atom) (f : Int), f ≤ l.foldl m.firstStep f ∧ ∀ n k, Atom.age n k ∈ l → m.alive n = true → m.born n + k ≤ l.foldl m.firstStep f := by
  intro l
  induction l with
  | nil => intro f; exact ⟨Int.le_refl _, fun n k h => nomatch h⟩
  | cons a r ih =>
    intro f
    obtain ⟨h1, h2⟩ := ih (m.firstStep f a)
    have h3 := firstStep_ge m f a
    refine ⟨Int.le_trans h3 h1, fun n k h hal => ?_⟩
    rcases List.mem_cons.mp h with rfl | h
    · refine Int.le_trans ?_ h1
      show _ ≤ if m.alive n = true then maxP f (m.born n + k) else f
      rw [if_pos hal]
      exact maxP_r ..
    · exact h2 n k h hal
theorem firstA_yr (m : M) (ts : List Atom) : m.yr ≤ m.firstA ts := (fold_ge m _ _).1
theorem firstA_ge (m : M) (ts : List Atom) {n : Nm} {k : Int} (h : Atom.age n k ∈ ts) (hal : m.alive n = true) : m.born n + k ≤ m.firstA ts :=
  (fold_ge m _ _).2 n k (List.mem_filter.mpr ⟨h, rfl⟩) hal
theorem firstEnd_A (m : M) (h : Hol) (ts : List Atom) : m.firstA ts ≤ m.firstEnd h ts := by
  cases h with
  | one n => exact Int.le_refl _
  | kids n g =>
    show _ ≤ if m.alive n = true ∨ m.isB n = false then m.firstA ts else if 0 < (m.seats n g (m.leftOut n)).length ∨ (m.waiting n g (m.leftOut n)).length = 0 then m.firstA ts else maxP (m.firstA ts) (minL ((m.waiting n g (m.leftOut n)).map m.born) + g)
    split
    · exact Int.le_refl _
    · split
      · exact Int.le_refl _
      · exact maxP_l ..
theorem firstA_le {m : M} (wf : m.WF) {ts : List Atom} (fit : ∀ x ∈ ts, AtomFit x) : m.firstA ts ≤ m.yr + 120 := by
  have : ∀ (l : List Atom) (f : Int), (∀ x ∈ l, AtomFit x) → f ≤ m.yr + 120 → l.foldl m.firstStep f ≤ m.yr + 120 := by
    intro l
    induction l with
    | nil => intro f _ h; exact h
    | cons a r ih =>
      intro f hf h
      refine ih _ (fun x hx => hf x (List.mem_cons_of_mem _ hx)) ?_
      have ha := hf a (List.mem_cons_self ..)
      cases a <;> try exact h
      rename_i n k
      show (if m.alive n = true then maxP f (m.born n + k) else f) ≤ _
      by_cases c : m.alive n = true
      · rw [if_pos c]
        have h1 := born_le wf (alive_iff.mp c).1
        have h2 : 0 ≤ k ∧ k ≤ 120 := ha
        exact maxP_le h (by omega)
      · rw [if_neg c]; exact h
  exact this _ _ (fun x hx => fit x (List.mem_filter.mp hx).1) (by omega)
end M
theorem first_le {m : M} {h : Hol} {ts : List Atom} (wf : m.WF) (hol : HolOk m h) (fit : ∀ x ∈ ts, AtomFit x) : m.firstEnd h ts ≤ m.yr + 120 := by
  have hA := M.firstA_le wf fit
  cases h with
  | one n => exact hA
  | kids n g =>
    show (if m.alive n = true ∨ m.isB n = false then m.firstA ts else if 0 < (m.seats n g (m.leftOut n)).length ∨ (m.waiting n g (m.leftOut n)).length = 0 then m.firstA ts else maxP (m.firstA ts) (minL ((m.waiting n g (m.leftOut n)).map m.born) + g)) ≤ _
    split
    · exact hA
    · split
      · exact hA
      · rename_i h1 h2
        have hg : 0 ≤ g ∧ g ≤ 120 := hol.fit.2
        have hne : (m.waiting n g (m.leftOut n)).map m.born ≠ [] := by
          intro z
          have := congrArg List.length z
          rw [List.length_map] at this
          exact h2 (.inr this)
        obtain ⟨c, hc, e⟩ := List.mem_map.mp (minL_ok _ hne).1
        have := M.born_le wf (M.waiting_isB wf hc)
        exact maxP_le hA (by omega)
namespace M
theorem near_max {m : M} {n r : Nm} (h : m.near n = some r) : ∃ j, j ≤ n.l.length ∧ r = ⟨n.w, n.l.take j⟩ ∧ ∀ k, j < k → k ≤ n.l.length → m.isB ⟨n.w, n.l.take k⟩ = false := by
  have : ∀ k, k ≤ n.l.length → m.nearK n.w n.l k = some r → ∃ j, j ≤ k ∧ r = ⟨n.w, n.l.take j⟩ ∧ ∀ i, j < i → i ≤ k → m.isB ⟨n.w, n.l.take i⟩ = false := by
    intro k
    induction k with
    | zero =>
      intro _ h
      unfold nearK at h
      split at h
      · cases h; exact ⟨0, Nat.le_refl _, by rw [List.take_zero], fun i h1 h2 => by omega⟩
      · cases h
    | succ k ih =>
      intro hk h
      unfold nearK at h
      split at h
      · cases h; exact ⟨k + 1, Nat.le_refl _, rfl, fun i h1 h2 => by omega⟩
      · rename_i hb
        obtain ⟨j, h1, h2, h3⟩ := ih (by omega) h
        refine ⟨j, by omega, h2, fun i hi1 hi2 => ?_⟩
        by_cases e : i = k + 1
        · subst e; simpa using hb
        · exact h3 i hi1 (by omega)
  exact this _ (Nat.le_refl _) h
theorem nearK_down {m : M} {w : Wd} {l : List Nat} {j : Nat} (hb : m.isB ⟨w, l.take j⟩ = true) : ∀ d, (∀ i, j < i → i ≤ j + d → m.isB ⟨w, l.take i⟩ = false) → m.nearK w l (j + d) = some ⟨w, l.take j⟩ := by
  intro d
  induction d with
  | zero => intro _; exact nearK_hit hb
  | succ d ih =>
    intro h
    show m.nearK w l (j + d + 1) = _
    unfold nearK
    rw [h (j + d + 1) (by omega) (by omega), if_neg Bool.false_ne_true]
    exact ih fun i h1 h2 => h i h1 (by omega)
end M
theorem take_succ_snoc {w : Wd} {l : List Nat} {j : Nat} (h : j < l.length) : (⟨w, l.take (j + 1)⟩ : Nm) = (⟨w, l.take j⟩ : Nm).snoc (l.getD j 0) := by
  unfold Nm.snoc
  rw [take_snoc (List.getElem?_eq_getElem h)]
  rw [List.getD_eq_getElem?_getD, List.getElem?_eq_getElem h]; rfl
theorem grown {m m' : M} {F term : Int} {D : List (Nm × Int)} (A : After m m' F term D) (wf : m.WF) {n r : Nm} (h2 : Two n) (hb : m.isB n = false) (hr : m.near n = some r) (hal : m.alive r = true)
    (hD : ∃ v, lk D r = some v ∧ ((n.l.getD r.l.length 0 : Nat) : Int) ≤ v) :
    ∃ c, m'.near n = some c ∧ m'.alive c = true ∧ lk m'.bo c = some F ∧ lk m'.de c = none ∧ ((c = n ∧ m.steps n = 1) ∨ (m'.isB n = false ∧ 1 < m.steps n)) := by
  have hst : m.steps n = (n.l.length : Int) - (r.l.length : Int) := by unfold M.steps; rw [hr]
  obtain ⟨j, hj, rfl, hmax⟩ := M.near_max hr
  have hne := M.near_ne hr hb
  have hj2 : j < n.l.length := by
    by_cases e : j = n.l.length
    · exfalso; apply hne
      obtain ⟨w, l⟩ := n
      have e : j = l.length := e
      show Nm.mk w (l.take j) = _
      rw [e, List.take_length]
    · omega
  have elen : ((⟨n.w, n.l.take j⟩ : Nm).l.length) = j := by show (n.l.take j).length = j; rw [List.length_take]; omega
  rw [elen] at hst hD
  obtain ⟨v, hv, hiv⟩ := hD
  have ec := take_succ_snoc (w := n.w) hj2
  have i1 : 1 ≤ n.l.getD j 0 := by
    rw [List.getD_eq_getElem?_getD, List.getElem?_eq_getElem hj2]
    exact (h2.2 _ (List.getElem_mem hj2)).1
  have hcB : m'.isB ⟨n.w, n.l.take (j + 1)⟩ = true := by
    rw [ec]
    refine (A.wf.kid _ _).mpr ⟨i1, ?_⟩
    have := A.got _ v hv
    omega
  have hc0 : m.isB ⟨n.w, n.l.take (j + 1)⟩ = false := hmax _ (by omega) (by omega)
  have hcD : lk m'.de ⟨n.w, n.l.take (j + 1)⟩ = none := by
    rw [A.de]
    have h1 : m.isD ⟨n.w, n.l.take (j + 1)⟩ = false := by
      cases e : m.isD ⟨n.w, n.l.take (j + 1)⟩ with
      | false => rfl
      | true => rw [wf.dB _ e] at hc0; cases hc0
    have h3 : ¬ m.alive ⟨n.w, n.l.take (j + 1)⟩ = true := fun z => by rw [(M.alive_iff.mp z).1] at hc0; cases hc0
    rw [if_neg h3]
    unfold M.isD at h1
    cases e : lk m.de ⟨n.w, n.l.take (j + 1)⟩ with
    | none => rfl
    | some _ => rw [e] at h1; cases h1
  have hup : ∀ i, j + 1 < i → i ≤ n.l.length → m'.isB ⟨n.w, n.l.take i⟩ = false := by
    intro i hi1 hi2
    cases e : m'.isB ⟨n.w, n.l.take i⟩ with
    | false => rfl
    | true =>
      obtain ⟨_, p, hp, q, hq⟩ := A.new _ (hmax i (by omega) hi2) e
      obtain ⟨k, rfl⟩ : ∃ k, i = k + 1 := ⟨i - 1, by omega⟩
      rw [take_succ_snoc (by omega)] at hq
      have h5 := (snoc_inj hq).1
      have h6 := hmax k (by omega) (by omega)
      rw [h5, (M.alive_iff.mp hp).1] at h6
      cases h6
  refine ⟨⟨n.w, n.l.take (j + 1)⟩, ?_, ?_, (A.new _ hc0 hcB).1, hcD, ?_⟩
  · unfold M.near
    have := M.nearK_down hcB (n.l.length - (j + 1)) (fun i h1 h2 => hup i h1 (by omega))
    rw [show j + 1 + (n.l.length - (j + 1)) = n.l.length by omega] at this
    exact this
  · refine M.alive_iff.mpr ⟨hcB, ?_⟩
    unfold M.isD; rw [hcD]; rfl
  · by_cases e : j + 1 = n.l.length
    · left
      constructor
      · obtain ⟨w, l⟩ := n
        have e : j + 1 = l.length := e
        show Nm.mk w (l.take (j + 1)) = _
        rw [e, List.take_length]
      · rw [hst]; omega
    · right
      constructor
      · have := hup n.l.length (by omega) (Nat.le_refl _)
        rw [List.take_length] at this
        exact this
      · rw [hst]; omega
/-! ### the wish list reaches every hope -/
namespace M
theorem wantStep_mono (m : M) (D : List (Nm × Int)) (n : Nm) {k : Nm} {v : Int} (h : lk D k = some v) : ∃ v', lk (m.wantStep D n) k = some v' ∧ v ≤ v' := by
  unfold wantStep
  cases m.near n with
  | none => exact ⟨v, h, Int.le_refl _⟩
  | some r =>
    show ∃ v', lk (if r ≠ n ∧ m.alive r = true then putN D r (maxP ((lk D r).getD 0) ((n.l.getD r.l.length 0 : Nat) : Int)) else D) k = some v' ∧ v ≤ v'
    by_cases c : r ≠ n ∧ m.alive r = true
    · rw [if_pos c, lk_putN]
      by_cases e : k = r
      · subst e
        rw [if_pos rfl, h]
        exact ⟨_, rfl, maxP_l ..⟩
      · rw [if_neg e]; exact ⟨v, h, Int.le_refl _⟩
    · rw [if_neg c]; exact ⟨v, h, Int.le_refl _⟩
theorem wantFold_mono (m : M) : ∀ (hs : List Nm) (D : List (Nm × Int)) {k : Nm} {v : Int}, lk D k = some v → ∃ v', lk (hs.foldl m.wantStep D) k = some v' ∧ v ≤ v' := by
  intro hs
  induction hs with
  | nil => intro D k v h; exact ⟨v, h, Int.le_refl _⟩
  | cons a r ih =>
    intro D k v h
    obtain ⟨v1, h1, l1⟩ := wantStep_mono m D a h
    obtain ⟨v2, h2, l2⟩ := ih _ h1
    exact ⟨v2, h2, by omega⟩
theorem wantFold_ge (m : M) {n r : Nm} (hr : m.near n = some r) (ne : r ≠ n) (al : m.alive r = true) : ∀ (hs : List Nm) (D : List (Nm × Int)), n ∈ hs → ∃ v, lk (hs.foldl m.wantStep D) r = some v ∧ ((n.l.getD r.l.length 0 : Nat) : Int) ≤ v := by
  intro hs
  induction hs with
  | nil => intro D h; cases h
  | cons a t ih =>
    intro D h
    rcases List.mem_cons.mp h with rfl | h
    · have h1 : lk (m.wantStep D n) r = some (maxP ((lk D r).getD 0) ((n.l.getD r.l.length 0 : Nat) : Int)) := by
        unfold wantStep
        rw [hr]
        show lk (if r ≠ n ∧ m.alive r = true then _ else D) r = _
        rw [if_pos ⟨ne, al⟩, lk_putN, if_pos rfl]
      obtain ⟨v2, h2, l2⟩ := wantFold_mono m t _ h1
      refine ⟨v2, h2, Int.le_trans (maxP_r _ _) l2⟩
    · exact ih _ h
theorem want_ge {m : M} {h : Hol} {ts : List Atom} {n r : Nm} (hn : n ∈ m.hopesL h ts) (hr : m.near n = some r) (ne : r ≠ n) (al : m.alive r = true) : ∃ v, lk (m.wantD h ts) r = some v ∧ ((n.l.getD r.l.length 0 : Nat) : Int) ≤ v :=
  wantFold_ge m hr ne al _ _ hn
theorem want_kids {m : M} {ts : List Atom} {n : Nm} {g : Int} (al : m.alive n = true) : ∃ v, lk (m.wantD (.kids n g) ts) n = some v ∧ (m.kc n : Int) + 1 ≤ v := by
  refine wantFold_mono m _ _ ?_
  show lk (if m.alive n = true then [(n, (m.kc n : Int) + 1)] else []) n = _
  rw [if_pos al, lk_cons, if_pos rfl]
theorem want_key {m : M} {h : Hol} {ts : List Atom} (hz : m.bo.length ≤ 30) (hol : HolOk m h) (ok : ∀ x ∈ ts, AtomOk m x) : ∀ p ∈ m.wantD h ts, m.alive p.1 = true ∧ p.1.l.length < 5 ∧ p.2 ≤ 99 := by
  have hh := hopes_ok (m := m) (h := h) (ts := ts) hol.dr.ok ok
  have h0 : ∀ p ∈ m.want0 h, m.alive p.1 = true ∧ p.1.l.length < 5 ∧ p.2 ≤ 99 := by
    cases h with
    | one n => intro p hp; cases hp
    | kids n g =>
      show ∀ p ∈ (if m.alive n = true then [(n, (m.kc n : Int) + 1)] else []), _
      by_cases c : m.alive n = true
      · rw [if_pos c]
        intro p hp
        rw [List.mem_singleton.mp hp]
        have h1 := m.kc_le n
        have h2 : n.l.length ≤ 4 := hol.fit.1
        exact ⟨c, by show n.l.length < 5; omega, by show (m.kc n : Int) + 1 ≤ 99; omega⟩
      · rw [if_neg c]; intro p hp; cases hp
  have : ∀ (hs : List Nm) (D : List (Nm × Int)), (∀ n ∈ hs, NmOk m n) → (∀ p ∈ D, m.alive p.1 = true ∧ p.1.l.length < 5 ∧ p.2 ≤ 99) → ∀ p ∈ hs.foldl m.wantStep D, m.alive p.1 = true ∧ p.1.l.length < 5 ∧ p.2 ≤ 99 := by
    intro hs
    induction hs with
    | nil => intro D _ h; exact h
    | cons a t ih =>
      intro D hn hD
      refine ih _ (fun x hx => hn x (List.mem_cons_of_mem _ hx)) ?_
      obtain ⟨h2, r, hr⟩ := hn a (List.mem_cons_self ..)
      unfold wantStep
      rw [hr]
      show ∀ p ∈ (if r ≠ a ∧ m.alive r = true then putN D r (maxP ((lk D r).getD 0) ((a.l.getD r.l.length 0 : Nat) : Int)) else D), _
      by_cases c : r ≠ a ∧ m.alive r = true
      · rw [if_pos c]
        intro p hp
        rcases mem_putN hp with rfl | hp
        · have h3 := near_lt hr c.1
          have h4 : a.l.length ≤ 5 := h2.1
          refine ⟨c.2, by show r.l.length < 5; omega, ?_⟩
          show maxP _ _ ≤ 99
          refine maxP_le ?_ ?_
          · cases e : lk D r with
            | none => show (0 : Int) ≤ 99; decide
            | some x => exact (hD _ (lk_some_mem e)).2.2
          · have := h2.getD r.l.length
            omega
        · exact hD p hp
      · rw [if_neg c]; exact hD
  exact this _ _ hh h0
end M
end
end DH

namespace DH
open PySem PySem.Spec PyProof.Rows L2 TL
section
variable {P : Program} {w : World} {K : PySem.W.Frag} {mg : Str → Option Value} {base : Heap}
section
variable {m m' : M} {F term : Int} {h : Hol} {ts : List Atom}
theorem After.isB {D : List (Nm × Int)} (A : After m m' F term D) {n : Nm} (hb : m.isB n = true) : m'.isB n = true := by
  unfold M.isB at hb ⊢
  cases e : lk m.bo n with
  | none => rw [e] at hb; cases hb
  | some v => rw [A.old n v e]; rfl
theorem After.born {D : List (Nm × Int)} (A : After m m' F term D) {n : Nm} (hb : m.isB n = true) : m'.born n = m.born n := by
  unfold M.isB at hb
  unfold M.born
  cases e : lk m.bo n with
  | none => rw [e] at hb; cases hb
  | some v => rw [A.old n v e]
theorem After.dead {D : List (Nm × Int)} (A : After m m' F term D) {n : Nm} (hb : m.isB n = true) : m'.isD n = true ∧ lk m'.de n = some ((lk m.de n).getD F) := by
  have e := A.de n
  unfold M.isD
  cases h : lk m.de n with
  | some v => rw [h] at e; rw [e]; exact ⟨rfl, rfl⟩
  | none =>
    rw [h] at e
    have hal : m.alive n = true := M.alive_iff.mpr ⟨hb, by unfold M.isD; rw [h]; rfl⟩
    rw [if_pos hal] at e
    rw [e]; exact ⟨rfl, rfl⟩
theorem After.not_alive {D : List (Nm × Int)} (A : After m m' F term D) {n : Nm} (hb : m.isB n = true) : m'.alive n = false := by
  unfold M.alive
  rw [(A.dead hb).1, Bool.not_true, Bool.and_false]
theorem After.age {D : List (Nm × Int)} (A : After m m' F term D) {n : Nm} (hb : m.isB n = true) : m'.age n = (lk m.de n).getD F - m.born n := by
  unfold M.age
  rw [(A.dead hb).2, A.born hb]; rfl
theorem unborn_case (A : After m m' F term (m.wantD h ts)) (wf : m.WF) {n : Nm} (ok : NmOk m n) (hb : m.isB n = false) (hl : m.nearLives n = true) (hh : n ∈ m.hopesL h ts) :
    ∃ c, m'.near n = some c ∧ m'.alive c = true ∧ lk m'.bo c = some F ∧ lk m'.de c = none ∧ ((c = n ∧ m.steps n = 1) ∨ (m'.isB n = false ∧ 1 < m.steps n)) ∧ m'.nearLives n = true := by
  obtain ⟨h2, r, hr⟩ := ok
  have hal : m.alive r = true := by
    unfold M.nearLives at hl
    rw [hr] at hl; exact hl
  have hne := M.near_ne hr hb
  obtain ⟨c, c1, c2, c3, c4, c5⟩ := grown A wf h2 hb hr hal (M.want_ge hh hr hne hal)
  refine ⟨c, c1, c2, c3, c4, c5, ?_⟩
  unfold M.nearLives
  rw [c1]; exact c2
theorem unb_ne {n : Nm} (h : m.unb n ≠ .failed) : m.nearLives n = true := by
  unfold M.unb at h
  by_cases c : m.nearLives n = true
  · exact c
  · rw [if_neg c] at h; exact absurd rfl h
theorem unb_hangs {n : Nm} (h : m.nearLives n = true) : m.unb n = .hangs := by unfold M.unb; rw [if_pos h]
theorem hope_mem {x : Atom} {n : Nm} (hx : x ∈ wholeN h ts) (hs : m.atomS x = .hangs) (e : x.nm = some n) : n ∈ m.hopesL h ts := by
  unfold M.hopesL
  refine List.mem_append.mpr (.inl (List.mem_filterMap.mpr ⟨x, ?_, e⟩))
  exact List.mem_filter.mpr ⟨hx, decide_eq_true hs⟩
theorem atom_after (A : After m m' (m.firstEnd h ts) term (m.wantD h ts)) (wf : m.WF) {x : Atom} (hx : x ∈ wholeN h ts) (ok : AtomOk m x) (hs : m.atomS x ≠ .failed) :
    m'.atomS x ≠ .failed ∧ (m.atomS x = .hangs → m.atomLate (m.firstEnd h ts + term) term x = true → m'.atomS x = .hangs) := by
  have hFA := M.firstEnd_A m h ts
  have hAY := M.firstA_yr m ts
  cases x with
  | year y =>
    simp only [M.atomS]
    refine ⟨by split <;> (intro z; cases z), fun _ hl => ?_⟩
    have hl : m.firstEnd h ts + term < y := of_decide_eq_true hl
    rw [if_neg (by rw [A.yr]; omega)]
  | comes w =>
    simp only [M.atomS]
    rw [A.ca]
    exact ⟨by split <;> (intro z; cases z), fun hh _ => hh⟩
  | born n =>
    simp only [M.atomS] at hs ⊢
    by_cases hb : m.isB n = true
    · rw [if_pos (A.isB hb), if_pos hb]
      exact ⟨(fun z => nomatch z), (fun z => nomatch z)⟩
    · have hb0 : m.isB n = false := by simpa using hb
      rw [if_neg hb] at hs ⊢
      have hl := unb_ne hs
      have hsx : m.atomS (.born n) = .hangs := by simp only [M.atomS]; rw [if_neg hb]; exact unb_hangs hl
      obtain ⟨c, c1, c2, c3, c4, c5, c6⟩ := unborn_case A wf (ok n rfl) hb0 hl (hope_mem hx hsx rfl)
      rcases c5 with ⟨rfl, h1⟩ | ⟨h1, h2⟩
      · rw [if_pos (M.alive_iff.mp c2).1]
        refine ⟨(fun z => nomatch z), fun _ hL => ?_⟩
        have hL : (if m.steps c = 0 then false else decide (1 < m.steps c)) = true := hL
        rw [h1] at hL
        exact absurd hL (by decide)
      · rw [h1, if_neg Bool.false_ne_true, unb_hangs c6]
        exact ⟨(fun z => nomatch z), fun _ _ => rfl⟩
  | dead n =>
    simp only [M.atomS] at hs ⊢
    by_cases hb : m.isB n = true
    · rw [if_pos (A.isB hb), A.not_alive hb, if_neg Bool.false_ne_true, if_pos hb]
      refine ⟨(fun z => nomatch z), fun _ hL => ?_⟩
      have hL : (if m.steps n = 0 then false else true) = true := hL
      have : m.steps n = 0 := by
        unfold M.steps
        rw [M.near_self hb]
        show (n.l.length : Int) - (n.l.length : Int) = 0
        omega
      rw [if_pos this] at hL
      cases hL
    · have hb0 : m.isB n = false := by simpa using hb
      rw [if_neg hb] at hs ⊢
      have hl := unb_ne hs
      have hsx : m.atomS (.dead n) = .hangs := by simp only [M.atomS]; rw [if_neg hb]; exact unb_hangs hl
      obtain ⟨c, c1, c2, c3, c4, c5, c6⟩ := unborn_case A wf (ok n rfl) hb0 hl (hope_mem hx hsx rfl)
      rcases c5 with ⟨rfl, h1⟩ | ⟨h1, h2⟩
      · rw [if_pos (M.alive_iff.mp c2).1, if_pos c2]
        exact ⟨(fun z => nomatch z), fun _ _ => rfl⟩
      · rw [h1, if_neg Bool.false_ne_true, unb_hangs c6]
        exact ⟨(fun z => nomatch z), fun _ _ => rfl⟩
  | age n k =>
    simp only [M.atomS] at hs ⊢
    by_cases hb : m.isB n = true
    · have hst : m.steps n = 0 := by
        unfold M.steps
        rw [M.near_self hb]
        show (n.l.length : Int) - (n.l.length : Int) = 0
        omega
      have hL0 : m.atomLate (m.firstEnd h ts + term) term (.age n k) = false := by
        show (if m.steps n = 0 then false else if 1 < m.steps n then true else decide (term < k)) = false
        rw [if_pos hst]
      rw [if_pos (A.isB hb), A.not_alive hb]
      refine ⟨?_, fun _ hL => by rw [hL0] at hL; cases hL⟩
      rw [if_pos hb] at hs
      have hk : k ≤ m'.age n := by
        rw [A.age hb]
        cases e : lk m.de n with
        | some v =>
          have hnal : ¬ m.alive n = true := fun z => by
            have := (M.alive_iff.mp z).2
            unfold M.isD at this
            rw [e] at this; cases this
          have h1 : k ≤ m.age n := by
            by_cases c : k ≤ m.age n
            · exact c
            · rw [if_neg c, if_neg hnal] at hs; exact absurd rfl hs
          unfold M.age at h1
          rw [e] at h1
          exact h1
        | none =>
          have hal : m.alive n = true := M.alive_iff.mpr ⟨hb, by unfold M.isD; rw [e]; rfl⟩
          have hts : Atom.age n k ∈ ts := by
            cases h with
            | one q => rcases List.mem_cons.mp hx with z | z
                       · cases z
                       · exact z
            | kids q g => exact hx
          have := M.firstA_ge m ts hts hal
          show k ≤ m.firstEnd h ts - m.born n
          omega
      rw [if_pos hk]
      exact (fun z => nomatch z)
    · have hb0 : m.isB n = false := by simpa using hb
      rw [if_neg hb] at hs ⊢
      have hl := unb_ne hs
      have hsx : m.atomS (.age n k) = .hangs := by simp only [M.atomS]; rw [if_neg hb]; exact unb_hangs hl
      obtain ⟨c, c1, c2, c3, c4, c5, c6⟩ := unborn_case A wf (ok n rfl) hb0 hl (hope_mem hx hsx rfl)
      rcases c5 with ⟨rfl, h1⟩ | ⟨h1, h2⟩
      · rw [if_pos (M.alive_iff.mp c2).1, if_pos c2]
        refine ⟨by split <;> (intro z; cases z), fun _ hL => ?_⟩
        have hL : (if m.steps c = 0 then false else if 1 < m.steps c then true else decide (term < k)) = true := hL
        rw [h1, if_neg (by decide), if_neg (by decide)] at hL
        have hL := of_decide_eq_true hL
        have ea : m'.age c = term := by
          unfold M.age M.born
          rw [c3, c4, A.yr]
          show m.firstEnd h ts + term - m.firstEnd h ts = term
          omega
        rw [ea, if_neg (by omega)]
      · rw [h1, if_neg Bool.false_ne_true, unb_hangs c6]
        exact ⟨(fun z => nomatch z), fun _ _ => rfl⟩
theorem mem_members {n c : Nm} {out : List Nm} : c ∈ m.members n out ↔ c ∈ m.kids n ∧ c ∉ out := by
  unfold M.members
  rw [List.mem_filter]
  by_cases h : c ∈ out <;> simp [h]
theorem left_alive (wf : m.WF) {n c : Nm} (hc : c ∈ m.members n (m.leftOut n)) : m.alive c = true := by
  obtain ⟨h1, h2⟩ := mem_members.mp hc
  by_cases h : m.alive c = true
  · exact h
  · exfalso
    apply h2
    unfold M.leftOut
    refine List.mem_filter.mpr ⟨h1, ?_⟩
    simp [h]
theorem seats_pos {n c : Nm} {g : Int} {out : List Nm} (hc : c ∈ m.members n out) (hg : g ≤ m.age c) : 0 < (m.seats n g out).length :=
  List.length_pos_of_mem (List.mem_filter.mpr ⟨hc, decide_eq_true hg⟩)
theorem class_after {n : Nm} {g : Int} (A : After m m' (m.firstEnd (.kids n g) ts) term (m.wantD (.kids n g) ts)) (wf : m.WF) (ok : NmOk m n) (hs : m.classS n g (m.leftOut n) ≠ .failed) :
    m'.classS n g (m.leftOut n) ≠ .failed ∧ (m.classS n g (m.leftOut n) = .hangs → m.classLate n g term = true → m'.classS n g (m.leftOut n) = .hangs) := by
  have hFA := M.firstEnd_A m (.kids n g) ts
  have hAY := M.firstA_yr m ts
  have toH : m'.mayGrow n = true ∨ 0 < (m'.waiting n g (m.leftOut n)).length → m'.classS n g (m.leftOut n) = .hangs := fun z => by
    unfold M.classS; rw [if_pos z]
  have toN : 0 < (m'.seats n g (m.leftOut n)).length → m'.classS n g (m.leftOut n) ≠ .failed := fun z => by
    unfold M.classS
    rw [if_pos z]
    split <;> (intro z; cases z)
  by_cases hb : m.isB n = true
  · have hst : m.steps n = 0 := by
      unfold M.steps
      rw [M.near_self hb]
      show (n.l.length : Int) - (n.l.length : Int) = 0
      omega
    by_cases hal : m.alive n = true
    · -- a newborn of the class
      obtain ⟨v, hv, hv2⟩ := M.want_kids (ts := ts) (g := g) hal
      have hk := A.got n v hv
      have hc0 := M.next_new wf n
      have hcB : m'.isB (n.snoc (m.kc n + 1)) = true := (A.wf.kid _ _).mpr ⟨by omega, by omega⟩
      have hbo := (A.new _ hc0 hcB).1
      have hde : lk m'.de (n.snoc (m.kc n + 1)) = none := by
        rw [A.de, if_neg (fun z => by rw [(M.alive_iff.mp z).1] at hc0; cases hc0)]
        cases e : lk m.de (n.snoc (m.kc n + 1)) with
        | none => rfl
        | some z =>
          have := wf.dB (n.snoc (m.kc n + 1)) (by unfold M.isD; rw [e]; rfl)
          rw [hc0] at this; cases this
      have ea : m'.age (n.snoc (m.kc n + 1)) = term := by
        unfold M.age M.born
        rw [hbo, hde, A.yr]
        show m.firstEnd (.kids n g) ts + term - m.firstEnd (.kids n g) ts = term
        omega
      have hmem : n.snoc (m.kc n + 1) ∈ m'.members n (m.leftOut n) := by
        refine mem_members.mpr ⟨?_, fun z => ?_⟩
        · unfold M.kids
          exact List.mem_map.mpr ⟨m.kc n, List.mem_range.mpr (by omega), rfl⟩
        · have := M.kids_isB wf (List.mem_filter.mp z).1
          rw [hc0] at this; cases this
      have hal' : m'.alive (n.snoc (m.kc n + 1)) = true := M.alive_iff.mpr ⟨hcB, by unfold M.isD; rw [hde]; rfl⟩
      have big : term < g → m'.classS n g (m.leftOut n) = .hangs := fun hg =>
        toH (.inr (List.length_pos_of_mem (List.mem_filter.mpr ⟨List.mem_filter.mpr ⟨hmem, decide_eq_true (by rw [ea]; exact hg)⟩, hal'⟩)))
      refine ⟨?_, fun _ hL => ?_⟩
      · by_cases hg : term < g
        · rw [big hg]; exact (fun z => nomatch z)
        · exact toN (seats_pos hmem (by rw [ea]; omega))
      · have hL : (if 0 < m.steps n then true else m.alive n && decide (term < g)) = true := hL
        rw [hst, if_neg (by decide), hal, Bool.true_and] at hL
        exact big (of_decide_eq_true hL)
    · have hal0 : m.alive n = false := by simpa using hal
      have hkids : m'.members n (m.leftOut n) = m.members n (m.leftOut n) := by
        unfold M.members M.kids
        rw [A.kc0 n hal0]
      have hL0 : m.classLate n g term = false := by
        show (if 0 < m.steps n then true else m.alive n && decide (term < g)) = false
        rw [hst, if_neg (by decide), hal0]; rfl
      refine ⟨?_, fun _ hL => by rw [hL0] at hL; cases hL⟩
      have hage : ∀ c ∈ m.members n (m.leftOut n), m'.age c = m.firstEnd (.kids n g) ts - m.born c := fun c hc => by
        have h1 := M.alive_iff.mp (left_alive wf hc)
        rw [A.age h1.1]
        have h2 := h1.2
        unfold M.isD at h2
        cases e : lk m.de c with
        | none => rfl
        | some z => rw [e] at h2; cases h2
      have hageM : ∀ c ∈ m.members n (m.leftOut n), m.age c = m.yr - m.born c := fun c hc => by
        have h2 := (M.alive_iff.mp (left_alive wf hc)).2
        unfold M.isD at h2
        unfold M.age
        cases e : lk m.de c with
        | none => rfl
        | some z => rw [e] at h2; cases h2
      by_cases hS : 0 < (m.seats n g (m.leftOut n)).length
      · obtain ⟨c, hc⟩ := List.exists_mem_of_length_pos hS
        obtain ⟨hc1, hc2⟩ := List.mem_filter.mp hc
        have hc2 := of_decide_eq_true hc2
        rw [hageM c hc1] at hc2
        exact toN (seats_pos (by rw [hkids]; exact hc1) (by rw [hage c hc1]; omega))
      · have hW : ¬ (m.waiting n g (m.leftOut n)).length = 0 := fun z => by
          have hmg : ¬ m.mayGrow n = true := by
            unfold M.mayGrow
            rw [if_pos hb]; exact hal
          unfold M.classS at hs
          rw [if_neg (by rintro (q | q); exact hmg q; omega), if_neg hS] at hs
          exact hs rfl
        have hFE : m.firstEnd (.kids n g) ts = maxP (m.firstA ts) (minL ((m.waiting n g (m.leftOut n)).map m.born) + g) := by
          show (if m.alive n = true ∨ m.isB n = false then m.firstA ts else if 0 < (m.seats n g (m.leftOut n)).length ∨ (m.waiting n g (m.leftOut n)).length = 0 then m.firstA ts else maxP (m.firstA ts) (minL ((m.waiting n g (m.leftOut n)).map m.born) + g)) = _
          rw [if_neg (by rintro (q | q); exact hal q; rw [hb] at q; cases q), if_neg (by rintro (q | q); exact hS q; exact hW q)]
        have hne : (m.waiting n g (m.leftOut n)).map m.born ≠ [] := fun z => by
          have := congrArg List.length z
          rw [List.length_map] at this
          exact hW this
        obtain ⟨c, hc, e⟩ := List.mem_map.mp (minL_ok _ hne).1
        have hc1 := (List.mem_filter.mp (List.mem_filter.mp hc).1).1
        have h3 := maxP_r (m.firstA ts) (minL ((m.waiting n g (m.leftOut n)).map m.born) + g)
        exact toN (seats_pos (by rw [hkids]; exact hc1) (by rw [hage c hc1, hFE]; omega))
  · have hb0 : m.isB n = false := by simpa using hb
    have hk0 := M.kids_nil wf hb0
    have hmem : m.members n (m.leftOut n) = [] := by unfold M.members; rw [hk0]; rfl
    have hl : m.nearLives n = true := by
      by_cases c : m.nearLives n = true
      · exact c
      · exfalso
        unfold M.classS at hs
        have hw : (m.waiting n g (m.leftOut n)).length = 0 := by unfold M.waiting; rw [hmem]; rfl
        have hse : (m.seats n g (m.leftOut n)).length = 0 := by unfold M.seats; rw [hmem]; rfl
        rw [if_neg, if_neg (by omega)] at hs
        · exact hs rfl
        · rintro (q | q)
          · unfold M.mayGrow at q
            rw [if_neg hb] at q
            exact c q
          · omega
    have hh : n ∈ m.hopesL (.kids n g) ts := List.mem_append.mpr (.inr (List.mem_singleton.mpr rfl))
    obtain ⟨c, c1, c2, c3, c4, c5, c6⟩ := unborn_case A wf ok hb0 hl hh
    have : m'.classS n g (m.leftOut n) = .hangs := by
      refine toH (.inl ?_)
      unfold M.mayGrow
      rcases c5 with ⟨rfl, h1⟩ | ⟨h1, h2⟩
      · rw [if_pos (M.alive_iff.mp c2).1]; exact c2
      · rw [h1, if_neg Bool.false_ne_true]; exact c6
    rw [this]
    exact ⟨(fun z => nomatch z), fun _ _ => rfl⟩
theorem fold_hangs (l : List S3) : foldS l = .hangs ↔ S3.failed ∉ l ∧ S3.hangs ∈ l := by
  unfold foldS
  by_cases h1 : S3.failed ∈ l
  · rw [if_pos h1]; exact ⟨(fun z => nomatch z), fun z => absurd h1 z.1⟩
  · rw [if_neg h1]
    by_cases h2 : S3.hangs ∈ l
    · rw [if_pos h2]; exact ⟨fun _ => ⟨h1, h2⟩, fun _ => rfl⟩
    · rw [if_neg h2]; exact ⟨(fun z => nomatch z), fun z => absurd z.2 h2⟩
theorem fold_failed (l : List S3) : S3.failed ∈ l → foldS l = .failed := fun h => by unfold foldS; rw [if_pos h]
end
theorem births_len {m : M} {D : List (Nm × Int)} (h : ∀ p ∈ D, p.2 ≤ 99) : ∀ zs : List Nm, (birthsOf m D zs).length ≤ 99 * zs.length := by
  intro zs
  induction zs with
  | nil => exact Nat.le_refl _
  | cons a r ih =>
    have e : birthsOf m D (a :: r) = List.replicate (birthN m D a) (Deed.birth a) ++ birthsOf m D r := rfl
    rw [e, List.length_append, List.length_replicate, List.length_cons]
    have : birthN m D a ≤ 99 := by
      unfold birthN
      cases e : lk D a with
      | none => show ((0 : Int) - (m.kc a : Int)).toNat ≤ 99; omega
      | some v =>
        have h1 : v ≤ 99 := h _ (lk_some_mem e)
        show (v - (m.kc a : Int)).toNat ≤ 99
        omega
    omega
theorem near_root {m : M} (wf : m.WF) {n : Nm} (h : NmOk m n) : m.isB ⟨n.w, []⟩ = true := by
  obtain ⟨_, r, hr⟩ := h
  obtain ⟨j, _, rfl⟩ := M.near_take hr
  exact M.up_root wf _ _ (M.near_isB hr)
theorem story_told {m : M} {h : Hol} {ts : List Atom} {term : Int} {ds : List Deed} (wf : m.WF) (hz : m.bo.length ≤ 30) (hol : HolOk m h) (ok : ∀ x ∈ ts, AtomOk m x) (fit : ∀ x ∈ ts, AtomFit x) (hts : ts.length ≤ 20)
    (t0 : 0 ≤ term) (t60 : term ≤ 60) (late : m.isLate h ts term = true) (S : StoryIs m h ts term ds) : Told m h ts (m.outH h) term ds := by
  have hFA := M.firstEnd_A m h ts
  have hAY := M.firstA_yr m ts
  have hF : m.yr ≤ m.firstEnd h ts := by omega
  have hF2 := first_le wf hol fit
  have key := M.want_key hz hol ok
  obtain ⟨R, A⟩ := story_after wf t0 hF (fun p hp => ⟨(key p hp).1, (key p hp).2.1⟩) S
  have nmk : ∀ {n : Nm}, NmOk m n → NmOk (m.run ds) n := fun hn => ⟨hn.two, M.near_of_root (A.isB (near_root wf hn))⟩
  have okW : ∀ x ∈ wholeN h ts, AtomOk m x := fun x hx => by
    cases h with
    | one n =>
      rcases List.mem_cons.mp hx with rfl | hx
      · intro q hq; cases hq; exact hol.dr.ok
      · exact ok x hx
    | kids n g => exact ok x hx
  refine ⟨R, ?_, ?_, ?_, ?_, ?_, nmk hol.dr.ok, fun x hx n e => nmk (ok x hx n e)⟩
  · obtain ⟨zs, hzs, rfl⟩ := S
    have h1 := yearsL_len (m.firstEnd h ts - m.yr)
    have h2 := yearsL_len term
    have h3 := births_len (m := m) (fun p hp => (key p hp).2.2) zs
    have h4 := want_len m h ts
    have h5 := hzs.length_eq
    rw [List.length_map] at h5
    have h6 : m.living.length ≤ 30 := by
      refine Nat.le_trans (List.length_filter_le ..) ?_
      rw [List.length_map]; exact hz
    simp only [List.length_append, List.length_map]
    omega
  · obtain ⟨zs, hzs, rfl⟩ := S
    intro d hd
    rcases List.mem_append.mp hd with hd | hd
    · rcases List.mem_append.mp hd with hd | hd
      · rcases List.mem_append.mp hd with hd | hd
        · obtain ⟨k, _, rfl⟩ := List.mem_map.mp hd; rfl
        · obtain ⟨n, _, hd⟩ := List.mem_flatMap.mp hd
          rw [(List.mem_replicate.mp hd).2]; rfl
      · obtain ⟨k, _, rfl⟩ := List.mem_map.mp hd; rfl
    · obtain ⟨k, _, rfl⟩ := List.mem_map.mp hd; rfl
  · intro n hn
    have hal := M.mem_living.mp hn
    have h1 := M.alive_iff.mp hal
    refine ⟨m.firstEnd h ts, ?_, by rw [A.yr]; exact Int.le_refl _⟩
    rw [(A.dead h1.1).2]
    have h2 := h1.2
    unfold M.isD at h2
    cases e : lk m.de n with
    | none => rfl
    | some v => rw [e] at h2; cases h2
  · rw [A.yr]; omega
  · unfold M.isLate at late
    by_cases hrow : m.rowS h ts (m.outH h) = .hangs
    · rw [if_pos hrow] at late
      unfold M.rowS at hrow
      have hrow := ((fold_hangs _).mp hrow).1
      have hW : S3.failed ∉ (wholeN h ts).map m.atomS := fun z => hrow (by rw [fold_failed _ z]; exact List.mem_cons_self ..)
      have hat : ∀ x ∈ wholeN h ts, m.atomS x ≠ .failed := fun x hx z => hW (List.mem_map.mpr ⟨x, hx, z⟩)
      have aft := fun x (hx : x ∈ wholeN h ts) => atom_after A wf hx (okW x hx) (hat x hx)
      unfold M.wholeS
      refine (fold_hangs _).mpr ⟨fun z => ?_, ?_⟩
      · rcases List.mem_append.mp z with z | z
        · obtain ⟨x, hx, e⟩ := List.mem_map.mp z
          have hx' : x ∈ wholeN h ts := by
            cases h with
            | one n => exact List.mem_cons_of_mem _ hx
            | kids n g => exact hx
          exact (aft x hx').1 e
        · have z := List.mem_singleton.mp z
          cases h with
          | one n => exact (aft (.born n) (List.mem_cons_self ..)).1 z.symm
          | kids n g =>
            have hc : m.classS n g (m.leftOut n) ≠ .failed := fun q => hrow (by
              refine List.mem_cons_of_mem _ ?_
              show S3.failed ∈ [m.classS n g (m.leftOut n)]
              rw [q]; exact List.mem_cons_self ..)
            exact (class_after A wf hol.dr.ok hc).1 z.symm
      · by_cases hany : (m.hangL h ts).any (m.atomLate (m.firstEnd h ts + term) term) = true
        · obtain ⟨x, hx, hL⟩ := List.any_eq_true.mp hany
          obtain ⟨hx1, hx2⟩ := List.mem_filter.mp hx
          have hx2 : m.atomS x = .hangs := of_decide_eq_true hx2
          have e := (aft x hx1).2 hx2 hL
          cases h with
          | one n =>
            rcases List.mem_cons.mp hx1 with rfl | hx1
            · refine List.mem_append.mpr (.inr (List.mem_singleton.mpr ?_))
              exact e.symm
            · exact List.mem_append.mpr (.inl (List.mem_map.mpr ⟨x, hx1, e⟩))
          | kids n g => exact List.mem_append.mpr (.inl (List.mem_map.mpr ⟨x, hx1, e⟩))
        · rw [if_neg hany] at late
          cases h with
          | one n => cases late
          | kids n g =>
            have late : (if m.classS n g (m.leftOut n) = .hangs then m.classLate n g term else false) = true := late
            by_cases hc : m.classS n g (m.leftOut n) = .hangs
            · rw [if_pos hc] at late
              have e := (class_after A wf hol.dr.ok (by rw [hc]; exact (fun z => nomatch z))).2 hc late
              refine List.mem_append.mpr (.inr (List.mem_singleton.mpr ?_))
              exact e.symm
            · rw [if_neg hc] at late; cases late
    · rw [if_neg hrow] at late; cases late
end
end DH

namespace DH
open PySem PySem.Spec PyProof.Rows L2 TL
section
variable {P : Program} {w : World} {K : PySem.W.Frag} {mg : Str → Option Value} {base : Heap}
def sp_law (K : PySem.W.Frag) : Sp := fun vs H Q _ => ∃ (a : Addr) (ns : List Int), vs = [.ref a] ∧ SqL K H a (ns.map V.int) ∧ ns.length ≤ 63 ∧ ∀ H', Q (.bl true) H'
theorem arr_runs : ∀ (ws : List (Wd × Int)) (m : M), (∀ p ∈ ws, m.isB (Nm.root p.1) = false) → (ws.map (·.1)).Nodup → (∀ p ∈ ws, 0 ≤ p.2 ∧ p.2 ≤ 120) → m.Runs (arr ws) := by
  intro ws
  induction ws with
  | nil => intro m _ _ _; trivial
  | cons p r ih =>
    intro m h1 h2 h3
    rw [List.map_cons, List.nodup_cons] at h2
    refine ⟨⟨h1 p (List.mem_cons_self ..), h3 p (List.mem_cons_self ..)⟩, ih _ ?_ h2.2 (fun q hq => h3 q (List.mem_cons_of_mem _ hq))⟩
    intro q hq
    show (m.addB (Nm.root p.1) (m.yr - p.2)).isB (Nm.root q.1) = false
    rw [M.isB_addB, h1 q (List.mem_cons_of_mem _ hq), Bool.false_or]
    refine decide_eq_false fun e => h2.1 ?_
    have e : p.1 = q.1 := by injection e
    rw [e]
    exact List.mem_map.mpr ⟨q, hq, rfl⟩
theorem bo_play (m : M) (d : Deed) : m.bo.length ≤ (m.play d).bo.length := by
  cases d <;> simp only [M.play, M.addB, M.addD, List.length_append, List.length_cons, List.length_nil] <;> omega
theorem bo_arr : ∀ (ws : List (Wd × Int)) (m : M), (m.run (arr ws)).bo.length = m.bo.length + ws.length := by
  intro ws
  induction ws with
  | nil => intro m; rfl
  | cons p r ih =>
    intro m
    show ((m.addB (Nm.root p.1) (m.yr - p.2)).run (arr r)).bo.length = _
    rw [ih]
    show (m.bo ++ [_]).length + r.length = _
    rw [List.length_append, List.length_cons, List.length_nil, List.length_cons]
    omega
theorem DsL.off {H H' : Hp} {l : Addr} {ps : List (Addr × Deed)} {B : MA} {m : M} (D : DsL H l ps) (G : MAt H B m) (hl : l ∉ fpM B) (O : Off (fpM B) H H') : DsL H' l ps := by
  refine ⟨O _ _ D.l hl, fun p hp => O _ _ (D.t p hp) ?_⟩
  have h := D.t p hp
  have a1 := ne_of h G.c (by intro z; cases z)
  have a2 := ne_of h G.b (by intro z; cases z)
  have a3 := ne_of h G.d (by intro z; cases z)
  have a4 := ne_of h G.e (by intro z; cases z)
  simp [a1, a2, a3, a4]
theorem bo_le_size (m : M) : m.bo.length ≤ m.size := Nat.le_add_right _ _
theorem run_size (y : Int) (ds : List Deed) : ((M.init y).run ds).size ≤ ds.length := by
  have h1 := M.size_run (M.init y) ds
  have h2 : (M.init y).size = 0 := rfl
  omega
theorem cut_to5 (xs : List V) : cutV xs none (some 5) = xs.take 5 := by
  unfold cutV
  rw [HT.sIx_none, show (5 : Int) = ((5 : Nat) : Int) from rfl, HT.sIx_nat]
  rw [List.drop_zero, Nat.sub_zero]
  rw [List.take_eq_take_iff]
  omega
theorem MAt.upd1 {H : Hp} {G : MA} {m : M} {p : Addr} {o : HO} (B : MAt H G m) (hp : p ∉ fpM G) (ht : p ≠ G.t) : MAt (upd H p o) G m := by
  have h1 : p ≠ G.c := fun z => hp (by rw [z]; simp)
  have h2 : p ≠ G.b := fun z => hp (by rw [z]; simp)
  have h3 : p ≠ G.d := fun z => hp (by rw [z]; simp)
  have h4 : p ≠ G.e := fun z => hp (by rw [z]; simp)
  exact ⟨by rw [upd_ne ht.symm]; exact B.t, by rw [upd_ne h1.symm]; exact B.c, by rw [upd_ne h2.symm]; exact B.b, by rw [upd_ne h3.symm]; exact B.d, by rw [upd_ne h4.symm]; exact B.e, B.bd, B.be, B.de, B.sz⟩
theorem enc_dot1 (n : Nm) : enc n ++ Str.ofString ".1" = enc (n.snoc 1) := by
  rw [enc_snoc]
  apply ext_tl
  rw [tl_append, tl_append, tl_append]
  have e : tl (Str.ofString ".1") = tl dot ++ tl (num 1) := by decide +kernel
  rw [e, List.append_assoc]
theorem AtsOk.push {m : M} {ps : List (Addr × Atom)} {x : Addr × Atom} (h : AtsOk m ps) (ok : AtomOk m x.2) (fit : AtomFit x.2) : AtsOk m (ps.take 5 ++ [x]) := by
  refine ⟨fun p hp => ?_, fun p hp => ?_⟩
  · rcases List.mem_append.mp hp with hp | hp
    · exact h.ok p (List.mem_of_mem_take hp)
    · rw [List.mem_singleton.mp hp]; exact ok
  · rcases List.mem_append.mp hp with hp | hp
    · exact h.fit p (List.mem_of_mem_take hp)
    · rw [List.mem_singleton.mp hp]; exact fit
theorem sc_law : FnScope ["_law_script", "_law_n", "_law_year", "_law_model_here", "_law_deeds", "_law_deed", "_law_k", "_law_term", "_law_world", "_law_m", "_law_holder_here", "_law_atoms", "_law_some", "_law_name", "_law_child", "_law_out_here", "_law_kind", "_law_told"] ["_law_script"] (defScope s_law) :=
  ⟨rfl, rfl, rfl, by decide +kernel, rfl, by decide +kernel, by decide +kernel⟩
theorem law_walk (T : Txt K mg) (f : Addr) : Body P w K mg base 10 ["_law_script", "_law_n", "_law_year", "_law_model_here", "_law_deeds", "_law_deed", "_law_k", "_law_term", "_law_world", "_law_m", "_law_holder_here", "_law_atoms", "_law_some", "_law_name", "_law_child", "_law_out_here", "_law_kind", "_law_told"] "law" s_law f (sp_law K) := by
  obtain ⟨f__law_hangs, fd__law_hangs, g__law_hangs, k__law_hangs, b__law_hangs, G__law_hangs⟩ := ok__law_hangs T
  obtain ⟨f_judged, fd_judged, g_judged, k_judged, b_judged, G_judged⟩ := ok_judged T
  obtain ⟨f__law_out, fd__law_out, g__law_out, k__law_out, b__law_out, G__law_out⟩ := ok__law_out T
  obtain ⟨f__law_kids, fd__law_kids, g__law_kids, k__law_kids, b__law_kids, G__law_kids⟩ := ok__law_kids T
  obtain ⟨f__law_living, fd__law_living, g__law_living, k__law_living, b__law_living, G__law_living⟩ := ok__law_living T
  obtain ⟨f__law_judged_row, fd__law_judged_row, g__law_judged_row, k__law_judged_row, b__law_judged_row, G__law_judged_row⟩ := ok__law_judged_row T
  obtain ⟨f__law_rich, fd__law_rich, g__law_rich, k__law_rich, b__law_rich, G__law_rich⟩ := ok__law_rich T
  obtain ⟨f__law_cell_at, fd__law_cell_at, g__law_cell_at, k__law_cell_at, b__law_cell_at, G__law_cell_at⟩ := ok__law_cell_at T
  obtain ⟨f__law_again, fd__law_again, g__law_again, k__law_again, b__law_again, G__law_again⟩ := ok__law_again T
  obtain ⟨f__law_play, fd__law_play, g__law_play, k__law_play, b__law_play, G__law_play⟩ := ok__law_play T
  obtain ⟨f__law_next_deed, fd__law_next_deed, g__law_next_deed, k__law_next_deed, b__law_next_deed, G__law_next_deed⟩ := ok__law_next_deed T
  obtain ⟨f__law_start, fd__law_start, g__law_start, k__law_start, b__law_start, G__law_start⟩ := ok__law_start T
  obtain ⟨f__law_model, fd__law_model, g__law_model, k__law_model, b__law_model, G__law_model⟩ := ok__law_model T
  intro cdv A outer s H vs Q E hr h
  obtain ⟨sa, ns, rfl, hS, hns, k⟩ := h
  refine ⟨_, (pss_cons (ps_set (i := 1) sc_law.nd rfl (by first | exact Or.inl rfl | exact Or.inr rfl) (pe_call G__law_rich (hr.mono (by decide)) rfl g__law_rich k__law_rich b__law_rich .nil pass0 (pa_cons (pe_call G__law_cell_at (hr.mono (by decide)) rfl g__law_cell_at k__law_cell_at b__law_cell_at .nil pass0 (pa_cons (pv 0) (pa_cons pe_int pa_nil))) (pa_cons pe_int pa_nil))))
        (pss_cons (ps_set (i := 2) sc_law.nd rfl (by first | exact Or.inl rfl | exact Or.inr rfl) (pe_op op_mod (pv 1) pe_int))
        (pss_cons (ps_set (i := 3) sc_law.nd rfl (by first | exact Or.inl rfl | exact Or.inr rfl) (pe_call G__law_model (hr.mono (by decide)) rfl g__law_model k__law_model b__law_model .nil pass0 (pa_cons (pv 2) pa_nil)))
        (pss_cons (ps_set (i := 4) sc_law.nd rfl (by first | exact Or.inl rfl | exact Or.inr rfl) (pe_call G__law_start (hr.mono (by decide)) rfl g__law_start k__law_start b__law_start .nil pass0 (pa_cons (pe_call G__law_rich (hr.mono (by decide)) rfl g__law_rich k__law_rich b__law_rich .nil pass0 (pa_cons (pe_call G__law_cell_at (hr.mono (by decide)) rfl g__law_cell_at k__law_cell_at b__law_cell_at .nil pass0 (pa_cons (pv 0) (pa_cons pe_int pa_nil))) (pa_cons pe_int pa_nil))) pa_nil)))
        (pss_cons (ps_for PassesOwn.never rfl (pi_listK K (pe_callTy (call_list_ofK K) (by rfl) T.b_list (by decide +kernel) (pa_cons (pv 4) pa_nil))) (pg_name (i := 5) sc_law.nd rfl (by first | exact Or.inl rfl | exact Or.inr rfl)) (pss_one (ps_expr (pe_call G__law_play (hr.mono (by decide)) rfl g__law_play k__law_play b__law_play .nil pass0 (pa_cons (pv 3) (pa_cons (pv 5) pa_nil))))))
        (pss_cons (ps_for PassesOwn.never rfl (pi_range1 rfl T.b_range (pa_cons (pe_callB (call_min2 rfl) (by rfl) T.b_min (by decide +kernel) (pa_cons pe_int (pa_cons (pe_callB (call_max2 rfl) (by rfl) T.b_max (by decide +kernel) (pa_cons pe_int (pa_cons (pe_op op_sub (pe_callB (call_lenK K) (by rfl) T.b_len PySem.boot_len (pa_cons (pv 0) pa_nil)) pe_int) pa_nil))) pa_nil))) pa_nil)) (pg_name (i := 6) sc_law.nd rfl (by first | exact Or.inl rfl | exact Or.inr rfl)) (pss_cons (ps_expr (bmK K (pe_bm PySem.F.plainAttrs_list PySem.F.slot_list_append PySem.F.type_list_append mt_append (pv 4) (pa_cons (pe_call G__law_next_deed (hr.mono (by decide)) rfl g__law_next_deed k__law_next_deed b__law_next_deed .nil pass0 (pa_cons (pv 3) (pa_cons (pe_call G__law_rich (hr.mono (by decide)) rfl g__law_rich k__law_rich b__law_rich .nil pass0 (pa_cons (pe_call G__law_cell_at (hr.mono (by decide)) rfl g__law_cell_at k__law_cell_at b__law_cell_at .nil pass0 (pa_cons (pv 0) (pa_cons (pe_op op_add pe_int (pv 6)) pa_nil))) (pa_cons (pv 6) pa_nil))) (pa_cons pe_int pa_nil)))) pa_nil))))
        (pss_one (ps_expr (pe_call G__law_play (hr.mono (by decide)) rfl g__law_play k__law_play b__law_play .nil pass0 (pa_cons (pv 3) (pa_cons (pe_ix (ix_listK K) (pv 4) (pe_un un_neg pe_int) (fun _ _ => rfl)) pa_nil)))))))
        (pss_cons (ps_set (i := 7) sc_law.nd rfl (by first | exact Or.inl rfl | exact Or.inr rfl) (pe_op op_mod (pe_op op_fdiv (pv 1) pe_int) pe_int))
        (pss_cons (ps_asg (pe_call G__law_again (hr.mono (by decide)) rfl g__law_again k__law_again b__law_again .nil pass0 (pa_cons (pv 2) (pa_cons (pv 4) pa_nil))) (pg_tupK K (by rfl) (pgs_cons (pg_name (i := 8) sc_law.nd rfl (by first | exact Or.inl rfl | exact Or.inr rfl)) (pgs_cons (pg_name (i := 3) sc_law.nd rfl (by first | exact Or.inl rfl | exact Or.inr rfl)) pgs_nil))))
        (pss_cons (ps_set (i := 9) sc_law.nd rfl (by first | exact Or.inl rfl | exact Or.inr rfl) (pe_call G__law_rich (hr.mono (by decide)) rfl g__law_rich k__law_rich b__law_rich .nil pass0 (pa_cons (pe_call G__law_cell_at (hr.mono (by decide)) rfl g__law_cell_at k__law_cell_at b__law_cell_at .nil pass0 (pa_cons (pv 0) (pa_cons pe_int pa_nil))) (pa_cons pe_int pa_nil))))
        (pss_cons (ps_for PassesOwn.never rfl (pi_range1 rfl T.b_range (pa_cons pe_int pa_nil)) (pg_name (i := 6) sc_law.nd rfl (by first | exact Or.inl rfl | exact Or.inr rfl)) (pss_cons (ps_asg (pe_call G__law_judged_row (hr.mono (by decide)) rfl g__law_judged_row k__law_judged_row b__law_judged_row .nil pass0 (pa_cons (pv 3) (pa_cons (pe_call G__law_rich (hr.mono (by decide)) rfl g__law_rich k__law_rich b__law_rich .nil pass0 (pa_cons (pe_op op_add (pe_op op_mod (pv 9) pe_int) (pv 6)) (pa_cons (pe_op op_add (pv 6) pe_int) pa_nil))) pa_nil))) (pg_tupK K (by rfl) (pgs_cons (pg_name (i := 10) sc_law.nd rfl (by first | exact Or.inl rfl | exact Or.inr rfl)) (pgs_cons (pg_name (i := 11) sc_law.nd rfl (by first | exact Or.inl rfl | exact Or.inr rfl)) pgs_nil))))
        (pss_cons (ps_setLc (i := 12) (own := [("_law_name", 13)]) rfl sc_law.nd rfl rfl (sw_true rfl rfl rfl (by decide +kernel)) (pi_listK K (pe_call G__law_living (hr.mono (by decide)) rfl g__law_living k__law_living b__law_living .nil pass0 (pa_cons (pv 3) pa_nil))) (blkOk_by (own := [("_law_name", 13)]) (N := ["_law_script", "_law_n", "_law_year", "_law_model_here", "_law_deeds", "_law_deed", "_law_k", "_law_term", "_law_world", "_law_m", "_law_holder_here", "_law_atoms", "_law_some", "_law_name", "_law_child", "_law_out_here", "_law_kind", "_law_told"]) (sc := defScope s_law) (by decide +kernel)) (fun _ _ _ _ _ => pg_name (i := 13) sc_law.nd rfl (Or.inl rfl)) (fun _ _ _ _ _ => (pts_one (pt_cmpR op_lt (pe_m1 PySem.F.slot_str_count PySem.F.type_str_count mt_count (pv 13) pe_str) pe_int (nomark _)))) (fun _ _ _ _ _ => (pv 13)))
        (pss_cons (ps_if (PW.pt (pw_and (pt_cmpR op_eq (pv 6) pe_int (nomark _)) (pw_and1 (pt_cmpR op_gt (pe_callB (call_lenK K) (by rfl) T.b_len PySem.boot_len (pa_cons (pv 12) pa_nil)) pe_int (nomark _))))) (pss_cons (ps_set (i := 13) sc_law.nd rfl (by first | exact Or.inl rfl | exact Or.inr rfl) (pe_ix (ix_listK K) (pv 12) (pe_op op_mod (pe_op op_fdiv (pv 9) pe_int) (pe_callB (call_lenK K) (by rfl) T.b_len PySem.boot_len (pa_cons (pv 12) pa_nil))) (fun _ _ => rfl)))
        (pss_cons (ps_set (i := 14) sc_law.nd rfl (by first | exact Or.inl rfl | exact Or.inr rfl) (pe_op op_add_str (pe_op op_add_str (pe_op op_add_str (pv 13) pe_str) (pe_callTy call_str_int (by rfl) T.b_str (by decide +kernel) (pa_cons (pe_op op_add (pe_op op_add (pe_callB (call_lenK K) (by rfl) T.b_len PySem.boot_len (pa_cons (pe_call G__law_kids (hr.mono (by decide)) rfl g__law_kids k__law_kids b__law_kids .nil pass0 (pa_cons (pv 3) (pa_cons (pv 13) pa_nil))) pa_nil)) pe_int) (pe_op op_mod (pe_op op_fdiv (pv 9) pe_int) pe_int)) pa_nil))) pe_str))
        (pss_one (ps_set (i := 11) sc_law.nd rfl (by first | exact Or.inl rfl | exact Or.inr rfl) (pe_op op_cat (pe_slice (sl_listK K) (pv 11) po_none (po_some pe_int)) (pe_lst (pa_cons (pe_tup (pa_cons (pe_ix (ix_listK K) (pe_lst (pa_cons pe_str (pa_cons pe_str pa_nil))) (pe_op op_mod (pe_op op_fdiv (pv 9) pe_int) pe_int) (fun _ _ => rfl)) (pa_cons (pv 14) pa_nil))) pa_nil))))))) pss_nil)
        (pss_cons (ps_set (i := 15) sc_law.nd rfl (by first | exact Or.inl rfl | exact Or.inr rfl) (pe_call G__law_out (hr.mono (by decide)) rfl g__law_out k__law_out b__law_out .nil pass0 (pa_cons (pv 3) (pa_cons (pv 10) pa_nil))))
        (pss_cons (ps_asg (pe_call G_judged (hr.mono (by decide)) rfl g_judged k_judged b_judged .nil pass0 (pa_cons (pv 8) (pa_cons (pv 10) (pa_cons (pe_callTy (call_list_ofK K) (by rfl) T.b_list (by decide +kernel) (pa_cons (pv 11) pa_nil)) (pa_cons (pv 7) pa_nil))))) (pg_tupK K (by rfl) (pgs_cons (pg_name (i := 16) sc_law.nd rfl (by first | exact Or.inl rfl | exact Or.inr rfl)) (pgs_cons (pg_name (i := 17) sc_law.nd rfl (by first | exact Or.inl rfl | exact Or.inr rfl)) pgs_nil))))
        (pss_cons (ps_if (pt_cmpR op_eq (pv 16) pe_str (nomark _)) (pss_one (ps_if (pt_not (pt_val (pe_call G__law_hangs (hr.mono (by decide)) rfl g__law_hangs k__law_hangs b__law_hangs .nil pass0 (pa_cons (pv 2) (pa_cons (pv 4) (pa_cons (pv 10) (pa_cons (pv 11) (pa_cons (pv 15) (pa_cons (pv 7) (pa_cons (pv 17) pa_nil)))))))))) (pss_one (ps_ret pe_bl)) pss_nil)) pss_nil)
        (pss_one (ps_if (PW.pt (pw_and (pt_cmpR op_ne (pv 16) pe_str (nomark _)) (pw_and1 (pt_cmpR op_ne (pv 16) pe_str (nomark _))))) (pss_one (ps_ret pe_bl)) pss_nil)))))))))
        (pss_one (ps_ret pe_bl)))))))))))), ?_⟩
  refine ⟨_, rfl, sa, ns, 0, rfl, hS, fun i0 => ⟨i0, 1, rfl, fun n n0 => ?_⟩⟩
  refine ⟨_, rfl, _, _, rfl, rfl, (show (0 : Int) < 3000 by decide), ?_⟩
  have y0 : 0 ≤ n % 3000 := Int.emod_nonneg _ (by decide)
  have y1 : n % 3000 < 3000 := Int.emod_lt_of_pos _ (by decide)
  refine ⟨_, rfl, _, rfl, fun G H1 ht hc hb hd he s1 B1 => ?_⟩
  have fG : ∀ x ∈ fpM G, H x = none := mem_ne_none (f := fun x => H x = none) hc hb hd he
  refine ⟨_, rfl, sa, ns, 1, rfl, s1.seq hS, fun i1 => ⟨i1, 2, rfl, fun n1 n10 => ⟨n1, rfl, n10, fun H2 p ps ws s2 hp D2 e2 ok2 ne2 l2 => ?_⟩⟩⟩
  have s02 := s1.trans s2
  have npG : p ∉ fpM G := fun z => mem_ne_none (f := fun x => x ≠ p) (ne_of_none B1.c hp) (ne_of_none B1.b hp) (ne_of_none B1.d hp) (ne_of_none B1.e hp) p z rfl
  have hps : ps.length = ws.length := by
    have := congrArg List.length e2
    rw [List.length_map] at this
    unfold arr at this
    rw [List.length_map] at this
    exact this
  have R0 : (M.init (n % 3000)).Runs (ps.map (·.2)) := by rw [e2]; exact arr_runs ws _ (fun _ _ => rfl) ok2.nd ok2.age
  have bo0 : 1 ≤ ((M.init (n % 3000)).run (ps.map (·.2))).bo.length := by
    rw [e2, bo_arr]
    have := List.length_pos_iff.mpr ne2
    omega
  refine ⟨_, rfl, p, _, rfl, .inl (.of D2.l), fun q hq => ?_⟩
  have nqG : q ∉ fpM G := fun z => by
    have B2 := B1.same s2
    exact mem_ne_none (f := fun x => x ≠ q) (ne_of_none B2.c hq) (ne_of_none B2.b hq) (ne_of_none B2.d hq) (ne_of_none B2.e hq) q z rfl
  have s03 := s02.put (o := .lst (ps.map fun p => V.ref p.1)) (s02.free hq)
  have s23 : Same H2 (upd H2 q (.lst (ps.map fun p => V.ref p.1))) := Same.upd hq
  have hq3 : (upd H2 q (.lst (ps.map fun p => V.ref p.1))) q = some (.lst (ps.map fun p => V.ref p.1)) := upd_same
  have B3 := (B1.same s2).same s23
  have D3 := D2.same s23
  generalize (upd H2 q (.lst (ps.map fun p => V.ref p.1))) = H3 at s03 s23 hq3 B3 D3 ⊢
  refine ⟨q, rfl, ⟨_, .of hq3⟩, for_list (K := K) (a := q) (xs := ps.map fun p => V.ref p.1) (fun i σ H' => ∃ v, σ = [some (.ref sa), some (.int n), some (.int (n % 3000)), some (.ref G.t), some (.ref p), v, none, none, none, none, none, none, none, none, none, none, none, none] ∧ Same H H' ∧ H' q = some (.lst (ps.map fun p => V.ref p.1)) ∧ DsL H' p ps ∧ MAt H' G ((M.init (n % 3000)).run ((ps.map (·.2)).take i))) ?_ ?_ ?_ ?_⟩
  · exact ⟨none, rfl, s03, hq3, D3, B3⟩
  · rintro i σ H' _ ⟨_, _, _, h, _⟩
    exact .of h
  · rintro i x σ H' hx ⟨v, rfl, s4, hq4, D4, B4⟩
    rw [List.getElem?_map] at hx
    cases ei : ps[i]? with
    | none => rw [ei] at hx; cases hx
    | some z =>
      obtain ⟨t, d⟩ := z
      rw [ei] at hx
      cases hx
      have ed : (ps.map (·.2))[i]? = some d := by rw [List.getElem?_map, ei]; rfl
      obtain ⟨R1, can⟩ := Runs_take R0 ed
      have wf := (M.WF.init (n % 3000)).run R1
      have htd := D4.t _ (List.mem_of_getElem? ei)
      have hi : i < ps.length := (List.getElem?_eq_some_iff.mp ei).1
      have hsz : ((M.init (n % 3000)).run ((ps.map (·.2)).take i)).size + 1 ≤ 10000 := by
        have h1 := run_size (n % 3000) ((ps.map (·.2)).take i)
        rw [List.length_take, List.length_map] at h1
        omega
      have e1 : (M.init (n % 3000)).run ((ps.map (·.2)).take (i + 1)) = ((M.init (n % 3000)).run ((ps.map (·.2)).take i)).play d := by
        rw [take_snoc ed, M.run_append]; rfl
      rw [e1]
      refine ⟨_, rfl, _, rfl, G, _, t, d, rfl, B4, wf, can, htd, hsz, fun H5 B5 O5 => ?_⟩
      exact ⟨_, rfl, O5.fresh s4 fG, O5 _ _ hq4 nqG, D4.off B4 npG O5, B5⟩
  rintro σ H4 ⟨v5, rfl, s4, _, D4, B4⟩
  have e0 : (ps.map (·.2)).take (ps.map fun p => V.ref p.1).length = ps.map (·.2) := by
    rw [List.length_map]
    exact List.take_of_length_le (by rw [List.length_map]; exact Nat.le_refl _)
  rw [e0] at B4
  obtain ⟨c0, hc0⟩ : ∃ c : Int, c = (if (if ((ns.map V.int).length : Int) - 3 > 0 then ((ns.map V.int).length : Int) - 3 else 0) < 20 then (if ((ns.map V.int).length : Int) - 3 > 0 then ((ns.map V.int).length : Int) - 3 else 0) else 20) := ⟨_, rfl⟩
  have hcz : 0 ≤ c0 := by rw [hc0]; split <;> (try split) <;> omega
  have hc20 : c0 ≤ 20 := by rw [hc0]; split <;> (try split) <;> omega
  refine ⟨_, rfl, _, _, rfl, .inl ⟨_, s4.seq hS, rfl⟩, _, _, rfl, rfl, _, _, rfl, _, _, rfl, c0, by rw [hc0], by omega, by omega, ?_⟩
  refine for_range (lo := 0) (n := c0.toNat) (fun i σ H' => ∃ v5 v6 qs, σ = [some (.ref sa), some (.int n), some (.int (n % 3000)), some (.ref G.t), some (.ref p), v5, v6, none, none, none, none, none, none, none, none, none, none, none] ∧ Same H H' ∧ DsL H' p qs ∧ MAt H' G ((M.init (n % 3000)).run (qs.map (·.2))) ∧ (M.init (n % 3000)).Runs (qs.map (·.2)) ∧ qs.length ≤ 3 + i ∧ 1 ≤ ((M.init (n % 3000)).run (qs.map (·.2))).bo.length) ⟨v5, none, ps, rfl, s4, D4, B4, R0, by omega, bo0⟩ ?_ ?_
  · rintro i σ H5 hi ⟨v5, v6, qs, rfl, s5, D5, B5, R5, l5, b5⟩
    have wf := (M.WF.init (n % 3000)).run R5
    have hsz : ((M.init (n % 3000)).run (qs.map (·.2))).size + 1 ≤ 10000 := by
      have h1 := run_size (n % 3000) (qs.map (·.2))
      rw [List.length_map] at h1
      omega
    have hci : (3 : Int) + (0 + (i : Int)) = ((3 + i : Nat) : Int) := by omega
    refine ⟨_, rfl, .inl ⟨rfl, _, .of D5.l⟩, _, rfl, _, rfl, _, rfl, _, _, rfl, rfl, sa, ns, 3 + i, congrArg (fun z => [V.ref sa, V.int z]) hci, s5.seq hS, fun c => ⟨_, rfl, c, _, rfl, fun r r0 => ?_⟩⟩
    refine ⟨G, _, r, rfl, B5, r0, fun d t H6 s6 ht ht6 can => ?_⟩
    refine ⟨p, _, _, rfl, rfl, s6 _ _ D5.l, small' (k := 23) (by rw [List.length_map]; omega) (by decide), ?_⟩
    have D6 := (D5.same s6).push ht6
    have npt : p ≠ G.t := ne_of D5.l B5.t (by intro z; cases z)
    have B6 := (B5.same s6).upd1 (o := .lst ((qs.map fun p => V.ref p.1) ++ [.ref t])) npG npt
    have s7 := (s5.trans s6).put (o := .lst ((qs.map fun p => V.ref p.1) ++ [.ref t])) (s1.free hp)
    have h7 : (upd H6 p (.lst ((qs.map fun p => V.ref p.1) ++ [.ref t]))) p = some (.lst ((qs.map fun p => V.ref p.1) ++ [.ref t])) := upd_same
    have ht7 := D6.t (t, d) (by simp)
    generalize (upd H6 p (.lst ((qs.map fun p => V.ref p.1) ++ [.ref t]))) = H7 at D6 B6 s7 h7 ht7 ⊢
    refine ⟨_, rfl, _, rfl, _, rfl, p, _, _, _, rfl, rfl, .of h7, atI_last _ _, G, _, t, d, rfl, B6, wf, can, ht7, hsz, fun H8 B8 O8 => ?_⟩
    have e1 : (M.init (n % 3000)).run ((qs ++ [(t, d)]).map (·.2)) = ((M.init (n % 3000)).run (qs.map (·.2))).play d := by
      rw [List.map_append, M.run_append]; rfl
    have e2 : (M.init (n % 3000)).Runs ((qs ++ [(t, d)]).map (·.2)) := by
      rw [List.map_append]
      exact M.Runs_append.mpr ⟨R5, can, trivial⟩
    refine ⟨_, _, qs ++ [(t, d)], rfl, O8.fresh s7 fG, D6.off B6 npG O8, by rw [e1]; exact B8, e2, by rw [List.length_append, List.length_cons, List.length_nil]; omega, ?_⟩
    rw [e1]
    exact Nat.le_trans b5 (bo_play _ d)
  · rintro σ H5 ⟨v5, v6, qs, rfl, s5, D5, B5, R5, l5, b5⟩
    have t0 : 0 ≤ n / 3000 % 61 := Int.emod_nonneg _ (by decide)
    have t61 : n / 3000 % 61 < 61 := Int.emod_lt_of_pos _ (by decide)
    refine ⟨_, rfl, _, _, rfl, rfl, ⟨by decide, by decide⟩, _, _, rfl, rfl, (show (0 : Int) < 61 by decide), ?_⟩
    refine ⟨_, rfl, _, rfl, n % 3000, p, qs, rfl, y0, by omega, D5, R5, by omega, fun H6 z a b s6 hz hz6 W6 B6 ap fA fB => ?_⟩
    refine ⟨z, _, rfl, .of hz6, rfl, _, _, rfl, _, _, rfl, rfl, ?_⟩
    have s06 := s5.trans s6
    have D6 := D5.same s6
    have wf := (M.WF.init (n % 3000)).run R5
    have hsz := run_size (n % 3000) (qs.map (·.2))
    rw [List.length_map] at hsz
    have hq23 : qs.length ≤ 23 := by omega
    have hL : LawM H6 b ((M.init (n % 3000)).run (qs.map (·.2))) := ⟨B6, wf, by have := bo_le_size ((M.init (n % 3000)).run (qs.map (·.2))); omega, fun z => by rw [z] at b5; exact absurd b5 (by decide)⟩
    obtain ⟨m, hm⟩ : ∃ m, (M.init (n % 3000)).run (qs.map (·.2)) = m := ⟨_, rfl⟩
    rw [hm] at W6 B6 wf hsz hL
    refine ⟨_, rfl, sa, ns, 2, rfl, s06.seq hS, fun i2 => ⟨i2, 9, rfl, fun mm mm0 => ?_⟩⟩
    refine ⟨_, rfl, by decide, by decide, ?_⟩
    refine for_range (lo := 0) (n := 4) (fun i σ H' => ∃ w5 w6 w10 w11 w12 w13 w14 w15 w16 w17, σ = [some (.ref sa), some (.int n), some (.int (n % 3000)), some (.ref b.t), some (.ref p), w5, w6, some (.int (n / 3000 % 61)), some (.ref a.p), some (.int mm), w10, w11, w12, w13, w14, w15, w16, w17] ∧ Same H6 H') ⟨_, _, _, _, _, _, _, _, _, _, rfl, Same.refl _⟩ ?_ ?_
    · rintro i σ H7 hi ⟨w5, w6, w10, w11, w12, w13, w14, w15, w16, w17, rfl, s7⟩
      have x0 : 0 ≤ mm % 1000000007 := Int.emod_nonneg _ (by decide)
      refine ⟨_, rfl, _, rfl, _, _, rfl, rfl, (show (0 : Int) < 1000000007 by decide), _, rfl, _, _, rfl, rfl, _, rfl, _, _, rfl, rfl, _, _, rfl, fun r r0 => ?_⟩
      refine ⟨b, m, r, rfl, hL.same s7, r0, fun H8 zz t h o ps s8 hz0 hz8 ht hol L8 ok8 l8 => ?_⟩
      refine ⟨zz, _, rfl, .of hz8, rfl, _, _, rfl, _, _, rfl, rfl, ?_⟩
      have s68 := s7.trans s8
      have L := hL.same s68
      refine ⟨_, rfl, b, m, rfl, L.b, fun H9 q s9 hq hq9 => ⟨q, rfl, ⟨_, .of hq9⟩, fun D hD => lc_fm (e := nmV) (ys := m.living) (fIf fun c => decide ((c.l.length : Int) < 4)) hD (.of hq9) (small (k := 10000) ?_ (by decide)) ?_ ?_⟩⟩
      · refine Nat.le_trans (List.length_filter_le ..) ?_
        rw [List.length_map]
        have := hL.z
        omega
      · intro i y H' C hy s10 hC
        refine ⟨rfl, _, rfl, ⟨_, rfl⟩, _, _, rfl, rfl, _, _, rfl, rfl, _, rfl, ?_⟩
        rw [count_nm]
        refine ifB (fun hb => ?_) (fun hb => ?_)
        · exact ⟨_, rfl, hC _ _ (Same.refl _) (fT hb)⟩
        · exact hC _ _ (Same.refl _) (fF hb)
      intro H10 s10 hD10
      rw [fm_if] at hD10
      have s610 := (s68.trans s9).trans s10
      have L10 := hL.same s610
      have s8t := s9.trans s10
      have ht10 := s8t _ _ ht
      have A10 := L8.same s8t
      refine' cut (fun σ H' => ∃ o' ps' w13 w14, σ = [some (.ref sa), some (.int n), some (.int (n % 3000)), some (.ref b.t), some (.ref p), w5, some (.int (0 + (i : Int))), some (.int (n / 3000 % 61)), some (.ref a.p), some (.int mm), some (.ref t), some (.ref o'), some (.ref D), w13, w14, w15, w16, w17] ∧ Same H10 H' ∧ AtL K H' o' ps' ∧ AtsOk m ps' ∧ ps'.length ≤ 6) (fun r1 => ?_) (fun σ H11 hp11 => ?_); rotate_left
      · refine ⟨_, rfl, rfl, _, rfl, ?_⟩
        refine ifB (fun _ => ?_) (fun _ => ?_)
        · refine ⟨_, rfl, _, _, rfl, .inl ⟨_, .of hD10, rfl⟩, _, _, rfl, rfl, _, rfl, ?_⟩
          rw [List.length_map]
          refine ifB (fun hl => ?_) (fun _ => ?_)
          · have hl : (0 : Int) < (((m.living).filter fun c => decide ((c.l.length : Int) < 4)).length : Int) := of_decide_eq_true hl
            have z0 : 0 ≤ (mm / 5) % (((m.living).filter fun c => decide ((c.l.length : Int) < 4)).length : Int) := Int.emod_nonneg _ (by omega)
            have z1 : (mm / 5) % (((m.living).filter fun c => decide ((c.l.length : Int) < 4)).length : Int) < (((m.living).filter fun c => decide ((c.l.length : Int) < 4)).length : Int) := Int.emod_lt_of_pos _ hl
            obtain ⟨c, hc, hat⟩ := at_nm z0 z1
            have hc4 : (c.l.length : Int) < 4 := of_decide_eq_true (List.mem_filter.mp hc).2
            have hal := M.mem_living.mp (List.mem_filter.mp hc).1
            have dc := Dr.of_isB wf (by have := hL.z; omega) (M.alive_iff.mp hal).1
            refine ⟨_, rfl, _, rfl, _, _, rfl, rfl, ⟨by decide, by decide⟩, _, rfl, _, _, rfl, .inl ⟨_, .of hD10, rfl⟩, _, _, rfl, rfl, (by rw [List.length_map]; exact hl), D, _, _, nmV c, rfl, rfl, .of hD10, (by rw [List.length_map]; exact hat), ?_⟩
            have hLn := dc.two.len
            have e1 : dot.length = 1 := by decide +kernel
            refine ⟨_, rfl, _, _, rfl, rfl, small (k := 60) (by show (enc c).length + dot.length ≤ 60; omega) (by decide), ?_⟩
            refine ⟨_, rfl, _, rfl, b, m, c, rfl, L10.b, wf, dc.two.sm, fun H12 rr s12 hr0 hr12 => ?_⟩
            have j0 : 0 ≤ mm / 35 % 8 := Int.emod_nonneg _ (by decide)
            have j1 : mm / 35 % 8 < 8 := Int.emod_lt_of_pos _ (by decide)
            obtain ⟨j, hj⟩ : ∃ j : Nat, mm / 35 % 8 = j := ⟨(mm / 35 % 8).toNat, by omega⟩
            have hkc : m.kc c ≤ 30 := Nat.le_trans (M.kc_le m c) hL.z
            have e3 := num_len' (i := m.kc c + 1 + j) (by omega)
            have ej : Str.ofString (toString (((m.kc c : Int) + 1) + mm / 35 % 8)) = num (m.kc c + 1 + j) := by rw [hj]; rfl
            refine ⟨_, _, rfl, .inl ⟨_, .of hr12, rfl⟩, _, _, rfl, rfl, _, rfl, _, _, rfl, rfl, ⟨by decide, by decide⟩, _, _, rfl, rfl, (show (0 : Int) < 8 by decide), _, _, rfl, rfl, _, rfl, ?_, _, _, rfl, rfl, ?_, _, _, rfl, rfl, ?_, ?_⟩
            · rw [List.length_map, M.kids_len]
              refine log_ok ?_
              omega
            · rw [List.length_map, M.kids_len, ej]
              show (enc c ++ dot).length + (num (m.kc c + 1 + j)).length ≤ sizeLine
              rw [dot_len]
              exact small (k := 100) (by omega) (by decide)
            · rw [List.length_map, M.kids_len, ej]
              show ((enc c ++ dot) ++ num (m.kc c + 1 + j)).length + (Str.ofString ".1").length ≤ sizeLine
              rw [len_tl, tl_append, List.length_append, ← len_tl, ← len_tl, dot_len, show (Str.ofString ".1").length = 2 from by decide +kernel]
              exact small (k := 200) (by omega) (by decide)
            rw [List.length_map, M.kids_len, ej]
            have eS : ((enc c ++ Str.ofString ".") ++ num (m.kc c + 1 + j)) ++ Str.ofString ".1" = enc ((c.snoc (m.kc c + 1 + j)).snoc 1) := by
              rw [← enc_dot1, enc_snoc]
            rw [eS]
            have dch : Dr m ((c.snoc (m.kc c + 1 + j)).snoc 1) := by
              have d1 := dc.snoc (i := m.kc c + 1 + j) (by omega) (by omega) (by omega)
              refine d1.snoc ?_ (by decide) (by decide)
              show (c.l ++ [_]).length < 5
              rw [List.length_append, List.length_cons, List.length_nil]
              omega
            generalize (c.snoc (m.kc c + 1 + j)).snoc 1 = ch at dch
            have A12 := A10.same s12
            have sU := s12
            refine ⟨_, rfl, _, rfl, _, _, rfl, A12.l, fun cl hcl => ?_⟩
            rw [cut_to5, ← List.map_take]
            have u1 := sU.put (o := .lst ((ps.take 5).map fun p => V.ref p.1)) (sU.free hcl)
            have hcl1 : (upd H12 cl (.lst ((ps.take 5).map fun p => V.ref p.1))) cl = some (.lst ((ps.take 5).map fun p => V.ref p.1)) := upd_same
            generalize (upd H12 cl (.lst ((ps.take 5).map fun p => V.ref p.1))) = H13 at u1 hcl1 ⊢
            refine ⟨small (k := 2) (Nat.le_refl _) (by decide), fun l1 hl1 => ?_⟩
            have v1 : Same H13 (upd H13 l1 (.lst [V.str "born", V.str "dead"])) := Same.upd hl1
            have x0 : 0 ≤ mm / 7 % 2 := Int.emod_nonneg _ (by decide)
            have x1 : mm / 7 % 2 < 2 := Int.emod_lt_of_pos _ (by decide)
            obtain ⟨v, hv, hv2⟩ := pick2 (V.str "born") (V.str "dead") _ x0 x1
            refine ⟨_, rfl, _, _, rfl, rfl, ⟨by decide, by decide⟩, _, _, rfl, rfl, (show (0 : Int) < 2 by decide), l1, _, _, v, rfl, rfl, .of upd_same, hv, _, rfl, small (k := 2) (Nat.le_refl _) (by decide), fun t1 ht1 => ⟨small (k := 1) (Nat.le_refl _) (by decide), fun l2 hl2 => ?_⟩⟩
            have v2 := v1.put (o := .tup [v, nmV ch]) (v1.free ht1)
            have ht2 : (upd (upd H13 l1 (.lst [V.str "born", V.str "dead"])) t1 (.tup [v, nmV ch])) t1 = some (.tup [v, nmV ch]) := upd_same
            generalize (upd (upd H13 l1 (.lst [V.str "born", V.str "dead"])) t1 (.tup [v, nmV ch])) = H14 at v2 ht2 hl2 ⊢
            have v3 := v2.put (o := .lst [.ref t1]) (v2.free hl2)
            have ht3 := (Same.upd (o := .lst [.ref t1]) hl2) _ _ ht2
            have hl3 : (upd H14 l2 (.lst [.ref t1])) l2 = some (.lst [.ref t1]) := upd_same
            generalize (upd H14 l2 (.lst [.ref t1])) = H15 at v3 ht3 hl3 ⊢
            refine ⟨cl, l2, _, _, rfl, rfl, v3 _ _ hcl1, hl3, small (k := 6) (by rw [List.length_map, List.length_take, List.length_cons, List.length_nil]; omega) (by decide), fun pp hpp => ?_⟩
            obtain ⟨at0, eat, okat, fitat⟩ : ∃ x : Atom, encA x = [v, nmV ch] ∧ AtomOk m x ∧ AtomFit x := by
              rcases hv2 with rfl | rfl
              · exact ⟨.born ch, rfl, fun x hx => (by cases hx; exact dch.ok), trivial⟩
              · exact ⟨.dead ch, rfl, fun x hx => (by cases hx; exact dch.ok), trivial⟩
            rw [← eat] at ht3
            have w1 := u1.trans v3
            have w2 := w1.put (o := .lst (((ps.take 5).map fun p => V.ref p.1) ++ [.ref t1])) (w1.free hpp)
            unfold gName
            dsimp only
            refine r1 _ _ ⟨pp, ps.take 5 ++ [(t1, at0)], _, _, rfl, w2, ⟨.of ?_, ?_⟩, ok8.push okat fitat, ?_⟩
            · rw [upd_same, List.map_append]; rfl
            · intro x hx
              have f : ∀ {y : Addr} {o : HO}, H15 y = some o → (upd H15 pp (.lst (((ps.take 5).map fun p => V.ref p.1) ++ [.ref t1]))) y = some o := fun hy => (Same.upd hpp) _ _ hy
              rcases List.mem_append.mp hx with hx | hx
              · exact w2 _ _ (A10.t x (List.mem_of_mem_take hx))
              · rw [List.mem_singleton.mp hx]; exact f ht3
            · rw [List.length_append, List.length_take, List.length_cons, List.length_nil]; omega
          · first | exact r1 _ _ ⟨_, _, _, _, rfl, Same.refl _, A10, ok8, l8⟩ | (dsimp only; rw [if_neg Bool.false_ne_true]; exact r1 _ _ ⟨_, _, _, _, rfl, Same.refl _, A10, ok8, l8⟩)
        · first | exact r1 _ _ ⟨_, _, _, _, rfl, Same.refl _, A10, ok8, l8⟩ | (dsimp only; rw [if_neg Bool.false_ne_true]; exact r1 _ _ ⟨_, _, _, _, rfl, Same.refl _, A10, ok8, l8⟩)
      obtain ⟨o', ps', w13, w14, rfl, s11, A11, ok11, l11⟩ := hp11
      have s611 := s610.trans s11
      have L11 := hL.same s611
      have W11 := W6.same s611
      have ht11 := s11 _ _ ht10
      refine ⟨_, rfl, _, rfl, b, m, t, h, rfl, L11.b, wf, ht11, hol.dr.two.sm, fun H12 u s12 hu0 hu12 => ?_⟩
      have A12 := A11.same s12
      have s612 := s611.trans s12
      refine ⟨_, rfl, _, rfl, _, rfl, o', _, rfl, .inl A12.l, fun q2 hq2 => ⟨_, rfl, ?_⟩⟩
      have s13 : Same H12 (upd H12 q2 (.lst (ps'.map fun p => V.ref p.1))) := Same.upd hq2
      have hq13 : (upd H12 q2 (.lst (ps'.map fun p => V.ref p.1))) q2 = some (.lst (ps'.map fun p => V.ref p.1)) := upd_same
      generalize (upd H12 q2 (.lst (ps'.map fun p => V.ref p.1))) = H13 at s13 hq13 ⊢
      have s613 := s612.trans s13
      have okt : ∀ x ∈ ps'.map (·.2), AtomOk m x := fun x hx => by
        obtain ⟨z, hz, e⟩ := List.mem_map.mp hx
        rw [← e]; exact ok11.ok z hz
      have fit : ∀ x ∈ ps'.map (·.2), AtomFit x := fun x hx => by
        obtain ⟨z, hz, e⟩ := List.mem_map.mp hx
        rw [← e]; exact ok11.fit z hz
      have hfe := first_le (ts := ps'.map (·.2)) wf hol fit
      have RA : RowAt K H13 a m t h q2 ps' := ⟨W6.same s613, wf, (s12.trans s13) _ _ ht11, hol.dr.ok, ⟨.of hq13, fun z hz => (s12.trans s13) _ _ (A11.t z hz)⟩, ok11.ok, by omega⟩
      refine ⟨a, m, t, h, q2, ps', _, rfl, RA, by omega, by omega, hL.z, fun late H14 zz2 g gs s14 hz0 hz14 G14 S14 => ?_, fun sure H14 zz2 g s14 hz0 hz14 => ?_⟩
      · refine ⟨zz2, _, rfl, .of hz14, rfl, _, _, rfl, _, _, rfl, rfl, ?_⟩
        have s614 := s613.trans s14
        refine ⟨_, rfl, rfl, _, rfl, ifTd rfl ?_⟩
        have td := story_told wf hL.z hol okt fit (by rw [List.length_map]; omega) t0 (by omega) late S14
        rw [← hm] at td
        refine ⟨_, rfl, _, rfl, _, rfl, _, rfl, _, rfl, _, rfl, _, rfl, n % 3000, p, qs, t, h, o', ps', u, m.outH h, n / 3000 % 61, g, gs, rfl, y0, by omega, D6.same s614, R5, by omega, ((s12.trans s13).trans s14) _ _ ht11, (A12.same s13).same s14, by omega, .of ((s13.trans s14) _ _ hu12), G14, ?_, fun H15 s15 => ?_⟩
        · rw [hm]; rw [hm] at td; exact td
        · refine ⟨_, rfl, ifF rfl ?_⟩
          refine ⟨_, rfl, rfl, _, rfl, ifF (by decide +kernel) ?_⟩
          try rw [if_neg Bool.false_ne_true]
          exact ⟨_, _, _, _, _, _, _, _, _, _, rfl, s614.trans s15⟩
      · refine ⟨zz2, _, rfl, .of hz14, rfl, _, _, rfl, _, _, rfl, rfl, ?_⟩
        have s614 := s613.trans s14
        refine ⟨_, rfl, rfl, _, rfl, ifFd (by decide +kernel) ?_⟩
        refine ⟨_, rfl, rfl, _, rfl, ifT (by decide +kernel) ?_⟩
        refine ⟨_, rfl, rfl, _, rfl, ifF (by decide +kernel) ?_⟩
        try rw [if_neg Bool.false_ne_true]
        exact ⟨_, _, _, _, _, _, _, _, _, _, rfl, s614⟩
    · rintro σ H7 ⟨w5, w6, w10, w11, w12, w13, w14, w15, w16, w17, rfl, s7⟩
      exact k H7
end
end DH

set_option maxHeartbeats 0
namespace DH
open PySem PySem.Spec PyProof.Rows L2 TL
theorem txt_of {K : PySem.W.Frag} {h : Heap} {mg : Str → Option Value} (X : K.In h) (G : h.Ns mainGlobals mg) (c : obsB K = valB) : Txt K mg where
  says := congrArg (fun z : AlB => z.1) c
  glo := fun f => He.glo_ok X G f
  fre := fun f => He.free_ok X G f
  kin := fun f => ⟨He.int_ok X G f⟩
  kst := fun f => ⟨He.str_ok X G f⟩
  bar := congrArg (fun z : AlB => z.2) c
theorem facts {P : Program} {w : World} {K : PySem.W.Frag} {h : Heap} {mg : Str → Option Value} {f : Addr} (X : K.In h) (G : h.Ns mainGlobals mg) (hfa : mg ("law" : Str) = some (.ref f)) (c : obsB K = valB) :
    ∃ fd : FuncData, (∀ (s : Shared) (v : Value), BindsTo s fd ⟨[v], []⟩ [("_law_script", v)]) ∧ ∀ base : Heap, K.In base → base.Ns mainGlobals mg → FnOk P w K mg base CX0 11 f fd ["_law_script"] (sp_law K) := by
  have T := txt_of X G c
  obtain ⟨fd, F⟩ := T.f_law
  have e := hfa.symm.trans T.g_law
  cases e
  have b := FunD.bindsA (ps := ["_law_script"]) F fun _ _ _ _ _ _ us hl => match us, hl with | [_], _ => rfl
  refine ⟨fd, fun s v => b s [v] rfl, fun base _ _ => fn_by F sc_law (fun vs H Q E h => ?_) (law_walk T _)⟩
  obtain ⟨a, ns, rfl, _⟩ := h
  rfl
end DH
open PySem PySem.W PySem.Calls PyProof.Rows
theorem PySem.Challenge.cw_deadhand_k24_whole_late_story_hangs_holds : PySem.Challenge.rw_deadhand_k24_whole_late_story_hangs.Holds := by
  w_on; o_law
  refine HandSHeadRun.head_any (r := OpenLaw.row PySem.Challenge.rw_deadhand_k24_whole_late_story_hangs) (q := view (OpenLaw.row PySem.Challenge.rw_deadhand_k24_whole_late_story_hangs).prog [78]) (H := DH.hookB) (ob := DH.ob) (M := 6000) (loose := DH.names) (d := HandSHeadRun.topDef (OpenLaw.row PySem.Challenge.rw_deadhand_k24_whole_late_story_hangs).prog 78) (kwd := []) DH.ob_eq
    (by kernel_rfl) (fun s => by kernel_rfl) DH.run (by kernel_rfl) (by kernel_rfl) (by kernel_rfl) (by rfl) (by first | assumption | decide +kernel) (by decide +kernel) ⟨rfl, rfl, rfl, rfl, rfl, by decide +kernel⟩ ?hw ?hc
  case hw => w_witness2
  case hc =>
    refine L2.walk_ofE (l := PySem.Challenge.rw_deadhand_k24_whole_late_story_hangs) (n := 63) (k := 11) (x := "_law_script") (CX := L2.CX0) rfl (by decide) (by kernel_rfl) ⟨rfl, by decide, by decide⟩ ?F (fun _ _ _ _ z => z)
    intro w mg fa h Y G hmg0
    obtain ⟨K, KX, c⟩ := Y
    have hmg : mg ("law" : PySem.Str) = some (.ref fa) := by
      have e : (HandSHeadRun.topDef (OpenLaw.row PySem.Challenge.rw_deadhand_k24_whole_late_story_hangs).prog 78).name = ("law" : PySem.Str) := by kernel_rfl
      rw [← e]
      exact hmg0
    obtain ⟨fd, hb, hF⟩ := DH.facts (P := (PySem.Challenge.rw_deadhand_k24_whole_late_story_hangs).prog) (w := w) KX G hmg c
    exact ⟨K, fd, DH.sp_law K, KX, hb, fun H a ns hl _ hS => ⟨a, ns, rfl, hS, hl, fun _ => rfl⟩, hF⟩
