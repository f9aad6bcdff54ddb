import PyProof.Rows.All
import Wide.All
import OpenK.AllK
import Wide.FinOn
import HandS.ForMost
import HandS.SortKw
import KE.DataMinMax
import KE.KTupSum
import KE.KDictDisplayH
import KE.KeyNested
import KE.SortData
import HandS.Conv
import HandS.More
import HandS.RevTup
import HandS.TupAny
import HandS.TupMul
import HandS.Style
import PySem.Challenge.RW_shorterline_k60_whole_servers_turned
/-! Part SLBfs. -/
set_option autoImplicit false
/-! A breadth-first search that keeps, for each state, the least number with which it was met, finds a shortest bad run. Plain Lean; no program here. -/
namespace SL
section bfs
variable {S M : Type} [DecidableEq S]

/-- what a dict, its pairs in order, has at a key -/
def lk (l : List (S × Int)) (s : S) : Option Int := (l.find? fun kv => decide (kv.1 = s)).map (·.2)
/-- the dict behind a store -/
def dput (l : List (S × Int)) (s : S) (m : Int) : List (S × Int) :=
  if l.any (fun kv => decide (kv.1 = s)) then l.map (fun kv => if kv.1 = s then (kv.1, m) else kv) else l ++ [(s, m)]

theorem lk_nil (s : S) : lk ([] : List (S × Int)) s = none := rfl
theorem lk_cons (p : S × Int) (l : List (S × Int)) (s : S) : lk (p :: l) s = if p.1 = s then some p.2 else lk l s := by
  unfold lk
  rw [List.find?_cons]
  by_cases h : p.1 = s
  · simp [h]
  · simp [h]
theorem lk_append (l m : List (S × Int)) (s : S) : lk (l ++ m) s = (lk l s).or (lk m s) := by
  induction l with
  | nil => simp [lk_nil]
  | cons p l ih =>
    rw [List.cons_append, lk_cons, lk_cons, ih]
    by_cases h : p.1 = s
    · simp [h]
    · simp [h]
theorem lk_none (l : List (S × Int)) (s : S) : lk l s = none ↔ l.any (fun kv => decide (kv.1 = s)) = false := by
  induction l with
  | nil => simp [lk_nil]
  | cons p l ih =>
    rw [lk_cons]
    by_cases h : p.1 = s
    · simp [h]
    · simp [h]
      simpa using ih
theorem lk_map (l : List (S × Int)) (s : S) (m : Int) (s' : S) : lk (l.map fun kv => if kv.1 = s then (kv.1, m) else kv) s' = if s' = s then (lk l s').map (fun _ => m) else lk l s' := by
  induction l with
  | nil => simp [lk_nil]
  | cons p l ih =>
    rw [List.map_cons, lk_cons, lk_cons, ih]
    by_cases h : p.1 = s
    · by_cases h' : s' = s
      · subst h'
        simp [h]
      · have : ¬ p.1 = s' := fun e => h' (e ▸ h)
        have h'' : ¬ s = s' := fun e => h' e.symm
        simp [h, h', h'']
    · by_cases h' : s' = s
      · subst h'
        simp [h]
      · simp [h, h']
theorem lk_dput (l : List (S × Int)) (s : S) (m : Int) (s' : S) : lk (dput l s m) s' = if s' = s then some m else lk l s' := by
  unfold dput
  by_cases h : l.any (fun kv => decide (kv.1 = s)) = true
  · rw [if_pos h, lk_map]
    by_cases h' : s' = s
    · subst h'
      rw [if_pos rfl, if_pos rfl]
      cases e : lk l s' with
      | none =>
        rw [(lk_none l s').mp e] at h
        cases h
      | some v => rfl
    · rw [if_neg h', if_neg h']
  · rw [if_neg h, lk_append, lk_cons, lk_nil]
    have h0 : lk l s = none := (lk_none l s).mpr (Bool.eq_false_iff.mpr h)
    by_cases h' : s' = s
    · subst h'
      simp [h0]
    · have : ¬ s = s' := fun e => h' e.symm
      simp [h', this]
theorem dput_keys_old {l : List (S × Int)} {s : S} {m v : Int} (h : lk l s = some v) : (dput l s m).map (·.1) = l.map (·.1) := by
  unfold dput
  have : l.any (fun kv => decide (kv.1 = s)) = true := by
    cases e : l.any (fun kv => decide (kv.1 = s)) with
    | true => rfl
    | false =>
      rw [(lk_none l s).mpr e] at h
      cases h
  rw [if_pos this, List.map_map]
  apply List.map_congr_left
  intro p _
  simp only [Function.comp]
  split <;> rfl
theorem dput_new {l : List (S × Int)} {s : S} {m : Int} (h : lk l s = none) : dput l s m = l ++ [(s, m)] := by
  unfold dput
  rw [if_neg]
  rw [(lk_none l s).mp h]
  decide
theorem lk_some_mem {l : List (S × Int)} {s : S} {m : Int} (h : lk l s = some m) : (s, m) ∈ l := by
  induction l with
  | nil => cases h
  | cons p l ih =>
    rw [lk_cons] at h
    by_cases e : p.1 = s
    · rw [if_pos e] at h
      cases h
      exact List.mem_cons.mpr (.inl (by rw [← e]))
    · rw [if_neg e] at h
      exact List.mem_cons_of_mem _ (ih h)
theorem lk_none_keys {l : List (S × Int)} {s : S} (h : lk l s = none) : s ∉ l.map (·.1) := by
  induction l with
  | nil => simp
  | cons p l ih =>
    rw [lk_cons] at h
    by_cases e : p.1 = s
    · rw [if_pos e] at h
      cases h
    · rw [if_neg e] at h
      rw [List.map_cons, List.mem_cons]
      rintro (h' | h')
      · exact e h'.symm
      · exact ih h h'
theorem lk_of_mem {l : List (S × Int)} {s : S} {m : Int} (hn : (l.map (·.1)).Nodup) (h : (s, m) ∈ l) : lk l s = some m := by
  induction l with
  | nil => cases h
  | cons p l ih =>
    rw [List.map_cons, List.nodup_cons] at hn
    rw [lk_cons]
    rcases List.mem_cons.mp h with e | e
    · subst e
      rw [if_pos rfl]
    · rw [if_neg]
      · exact ih hn.2 e
      · intro e2
        exact hn.1 (e2 ▸ List.mem_map.mpr ⟨(s, m), e, rfl⟩)

/-- the search's data -/
structure BF (S M : Type) where
  line : List (S × Int)
  ahead : List (Option (Nat × M))
  least : List (S × Int)

def pushB (b : BF S M) (at_ : Nat) (mv : M) (t : S × Int) : BF S M :=
  ⟨b.line ++ [t], b.ahead ++ [some (at_, mv)], dput b.least t.1 t.2⟩
/-- whether it is put into the line -/
def isNew (b : BF S M) (t : S × Int) : Bool :=
  match lk b.least t.1 with
  | none => true
  | some m0 => decide (t.2 < m0)
def metB (b : BF S M) (at_ : Nat) (mv : M) (t : S × Int) : BF S M := if isNew b t = true then pushB b at_ mv t else b
def startB (s0 : S) : BF S M := ⟨[(s0, 0)], [none], [(s0, 0)]⟩

variable (f : S → M → S × Int)
def tr (t : S × Int) (m : M) : S × Int := ((f t.1 m).1, t.2 + (f t.1 m).2)
def go (t : S × Int) (run : List M) : S × Int := run.foldl (tr f) t

/-- the run that leads to a place of the line -/
inductive Path (ahead : List (Option (Nat × M))) : Nat → List M → Prop
  | here {i : Nat} : ahead[i]? = some none → Path ahead i []
  | step {i p : Nat} {mv : M} {run : List M} : ahead[i]? = some (some (p, mv)) → p < i → Path ahead p run → Path ahead i (run ++ [mv])

variable (bad : S → Int → Bool) (ms : List M) (s0 : S)
def BadRun (run : List M) : Prop := (∀ m ∈ run, m ∈ ms) ∧ bad (go f (s0, 0) run).1 (go f (s0, 0) run).2 = true
/-- what the search tells: a shortest bad run, or that there is none -/
def Tells (r : Option (List M)) : Prop :=
  match r with
  | none => ∀ run, ¬ BadRun f bad ms s0 run
  | some run => BadRun f bad ms s0 run ∧ ∀ run', BadRun f bad ms s0 run' → run.length ≤ run'.length

/-- what is asked of the steps -/
structure Fit (ok : S → Prop) (all : List S) : Prop where
  ok0 : ok s0
  ok1 : ∀ s m, ok s → m ∈ ms → ok (f s m).1
  up : ∀ s m, ok s → m ∈ ms → (f s m).2 ≤ 1
  fin : ∀ s, ok s → s ∈ all
  bad0 : bad s0 0 = false
  neg : ∀ s m, m < 0 → bad s m = true
  anti : ∀ s m m', m' ≤ m → bad s m = true → bad s m' = true

structure BInv (ok : S → Prop) (b : BF S M) (dep : List Nat) (at_ j : Nat) : Prop where
  len1 : b.ahead.length = b.line.length
  len2 : dep.length = b.line.length
  hd1 : b.line[0]? = some (s0, 0)
  hd2 : b.ahead[0]? = some none
  hd3 : dep[0]? = some 0
  par : ∀ i, 1 ≤ i → i < b.line.length → ∃ p mv t dp, b.ahead[i]? = some (some (p, mv)) ∧ p < i ∧ mv ∈ ms ∧ b.line[p]? = some t ∧ b.line[i]? = some (tr f t mv) ∧ dep[p]? = some dp ∧ dep[i]? = some (dp + 1)
  oks : ∀ t ∈ b.line, ok t.1
  good : ∀ t ∈ b.line, bad t.1 t.2 = false
  kn : ∀ t ∈ b.line, ∃ m0, lk b.least t.1 = some m0 ∧ m0 ≤ t.2
  kl : ∀ s m, lk b.least s = some m → (s, m) ∈ b.line
  ndk : (b.least.map (·.1)).Nodup
  nd : b.line.Nodup
  cnt : ∀ t ∈ b.line, t.2 < b.least.length
  mono : ∀ i k di dk : Nat, i ≤ k → dep[i]? = some di → dep[k]? = some dk → di ≤ dk
  top : ∀ k dk da : Nat, dep[k]? = some dk → dep[at_]? = some da → dk ≤ da + 1
  clos : ∀ i q t mv, (i < at_ ∨ (i = at_ ∧ q < j)) → b.line[i]? = some t → ms[q]? = some mv → bad (tr f t mv).1 (tr f t mv).2 = false ∧
    ∃ (k : Nat) (m' : Int) (di dk : Nat), b.line[k]? = some ((tr f t mv).1, m') ∧ m' ≤ (tr f t mv).2 ∧ dep[i]? = some di ∧ dep[k]? = some dk ∧ dk ≤ di + 1

variable {f bad ms s0} {ok : S → Prop} {all : List S}

theorem get_app {α : Type} {l : List α} {x : α} {i : Nat} {y : α} (h : l[i]? = some y) : (l ++ [x])[i]? = some y := by
  have hi : i < l.length := (List.getElem?_eq_some_iff.mp h).1
  rw [List.getElem?_append_left hi]
  exact h
theorem get_new {α : Type} (l : List α) (x : α) : (l ++ [x])[l.length]? = some x := by
  rw [List.getElem?_append_right (Nat.le_refl _), Nat.sub_self]
  rfl
theorem get_app_or {α : Type} {l : List α} {x : α} {i : Nat} {y : α} (h : (l ++ [x])[i]? = some y) : l[i]? = some y ∨ (i = l.length ∧ y = x) := by
  by_cases hi : i < l.length
  · rw [List.getElem?_append_left hi] at h
    exact .inl h
  · rw [List.getElem?_append_right (by omega)] at h
    by_cases e : i = l.length
    · subst e
      rw [Nat.sub_self] at h
      cases h
      exact .inr ⟨rfl, rfl⟩
    · obtain ⟨k, hk⟩ : ∃ k, i - l.length = k + 1 := ⟨i - l.length - 1, by omega⟩
      rw [hk] at h
      cases h

theorem start_inv (F : Fit f bad ms s0 ok all) : BInv f bad ms s0 ok (startB s0 : BF S M) [0] 0 0 where
  len1 := rfl
  len2 := rfl
  hd1 := rfl
  hd2 := rfl
  hd3 := rfl
  par := fun i h1 h2 => absurd h2 (by simp [startB]; omega)
  oks := fun t ht => by
    rw [List.mem_singleton.mp ht]
    exact F.ok0
  good := fun t ht => by
    rw [List.mem_singleton.mp ht]
    exact F.bad0
  kn := fun t ht => by
    rw [List.mem_singleton.mp ht]
    exact ⟨0, by simp [startB, lk_cons], Int.le_refl _⟩
  kl := fun s m h => lk_some_mem h
  ndk := by simp [startB]
  nd := by simp [startB]
  cnt := fun t ht => by
    rw [List.mem_singleton.mp ht]
    simp [startB]
  mono := fun i k di dk _ h1 h2 => by
    cases i with
    | zero =>
      cases k with
      | zero =>
        rw [h1] at h2
        cases h2
        exact Nat.le_refl _
      | succ k => cases h2
    | succ i => cases h1
  top := fun k dk da h1 h2 => by
    cases k with
    | zero =>
      cases h1
      omega
    | succ i => cases h1
  clos := fun i q t mv h _ _ => by omega

/-- one move of the item at at_ -/
theorem step_inv (F : Fit f bad ms s0 ok all) {b : BF S M} {dep : List Nat} {at_ j : Nat} {t : S × Int} {mv : M} (I : BInv f bad ms s0 ok b dep at_ j) (ht : b.line[at_]? = some t) (hm : ms[j]? = some mv)
    (hb : bad (tr f t mv).1 (tr f t mv).2 = false) : ∃ dep', BInv f bad ms s0 ok (metB b at_ mv (tr f t mv)) dep' at_ (j + 1) := by
  have hat : at_ < b.line.length := (List.getElem?_eq_some_iff.mp ht).1
  have hmem : mv ∈ ms := List.mem_of_getElem? hm
  obtain ⟨da, hda⟩ : ∃ da, dep[at_]? = some da := ⟨dep[at_]'(by rw [I.len2]; exact hat), by rw [List.getElem?_eq_getElem]⟩
  have okt : ok t.1 := I.oks t (List.mem_of_getElem? ht)
  unfold metB
  by_cases hn : isNew b (tr f t mv) = true
  · rw [if_pos hn]
    refine ⟨dep ++ [da + 1], ?_⟩
    have h0 : 0 < b.line.length := by omega
    have lenD : dep.length = b.line.length := I.len2
    have kn' : ∀ u ∈ b.line, u.1 = (tr f t mv).1 → (tr f t mv).2 < u.2 := by
      intro u hu e
      obtain ⟨m0, h1, h2⟩ := I.kn u hu
      unfold isNew at hn
      rw [e] at h1
      rw [h1] at hn
      have := of_decide_eq_true hn
      omega
    have cnt_t : (tr f t mv).2 < (dput b.least (tr f t mv).1 (tr f t mv).2).length := by
      cases e : lk b.least (tr f t mv).1 with
      | none =>
        rw [dput_new e, List.length_append]
        have h1 := I.cnt t (List.mem_of_getElem? ht)
        have h2 := F.up t.1 mv okt hmem
        simp only [tr, List.length_singleton]
        omega
      | some m0 =>
        have h1 := I.cnt _ (I.kl _ _ e)
        have h3 : (dput b.least (tr f t mv).1 (tr f t mv).2).length = b.least.length := by
          have := congrArg List.length (dput_keys_old (m := (tr f t mv).2) e)
          simpa using this
        have h2 := kn' _ (I.kl _ _ e) rfl
        simp only at h1 h2
        rw [h3]
        omega
    have len_le : b.least.length ≤ (dput b.least (tr f t mv).1 (tr f t mv).2).length := by
      unfold dput
      split
      · simp
      · simp
    refine {
      len1 := by simp [pushB, I.len1]
      len2 := by simp [pushB, I.len2]
      hd1 := get_app I.hd1
      hd2 := get_app I.hd2
      hd3 := get_app I.hd3
      par := ?par
      oks := ?oks
      good := ?good
      kn := ?kn
      kl := ?kl
      ndk := ?ndk
      nd := ?nd
      cnt := ?cnt
      mono := ?mono
      top := ?top
      clos := ?clos }
    case par =>
      intro i h1 h2
      simp only [pushB, List.length_append, List.length_singleton] at h2
      by_cases hi : i < b.line.length
      · obtain ⟨p, mv', t', dp, a1, a2, a3, a4, a5, a6, a7⟩ := I.par i h1 hi
        exact ⟨p, mv', t', dp, get_app a1, a2, a3, get_app a4, get_app a5, get_app a6, get_app a7⟩
      · have e : i = b.line.length := by omega
        subst e
        refine ⟨at_, mv, t, da, ?_, hat, hmem, get_app ht, get_new _ _, get_app hda, ?_⟩
        · show (b.ahead ++ [some (at_, mv)])[b.line.length]? = _
          rw [← I.len1]
          exact get_new _ _
        · rw [← lenD]
          exact get_new _ _
    case oks =>
      intro u hu
      rcases List.mem_append.mp hu with h | h
      · exact I.oks u h
      · rw [List.mem_singleton.mp h]
        exact F.ok1 _ _ okt hmem
    case good =>
      intro u hu
      rcases List.mem_append.mp hu with h | h
      · exact I.good u h
      · rw [List.mem_singleton.mp h]
        exact hb
    case kn =>
      intro u hu
      show ∃ m0, lk (dput b.least (tr f t mv).1 (tr f t mv).2) u.1 = some m0 ∧ m0 ≤ u.2
      rw [lk_dput]
      rcases List.mem_append.mp hu with h | h
      · by_cases e : u.1 = (tr f t mv).1
        · rw [if_pos e]
          exact ⟨_, rfl, Int.le_of_lt (kn' u h e)⟩
        · rw [if_neg e]
          exact I.kn u h
      · rw [List.mem_singleton.mp h, if_pos rfl]
        exact ⟨_, rfl, Int.le_refl _⟩
    case kl =>
      intro s m h
      have h' : lk (dput b.least (tr f t mv).1 (tr f t mv).2) s = some m := h
      rw [lk_dput] at h'
      by_cases e : s = (tr f t mv).1
      · rw [if_pos e] at h'
        cases h'
        exact List.mem_append.mpr (.inr (by rw [e]; exact List.mem_singleton.mpr rfl))
      · rw [if_neg e] at h'
        exact List.mem_append.mpr (.inl (I.kl s m h'))
    case ndk =>
      show ((dput b.least (tr f t mv).1 (tr f t mv).2).map (·.1)).Nodup
      cases e : lk b.least (tr f t mv).1 with
      | none =>
        rw [dput_new e, List.map_append, List.nodup_append]
        refine ⟨I.ndk, by simp, ?_⟩
        intro a ha c hc
        rw [List.map_singleton, List.mem_singleton] at hc
        intro eq
        subst eq
        subst hc
        exact lk_none_keys e ha
      | some m0 =>
        rw [dput_keys_old e]
        exact I.ndk
    case nd =>
      show (b.line ++ [tr f t mv]).Nodup
      rw [List.nodup_append]
      refine ⟨I.nd, by simp, ?_⟩
      intro a ha c hc e
      rw [List.mem_singleton] at hc
      subst hc
      subst e
      exact absurd (kn' _ ha rfl) (Int.lt_irrefl _)
    case cnt =>
      intro u hu
      show u.2 < ((dput b.least (tr f t mv).1 (tr f t mv).2).length : Int)
      rcases List.mem_append.mp hu with h | h
      · have := I.cnt u h
        omega
      · rw [List.mem_singleton.mp h]
        exact cnt_t
    case mono =>
      intro i k di dk hik h1 h2
      rcases get_app_or h1 with g1 | ⟨g1, g1'⟩
      · rcases get_app_or h2 with g2 | ⟨g2, g2'⟩
        · exact I.mono i k di dk hik g1 g2
        · have := I.top i di da g1 hda
          omega
      · rcases get_app_or h2 with g2 | ⟨g2, g2'⟩
        · have := (List.getElem?_eq_some_iff.mp g2).1
          omega
        · omega
    case top =>
      intro k dk da' h1 h2
      have h2' : da' = da := by
        rcases get_app_or h2 with g2 | ⟨g2, g2'⟩
        · rw [hda] at g2
          cases g2
          rfl
        · omega
      subst h2'
      rcases get_app_or h1 with g1 | ⟨g1, g1'⟩
      · exact I.top k dk _ g1 hda
      · omega
    case clos =>
      intro i q t' mv' h h1 h2
      rcases get_app_or h1 with g1 | ⟨g1, g1'⟩
      · by_cases hq : i < at_ ∨ (i = at_ ∧ q < j)
        · obtain ⟨c1, k, m', di, dk, c2, c3, c4, c5, c6⟩ := I.clos i q t' mv' hq g1 h2
          exact ⟨c1, k, m', di, dk, get_app c2, c3, get_app c4, get_app c5, c6⟩
        · have e1 : i = at_ := by omega
          have e2 : q = j := by omega
          subst e1
          subst e2
          rw [ht] at g1
          cases g1
          rw [hm] at h2
          cases h2
          exact ⟨hb, b.line.length, (tr f t mv).2, da, da + 1, get_new _ _, Int.le_refl _, get_app hda, by rw [← lenD]; exact get_new _ _, Nat.le_refl _⟩
      · omega
  · rw [if_neg hn]
    refine ⟨dep, { I with clos := ?_ }⟩
    intro i q t' mv' h h1 h2
    by_cases hq : i < at_ ∨ (i = at_ ∧ q < j)
    · exact I.clos i q t' mv' hq h1 h2
    · have e1 : i = at_ := by omega
      have e2 : q = j := by omega
      subst e1
      subst e2
      rw [ht] at h1
      cases h1
      rw [hm] at h2
      cases h2
      unfold isNew at hn
      cases e : lk b.least (tr f t mv).1 with
      | none =>
        rw [e] at hn
        exact absurd rfl hn
      | some m0 =>
        rw [e] at hn
        have hle : m0 ≤ (tr f t mv).2 := by
          have : ¬ (tr f t mv).2 < m0 := fun x => hn (decide_eq_true x)
          omega
        obtain ⟨k, hk⟩ := List.mem_iff_getElem?.mp (I.kl _ _ e)
        have hkl : k < b.line.length := (List.getElem?_eq_some_iff.mp hk).1
        obtain ⟨dk, hdk⟩ : ∃ dk, dep[k]? = some dk := ⟨dep[k]'(by rw [I.len2]; exact hkl), by rw [List.getElem?_eq_getElem]⟩
        exact ⟨hb, k, m0, da, dk, hk, hle, hda, hdk, I.top k dk da hdk hda⟩

theorem met_keeps {b : BF S M} {at_ : Nat} {mv : M} {t u : S × Int} {i : Nat} (h : b.line[i]? = some u) : (metB b at_ mv t).line[i]? = some u := by
  unfold metB
  split
  · exact get_app h
  · exact h

/-- the next item -/
theorem next_inv {b : BF S M} {dep : List Nat} {at_ : Nat} (I : BInv f bad ms s0 ok b dep at_ ms.length) : BInv f bad ms s0 ok b dep (at_ + 1) 0 :=
  { I with
    top := fun k dk da h1 h2 => by
      by_cases hat : at_ < dep.length
      · obtain ⟨da0, hda0⟩ : ∃ da0, dep[at_]? = some da0 := ⟨dep[at_], by rw [List.getElem?_eq_getElem]⟩
        have := I.top k dk da0 h1 hda0
        have := I.mono at_ (at_ + 1) da0 da (Nat.le_succ _) hda0 h2
        omega
      · have := (List.getElem?_eq_some_iff.mp h2).1
        omega
    clos := fun i q t mv h h1 h2 => by
      refine I.clos i q t mv ?_ h1 h2
      have := (List.getElem?_eq_some_iff.mp h2).1
      omega }

/-- the states of a run are met no later, with no higher numbers, as far as the items were looked at -/
theorem follow (F : Fit f bad ms s0 ok all) {b : BF S M} {dep : List Nat} {at_ j : Nat} (I : BInv f bad ms s0 ok b dep at_ j) (L : Nat) (hL : ∀ k dk : Nat, dep[k]? = some dk → dk < L → k < at_) :
    ∀ (run : List M), (∀ m ∈ run, m ∈ ms) → run.length ≤ L → bad (go f (s0, 0) run).1 (go f (s0, 0) run).2 = false ∧
      ∃ (k : Nat) (m' : Int) (dk : Nat), b.line[k]? = some ((go f (s0, 0) run).1, m') ∧ m' ≤ (go f (s0, 0) run).2 ∧ dep[k]? = some dk ∧ dk ≤ run.length := by
  intro run
  induction h : run.reverse generalizing run with
  | nil =>
    have e : run = [] := List.reverse_eq_nil_iff.mp h
    subst e
    intro _ _
    exact ⟨F.bad0, 0, 0, 0, I.hd1, Int.le_refl _, I.hd3, Nat.le_refl _⟩
  | cons mv r ih =>
    have e : run = r.reverse ++ [mv] := by
      have := congrArg List.reverse h
      rw [List.reverse_reverse, List.reverse_cons] at this
      exact this
    subst e
    intro hms hl
    rw [List.length_append, List.length_singleton] at hl
    obtain ⟨_, k, m', dk, a1, a2, a3, a4⟩ := ih r.reverse (List.reverse_reverse r) (fun m hm => hms m (List.mem_append.mpr (.inl hm))) (by omega)
    have hk : k < at_ := hL k dk a3 (by omega)
    obtain ⟨q, hq⟩ := List.mem_iff_getElem?.mp (hms mv (List.mem_append.mpr (.inr (List.mem_singleton.mpr rfl))))
    obtain ⟨c1, k2, m2, di, dk2, c2, c3, c4, c5, c6⟩ := I.clos k q _ mv (.inl hk) a1 hq
    have eg : go f (s0, 0) (r.reverse ++ [mv]) = tr f (go f (s0, 0) r.reverse) mv := by
      unfold go
      rw [List.foldl_append]
      rfl
    rw [eg]
    rw [a3] at c4
    cases c4
    refine ⟨?_, k2, m2, dk2, c2, ?_, c5, ?_⟩
    · cases hb : bad (tr f (go f (s0, 0) r.reverse) mv).1 (tr f (go f (s0, 0) r.reverse) mv).2 with
      | false => rfl
      | true =>
        have hb' : bad (f (go f (s0, 0) r.reverse).1 mv).1 (m' + (f (go f (s0, 0) r.reverse).1 mv).2) = true := F.anti _ _ _ (by simp only [tr]; omega) hb
        exact nomatch c1.symm.trans hb'
    · simp only [tr] at c3 ⊢
      omega
    · rw [List.length_append, List.length_singleton]
      omega

theorem end_tells (F : Fit f bad ms s0 ok all) {b : BF S M} {dep : List Nat} {at_ : Nat} (I : BInv f bad ms s0 ok b dep at_ 0) (h : b.line.length ≤ at_) : Tells f bad ms s0 none := by
  intro run hr
  have := (follow F I run.length (fun k dk hk _ => by
    have := (List.getElem?_eq_some_iff.mp hk).1
    rw [I.len2] at this
    omega) run hr.1 (Nat.le_refl _)).1
  rw [hr.2] at this
  cases this

theorem path_go {b : BF S M} {dep : List Nat} {at_ j : Nat} (I : BInv f bad ms s0 ok b dep at_ j) : ∀ (n i : Nat) (run : List M), i ≤ n → Path b.ahead i run → i < b.line.length →
    b.line[i]? = some (go f (s0, 0) run) ∧ (∀ m ∈ run, m ∈ ms) ∧ dep[i]? = some run.length := by
  intro n
  induction n with
  | zero =>
    intro i run hi hp hl
    have e : i = 0 := by omega
    subst e
    cases hp with
    | here _ => exact ⟨I.hd1, (fun m hm => nomatch hm), I.hd3⟩
    | step _ h _ => omega
  | succ n ih =>
    intro i run hi hp hl
    cases hp with
    | here h =>
      by_cases e : i = 0
      · subst e
        exact ⟨I.hd1, (fun m hm => nomatch hm), I.hd3⟩
      · obtain ⟨p, mv, t, dp, a1, _⟩ := I.par i (by omega) hl
        rw [h] at a1
        cases a1
    | @step _ p mv run' h1 h2 h3 =>
      by_cases e : i = 0
      · omega
      · obtain ⟨p', mv', t, dp, a1, a2, a3, a4, a5, a6, a7⟩ := I.par i (by omega) hl
        rw [h1] at a1
        cases a1
        obtain ⟨b1, b2, b3⟩ := ih p run' (by omega) h3 (by omega)
        rw [a4] at b1
        cases b1
        rw [a6] at b3
        cases b3
        refine ⟨?_, ?_, ?_⟩
        · rw [a5]
          unfold go
          rw [List.foldl_append]
          rfl
        · intro m hm
          rcases List.mem_append.mp hm with q | q
          · exact b2 m q
          · rw [List.mem_singleton.mp q]
            exact a3
        · rw [a7, List.length_append]
          rfl

theorem found_tells (F : Fit f bad ms s0 ok all) {b : BF S M} {dep : List Nat} {at_ j : Nat} {t : S × Int} {mv : M} {run : List M} (I : BInv f bad ms s0 ok b dep at_ j) (ht : b.line[at_]? = some t) (hm : ms[j]? = some mv)
    (hb : bad (tr f t mv).1 (tr f t mv).2 = true) (hp : Path b.ahead at_ run) : Tells f bad ms s0 (some (run ++ [mv])) := by
  have hat : at_ < b.line.length := (List.getElem?_eq_some_iff.mp ht).1
  obtain ⟨p1, p2, p3⟩ := path_go I at_ at_ run (Nat.le_refl _) hp hat
  rw [ht] at p1
  cases p1
  refine ⟨⟨?_, ?_⟩, ?_⟩
  · intro m h
    rcases List.mem_append.mp h with q | q
    · exact p2 m q
    · rw [List.mem_singleton.mp q]
      exact List.mem_of_getElem? hm
  · have eg : go f (s0, 0) (run ++ [mv]) = tr f (go f (s0, 0) run) mv := by
      unfold go
      rw [List.foldl_append]
      rfl
    rw [eg]
    exact hb
  · intro run' hr
    rw [List.length_append, List.length_singleton]
    by_cases hlt : run.length + 1 ≤ run'.length
    · exact hlt
    · exfalso
      have := (follow F I run.length (fun k dk hk hd => by
        by_cases q : k < at_
        · exact q
        · exfalso
          have := I.mono at_ k _ _ (by omega) p3 hk
          omega) run' hr.1 (by omega)).1
      rw [hr.2] at this
      cases this

/-! ### the line stays short -/
theorem pigeon {α : Type} [DecidableEq α] : ∀ (l m : List α), l.Nodup → (∀ x ∈ l, x ∈ m) → l.length ≤ m.length := by
  intro l
  induction l with
  | nil => intro m _ _; exact Nat.zero_le _
  | cons x l ih =>
    intro m hn hs
    rw [List.nodup_cons] at hn
    have hx := hs x (List.mem_cons_self ..)
    have := ih (m.erase x) hn.2 (fun y hy => by
      have hne : y ≠ x := fun e => hn.1 (e ▸ hy)
      exact (List.mem_erase_of_ne hne).mpr (hs y (List.mem_cons_of_mem _ hy)))
    rw [List.length_erase_of_mem hx] at this
    have h0 : 0 < m.length := List.length_pos_of_mem hx
    rw [List.length_cons]
    omega

theorem line_short (F : Fit f bad ms s0 ok all) {b : BF S M} {dep : List Nat} {at_ j : Nat} (I : BInv f bad ms s0 ok b dep at_ j) : b.line.length ≤ all.length * all.length ∧ b.least.length ≤ all.length := by
  have h1 : b.least.length ≤ all.length := by
    have := pigeon (b.least.map (·.1)) all I.ndk (fun s hs => by
      obtain ⟨p, hp, e⟩ := List.mem_map.mp hs
      have : lk b.least p.1 = some p.2 := lk_of_mem I.ndk hp
      subst e
      exact F.fin _ (I.oks _ (I.kl _ _ this)))
    simpa using this
  refine ⟨?_, h1⟩
  have := pigeon b.line (all.flatMap fun s => (List.range all.length).map fun (k : Nat) => (s, (k : Int))) I.nd (fun t ht => by
    rw [List.mem_flatMap]
    have h2 := I.cnt t ht
    have h3 : 0 ≤ t.2 := by
      by_cases q : 0 ≤ t.2
      · exact q
      · have := F.neg t.1 t.2 (by omega)
        rw [I.good t ht] at this
        cases this
    refine ⟨t.1, F.fin _ (I.oks t ht), List.mem_map.mpr ⟨t.2.toNat, List.mem_range.mpr (by omega), ?_⟩⟩
    rw [Int.toNat_of_nonneg h3])
  refine Nat.le_trans this ?_
  have e : ∀ (l : List S) (n : Nat), (l.flatMap fun s => (List.range n).map fun (k : Nat) => (s, (k : Int))).length = l.length * n := by
    intro l n
    induction l with
    | nil => simp
    | cons x l ih => rw [List.flatMap_cons, List.length_append, ih, List.length_map, List.length_range, List.length_cons, Nat.add_mul, Nat.one_mul, Nat.add_comm]
  rw [e]
  exact Nat.le_refl _

/-- two tellings of the same thing -/
theorem tells_same {r r' : Option (List M)} (h : Tells f bad ms s0 r) (h' : Tells f bad ms s0 r') : r.isSome = r'.isSome ∧ ∀ a a', r = some a → r' = some a' → a.length = a'.length := by
  cases r with
  | none =>
    cases r' with
    | none => exact ⟨rfl, fun _ _ e => nomatch e⟩
    | some a => exact absurd h'.1 (h a)
  | some a =>
    cases r' with
    | none => exact absurd h.1 (h' a)
    | some a' =>
      refine ⟨rfl, fun x y e e' => ?_⟩
      cases e
      cases e'
      exact Nat.le_antisymm (h.2 _ h'.1) (h'.2 _ h.1)
end bfs
end SL
/-! Part SLMath. -/
set_option autoImplicit false
set_option linter.all false
/-! Halls, rules, steps in plain Lean; turning a hall's servers about. No program here. -/
namespace SL
/-- ((top, bottom), room) -/
abbrev Srv := (Int × Int) × Int
inductive Rl where
  | random | two | least | quick
  deriving DecidableEq
inductive Mv where
  | come (o : List Nat) | done (k : Nat) | still
  deriving DecidableEq
inductive Wd where
  | away | taken | served | non
  deriving DecidableEq
abbrev Pr := List Int × List Int
def gx (x : List Int) (k : Nat) : Int := x.getD k 0
def gs (ss : List Srv) (k : Nat) : Srv := ss.getD k ((0, 1), 0)
def room (ss : List Srv) (k : Nat) : Int := (gs ss k).2
def better (ss : List Srv) (r : Rl) (x : List Int) (k f : Nat) : Bool :=
  match r with
  | .quick => decide ((gx x k + 1) * (gs ss k).1.2 * (gs ss f).1.1 < (gx x f + 1) * (gs ss f).1.2 * (gs ss k).1.1)
  | _ => decide (gx x k < gx x f)
def rest (r : Rl) (o : List Nat) : List Nat :=
  match r with
  | .random => []
  | .two => (o.drop 1).take 1
  | _ => o.drop 1
def pick (ss : List Srv) (r : Rl) (x : List Int) (f k : Nat) : Nat := if better ss r x k f = true then k else f
def sent (ss : List Srv) (r : Rl) (x : List Int) (o : List Nat) : Nat := (rest r o).foldl (pick ss r x) (o.headD 0)
def put (x : List Int) (k : Nat) (m : Int) : List Int := x.set k (gx x k + m)
def step (ss : List Srv) (r : Rl) (x : List Int) : Mv → List Int × Wd
  | .come o => if gx x (sent ss r x o) = room ss (sent ss r x o) then (x, .away) else (put x (sent ss r x o) 1, .taken)
  | .done k => if 0 < gx x k then (put x k (-1), .served) else (x, .non)
  | .still => (x, .non)
def alike (ss : List Srv) : Bool := ss.all fun s => decide (s = gs ss 0)
def sortD (x : List Int) : List Int := x.mergeSort fun a b => decide (b ≤ a)
def kept (ss : List Srv) (x : List Int) : List Int := if alike ss = true then sortD x else x
def w1 (w : Wd) : Int := if w = .away then 1 else 0
def both (ss : List Srv) (r1 r2 : Rl) (s : Pr) (mv : Mv) : Pr × Int :=
  ((kept ss (step ss r1 s.1 mv).1, kept ss (step ss r2 s.2 mv).1), w1 (step ss r2 s.2 mv).2 - w1 (step ss r1 s.1 mv).2)
def bad (s : Pr) (m : Int) : Bool := decide (m < 0) || decide (s.2.sum + m < s.1.sum)
def voidL (n : Nat) : List Int := List.replicate n 0
def voids (n : Nat) : Pr := (voidL n, voidL n)
def longer (n : Nat) (o : List Nat) : List (List Nat) := ((List.range n).filter fun k => !decide (k ∈ o)).map fun k => o ++ [k]
def ordersF (n : Nat) : Nat → List (List Nat)
  | 0 => [[]]
  | k + 1 => (ordersF n k).flatMap (longer n)
def orders (n : Nat) : List (List Nat) := ordersF n n
def moves (n : Nat) : List Mv := (orders n).map .come ++ (List.range n).map .done ++ [.still]
/-- turning -/
def turnL (order : List Nat) (x : List Int) : List Int := order.map (gx x)
def turnS (order : List Nat) (ss : List Srv) : List Srv := order.map (gs ss)
def gn (o : List Nat) (k : Nat) : Nat := o.getD k 0
def called (order : List Nat) : Mv → Mv
  | .come o => .come (o.map (gn order))
  | .done k => .done (gn order k)
  | .still => .still
/-- LINES of a hall -/
def OkL (ss : List Srv) (x : List Int) : Prop := x.length = ss.length ∧ ∀ k, k < ss.length → 0 ≤ gx x k ∧ gx x k ≤ room ss k
def linesAll : List Int → List (List Int)
  | [] => [[]]
  | r :: rs => (List.range (r + 1).toNat).flatMap fun (k : Nat) => (linesAll rs).map fun l => (k : Int) :: l
structure Hok (ss : List Srv) : Prop where
  n1 : 1 ≤ ss.length
  n3 : ss.length ≤ 3
  sv : ∀ s ∈ ss, (1 ≤ s.1.1 ∧ s.1.1 ≤ 1000) ∧ (1 ≤ s.1.2 ∧ s.1.2 ≤ 1000) ∧ (1 ≤ s.2 ∧ s.2 ≤ 6)
  few : (linesAll (ss.map (·.2))).length ≤ 9
/-- an order of a hall's lines -/
structure Ord (n : Nat) (o : List Nat) : Prop where
  len : o.length = n
  nd : o.Nodup
  lt : ∀ k ∈ o, k < n
  all : ∀ k, k < n → k ∈ o
theorem ord_of {n : Nat} (h1 : 1 ≤ n) (h3 : n ≤ 3) : ∀ o ∈ orders n, Ord n o := by
  have e : n = 1 ∨ n = 2 ∨ n = 3 := by omega
  have a1 : ∀ o ∈ orders 1, o.length = 1 ∧ o.Nodup ∧ (∀ k ∈ o, k < 1) ∧ ∀ k, k < 1 → k ∈ o := by decide
  have a2 : ∀ o ∈ orders 2, o.length = 2 ∧ o.Nodup ∧ (∀ k ∈ o, k < 2) ∧ ∀ k, k < 2 → k ∈ o := by decide
  have a3 : ∀ o ∈ orders 3, o.length = 3 ∧ o.Nodup ∧ (∀ k ∈ o, k < 3) ∧ ∀ k, k < 3 → k ∈ o := by decide
  intro o ho
  rcases e with e | e | e
  · subst e
    obtain ⟨p, q, r, s⟩ := a1 o ho
    exact ⟨p, q, r, s⟩
  · subst e
    obtain ⟨p, q, r, s⟩ := a2 o ho
    exact ⟨p, q, r, s⟩
  · subst e
    obtain ⟨p, q, r, s⟩ := a3 o ho
    exact ⟨p, q, r, s⟩
theorem called_moves {n : Nat} (h1 : 1 ≤ n) (h3 : n ≤ 3) : ∀ order ∈ orders n, (∀ mv ∈ moves n, called order mv ∈ moves n) ∧ ∀ mv ∈ moves n, ∃ mv' ∈ moves n, called order mv' = mv := by
  have e : n = 1 ∨ n = 2 ∨ n = 3 := by omega
  have a1 : ∀ order ∈ orders 1, (∀ mv ∈ moves 1, called order mv ∈ moves 1) ∧ ∀ mv ∈ moves 1, ∃ mv' ∈ moves 1, called order mv' = mv := by decide
  have a2 : ∀ order ∈ orders 2, (∀ mv ∈ moves 2, called order mv ∈ moves 2) ∧ ∀ mv ∈ moves 2, ∃ mv' ∈ moves 2, called order mv' = mv := by decide
  have a3 : ∀ order ∈ orders 3, (∀ mv ∈ moves 3, called order mv ∈ moves 3) ∧ ∀ mv ∈ moves 3, ∃ mv' ∈ moves 3, called order mv' = mv := by decide +kernel
  rcases e with e | e | e
  · subst e
    exact a1
  · subst e
    exact a2
  · subst e
    exact a3
theorem moves_ok {n : Nat} (h1 : 1 ≤ n) (h3 : n ≤ 3) {mv : Mv} (h : mv ∈ moves n) : (∃ o, mv = .come o ∧ Ord n o) ∨ (∃ k, mv = .done k ∧ k < n) ∨ mv = .still := by
  unfold moves at h
  rw [List.mem_append, List.mem_append] at h
  rcases h with (h | h) | h
  · obtain ⟨o, ho, e⟩ := List.mem_map.mp h
    exact .inl ⟨o, e.symm, ord_of h1 h3 o ho⟩
  · obtain ⟨k, hk, e⟩ := List.mem_map.mp h
    exact .inr (.inl ⟨k, e.symm, List.mem_range.mp hk⟩)
  · exact .inr (.inr (List.mem_singleton.mp h))

/-! ### sending -/
theorem fold_mem {f : Nat → Nat → Nat} (hf : ∀ a b, f a b = a ∨ f a b = b) : ∀ (l : List Nat) (a : Nat), l.foldl f a = a ∨ l.foldl f a ∈ l := by
  intro l
  induction l with
  | nil => exact fun a => .inl rfl
  | cons b l ih =>
    intro a
    rw [List.foldl_cons]
    rcases ih (f a b) with h | h
    · rcases hf a b with e | e
      · rw [e] at h ⊢
        exact .inl h
      · rw [e] at h ⊢
        exact .inr (by rw [h]; exact List.mem_cons_self ..)
    · exact .inr (List.mem_cons_of_mem _ h)
theorem pick_or (ss : List Srv) (r : Rl) (x : List Int) (a b : Nat) : pick ss r x a b = a ∨ pick ss r x a b = b := by
  unfold pick
  split
  · exact .inr rfl
  · exact .inl rfl
theorem rest_sub (r : Rl) (o : List Nat) : ∀ k ∈ rest r o, k ∈ o := by
  intro k h
  unfold rest at h
  cases r with
  | random => cases h
  | two => exact List.mem_of_mem_drop (List.mem_of_mem_take h)
  | least => exact List.mem_of_mem_drop h
  | quick => exact List.mem_of_mem_drop h
theorem sent_mem {ss : List Srv} {r : Rl} {x : List Int} {o : List Nat} (ho : o ≠ []) : sent ss r x o ∈ o := by
  unfold sent
  rcases fold_mem (pick_or ss r x) (rest r o) (o.headD 0) with h | h
  · rw [h]
    cases o with
    | nil => exact absurd rfl ho
    | cons a t => exact List.mem_cons_self ..
  · exact rest_sub r o _ h
theorem sent_lt {n : Nat} {ss : List Srv} {r : Rl} {x : List Int} {o : List Nat} (h1 : 1 ≤ n) (ho : Ord n o) : sent ss r x o < n :=
  ho.lt _ (sent_mem (by intro e; subst e; have := ho.len; simp at this; omega))

/-! ### steps stay among LINES -/
theorem put_len (x : List Int) (k : Nat) (m : Int) : (put x k m).length = x.length := by
  unfold put
  rw [List.length_set]
theorem gx_put (x : List Int) (k : Nat) (m : Int) (j : Nat) (hk : k < x.length) : gx (put x k m) j = if j = k then gx x k + m else gx x j := by
  unfold gx put
  rw [List.getD_eq_getElem?_getD, List.getElem?_set]
  by_cases e : k = j
  · subst e
    rw [if_pos rfl, if_pos hk, if_pos rfl]
    rfl
  · rw [if_neg e, if_neg (fun z => e z.symm), ← List.getD_eq_getElem?_getD]
theorem okl_put {ss : List Srv} {x : List Int} {k : Nat} {m : Int} (h : OkL ss x) (hk : k < ss.length) (h0 : 0 ≤ gx x k + m) (h1 : gx x k + m ≤ room ss k) : OkL ss (put x k m) := by
  refine ⟨by rw [put_len]; exact h.1, fun j hj => ?_⟩
  rw [gx_put x k m j (by rw [h.1]; exact hk)]
  by_cases e : j = k
  · rw [if_pos e, e]
    exact ⟨h0, h1⟩
  · rw [if_neg e]
    exact h.2 j hj
theorem okl_step {ss : List Srv} (r : Rl) {x : List Int} {mv : Mv} (h1 : 1 ≤ ss.length) (h3 : ss.length ≤ 3) (h : OkL ss x) (hm : mv ∈ moves ss.length) : OkL ss (step ss r x mv).1 := by
  rcases moves_ok h1 h3 hm with ⟨o, e, ho⟩ | ⟨k, e, hk⟩ | e
  · subst e
    have hs := sent_lt (ss := ss) (r := r) (x := x) h1 ho
    show OkL ss (if gx x (sent ss r x o) = room ss (sent ss r x o) then (x, Wd.away) else (put x (sent ss r x o) 1, Wd.taken)).1
    split
    · exact h
    · have := h.2 _ hs
      exact okl_put (m := 1) h hs (by omega) (by omega)
  · subst e
    show OkL ss (if 0 < gx x k then (put x k (-1), Wd.served) else (x, Wd.non)).1
    split
    · have := h.2 _ hk
      exact okl_put (m := -1) h hk (by omega) (by omega)
    · exact h
  · subst e
    exact h
theorem sortD_perm (x : List Int) : (sortD x).Perm x := List.mergeSort_perm _ _
theorem gx_mem {x : List Int} {k : Nat} (h : k < x.length) : gx x k ∈ x := by
  unfold gx
  rw [List.getD_eq_getElem?_getD, List.getElem?_eq_getElem h]
  exact List.getElem_mem h
theorem mem_gx {x : List Int} {v : Int} (h : v ∈ x) : ∃ k, k < x.length ∧ gx x k = v := by
  obtain ⟨k, hk, e⟩ := List.mem_iff_getElem.mp h
  refine ⟨k, hk, ?_⟩
  unfold gx
  rw [List.getD_eq_getElem?_getD, List.getElem?_eq_getElem hk]
  exact e
theorem gs_mem {ss : List Srv} {k : Nat} (h : k < ss.length) : gs ss k ∈ ss := by
  unfold gs
  rw [List.getD_eq_getElem?_getD, List.getElem?_eq_getElem h]
  exact List.getElem_mem h
theorem alike_gs {ss : List Srv} (h : alike ss = true) {k : Nat} (hk : k < ss.length) : gs ss k = gs ss 0 := by
  unfold alike at h
  rw [List.all_eq_true] at h
  exact of_decide_eq_true (h _ (gs_mem hk))
theorem okl_kept {ss : List Srv} {x : List Int} (h : OkL ss x) : OkL ss (kept ss x) := by
  unfold kept
  split
  · rename_i ha
    refine ⟨by rw [(sortD_perm x).length_eq]; exact h.1, fun k hk => ?_⟩
    have hm := gx_mem (x := sortD x) (k := k) (by rw [(sortD_perm x).length_eq, h.1]; exact hk)
    obtain ⟨j, hj, e⟩ := mem_gx ((sortD_perm x).mem_iff.mp hm)
    rw [← e]
    have := h.2 j (by rw [← h.1]; exact hj)
    unfold room at this ⊢
    rw [alike_gs ha (by rw [← h.1]; exact hj)] at this
    rw [alike_gs ha hk]
    exact this
  · exact h
theorem mem_linesAll : ∀ (rs x : List Int), x.length = rs.length → (∀ k, k < rs.length → 0 ≤ gx x k ∧ gx x k ≤ rs.getD k 0) → x ∈ linesAll rs
  | [], [], _, _ => List.mem_singleton.mpr rfl
  | [], _ :: _, h, _ => by simp at h
  | _ :: _, [], h, _ => by simp at h
  | r :: rs, v :: x, h, hb => by
    have h0 := hb 0 (by simp)
    have h0a : 0 ≤ v := h0.1
    have h0b : v ≤ r := h0.2
    unfold linesAll
    rw [List.mem_flatMap]
    refine ⟨v.toNat, List.mem_range.mpr (by omega), List.mem_map.mpr ⟨x, mem_linesAll rs x (by simpa using h) (fun k hk => ?_), ?_⟩⟩
    · have := hb (k + 1) (by simpa using hk)
      simpa [gx] using this
    · rw [Int.toNat_of_nonneg h0a]
theorem okl_mem {ss : List Srv} {x : List Int} (h : OkL ss x) : x ∈ linesAll (ss.map (·.2)) := by
  refine mem_linesAll _ _ (by rw [List.length_map]; exact h.1) fun k hk => ?_
  rw [List.length_map] at hk
  have := h.2 k hk
  unfold room gs at this
  rw [List.getD_eq_getElem?_getD, List.getElem?_map]
  rw [List.getD_eq_getElem?_getD, List.getElem?_eq_getElem hk] at this
  rw [List.getElem?_eq_getElem hk]
  exact this
def pairsAll (ss : List Srv) : List Pr := (linesAll (ss.map (·.2))).flatMap fun x => (linesAll (ss.map (·.2))).map fun y => (x, y)
theorem pairsAll_len (ss : List Srv) : (pairsAll ss).length = (linesAll (ss.map (·.2))).length * (linesAll (ss.map (·.2))).length := by
  unfold pairsAll
  generalize linesAll (ss.map (·.2)) = l
  have : ∀ (a b : List (List Int)), (a.flatMap fun x => b.map fun y => (x, y)).length = a.length * b.length := by
    intro a b
    induction a with
    | nil => simp
    | cons x a ih => rw [List.flatMap_cons, List.length_append, ih, List.length_map, List.length_cons, Nat.add_mul, Nat.one_mul, Nat.add_comm]
  exact this l l
def OkP (ss : List Srv) (s : Pr) : Prop := OkL ss s.1 ∧ OkL ss s.2
theorem okl_void {ss : List Srv} (h : Hok ss) : OkL ss (voidL ss.length) := by
  refine ⟨List.length_replicate, fun k hk => ?_⟩
  have e : gx (voidL ss.length) k = 0 := by
    unfold gx voidL
    rw [List.getD_eq_getElem?_getD, List.getElem?_replicate]
    split <;> rfl
  rw [e]
  have := (h.sv _ (gs_mem hk)).2.2.1
  unfold room
  omega
theorem sum_void : ∀ n, (voidL n).sum = 0
  | 0 => rfl
  | n + 1 => by
    unfold voidL
    rw [List.replicate_succ, List.sum_cons]
    have := sum_void n
    unfold voidL at this
    omega
theorem w1_le (w : Wd) : 0 ≤ w1 w ∧ w1 w ≤ 1 := by
  unfold w1
  split <;> omega
theorem fit {ss : List Srv} (h : Hok ss) (r1 r2 : Rl) : Fit (both ss r1 r2) bad (moves ss.length) (voids ss.length) (OkP ss) (pairsAll ss) where
  ok0 := ⟨okl_void h, okl_void h⟩
  ok1 := fun s m hs hm => ⟨okl_kept (okl_step r1 h.n1 h.n3 hs.1 hm), okl_kept (okl_step r2 h.n1 h.n3 hs.2 hm)⟩
  up := fun s m _ _ => by
    have a := w1_le (step ss r2 s.2 m).2
    have b := w1_le (step ss r1 s.1 m).2
    show w1 (step ss r2 s.2 m).2 - w1 (step ss r1 s.1 m).2 ≤ 1
    omega
  fin := fun s hs => by
    unfold pairsAll
    rw [List.mem_flatMap]
    exact ⟨s.1, okl_mem hs.1, List.mem_map.mpr ⟨s.2, okl_mem hs.2, rfl⟩⟩
  bad0 := by
    unfold bad voids
    rw [sum_void]
    rfl
  neg := fun s m hm => by
    unfold bad
    rw [decide_eq_true hm]
    rfl
  anti := fun s m m' hle hb => by
    unfold bad at hb ⊢
    rw [Bool.or_eq_true, decide_eq_true_eq, decide_eq_true_eq] at hb ⊢
    omega

/-! ### turning the servers -/
section
variable {n : Nat} {order : List Nat}
theorem gx_turn (x : List Int) {k : Nat} (h : k < order.length) : gx (turnL order x) k = gx x (gn order k) := by
  unfold turnL gn
  conv => lhs; unfold gx
  rw [List.getD_eq_getElem?_getD, List.getElem?_map, List.getD_eq_getElem?_getD, List.getElem?_eq_getElem h]
  rfl
theorem gs_turn (ss : List Srv) {k : Nat} (h : k < order.length) : gs (turnS order ss) k = gs ss (gn order k) := by
  unfold turnS gn
  conv => lhs; unfold gs
  rw [List.getD_eq_getElem?_getD, List.getElem?_map, List.getD_eq_getElem?_getD, List.getElem?_eq_getElem h]
  rfl
theorem better_turn (ss : List Srv) (r : Rl) (x : List Int) {k f : Nat} (hk : k < order.length) (hf : f < order.length) : better (turnS order ss) r (turnL order x) k f = better ss r x (gn order k) (gn order f) := by
  unfold better
  rw [gx_turn x hk, gx_turn x hf, gs_turn ss hk, gs_turn ss hf]
theorem fold_turn (ss : List Srv) (r : Rl) (x : List Int) : ∀ (l : List Nat) (a : Nat), (∀ k ∈ l, k < order.length) → a < order.length →
    gn order (l.foldl (pick (turnS order ss) r (turnL order x)) a) = (l.map (gn order)).foldl (pick ss r x) (gn order a) := by
  intro l
  induction l with
  | nil => exact fun a _ _ => rfl
  | cons b l ih =>
    intro a hl ha
    have hb : b < order.length := hl b (List.mem_cons_self ..)
    rw [List.foldl_cons, List.map_cons, List.foldl_cons]
    have e : gn order (pick (turnS order ss) r (turnL order x) a b) = pick ss r x (gn order a) (gn order b) := by
      unfold pick
      rw [better_turn ss r x hb ha]
      split <;> rfl
    rw [ih _ (fun k hk => hl k (List.mem_cons_of_mem _ hk)) (by
      rcases pick_or (turnS order ss) r (turnL order x) a b with q | q
      · rw [q]; exact ha
      · rw [q]; exact hb), e]
theorem rest_map (r : Rl) (f : Nat → Nat) (o : List Nat) : rest r (o.map f) = (rest r o).map f := by
  unfold rest
  cases r with
  | random => rfl
  | two => rw [← List.map_drop, ← List.map_take]
  | least => rw [← List.map_drop]
  | quick => rw [← List.map_drop]
theorem sent_turn (ss : List Srv) (r : Rl) (x : List Int) {o : List Nat} (ho : o ≠ []) (hl : ∀ k ∈ o, k < order.length) :
    gn order (sent (turnS order ss) r (turnL order x) o) = sent ss r x (o.map (gn order)) := by
  unfold sent
  rw [rest_map]
  cases o with
  | nil => exact absurd rfl ho
  | cons a t => exact fold_turn ss r x (rest r (a :: t)) a (fun k hk => hl k (rest_sub r _ k hk)) (hl a (List.mem_cons_self ..))
theorem gn_inj (h : order.Nodup) {i j : Nat} (hi : i < order.length) (hj : j < order.length) (e : gn order i = gn order j) : i = j := by
  unfold gn at e
  rw [List.getD_eq_getElem?_getD, List.getD_eq_getElem?_getD, List.getElem?_eq_getElem hi, List.getElem?_eq_getElem hj] at e
  exact (List.getElem_inj h).mp e
theorem gn_lt (h : Ord n order) {k : Nat} (hk : k < n) : gn order k < n := by
  unfold gn
  have hk' : k < order.length := by rw [h.len]; exact hk
  rw [List.getD_eq_getElem?_getD, List.getElem?_eq_getElem hk']
  exact h.lt _ (List.getElem_mem hk')
theorem put_turn (h : Ord n order) {x : List Int} (hx : x.length = n) {k : Nat} (hk : k < n) (m : Int) : put (turnL order x) k m = turnL order (put x (gn order k) m) := by
  have hlen : (turnL order x).length = n := by
    unfold turnL
    rw [List.length_map, h.len]
  apply List.ext_getElem?
  intro j
  by_cases hj : j < n
  · have e1 : (put (turnL order x) k m)[j]? = some (gx (put (turnL order x) k m) j) := by
      unfold gx
      rw [List.getD_eq_getElem?_getD, List.getElem?_eq_getElem (by rw [put_len, hlen]; exact hj)]
      rfl
    have hj' : j < order.length := by rw [h.len]; exact hj
    have e2 : (turnL order (put x (gn order k) m))[j]? = some (gx (put x (gn order k) m) (gn order j)) := by
      unfold turnL gn
      rw [List.getElem?_map, List.getD_eq_getElem?_getD, List.getD_eq_getElem?_getD, List.getElem?_eq_getElem hj']
      rfl
    rw [e1, e2, gx_put _ _ _ _ (by rw [hlen]; exact hk), gx_put _ _ _ _ (by rw [hx]; exact gn_lt h hk), gx_turn x (by rw [h.len]; exact hk), gx_turn x hj']
    by_cases e : j = k
    · subst e
      rw [if_pos rfl, if_pos rfl]
    · rw [if_neg e, if_neg (fun z => e (gn_inj h.nd hj' (by rw [h.len]; exact hk) z))]
  · rw [List.getElem?_eq_none (by rw [put_len, hlen]; omega), List.getElem?_eq_none (by unfold turnL; rw [List.length_map, h.len]; omega)]
theorem step_turn (h1 : 1 ≤ n) (h3 : n ≤ 3) (h : Ord n order) (ss : List Srv) (r : Rl) {x : List Int} (hx : x.length = n) {mv : Mv} (hm : mv ∈ moves n) :
    step (turnS order ss) r (turnL order x) mv = (turnL order (step ss r x (called order mv)).1, (step ss r x (called order mv)).2) := by
  rcases moves_ok h1 h3 hm with ⟨o, e, ho⟩ | ⟨k, e, hk⟩ | e
  · subst e
    have hs := sent_lt (ss := turnS order ss) (r := r) (x := turnL order x) h1 ho
    have e1 := sent_turn (order := order) ss r x (o := o) (by intro e; subst e; have := ho.len; simp at this; omega) (fun k hk => by rw [h.len]; exact ho.lt k hk)
    unfold step called
    simp only []
    rw [← e1, gx_turn x (by rw [h.len]; exact hs)]
    have e2 : room (turnS order ss) (sent (turnS order ss) r (turnL order x) o) = room ss (gn order (sent (turnS order ss) r (turnL order x) o)) := by
      unfold room
      rw [gs_turn ss (by rw [h.len]; exact hs)]
    rw [e2]
    split
    · rfl
    · rw [put_turn h hx hs]
  · subst e
    unfold step called
    simp only []
    rw [gx_turn x (by rw [h.len]; exact hk)]
    split
    · rw [put_turn h hx hk]
    · rfl
  · subst e
    rfl
theorem perm_sum {l m : List Int} (h : l.Perm m) : l.sum = m.sum := by
  induction h with
  | nil => rfl
  | cons a _ ih => rw [List.sum_cons, List.sum_cons, ih]
  | swap a b l =>
    rw [List.sum_cons, List.sum_cons, List.sum_cons, List.sum_cons]
    omega
  | trans _ _ ih1 ih2 => exact ih1.trans ih2
theorem ord_perm (h : Ord n order) : order.Perm (List.range n) := by
  refine (List.perm_ext_iff_of_nodup h.nd List.nodup_range).mpr fun k => ?_
  rw [List.mem_range]
  exact ⟨h.lt k, h.all k⟩
theorem range_gx {x : List Int} (hx : x.length = n) : (List.range n).map (gx x) = x := by
  apply List.ext_getElem?
  intro j
  rw [List.getElem?_map]
  by_cases hj : j < n
  · rw [List.getElem?_range hj]
    show some (gx x j) = x[j]?
    unfold gx
    rw [List.getD_eq_getElem?_getD, List.getElem?_eq_getElem (by rw [hx]; exact hj)]
    rfl
  · rw [List.getElem?_eq_none (by rw [List.length_range]; omega), List.getElem?_eq_none (by omega)]
    rfl
theorem sum_turn (h : Ord n order) {x : List Int} (hx : x.length = n) : (turnL order x).sum = x.sum := by
  have := perm_sum ((ord_perm h).map (gx x))
  rw [range_gx hx] at this
  exact this
theorem turn_len (h : Ord n order) (ss : List Srv) : (turnS order ss).length = n := by
  unfold turnS
  rw [List.length_map, h.len]
theorem alike_iff {ss : List Srv} : alike ss = true ↔ ∀ i j, i < ss.length → j < ss.length → gs ss i = gs ss j := by
  constructor
  · intro h i j hi hj
    rw [alike_gs h hi, alike_gs h hj]
  · intro h
    unfold alike
    rw [List.all_eq_true]
    intro s hs
    obtain ⟨k, hk, e⟩ := List.mem_iff_getElem.mp hs
    have e2 : gs ss k = s := by
      unfold gs
      rw [List.getD_eq_getElem?_getD, List.getElem?_eq_getElem hk]
      exact e
    rw [← e2]
    exact decide_eq_true (h k 0 hk (by omega))
theorem gn_all (h : Ord n order) {j : Nat} (hj : j < n) : ∃ k, k < n ∧ gn order k = j := by
  obtain ⟨k, hk, e⟩ := List.mem_iff_getElem.mp (h.all j hj)
  refine ⟨k, by rw [← h.len]; exact hk, ?_⟩
  unfold gn
  rw [List.getD_eq_getElem?_getD, List.getElem?_eq_getElem hk]
  exact e
theorem alike_turn (h : Ord n order) {ss : List Srv} (hs : ss.length = n) : alike (turnS order ss) = alike ss := by
  rw [Bool.eq_iff_iff, alike_iff, alike_iff, turn_len h, hs]
  constructor
  · intro a i j hi hj
    obtain ⟨i', hi', ei⟩ := gn_all h hi
    obtain ⟨j', hj', ej⟩ := gn_all h hj
    have := a i' j' hi' hj'
    rw [gs_turn ss (by rw [h.len]; exact hi'), gs_turn ss (by rw [h.len]; exact hj'), ei, ej] at this
    exact this
  · intro a i j hi hj
    rw [gs_turn ss (by rw [h.len]; exact hi), gs_turn ss (by rw [h.len]; exact hj)]
    exact a _ _ (gn_lt h hi) (gn_lt h hj)
theorem turn_alike (h : Ord n order) {ss : List Srv} (hs : ss.length = n) (ha : alike ss = true) : turnS order ss = ss := by
  apply List.ext_getElem?
  intro j
  by_cases hj : j < n
  · have e1 : (turnS order ss)[j]? = some (gs (turnS order ss) j) := by
      unfold gs
      rw [List.getD_eq_getElem?_getD, List.getElem?_eq_getElem (by rw [turn_len h]; exact hj)]
      rfl
    have e2 : ss[j]? = some (gs ss j) := by
      unfold gs
      rw [List.getD_eq_getElem?_getD, List.getElem?_eq_getElem (by rw [hs]; exact hj)]
      rfl
    rw [e1, e2, gs_turn ss (by rw [h.len]; exact hj)]
    exact congrArg some ((alike_gs ha (by rw [hs]; exact gn_lt h hj)).trans (alike_gs ha (by rw [hs]; exact hj)).symm)
  · rw [List.getElem?_eq_none (by rw [turn_len h]; omega), List.getElem?_eq_none (by omega)]
def turnP (order : List Nat) (s : Pr) : Pr := (turnL order s.1, turnL order s.2)
theorem both_turn (h1 : 1 ≤ n) (h3 : n ≤ 3) (h : Ord n order) {ss : List Srv} (hs : ss.length = n) (ha : alike ss = false) (r1 r2 : Rl) {s : Pr} (hp : s.1.length = n ∧ s.2.length = n) {mv : Mv} (hm : mv ∈ moves n) :
    both (turnS order ss) r1 r2 (turnP order s) mv = (turnP order (both ss r1 r2 s (called order mv)).1, (both ss r1 r2 s (called order mv)).2) := by
  unfold both turnP kept
  rw [alike_turn h hs, ha]
  simp only [Bool.false_eq_true, if_false]
  rw [step_turn h1 h3 h ss r1 hp.1 hm, step_turn h1 h3 h ss r2 hp.2 hm]
theorem len_step (ss : List Srv) (r : Rl) (x : List Int) (mv : Mv) : (step ss r x mv).1.length = x.length := by
  unfold step
  cases mv with
  | come o =>
    simp only []
    split
    · rfl
    · exact put_len _ _ _
  | done k =>
    simp only []
    split
    · exact put_len _ _ _
    · rfl
  | still => rfl
theorem len_kept (ss : List Srv) (x : List Int) : (kept ss x).length = x.length := by
  unfold kept
  split
  · exact (sortD_perm x).length_eq
  · rfl
theorem go_len (ss : List Srv) (r1 r2 : Rl) : ∀ (run : List Mv) (t : Pr × Int), t.1.1.length = n ∧ t.1.2.length = n → (go (both ss r1 r2) t run).1.1.length = n ∧ (go (both ss r1 r2) t run).1.2.length = n := by
  intro run
  induction run with
  | nil => exact fun t h => h
  | cons mv run ih =>
    intro t h
    refine ih (tr (both ss r1 r2) t mv) ?_
    unfold tr both
    simp only [len_kept, len_step]
    exact h
theorem go_turn (h1 : 1 ≤ n) (h3 : n ≤ 3) (h : Ord n order) {ss : List Srv} (hs : ss.length = n) (ha : alike ss = false) (r1 r2 : Rl) : ∀ (run : List Mv) (t : Pr × Int), (∀ m ∈ run, m ∈ moves n) → t.1.1.length = n ∧ t.1.2.length = n →
    go (both (turnS order ss) r1 r2) (turnP order t.1, t.2) run = (turnP order (go (both ss r1 r2) t (run.map (called order))).1, (go (both ss r1 r2) t (run.map (called order))).2) := by
  intro run
  induction run with
  | nil => exact fun t _ _ => rfl
  | cons mv run ih =>
    intro t hm ht
    have e : tr (both (turnS order ss) r1 r2) (turnP order t.1, t.2) mv = (turnP order (tr (both ss r1 r2) t (called order mv)).1, (tr (both ss r1 r2) t (called order mv)).2) := by
      unfold tr
      simp only []
      rw [both_turn h1 h3 h hs ha r1 r2 ht (hm mv (List.mem_cons_self ..))]
    show go (both (turnS order ss) r1 r2) (tr (both (turnS order ss) r1 r2) (turnP order t.1, t.2) mv) run = _
    rw [e, ih _ (fun m q => hm m (List.mem_cons_of_mem _ q)) (by
      unfold tr both
      simp only [len_kept, len_step]
      exact ht)]
    rfl
theorem bad_turn (h : Ord n order) {s : Pr} (hp : s.1.length = n ∧ s.2.length = n) (m : Int) : bad (turnP order s) m = bad s m := by
  unfold bad turnP
  rw [sum_turn h hp.1, sum_turn h hp.2]
theorem void_turn (h : Ord n order) : turnP order (voids n) = voids n := by
  have e : turnL order (voidL n) = voidL n := by
    apply List.ext_getElem?
    intro j
    unfold turnL voidL
    rw [List.getElem?_map, List.getElem?_replicate]
    by_cases hj : j < n
    · have hj' : j < order.length := by rw [h.len]; exact hj
      rw [if_pos hj, List.getElem?_eq_getElem hj']
      show some (gx (List.replicate n 0) order[j]) = some 0
      unfold gx
      rw [List.getD_eq_getElem?_getD, List.getElem?_replicate]
      split <;> rfl
    · rw [if_neg hj, List.getElem?_eq_none (by rw [h.len]; omega)]
      rfl
  unfold turnP voids
  rw [e]
/-- THE PLAIN LAW -/
theorem turned_same {ss : List Srv} (hk : Hok ss) (ho : order ∈ orders ss.length) (r1 r2 : Rl) {a b : Option (List Mv)} (ta : Tells (both ss r1 r2) bad (moves ss.length) (voids ss.length) a)
    (tb : Tells (both (turnS order ss) r1 r2) bad (moves ss.length) (voids ss.length) b) :
    a.isSome = b.isSome ∧ ∀ u v, a = some u → b = some v → u.length = v.length ∧ (alike ss = false → bad (go (both ss r1 r2) (voids ss.length, 0) (v.map (called order))).1 (go (both ss r1 r2) (voids ss.length, 0) (v.map (called order))).2 = true) := by
  have O := ord_of hk.n1 hk.n3 order ho
  cases ha : alike ss with
  | true =>
    rw [turn_alike O rfl ha] at tb
    obtain ⟨e1, e2⟩ := tells_same ta tb
    exact ⟨e1, fun u v hu hv => ⟨e2 u v hu hv, fun z => nomatch z⟩⟩
  | false =>
    have lv : (voids ss.length).1.length = ss.length ∧ (voids ss.length).2.length = ss.length := ⟨List.length_replicate, List.length_replicate⟩
    have key : ∀ run, (∀ m ∈ run, m ∈ moves ss.length) → (bad (go (both (turnS order ss) r1 r2) (voids ss.length, 0) run).1 (go (both (turnS order ss) r1 r2) (voids ss.length, 0) run).2 =
        bad (go (both ss r1 r2) (voids ss.length, 0) (run.map (called order))).1 (go (both ss r1 r2) (voids ss.length, 0) (run.map (called order))).2) := by
      intro run hm
      have := go_turn hk.n1 hk.n3 O rfl ha r1 r2 run (voids ss.length, 0) hm lv
      simp only [void_turn O] at this
      rw [this]
      exact bad_turn O (go_len ss r1 r2 _ _ lv) _
    have fwd : ∀ run, BadRun (both (turnS order ss) r1 r2) bad (moves ss.length) (voids ss.length) run → BadRun (both ss r1 r2) bad (moves ss.length) (voids ss.length) (run.map (called order)) := by
      intro run hb
      refine ⟨fun m hm => ?_, by rw [← key run hb.1]; exact hb.2⟩
      obtain ⟨m', hm', e⟩ := List.mem_map.mp hm
      rw [← e]
      exact (called_moves hk.n1 hk.n3 order ho).1 m' (hb.1 m' hm')
    have lift : ∀ run : List Mv, (∀ m ∈ run, m ∈ moves ss.length) → ∃ run' : List Mv, (∀ m ∈ run', m ∈ moves ss.length) ∧ run'.map (called order) = run := by
      intro run
      induction run with
      | nil => exact fun _ => ⟨[], (fun m hm => nomatch hm), rfl⟩
      | cons mv run ih =>
        intro hm
        obtain ⟨run', h1, h2⟩ := ih fun m q => hm m (List.mem_cons_of_mem _ q)
        obtain ⟨mv', h3, h4⟩ := (called_moves hk.n1 hk.n3 order ho).2 mv (hm mv (List.mem_cons_self ..))
        refine ⟨mv' :: run', fun m q => ?_, by rw [List.map_cons, h2, h4]⟩
        rcases List.mem_cons.mp q with e | e
        · rw [e]
          exact h3
        · exact h1 m e
    have bwd : ∀ run, BadRun (both ss r1 r2) bad (moves ss.length) (voids ss.length) run → ∃ run', BadRun (both (turnS order ss) r1 r2) bad (moves ss.length) (voids ss.length) run' ∧ run'.length = run.length := by
      intro run hb
      obtain ⟨run', h1, h2⟩ := lift run hb.1
      refine ⟨run', ⟨h1, ?_⟩, by rw [← h2, List.length_map]⟩
      rw [key run' h1, h2]
      exact hb.2
    cases a with
    | none =>
      cases b with
      | none => exact ⟨rfl, (fun _ _ e => nomatch e)⟩
      | some v => exact absurd (fwd v tb.1) (ta _)
    | some u =>
      cases b with
      | none =>
        obtain ⟨run', h1, _⟩ := bwd u ta.1
        exact absurd h1 (tb _)
      | some v =>
        refine ⟨rfl, fun u' v' eu ev => ?_⟩
        cases eu
        cases ev
        refine ⟨?_, fun _ => (fwd v tb.1).2⟩
        obtain ⟨run', h1, h2⟩ := bwd u ta.1
        have h3 := tb.2 run' h1
        have h4 := ta.2 _ (fwd v tb.1)
        rw [List.length_map] at h4
        omega
end
end SL
/-! Part SLRulesA. -/
set_option Elab.async false
set_option linter.all false
set_option maxRecDepth 100000
set_option maxHeartbeats 4000000
/-! Rules that the layer lacks: sum, min, sorted(.., reverse=) of a tuple of whole numbers. -/
namespace SLR
open PySem PySem.Spec PyProof.Rows L2
section
variable {X : Cx}
/-- sorted(t, reverse=b) of a tuple of whole numbers: the items are gathered, laid as a list, and that list is put in order -/
theorem cr_sortedRevT {b : Bool} : CallRK X (.builtin "sorted") [Str.ofString "reverse"] (fun vs zs H Q => ∃ (a : Addr) (ns : List Int), vs = [V.ref a] ∧ zs = [.bl b] ∧ SqT X.K H a (ns.map V.int) ∧
    ∀ (ns' : List Int) (p : Addr), ns'.Perm ns → OrdB b ns' → H p = none → Q (.ref p) (upd H p (.lst (ns'.map V.int)))) := by
  intro pins s σ H _ _ _ _ Q I ra rk want
  obtain ⟨t, ns, rfl, rfl, ht, done⟩ := want
  obtain rfl := Vals.ref1 ra
  obtain ⟨_, rfl, eb⟩ := vals1 rk
  cases (eb : _ = Value.bool b)
  obtain ⟨its, rv, hl, hz⟩ := I.tuple ht
  obtain ⟨ob, hob, hcl, _, hdt⟩ := hl
  have size : its.length ≤ sizeLine := rv.length ▸ hz
  refine PyProof.Rows.call_function_entry_kw PyProof.Rows.kind_sorted PyProof.Rows.plain_sorted PyProof.Rows.entry_sorted (PyProof.Rows.args_sorted_rev _ _) ?_
  refine wpAny_bind (wpAny_pure ?_)
  refine wpAny_bind (wpAny_collect_seq t (.inr rfl) hob hcl hdt (fun g kept => ?_) (by simpa using size))
  have J : Inv X pins σ H { s with heap := g } := I.kept kept
  refine wpAny_bind (wpAny_newList (items := its) ?_ size)
  obtain ⟨g1, eg⟩ : ∃ g1, g1 = g.push (seqObj "list" its.toArray 0) := ⟨_, rfl⟩
  have at1 : g1.get? g.objs.size = some (seqObj "list" its.toArray 0) := by
    subst eg
    exact Heap.get?_push_size _ rfl
  show wpAny _ _ _ _ _ { s with heap := g.push (seqObj "list" its.toArray 0) }
  rw [← eg]
  refine wpAny_bind (wpAny_holding (PyProof.Rows.wpAny_call_entry_kw PyProof.Rows.slot_list_sort ⟨_, at1, rfl⟩ PyProof.Rows.entry_list_sort ?_ (PyProof.Rows.args_list_sort_rev _ _)))
  refine SrtR.list_sort_ordR SrtO.swo_int at1 size (fun two => SrtO.ints_sortable rv.ints two) fun out up st => ⟨_, rfl, wpAny_pure ⟨_, rfl, ?_⟩⟩
  obtain ⟨ms, whole, perm, ord⟩ := SrtR.ints_outR rv.ints up st
  obtain ⟨ep, put⟩ := PyProof.Rows.sortedHeap_at (vs := its) (out := if b = true then out.toArray.reverse else out.toArray) at1
  have fits : (ms.map V.int).length ≤ sizeLine := by
    rw [List.length_map, perm.length_eq, ← List.length_map (f := V.int)]
    exact hz
  refine ⟨.ref g.objs.size, upd H g.objs.size (.lst (ms.map V.int)), J.laid (t' := s.toks) (fun c o e => ?_) (Nat.le_refl _) ⟨fits, _, ep, vals_of_ints whole, by rw [Array.toArray_toList]; exact put⟩, rfl, done _ _ perm ord (J.hok.fresh (Nat.le_refl _))⟩
  have far : c < g.objs.size := Heap.lt_size e
  rw [PyProof.Rows.sortedHeap_old (Nat.ne_of_lt far) (by subst eg; rw [size_push']; exact Nat.lt_succ_of_lt far)]
  subst eg
  exact Heap.get?_push_of_some _ e
/-- sum(t) of a tuple of whole numbers -/
theorem cr_sumT (hc : X.calm = true) : CallR X (.builtin "sum") (fun vs H Q => ∃ (a : Addr) (ns : List Int), vs = [V.ref a] ∧ SqT X.K H a (ns.map V.int) ∧ Q (.int ns.sum) H) := by
  intro pins s σ H _ _ Q I ra want
  obtain ⟨t, ns, rfl, ht, done⟩ := want
  obtain rfl := Vals.ref1 ra
  obtain ⟨its, rv, hl, _⟩ := I.tuple ht
  obtain ⟨zs, ez⟩ := rv.ints.allInts.items
  have total : preSum (numAt zs) zs.size = ns.sum := by
    have e1 := rv.ints.numsOf
    rw [preSum_eq, List.take_of_length_le (Nat.le_of_eq (by simp)), ← nums_intItems, ← ez]
    exact congrArg List.sum e1
  refine PySem.W.ktm_sumG (I.ok.hd hc) (ez ▸ hl) fun h' tk t' kp => ?_
  rw [total]
  exact ⟨.int ns.sum, H, I.kept kp, ⟨t', rfl⟩, done⟩
theorem alikeInts (ns : List Int) : PySem.W.AlikeAll (ns.map PyData.int) := by
  refine ⟨fun x hx y hy => ?_, fun x hx => ?_⟩
  · obtain ⟨a, _, rfl⟩ := List.mem_map.mp hx
    obtain ⟨b, _, rfl⟩ := List.mem_map.mp hy
    simp only [PySem.W.alike]
  · obtain ⟨a, _, rfl⟩ := List.mem_map.mp hx
    intro e
    cases e
theorem dpInts {K : PySem.W.Frag} {H : Hp} : ∀ ns : List Int, DpAll K H (ns.map V.int) (ns.map PyData.int)
  | [] => .nil
  | n :: ns => .cons (.int n) (dpInts ns)
theorem depthInts : ∀ ns : List Int, PyData.depthAll (ns.map PyData.int) = 0
  | [] => rfl
  | n :: ns => by
    rw [List.map_cons, PyData.depthAll, depthInts ns]
    rfl
theorem minInts (n : Int) (ns : List Int) : ns.foldl min n ∈ n :: ns ∧ ∀ y ∈ n :: ns, ns.foldl min n ≤ y := by
  induction ns generalizing n with
  | nil => exact ⟨List.mem_singleton.mpr rfl, fun y hy => by rw [List.mem_singleton.mp hy]; exact Int.le_refl _⟩
  | cons m ns ih =>
    rw [List.foldl_cons]
    obtain ⟨h1, h2⟩ := ih (min n m)
    refine ⟨?_, fun y hy => ?_⟩
    · rcases List.mem_cons.mp h1 with e | e
      · rw [e]
        by_cases q : n ≤ m
        · rw [Int.min_eq_left q]
          exact List.mem_cons_self ..
        · rw [Int.min_eq_right (by omega)]
          exact List.mem_cons_of_mem _ (List.mem_cons_self ..)
      · exact List.mem_cons_of_mem _ (List.mem_cons_of_mem _ e)
    · have h3 := h2 (min n m) (List.mem_cons_self ..)
      rcases List.mem_cons.mp hy with e | e
      · subst e
        omega
      · rcases List.mem_cons.mp e with e | e
        · subst e
          omega
        · exact h2 y (List.mem_cons_of_mem _ e)
/-- min(t) of a tuple of whole numbers -/
theorem cr_minT (hc : X.calm = true) (hu : X.A.units + 64 < cLine) : CallR X (.builtin "min") (fun vs H Q => ∃ (a : Addr) (ns : List Int), vs = [V.ref a] ∧ SqT X.K H a (ns.map V.int) ∧ 0 < ns.length ∧ ∀ m, m ∈ ns → (∀ y, y ∈ ns → m ≤ y) → Q (.int m) H) := by
  intro pins s σ H vs us Q I r h
  obtain ⟨a, ns, rfl, hs, hn, q⟩ := h
  obtain ⟨its, rv, hl, hz⟩ := I.tuple hs
  obtain ⟨u, rfl, ru⟩ := vals1 r
  obtain rfl : u = Value.ref a := ru
  cases ns with
  | nil => cases hn
  | cons n ns =>
    obtain ⟨as, hr⟩ := Dp.readsAll I _ _ _ (dpInts (K := X.K) (H := H) (n :: ns)) rv
    rw [List.map_cons] at hr
    refine PySem.W.min_tuple_data (x := .int n) (xs := ns.map .int) (I.ok.hd hc) hl (by exact hr) (by have := alikeInts (n :: ns); rw [List.map_cons] at this; exact this) (by
      have := depthInts (n :: ns)
      rw [List.map_cons] at this
      rw [this]
      omega) fun i v h' tk bs hv hd kp => ?_
    rw [PySem.W.minD_ints] at hd
    obtain ⟨m1, m2⟩ := minInts n ns
    cases hd with
    | int => exact ⟨.int (ns.foldl min n), H, I.kept kp, ⟨_, rfl⟩, q _ m1 m2⟩
end
end SLR
/-! Part SLRulesB. -/
set_option Elab.async false
set_option linter.all false
set_option maxRecDepth 100000
set_option maxHeartbeats 4000000
/-! Rules that the layer lacks: a dict whose keys are pairs of tuples of whole numbers, its values whole numbers. -/
namespace SLR
open PySem PySem.Spec PyProof.Rows L2 SL
abbrev K2 := List Int × List Int
def kN (k : K2) : NestedKey := .tup [.tup (k.1.map .num), .tup (k.2.map .num)]
theorem nums_inj : ∀ {a b : List Int}, a.map NestedKey.num = b.map NestedKey.num → a = b
  | [], [], _ => rfl
  | [], _ :: _, e => by simp at e
  | _ :: _, [], e => by simp at e
  | x :: xs, y :: ys, e => by
    rw [List.map_cons, List.map_cons] at e
    injection e with e1 e2
    injection e1 with e1
    rw [e1, nums_inj e2]
theorem kN_inj {a b : K2} (e : kN a = kN b) : a = b := by
  unfold kN at e
  injection e with e
  injection e with e1 e2
  injection e2 with e2 _
  injection e1 with e1
  injection e2 with e2
  exact Prod.ext (nums_inj e1) (nums_inj e2)
theorem depth_nums : ∀ l : List Int, NestedKey.depthAll (l.map .num) = 0
  | [] => by simp [NestedKey.depthAll]
  | x :: l => by
    rw [List.map_cons, NestedKey.depthAll, depth_nums l]
    simp [NestedKey.depth]
theorem kN_depth (k : K2) : (kN k).depth ≤ 8 := by
  unfold kN
  simp only [NestedKey.depth, NestedKey.depthAll, depth_nums]
  omega
/-- tuples stay -/
def TS (H H' : Hp) : Prop := ∀ b xs, H b = some (.tup xs) → H' b = some (.tup xs)
theorem Same.ts {H H' : Hp} (e : Same H H') : TS H H' := fun b xs h => e b _ h
theorem TS.refl (H : Hp) : TS H H := fun _ _ h => h
theorem TS.trans {H H1 H2 : Hp} (a : TS H H1) (b : TS H1 H2) : TS H H2 := fun c xs h => b c xs (a c xs h)
/-- something else than a tuple is laid, or written -/
theorem TS.upd {H : Hp} {a : Addr} {o : HO} (h : ∀ xs, H a ≠ some (.tup xs)) : TS H (L2.upd H a o) := fun b xs e => by
  rw [upd_ne]
  · exact e
  · intro z
    subst z
    exact h _ e
theorem TS.new {H : Hp} {a : Addr} {o : HO} (h : H a = none) : TS H (L2.upd H a o) := TS.upd fun xs e => by rw [h] at e; cases e
theorem TS.lst {H : Hp} {a : Addr} {o : HO} {xs : List V} (h : H a = some (.lst xs)) : TS H (L2.upd H a o) := TS.upd fun ys e => by rw [h] at e; cases e
/-- at b stands the key k -/
def KeyT (H : Hp) (k : K2) (b : Addr) : Prop := ∃ b1 b2, H b = some (.tup [.ref b1, .ref b2]) ∧ H b1 = some (.tup (k.1.map V.int)) ∧ H b2 = some (.tup (k.2.map V.int))
theorem KeyT.keep {H H' : Hp} {k : K2} {b : Addr} (t : TS H H') (h : KeyT H k b) : KeyT H' k b := by
  obtain ⟨b1, b2, h0, h1, h2⟩ := h
  exact ⟨b1, b2, t _ _ h0, t _ _ h1, t _ _ h2⟩
theorem nested_ints {h : Heap} : ∀ {l : List Int} {us : List Value}, Vals (l.map V.int) us → NestedAll h (l.map .num) us
  | [], _, r => by
    rw [List.map_nil] at r
    cases r
    exact .nil
  | x :: l, _, r => by
    rw [List.map_cons] at r
    cases r with
    | cons a t =>
      obtain ⟨tk, e⟩ := a
      subst e
      exact .cons (.int x tk) (nested_ints t)
theorem nested_tup {P : Program} {w : World} {H : Hp} {h : Heap} {l : List Int} {b : Addr} (ok : HOk P w H h) (e : H b = some (.tup (l.map V.int))) : NestedIs h (.tup (l.map .num)) (.ref b) := by
  obtain ⟨_, its, r, o, h1, h2, n, h3⟩ := (show ObjOk P w H h b (.tup (l.map V.int)) from ok b _ e)
  exact .tup h1 h2 h3 (by simpa using nested_ints (h := h) r)
theorem key_isN {P : Program} {w : World} {H : Hp} {h : Heap} {k : K2} {b : Addr} (ok : HOk P w H h) (e : KeyT H k b) : (nestedKind P w).is h (kN k) b := by
  obtain ⟨b1, b2, e0, e1, e2⟩ := e
  obtain ⟨_, its, r, o, h1, h2, n, h3⟩ := (show ObjOk P w H h b (.tup [.ref b1, .ref b2]) from ok b _ e0)
  obtain ⟨u, v, rfl, r1, r2⟩ := vals2 r
  obtain rfl : u = Value.ref b1 := r1
  obtain rfl : v = Value.ref b2 := r2
  exact ⟨.tup h1 h2 h3 (.cons (nested_tup ok e1) (.cons (nested_tup ok e2) .nil)), kN_depth k⟩
/-- the dict's object -/
def dN (P : Program) (w : World) (a : Addr) (xs : List (NestedKey × Addr × Value)) : HO :=
  .ext fun h => (a == sysModules) = false ∧ ∃ o es ep, h.get? a = some o ∧ o.ExactDict ∧ o.data = .dict es ep ∧ es.toList = xs.map (entryOfKey (nestedKind P w)) ∧ (xs.map (·.1)).Nodup
abbrev KR (H : Hp) : List (K2 × Int) → List (NestedKey × Addr × Value) → Prop := Paired fun p q => q.1 = kN p.1 ∧ KeyT H p.1 q.2.1 ∧ ∃ t, q.2.2 = Value.int p.2 t
/-- at a stands the dict of kvs, in the order of insertion -/
def ND (P : Program) (w : World) (H : Hp) (a : Addr) (kvs : List (K2 × Int)) : Prop := kvs.length < sizeLine ∧ ∃ xs, H a = some (dN P w a xs) ∧ KR H kvs xs
theorem KR.keep {H H' : Hp} {kvs : List (K2 × Int)} {xs : List (NestedKey × Addr × Value)} (t : TS H H') (r : KR H kvs xs) : KR H' kvs xs :=
  Paired.mapP r fun _ _ z => ⟨z.1, z.2.1.keep t, z.2.2⟩
theorem ND.keep {P : Program} {w : World} {H H' : Hp} {a : Addr} {kvs : List (K2 × Int)} (t : TS H H') (e : ∀ o, H a = some o → H' a = some o) (h : ND P w H a kvs) : ND P w H' a kvs := by
  obtain ⟨z, xs, h1, h2⟩ := h
  exact ⟨z, xs, e _ h1, h2.keep t⟩
theorem KR.at {H : Hp} {kvs : List (K2 × Int)} {xs : List (NestedKey × Addr × Value)} (r : KR H kvs xs) (k : K2) :
    (lk kvs k = none → atKey xs (kN k) = none) ∧ ∀ i, lk kvs k = some i → ∃ b t, atKey xs (kN k) = some (b, Value.int i t) := by
  induction r with
  | nil => exact ⟨fun _ => rfl, fun i e => by cases e⟩
  | @cons p q ps qs h t ih =>
    obtain ⟨h1, _, tk, h2⟩ := h
    rw [lk_cons]
    by_cases e : p.1 = k
    · have e' : q.1 = kN k := by rw [h1, e]
      have b : atKey (q :: qs) (kN k) = some q.2 := by simp [atKey, List.find?_cons, e']
      rw [if_pos e, b]
      refine ⟨(fun z => nomatch z), fun i z => ?_⟩
      cases z
      exact ⟨q.2.1, tk, by rw [← h2]⟩
    · have e' : ¬ q.1 = kN k := fun z => e (kN_inj (h1.symm.trans z))
      have b : atKey (q :: qs) (kN k) = atKey qs (kN k) := by simp [atKey, List.find?_cons, e']
      rw [if_neg e, b]
      exact ih
theorem KR.isSome {H : Hp} {kvs : List (K2 × Int)} {xs : List (NestedKey × Addr × Value)} (r : KR H kvs xs) (k : K2) : (atKey xs (kN k)).isSome = (lk kvs k).isSome := by
  obtain ⟨h1, h2⟩ := r.at k
  cases e : lk kvs k with
  | none => rw [h1 e]
            rfl
  | some i =>
    obtain ⟨b, t, z⟩ := h2 i e
    rw [z]
    rfl
theorem KR.all {P : Program} {w : World} {H : Hp} {h : Heap} {kvs : List (K2 × Int)} {xs : List (NestedKey × Addr × Value)} (ok : HOk P w H h) (r : KR H kvs xs) : ∀ x ∈ xs, (nestedKind P w).is h x.1 x.2.1 := by
  induction r with
  | nil => exact fun x hx => nomatch hx
  | @cons p q ps qs hq t ih =>
    intro x hx
    rcases List.mem_cons.mp hx with e | hx
    · subst e
      rw [hq.1]
      exact key_isN ok hq.2.1
    · exact ih x hx
theorem any_lk (kvs : List (K2 × Int)) (k : K2) : (kvs.any fun kv => decide (kv.1 = k)) = (lk kvs k).isSome := by
  cases e : lk kvs k with
  | none => exact (lk_none kvs k).mp e
  | some i =>
    cases z : kvs.any (fun kv => decide (kv.1 = k)) with
    | true => rfl
    | false =>
      rw [(lk_none kvs k).mpr z] at e
      cases e
theorem KR.put {H : Hp} {kvs : List (K2 × Int)} {xs : List (NestedKey × Addr × Value)} (r : KR H kvs xs) {k : K2} {b : Addr} (hb : KeyT H k b) (i : Int) (t : Tok) : KR H (dput kvs k i) (storedH xs (kN k) b (.int i t)) := by
  unfold dput storedH
  rw [any_lk, r.isSome]
  by_cases e : (lk kvs k).isSome = true
  · rw [if_pos e, if_pos e]
    clear e
    induction r with
    | nil => exact .nil
    | @cons p q ps qs h t ih =>
      rw [List.map_cons, List.map_cons]
      refine .cons ?_ ih
      obtain ⟨h1, h2, h3⟩ := h
      unfold putAt
      by_cases e : p.1 = k
      · rw [if_pos e, if_pos (by rw [h1, e])]
        exact ⟨h1, h2, _, rfl⟩
      · rw [if_neg e, if_neg (fun z => e (kN_inj (h1.symm.trans z)))]
        exact ⟨h1, h2, h3⟩
  · rw [if_neg e, if_neg e]
    exact Paired.snoc r ⟨rfl, hb, t, rfl⟩
theorem dput_len (kvs : List (K2 × Int)) (k : K2) (i : Int) : (dput kvs k i).length ≤ kvs.length + 1 := by
  unfold dput
  split <;> simp
section
variable {prog : Program} {w : World} {K : Type} [DecidableEq K] {knd : HeapKind prog w K} {A : Around} {E : Value → Shared → Prop} {s : Shared}
theorem dict_dispH {env : Env} {keys : List (Option Expr)} {values : List Expr} {pos : Pos} {Q : Value → Shared → Prop} (hu : knd.room A) (hall : keys.all (·.isSome) = true) (hl : keys.length = values.length) (h0 : keys ≠ []) (h15 : keys.length ≤ 15)
    (h : wpAny (model prog w) A (evalPairs (pairTrees keys values env pos)) (fun vs s₁ => ∃ ps, CarriesH knd s₁.heap vs ps ∧ s₁.heap.DictOfH knd s.heap.objs.size [] ∧
      ∀ h' tk, h'.DictOfH knd s.heap.objs.size (storedAllH [] ps) → Heap.SameBut s.heap.objs.size s₁.heap h' → Q (.ref s.heap.objs.size) { s₁ with heap := h', toks := tk }) E
      { s with heap := s.heap.push { cls := .type "dict", data := .dict #[] } }) :
    wpAny (model prog w) A (eval (.Dict keys values pos) env) Q E s := by
  have hn := pairTrees_length keys values env pos hall hl
  have h0' : pairTrees keys values env pos ≠ [] := by
    intro he
    rw [he] at hn
    exact h0 (List.length_eq_zero_iff.mp hn.symm)
  rw [arm_eval_Dict, zip_pairTrees keys values env pos hall hl, dictDisplay_pairs _ h0' (by omega)]
  exact wpAny_bind (wpAny_standAt (wpAny_bind (wpAny_subDictH (knd := knd) (Q := fun d s' => wpAny (model prog w) A (pure (Value.ref d)) Q E s') hu (by omega)
    (wpAny_mono h (fun vs s₁ h₁ => by obtain ⟨ps, hc, hm, hq⟩ := h₁; exact ⟨ps, hc, hm, fun h' tk a b => wpAny_pure (hq h' tk a b)⟩) fun _ _ e => e))))
end
section
variable {X : Cx} {pins : List (Addr × Obj)} {σ : L2.St} {H : Hp} {s : Shared} {a : Addr}
theorem nd_of {xs : List (NestedKey × Addr × Value)} {kvs : List (K2 × Int)} (ok : HOk X.prog X.w H s.heap) (e : H a = some (dN X.prog X.w a xs)) (r : KR H kvs xs) : (a == sysModules) = false ∧ s.heap.DictOfH (nestedKind X.prog X.w) a xs := by
  obtain ⟨⟨h0, o, es, ep, h1, h2, h3, h4, h5⟩, _, _⟩ := (show ObjOk X.prog X.w H s.heap a (dN X.prog X.w a xs) from ok a _ e)
  exact ⟨h0, o, es, ep, h1, h2, h3, h4, r.all ok, h5⟩
theorem dN_ok {P : Program} {w : World} {H' : Hp} {h' : Heap} {xs : List (NestedKey × Addr × Value)} (h0 : (a == sysModules) = false) (d : h'.DictOfH (nestedKind P w) a xs) : ObjOk P w H' h' a (dN P w a xs) := by
  obtain ⟨o, es, ep, h1, h2, h3, h4, _, h5⟩ := d
  refine ⟨⟨h0, o, es, ep, h1, h2, h3, h4, h5⟩, ⟨o, h1⟩, ?_⟩
  rintro g1 g2 ⟨z0, o, es, ep, h1, h2, h3, h4, h5⟩ k
  exact ⟨z0, o, es, ep, k _ h1, h2, h3, h4, h5⟩
theorem roomN (hu : X.A.units + 64 < cLine) : (nestedKind X.prog X.w).room X.A.in1 := by
  show X.A.units + 1 + 8 < cLine
  omega
/-- k not in d -/
def rNotInN (P : Program) (w : World) : R2 := fun x y H Q => ∃ a b k kvs, x = .ref b ∧ y = .ref a ∧ KeyT H k b ∧ ND P w H a kvs ∧ Q (.bl (!(lk kvs k).isSome)) H
theorem op_notInN (hu : X.A.units + 64 < cLine) : OpR X (compareOp .NotIn) (rNotInN X.prog X.w) := by
  intro pins s σ H x y v u Q I rx ry h
  obtain ⟨a, b, k, kvs, rfl, rfl, hk, ⟨hz, xs, ha, r⟩, q⟩ := h
  obtain rfl : v = Value.ref b := rx
  obtain rfl : u = Value.ref a := ry
  obtain ⟨h0, dd⟩ := nd_of I.hok ha r
  refine wpAny_notIn_heap (roomN hu) (key_isN I.hok hk) h0 dd ?_
  rw [r.isSome]
  exact ⟨.bl (!(lk kvs k).isSome), H, I.tok _, rfl, q⟩
/-- d[k] -/
def rIxN (P : Program) (w : World) : R2 := fun x y H Q => ∃ a b k kvs i, x = .ref a ∧ y = .ref b ∧ KeyT H k b ∧ ND P w H a kvs ∧ lk kvs k = some i ∧ Q (.int i) H
theorem ix_nd (hu : X.A.units + 64 < cLine) : IxR X (rIxN X.prog X.w) := by
  intro value slice pins s σ H x y v u Q I rx ry h hs
  obtain ⟨a, b, k, kvs, i, rfl, rfl, hk, ⟨hz, xs, ha, r⟩, hi, q⟩ := h
  obtain rfl : v = Value.ref a := rx
  obtain rfl : u = Value.ref b := ry
  obtain ⟨h0, dd⟩ := nd_of I.hok ha r
  obtain ⟨b', t, e⟩ := (r.at k).2 i hi
  exact tail_any dd.typeIs PySem.F.slot_dict_getitem.lookup (wpAny_getItem_heap (roomN hu) (key_isN I.hok hk) dd e ⟨.int i, H, I.tok _, ⟨t, rfl⟩, q⟩) hs
/-- d[k] = i -/
def rSetN (P : Program) (w : World) : TSet := fun o i v H Q => ∃ a b k kvs n, o = .ref a ∧ i = .ref b ∧ v = .int n ∧ KeyT H k b ∧ ND P w H a kvs ∧ kvs.length + 1 < sizeLine ∧
  ∀ o' , ND P w (upd H a o') a (dput kvs k n) → Q (upd H a o')
theorem set_nd (hu : X.A.units + 64 < cLine) : PSet X (rSetN X.prog X.w) := by
  intro pins s σ H o i v ov iv u Q I ro ri rv h
  obtain ⟨a, b, k, kvs, n, rfl, rfl, rfl, hk, ⟨hz, xs, ha, r⟩, hl, q⟩ := h
  obtain rfl : ov = Value.ref a := ro
  obtain rfl : iv = Value.ref b := ri
  obtain ⟨t, rfl⟩ := rv
  obtain ⟨h0, dd⟩ := nd_of I.hok ha r
  refine wpAny_setItem_heap (hsz := by rw [← Paired.length r]; omega) (roomN hu) (key_isN I.hok hk) dd fun h' dd' hs => ?_
  have he : ∃ q, h'.get? a = some q := let ⟨q, _, _, hq, _⟩ := dd'; ⟨q, hq⟩
  have ts : TS H (upd H a (dN X.prog X.w a (storedH xs (kN k) b (.int n t)))) := TS.upd fun ys e => by rw [ha] at e; cases e
  refine ⟨_, d_write I (by rw [ha]; exact True.intro) hs he (dN_ok h0 dd'), q _ ⟨?_, _, upd_same, (r.put hk n t).keep ts⟩⟩
  have := dput_len kvs k n
  omega
/-- {k: i} -/
def tDispN (P : Program) (w : World) (tk tv : TE) : TE := fun σ H Q => ∀ p o0, H p = none → ND P w (upd H p o0) p [] → tk σ (upd H p o0) fun x H1 => tv σ H1 fun y H2 => ND P w H2 p [] ∧ ∃ b k i, x = .ref b ∧ y = .int i ∧ KeyT H2 k b ∧
  ∀ o1, ND P w (upd H2 p o1) p [(k, i)] → Q (.ref p) (upd H2 p o1)
theorem pe_dispN {ke ve : Expr} {tk tv : TE} {pos : Pos} (hu : X.A.units + 64 < cLine) (hk : PE X ke tk) (hv : PE X ve tv) : PE X (.Dict [some ke] [ve] pos) (tDispN X.prog X.w tk tv) := by
  refine ⟨fun pins s σ H Q I q => ?_⟩
  have hn := I.hok.fresh (Nat.le_refl s.heap.objs.size)
  have hsm : (s.heap.objs.size == sysModules) = false := beq_eq_false_iff_ne.mpr (Ne.symm (Nat.ne_of_lt I.big))
  have d0 : (s.heap.push { cls := .type "dict", data := .dict #[] }).DictOfH (nestedKind X.prog X.w) s.heap.objs.size [] := ⟨_, #[], 0, Heap.get?_push_size _ rfl, ⟨rfl, rfl, rfl⟩, rfl, rfl, (fun x hx => nomatch hx), List.nodup_nil⟩
  have I1 := I.laid (a := s.heap.objs.size) (o := dN X.prog X.w s.heap.objs.size []) (h' := s.heap.push { cls := .type "dict", data := .dict #[] }) (t' := s.toks) (fun _ _ q => Heap.get?_push_of_some _ q) (Nat.le_refl _) (dN_ok hsm d0)
  have q1 := q s.heap.objs.size (dN X.prog X.w s.heap.objs.size []) hn ⟨by rw [sizeLine_eq]; decide, [], upd_same, .nil⟩
  refine dict_dispH (knd := nestedKind X.prog X.w) (by show X.A.units + 8 < cLine; omega) rfl rfl (fun e => nomatch e) (by decide : 1 ≤ 15) ?_
  refine pairTrees_cons_walk (thn (hk.run pins _ σ _ _ I1 q1) fun u s1 ⟨x, H1, I2, rx, q2⟩ => thn (hv.run pins s1 σ H1 _ I2 q2) fun w2 s2 ⟨y, H2, I3, ry, ⟨z0, xs0, e0, r0⟩, b, k, i, ex, ey, hkt, q3⟩ => pairTrees_nil_walk ?_)
  subst ex
  subst ey
  obtain rfl : u = Value.ref b := rx
  obtain ⟨t, rfl⟩ := ry
  cases r0
  obtain ⟨_, dd⟩ := nd_of I3.hok e0 .nil
  refine ⟨[(kN k, b, .int i t)], ⟨rfl, rfl, key_isN I3.hok hkt, True.intro⟩, dd, fun h' tk dd' hs => ?_⟩
  have he : ∃ q, h'.get? s.heap.objs.size = some q := let ⟨q, _, _, hq, _⟩ := dd'; ⟨q, hq⟩
  have es : storedAllH [] [(kN k, b, Value.int i t)] = [(kN k, b, Value.int i t)] := rfl
  rw [es] at dd'
  have ts : TS H2 (upd H2 s.heap.objs.size (dN X.prog X.w s.heap.objs.size [(kN k, b, Value.int i t)])) := TS.upd fun ys e => by rw [e0] at e; cases e
  exact ⟨.ref s.heap.objs.size, _, d_write I3 (by rw [e0]; exact True.intro) hs he (dN_ok hsm dd'), rfl, q3 _ ⟨(by rw [sizeLine_eq]; show 1 < 16777216; decide), _, upd_same, .cons ⟨rfl, hkt.keep ts, t, rfl⟩ .nil⟩⟩
/-! ### sorted(d) -/
def dK (k : K2) : PyData := .tuple [.tuple (k.1.map .int), .tuple (k.2.map .int)]
theorem reads_ints {h : Heap} : ∀ {l : List Int} {us : List Value}, Vals (l.map V.int) us → ReadsAll h us (l.map PyData.int) []
  | [], _, r => by
    rw [List.map_nil] at r
    cases r
    exact .nil
  | x :: l, _, r => by
    rw [List.map_cons] at r
    cases r with
    | cons a t =>
      obtain ⟨tk, e⟩ := a
      subst e
      exact ReadsAll.cons (as := []) (bs := []) (.int x tk) (reads_ints t)
theorem reads_tup {P : Program} {w : World} {h : Heap} {l : List Int} {b : Addr} (ok : HOk P w H h) (e : H b = some (.tup (l.map V.int))) : Reads h (.ref b) (.tuple (l.map .int)) [] := by
  obtain ⟨_, its, r, o, h1, h2, n, h3⟩ := (show ObjOk P w H h b (.tup (l.map V.int)) from ok b _ e)
  exact .tuple h1 h2 h3 (by simpa using reads_ints (h := h) r)
theorem reads_key {P : Program} {w : World} {h : Heap} {k : K2} {b : Addr} (ok : HOk P w H h) (e : KeyT H k b) : Reads h (.ref b) (dK k) [] := by
  obtain ⟨b1, b2, e0, e1, e2⟩ := e
  obtain ⟨_, its, r, o, h1, h2, n, h3⟩ := (show ObjOk P w H h b (.tup [.ref b1, .ref b2]) from ok b _ e0)
  obtain ⟨u, v, rfl, r1, r2⟩ := vals2 r
  obtain rfl : u = Value.ref b1 := r1
  obtain rfl : v = Value.ref b2 := r2
  exact .tuple h1 h2 h3 (ReadsAll.cons (as := []) (bs := []) (reads_tup ok e1) (ReadsAll.cons (as := []) (bs := []) (reads_tup ok e2) .nil))
theorem dK_alike (a b : K2) : PySem.W.alike (dK a) (dK b) = true := by
  unfold dK
  simp only [PySem.W.alike, PySem.W.alikeAll, PySem.W.alike_ints, Bool.and_self]
theorem dK_depth (a : K2) : (dK a).depth = 2 := by
  unfold dK
  simp only [PyData.depth, PyData.depthAll, PySem.W.depth_ints]
  rfl
/-- the keys, in some order -/
def rSortedN (P : Program) (w : World) : List V → Hp → VK → Prop := fun vs H Q => ∃ a kvs, vs = [V.ref a] ∧ ND P w H a kvs ∧
  ∀ (ks : List K2) (bs : List Addr) p, ks.Perm (kvs.map (·.1)) → Paired (fun k b => KeyT H k b) ks bs → H p = none → Q (.ref p) (upd H p (.lst (bs.map V.ref)))
theorem each_refs {R : K2 → Addr → Prop} : ∀ {out : List Value} {ks : List K2}, PySem.W.EachIs (fun v k => ∃ b, v = Value.ref b ∧ R k b) out ks → ∃ bs : List Addr, out = bs.map Value.ref ∧ Paired R ks bs
  | _, _, .nil => ⟨[], rfl, .nil⟩
  | _, _, .cons ⟨b, e, r⟩ t => by
    obtain ⟨bs, e2, p⟩ := each_refs t
    exact ⟨b :: bs, by rw [e, e2]; rfl, .cons r p⟩
theorem kr_each {kvs : List (K2 × Int)} {xs : List (NestedKey × Addr × Value)} (r : KR H kvs xs) : PySem.W.EachIs (fun v k => ∃ b, v = Value.ref b ∧ KeyT H k b) (xs.map fun x => Value.ref x.2.1) (kvs.map (·.1)) := by
  induction r with
  | nil => exact .nil
  | @cons p q ps qs h t ih => exact .cons ⟨q.2.1, rfl, h.2.1⟩ ih
theorem vals_refsN : ∀ bs : List Addr, Vals (bs.map V.ref) (bs.map Value.ref)
  | [] => .nil
  | b :: bs => .cons rfl (vals_refsN bs)
theorem cr_sortedN (hc : X.calm = true) (hu : X.A.units + 64 < cLine) : CallR X (.builtin "sorted") (rSortedN X.prog X.w) := by
  intro pins s σ H xs us Q I r q
  obtain ⟨a, kvs, rfl, ⟨hz, ks, ha, rk⟩, q⟩ := q
  obtain ⟨u, rfl, rx⟩ := vals1 r
  obtain rfl : u = Value.ref a := rx
  obtain ⟨h0, o, es, ep, ho, hx, hdt, he, hall, hn⟩ := nd_of I.hok ha rk
  have l1 : es.size = ks.length := by
    rw [← Array.length_toList, he, List.length_map]
  have l2 : kvs.length = ks.length := Paired.length rk
  refine Calls.call_function_entry PyProof.Rows.kind_sorted PyProof.Rows.plain_sorted PyProof.Rows.entry_sorted (PyProof.Rows.args_sorted1 _) ?_
  unfold Builtin.«sorted»
  refine wpAny_bind (m := checkCount "sorted" 1 1 _) (wpAny_pure ?_)
  refine wpAny_bind (PySem.W.kdu_collect (A := X.A.in1) (kdl_raw h0 hx hdt) (I.ok.hd hc) ho (by omega) fun h' tk acc hk hacc => ?_)
  have ea : acc.toList = ks.map fun x => Value.ref x.2.1 := by
    have hl : acc.toList.length = ks.length := by rw [Array.length_toList, hacc.1]; exact l1
    apply List.ext_getElem?
    intro j
    rw [List.getElem?_map]
    cases hj : acc.toList[j]? with
    | none =>
      have h1 := List.getElem?_eq_none_iff.mp hj
      rw [List.getElem?_eq_none (by omega)]
      all_goals rfl
    | some v =>
      obtain ⟨en, hen, hv⟩ := hacc.2 j v (by rw [← Array.getElem?_toList]; exact hj)
      have qe := entry_at he j
      rw [hen] at qe
      cases hb : ks[j]? with
      | none =>
        rw [hb] at qe
        exact nomatch (show some en = none from qe)
      | some b =>
        rw [hb] at qe
        have e2 : en = entryOfKey (nestedKind X.prog X.w) b := Option.some.inj qe
        rw [hv, e2]
        all_goals rfl
  have I1 : Inv X pins σ H { s with heap := h', toks := tk } := I.kept hk
  have hal : acc.toList.length = kvs.length := by rw [ea, List.length_map, l2]
  refine wpAny_bind (wpAny_newList ?_ (by rw [hal]; omega))
  have hoL : (h'.push (seqObj "list" acc.toList.toArray 0)).get? h'.objs.size = some (seqObj "list" acc.toList.toArray 0) := Heap.get?_push_size _ rfl
  show wpAny _ _ _ _ _ { s with heap := h'.push (seqObj "list" acc.toList.toArray 0), toks := tk }
  have kp : ∀ b o, h'.get? b = some o → (h'.push (seqObj "list" acc.toList.toArray 0)).get? b = some o := fun b o e => Heap.get?_push_of_some _ e
  have I2 : Inv X pins σ H { s with heap := h'.push (seqObj "list" acc.toList.toArray 0), toks := tk } := I1.kept kp
  have ee := kr_each rk
  rw [← ea] at ee
  refine wpAny_bind (wpAny_holding (PySem.W.list_sort_data (s := { s with heap := h'.push (seqObj "list" acc.toList.toArray 0), toks := tk }) (enc := dK) hoL ee
    (ee.mono fun v k ⟨b, e, hk⟩ => ⟨[], by rw [e]; exact reads_key I2.hok hk, fun z => nomatch z⟩) (PySem.W.AllAlike.of dK_alike) (PySem.W.Sortable.tuples fun k => ⟨_, _, rfl⟩) (by rw [List.length_map]; omega)
    (fun k _ => by
      rw [dK_depth]
      show X.A.units + 1 + 1 + 2 < cLine
      omega) fun out ol oe => ?_))
  obtain ⟨bs, eb, pb⟩ := each_refs oe
  obtain ⟨e', he'⟩ := PyProof.Rows.sortedHeap_at (vs := acc.toList) (out := out.toArray) hoL
  have lb : bs.length = kvs.length := by
    have := congrArg List.length eb
    rw [List.length_map, ol, List.length_map] at this
    exact this.symm
  refine wpAny_pure ⟨_, rfl, .ref h'.objs.size, upd H h'.objs.size (.lst (bs.map V.ref)), I1.laid (t' := tk) (fun b u e => ?_) (Nat.le_refl _)
    (show ObjOk X.prog X.w _ _ _ (.lst (bs.map V.ref)) from ⟨by rw [List.length_map]; omega, bs.map Value.ref, e', vals_refsN bs, by rw [← eb]; exact he'⟩), rfl, q _ _ _ (List.mergeSort_perm _ _) pb (I1.hok.fresh (Nat.le_refl _))⟩
  have hb : b < h'.objs.size := Heap.lt_size e
  rw [PyProof.Rows.sortedHeap_old (Nat.ne_of_lt hb) (by rw [size_push']; exact Nat.lt_succ_of_lt hb)]
  exact Heap.get?_push_of_some _ e
end
end SLR
/-! Part SLRulesC. -/
set_option Elab.async false
set_option linter.all false
set_option maxRecDepth 100000
set_option maxHeartbeats 4000000
/-! tuple(reversed(xs)) of a list. -/
namespace SLR
open PySem PySem.Spec PyProof.Rows L2
section
variable {X : Cx} {e : Expr} {te : TE}
def tTupRev (K : PySem.W.Frag) (te : TE) : TE := fun σ H Q => te σ H fun x H1 => ∃ a xs, x = V.ref a ∧ SqL K H1 a xs ∧ ∀ p, H1 p = none → Q (.ref p) (upd H1 p (.tup xs.reverse))
theorem items_rev {items : List Value} {acc : Array Value} (h : ItemsOf (fun i v => items.toArray[items.toArray.size - 1 - i]? = some v) acc items.toArray.size) : acc.toList = items.reverse := by
  apply List.ext_getElem?
  intro j
  have hl : acc.toList.length = items.length := by rw [Array.length_toList, h.1]; simp
  cases hj : acc.toList[j]? with
  | none =>
    have h1 := List.getElem?_eq_none_iff.mp hj
    rw [List.getElem?_eq_none (by rw [List.length_reverse]; omega)]
  | some v =>
    have h2 := h.2 j v (by rw [← Array.getElem?_toList]; exact hj)
    have hlt : j < items.length := by
      have := (List.getElem?_eq_some_iff.mp hj).1
      omega
    rw [List.getElem?_reverse hlt]
    simpa using h2.symm
theorem pe_tupRev {p p2 pos pos2 : Pos} (hc : X.calm = true) (hg : Gl X "tuple") (hm : X.mg "tuple" = none) (hg2 : Gl X "reversed") (hm2 : X.mg "reversed" = none) (he : PE X e te)
    (na : starEach [.Call (.Name "reversed" p2) [e] [] pos2] X.env = (false, eval (.Call (.Name "reversed" p2) [e] [] pos2) X.env) :: starEach [] X.env := by rfl) (na2 : starEach [e] X.env = (false, eval e X.env) :: starEach [] X.env := by rfl) :
    PE X (.Call (.Name "tuple" p) [.Call (.Name "reversed" p2) [e] [] pos2] [] pos) (tTupRev X.K te) := by
  refine ⟨fun pins s σ H Q I h => ?_⟩
  refine Call_ (ld_blt I hg hm boot_tuple (PyProof.Rows.callWith_type1 (args_cons ?_ na) na))
  refine Call_ (ld_blt I hg2 hm2 PyProof.Rows.boot_reversed (PyProof.Rows.callWith_type1 (one_arg he I h (fun v s2 x H2 I2 r q => ?_) na2) na2))
  obtain ⟨a, xs, rfl, hq, q⟩ := q
  obtain rfl : v = Value.ref a := r
  obtain ⟨its, rv, pl, hz⟩ := I2.list hq
  have hl := rv.length
  refine call_reversed_list pl.isList (args_nil ?_)
  have hne : a ≠ s2.heap.objs.size := by
    obtain ⟨o, n, ho, _⟩ := pl
    exact Nat.ne_of_lt (Heap.lt_size ho)
  refine RT.call_tuple_rev (l := a) (items := its.toArray) (I2.ok.hd hc) ⟨_, Heap.get?_push_size _ rfl, rfl, rfl⟩ ?_ hne (by rw [List.size_toArray, ← hl]; exact hz) fun h' tk acc hk hi => ?_
  · obtain ⟨o, n, ho, h1, h2, h3⟩ := pl
    exact ⟨o, Heap.get?_push_of_some _ ho, h1, n, h3⟩
  have I3 : Inv X pins σ H2 { s2 with heap := h', toks := tk } := I2.kept fun b o e => hk b o (Nat.ne_of_lt (Heap.lt_size e)) (Heap.get?_push_of_some _ e)
  have rr : Vals xs.reverse acc.toList := by
    rw [items_rev hi]
    exact rv.reverse
  refine ⟨.ref h'.objs.size, upd H2 h'.objs.size (.tup xs.reverse), I3.laid (t' := tk) (fun c o e => Heap.get?_push_of_some _ e) (Nat.le_refl _) (show ObjOk X.prog X.w _ _ _ (.tup xs.reverse) from ⟨?_, acc.toList, rr, ?_⟩), rfl, q _ (I3.hok.fresh (Nat.le_refl _))⟩
  · rw [List.length_reverse]; exact hz
  · rw [Array.toArray_toList]; exact IsTup.new _ _
end
end SLR
/-! Part SLBase. -/
set_option Elab.async false
set_option linter.all false
set_option maxRecDepth 100000
set_option maxHeartbeats 4000000
/-! The program's text by places; what a value of the program is; a def's promise, as callers use it. -/
namespace SLW
open PySem PySem.Spec PyProof.Rows L2 SLR
/-! ### the text -/
def topS (i : Nat) : Stmt := PySem.Challenge.pw_shorterline_k60_whole_servers_turned.main.body.getD i (.Pass ⟨0, 0, 0, 0⟩)
/-- a def of the text stands at its name -/
structure Fn (K : PySem.W.Frag) (mg : Str → Option Value) (x : Str) (st : Stmt) (ps : List Str) : Prop where
  ex : ∃ f fd, Fun K x x st f fd ∧ mg x = some (.ref f) ∧ Binds K fd ps []
/-- the def called x keeps its promise -/
structure Cal (P : Program) (w : World) (K : PySem.W.Frag) (mg : Str → Option Value) (base : Heap) (k : Nat) (x : Str) (ps : List Str) (sp : Sp) : Prop where
  ex : ∃ f fd, FnOk P w K mg base CX0 k f fd ps sp ∧ mg x = some (.ref f) ∧ PySem.W.keepIn K (.ref f) = true ∧ Binds K fd ps []
section
variable {P : Program} {w : World} {K : PySem.W.Frag} {mg : Str → Option Value} {base : Heap}
theorem Fn.cal {x : Str} {st : Stmt} {N ps : List Str} {k : Nat} {sp : Sp} (F : Fn K mg x st ps) (S : FnScope N ps (defScope st)) (len : ∀ vs H Q E, sp vs H Q E → vs.length = ps.length)
    (hbody : ∀ (f : Addr) (cdv : Value) (A : Around) (outer : List Env) (s : Shared) (H : Hp) (vs : List V) (Q : VK) (E : XK), Room k (A.deeper (envOfC x (defScope st) s.heap.objs.size f cdv)) → sp vs H Q E →
      ∃ t, PSs (cxOf CX0 P w K mg base N x (defScope st) f cdv A outer s H E).nox (defBody st) t ∧ t { nx := fun _ H' => Q .non H', rt := Q } (start N vs) H) : Cal P w K mg base (k + 1) x ps sp := by
  obtain ⟨f, fd, F1, h1, h2⟩ := F.ex
  exact ⟨f, fd, F1.ok S len (hbody f), h1, F1.kp, h2⟩
theorem Cal.mono {x : Str} {ps : List Str} {j k : Nat} {sp : Sp} (c : Cal P w K mg base j x ps sp) (h : j ≤ k) : Cal P w K mg base k x ps sp := by
  obtain ⟨f, fd, F1, h1, h2, h3⟩ := c.ex
  exact ⟨f, fd, F1.mono h, h1, h2, h3⟩
end
section
variable {X : Cx} {k : Nat} {x : Str} {ps : List Str} {sp : Sp} {p pos : Pos} {e : Expr} {es : List Expr} {t : TA}
theorem pe_cal (c : Cal X.prog X.w X.K X.mg X.base k x ps sp) (hr : Room k X.A) (hg : Gl X x) (ha : PA X (e :: es) t) (hdb : (x == ("__debug__" : Str)) = false := by decide)
    (he : starEach (e :: es) X.env = (false, eval e X.env) :: starEach es X.env := by rfl) (hpl : (backTo pos (starEach es X.env)).any (·.1) = false := by rfl) :
    PE X (.Call (.Name x p) (e :: es) [] pos) (tCall sp [] E0 t) := by
  obtain ⟨f, fd, F1, h1, h2, h3⟩ := c.ex
  exact pe_call F1 hr hg h1 h2 h3 .nil pass0 ha hdb he hpl
end
/-- t[i], xs[i], with the written part named (within a comprehension's block it must be) -/
theorem pe_at {X : Cx} (K : PySem.W.Frag) {a b : Expr} {ta tb : TE} {pos : Pos} (ha : PE X a ta) (hb : PE X b tb) (hs : PlainIx b := by exact fun _ _ => rfl) (hK : X.K = K := by rfl) : PE X (.Subscript a b pos) (tOp (rIxT K) ta tb) := by
  subst hK
  exact pe_ix ix_tup ha hb hs
theorem pe_atL {X : Cx} (K : PySem.W.Frag) {a b : Expr} {ta tb : TE} {pos : Pos} (ha : PE X a ta) (hb : PE X b tb) (hs : PlainIx b := by exact fun _ _ => rfl) (hK : X.K = K := by rfl) : PE X (.Subscript a b pos) (tOp (rIxL K) ta tb) := by
  subst hK
  exact pe_ix ix_list ha hb hs
theorem op_eqK {X : Cx} (K : PySem.W.Frag) (hu : X.A.units + 64 < cLine) (hK : X.K = K := by rfl) : OpR X (compareOp .Eq) (rEqD K) := by
  subst hK
  exact op_eqD hu
theorem op_neK {X : Cx} (K : PySem.W.Frag) (hu : X.A.units + 64 < cLine) (hK : X.K = K := by rfl) : OpR X (compareOp .NotEq) (rNeD K) := by
  subst hK
  exact op_neD hu
theorem op_inK {X : Cx} (K : PySem.W.Frag) (hK : X.K = K := by rfl) : OpR X (compareOp .In) (rIn K false) := by
  subst hK
  exact op_in_seq
theorem op_notInK {X : Cx} (K : PySem.W.Frag) (hK : X.K = K := by rfl) : OpR X (compareOp .NotIn) (rIn K true) := by
  subst hK
  exact op_notIn_seq
/-- the built-ins and constants of the text -/
structure Txt (mg : Str → Option Value) : Prop where
  abs : mg "abs" = none
  len : mg "len" = none
  sum : mg "sum" = none
  min : mg "min" = none
  max : mg "max" = none
  all : mg "all" = none
  int : mg "int" = none
  list : mg "list" = none
  tuple : mg "tuple" = none
  range : mg "range" = none
  sorted : mg "sorted" = none
  reversed : mg "reversed" = none
  aw : ∃ t, mg "AWAY" = some (.str "away" t)
  tk : ∃ t, mg "TAKEN" = some (.str "taken" t)
  sv : ∃ t, mg "SERVED" = some (.str "served" t)
  no : ∃ t, mg "NONE" = some (.str "none" t)
  tu : ∃ t, mg "TURNS" = some (.str "turns" t)

/-! ### small words -/
theorem iteB {b : Bool} {A B : Prop} (h1 : b = true → A) (h2 : b = false → B) : if b = true then A else B := by
  cases b with
  | true => exact iteT (h1 rfl)
  | false => exact iteF (h2 rfl)
theorem iteD {c A B : Prop} [Decidable c] (h1 : c → A) (h2 : ¬ c → B) : if decide c = true then A else B :=
  ite2 (fun h => h1 (of_decide_eq_true h)) (fun h => h2 fun z => h (decide_eq_true z))
theorem iteY {c A B : Prop} [Decidable c] (hc : c) (h : A) : if decide c = true then A else B := if_pos (decide_eq_true hc) ▸ h
theorem iteN {c A B : Prop} [Decidable c] (hc : ¬ c) (h : B) : if decide c = true then A else B := by
  rw [if_neg]
  · exact h
  · rw [decide_eq_true_eq]
    exact hc
theorem same_upd {H : Hp} {p : Addr} {o : HO} (h : H p = none) : Same H (upd H p o) := fun b x e => by
  rw [upd_ne (ne_of_none e h)]
  exact e
/-- what was new to H may have changed since -/
theorem same_mut {H H' : Hp} {p : Addr} {o : HO} (e : Same H H') (h : H p = none) : Same H (upd H' p o) := fun b x z => by
  rw [upd_ne (ne_of_none z h)]
  exact e b x z
theorem ts_sqt {K : PySem.W.Frag} {H H' : Hp} {a : Addr} {xs : List V} (h : H a = some (.tup xs)) : SqT K H a xs := SqT.of h
theorem at_nat {α : Type} {xs : List α} {j : Nat} {v : α} (h : xs[j]? = some v) : atI xs (j : Int) = some v := atI_nat h
section
variable {α β : Type} {F : α → β → Prop}
theorem pget : ∀ {l : List α} {m : List β} {j : Nat} {x : α}, Paired F l m → l[j]? = some x → ∃ y, m[j]? = some y ∧ F x y
  | _, _, _, _, .nil, e => by simp at e
  | _, _, 0, _, .cons h _, e => by
    cases e
    exact ⟨_, rfl, h⟩
  | _, _, j + 1, x, .cons _ t, e => pget (j := j) t (by simpa using e)
theorem pget2 : ∀ {l : List α} {m : List β} {j : Nat} {y : β}, Paired F l m → m[j]? = some y → ∃ x, l[j]? = some x ∧ F x y
  | _, _, _, _, .nil, e => by simp at e
  | _, _, 0, _, .cons h _, e => by
    cases e
    exact ⟨_, rfl, h⟩
  | _, _, j + 1, y, .cons _ t, e => pget2 (j := j) t (by simpa using e)
theorem plen {l : List α} {m : List β} (h : Paired F l m) : l.length = m.length := Paired.length h
end

/-! ### what a value is -/
def natsI (o : List Nat) : List Int := o.map fun (k : Nat) => (k : Int)
def IntsT (H : Hp) (v : V) (ns : List Int) : Prop := ∃ a, v = .ref a ∧ H a = some (.tup (ns.map V.int))
def FracT (H : Hp) (v : V) (p : Int × Int) : Prop := ∃ a, v = .ref a ∧ H a = some (.tup [.int p.1, .int p.2])
def SrvT (H : Hp) (v : V) (s : SL.Srv) : Prop := ∃ a f, v = .ref a ∧ H a = some (.tup [f, .int s.2]) ∧ FracT H f s.1
def SrvsT (H : Hp) (v : V) (ss : List SL.Srv) : Prop := ∃ a vs, v = .ref a ∧ H a = some (.tup vs) ∧ Paired (SrvT H) vs ss
def HallT (H : Hp) (v : V) (ss : List SL.Srv) : Prop := ∃ a c sv, v = .ref a ∧ H a = some (.tup [c, sv, .bl false]) ∧ SrvsT H sv ss
def rw_ : SL.Rl → Str
  | .random => "random"
  | .two => "two"
  | .least => "least"
  | .quick => "quick"
def RuleT (H : Hp) (v : V) (r : SL.Rl) : Prop := ∃ a, v = .ref a ∧ H a = some (.tup [.str (rw_ r)])
def MoveT (H : Hp) (v : V) : SL.Mv → Prop
  | .come o => ∃ a b, v = .ref a ∧ H a = some (.tup [.str "come", b]) ∧ IntsT H b (natsI o)
  | .done k => ∃ a, v = .ref a ∧ H a = some (.tup [.str "done", .int (k : Int)])
  | .still => ∃ a, v = .ref a ∧ H a = some (.tup [.str "still"])
def TripT (H : Hp) (v : V) (t : SL.Pr × Int) : Prop := ∃ a x y, v = .ref a ∧ H a = some (.tup [x, y, .int t.2]) ∧ IntsT H x t.1.1 ∧ IntsT H y t.1.2
def RunT (H : Hp) (v : V) (run : List SL.Mv) : Prop := ∃ a vs, v = .ref a ∧ H a = some (.tup vs) ∧ Paired (MoveT H) vs run
def StandT (H : Hp) (v : V) (x : List Int) : Prop := ∃ a l, v = .ref a ∧ H a = some (.tup [l, .int 0]) ∧ IntsT H l x
section
variable {H H' : Hp} {v : V}
theorem IntsT.keep {ns : List Int} (t : TS H H') (h : IntsT H v ns) : IntsT H' v ns := by
  obtain ⟨a, e, h1⟩ := h
  exact ⟨a, e, t _ _ h1⟩
theorem FracT.keep {p : Int × Int} (t : TS H H') (h : FracT H v p) : FracT H' v p := by
  obtain ⟨a, e, h1⟩ := h
  exact ⟨a, e, t _ _ h1⟩
theorem SrvT.keep {s : SL.Srv} (t : TS H H') (h : SrvT H v s) : SrvT H' v s := by
  obtain ⟨a, f, e, h1, h2⟩ := h
  exact ⟨a, f, e, t _ _ h1, h2.keep t⟩
theorem SrvsT.keep {ss : List SL.Srv} (t : TS H H') (h : SrvsT H v ss) : SrvsT H' v ss := by
  obtain ⟨a, vs, e, h1, h2⟩ := h
  exact ⟨a, vs, e, t _ _ h1, Paired.mapP h2 fun _ _ z => z.keep t⟩
theorem HallT.keep {ss : List SL.Srv} (t : TS H H') (h : HallT H v ss) : HallT H' v ss := by
  obtain ⟨a, c, sv, e, h1, h2⟩ := h
  exact ⟨a, c, sv, e, t _ _ h1, h2.keep t⟩
theorem RuleT.keep {r : SL.Rl} (t : TS H H') (h : RuleT H v r) : RuleT H' v r := by
  obtain ⟨a, e, h1⟩ := h
  exact ⟨a, e, t _ _ h1⟩
theorem MoveT.keep {m : SL.Mv} (t : TS H H') (h : MoveT H v m) : MoveT H' v m := by
  cases m with
  | come o =>
    obtain ⟨a, b, e, h1, h2⟩ := h
    exact ⟨a, b, e, t _ _ h1, h2.keep t⟩
  | done k =>
    obtain ⟨a, e, h1⟩ := h
    exact ⟨a, e, t _ _ h1⟩
  | still =>
    obtain ⟨a, e, h1⟩ := h
    exact ⟨a, e, t _ _ h1⟩
theorem TripT.keep {m : SL.Pr × Int} (t : TS H H') (h : TripT H v m) : TripT H' v m := by
  obtain ⟨a, x, y, e, h1, h2, h3⟩ := h
  exact ⟨a, x, y, e, t _ _ h1, h2.keep t, h3.keep t⟩
theorem RunT.keep {m : List SL.Mv} (t : TS H H') (h : RunT H v m) : RunT H' v m := by
  obtain ⟨a, vs, e, h1, h2⟩ := h
  exact ⟨a, vs, e, t _ _ h1, Paired.mapP h2 fun _ _ z => z.keep t⟩
theorem StandT.keep {x : List Int} (t : TS H H') (h : StandT H v x) : StandT H' v x := by
  obtain ⟨a, l, e, h1, h2⟩ := h
  exact ⟨a, l, e, t _ _ h1, h2.keep t⟩
/-- a server of a hall's -/
theorem SrvsT.at_ {ss : List SL.Srv} (h : SrvsT H v ss) {k : Nat} (hk : k < ss.length) : ∃ a vs u, v = .ref a ∧ H a = some (.tup vs) ∧ vs[k]? = some u ∧ SrvT H u (SL.gs ss k) := by
  obtain ⟨a, vs, e, h1, h2⟩ := h
  have e2 : ss[k]? = some (SL.gs ss k) := by
    unfold SL.gs
    rw [List.getD_eq_getElem?_getD, List.getElem?_eq_getElem hk]
    rfl
  obtain ⟨u, h3, h4⟩ := pget2 h2 e2
  exact ⟨a, vs, u, e, h1, h3, h4⟩
theorem gx_at {x : List Int} {k : Nat} (hk : k < x.length) : (x.map V.int)[k]? = some (.int (SL.gx x k)) := by
  unfold SL.gx
  rw [List.getElem?_map, List.getD_eq_getElem?_getD, List.getElem?_eq_getElem hk]
  rfl
end
end SLW
/-! Part SLFrac. -/
set_option Elab.async false
set_option linter.all false
set_option maxRecDepth 100000
set_option maxHeartbeats 4000000
/-! Fractions: common, fraction_of, divided, is_less; and the law's own _law_frac. -/
namespace SLW
open PySem PySem.Spec PyProof.Rows L2 SLR
section
variable {P : Program} {w : World} {K : PySem.W.Frag} {mg : Str → Option Value} {base : Heap}
theorem scCommon : FnScope ["one", "other"] ["one", "other"] (defScope (topS 5)) := ⟨rfl, rfl, rfl, by decide +kernel, rfl, by decide +kernel, by decide +kernel⟩
def spCommon : Sp := fun vs H Q _ => ∃ a b : Int, vs = [.int a, .int b] ∧ 0 < a ∧ 0 < b ∧ ∀ g H', Same H H' → 0 < g → g ∣ a → g ∣ b → Q (.int g) H'
theorem gcd_step {a b o p : Int} (hp : p ≠ 0) (h : ∀ d, d ∣ o → d ∣ p → d ∣ a ∧ d ∣ b) : ∀ d, d ∣ p → d ∣ o % p → d ∣ a ∧ d ∣ b := by
  intro d h1 h2
  refine h d ?_ h1
  have e := Int.emod_add_mul_ediv o p
  rw [← e]
  exact Int.dvd_add h2 (Int.dvd_trans h1 (Int.dvd_mul_right _ _))
theorem c_common (F : Fn K mg "common" (topS 5) ["one", "other"]) (T : Txt mg) : Cal P w K mg base 1 "common" ["one", "other"] spCommon := by
  refine F.cal scCommon (fun vs H Q E h => ?_) (fun f cdv A outer s H vs Q E hr h => ?_)
  · obtain ⟨a, b, rfl, _⟩ := h
    rfl
  · obtain ⟨a, b, rfl, ha, hb, k⟩ := h
    refine ⟨_, pss_cons (ps_set (i := 0) scCommon.nd rfl (.inl rfl) (pe_callB call_abs (by rfl) T.abs (by decide +kernel) (pa_cons (pv 0) pa_nil)))
      (pss_cons (ps_set (i := 1) scCommon.nd rfl (.inl rfl) (pe_callB call_abs (by rfl) T.abs (by decide +kernel) (pa_cons (pv 1) pa_nil)))
      (pss_cons (ps_while PassesOwn.never (pt_cmpR op_gt (pv 1) pe_int (nomark _))
        (pss_one (ps_par (i := 0) (j := 1) rfl scCommon.nd rfl rfl (by decide) rfl rfl (pa_cons (pv 1) (pa_cons (pe_op op_mod (pv 0) (pv 1)) pa_nil)) (by rfl))))
      (pss_one (ps_ret (pv 0))))), ?_⟩
    refine ⟨_, rfl, _, rfl, _, rfl, _, rfl, ?_⟩
    rw [if_neg (by omega), if_neg (by omega)]
    refine while_by (fun σ H' => ∃ o p : Int, σ = [some (.int o), some (.int p)] ∧ H' = H ∧ 0 < o ∧ 0 ≤ p ∧ ∀ d, d ∣ o → d ∣ p → d ∣ a ∧ d ∣ b) (fun σ _ => match σ with | [_, some (.int p)] => p.toNat | _ => 0) ⟨a, b, rfl, rfl, ha, by omega, fun d h1 h2 => ⟨h1, h2⟩⟩ ?_ ?_
    · rintro σ H' ⟨o, p, rfl, rfl, h1, h2, h3⟩
      refine ⟨_, rfl, _, _, rfl, rfl, _, rfl, iteD (fun h4 => ?_) (fun h4 => ?_)⟩
      · refine ⟨_, rfl, _, rfl, _, rfl, _, _, rfl, rfl, h4, _, _, rfl, ⟨p, o % p, rfl, rfl, h4, Int.emod_nonneg _ (by omega), gcd_step (by omega) h3⟩, ?_⟩
        have := Int.emod_lt_of_pos o h4
        have := Int.emod_nonneg o (show p ≠ 0 by omega)
        show (o % p).toNat < p.toNat
        omega
      · have e : p = 0 := by omega
        subst e
        have h5 := h3 o (Int.dvd_refl _) (Int.dvd_zero _)
        exact ⟨_, rfl, k o _ (Same.refl _) h1 h5.1 h5.2⟩
    · intro σ H' Q1 Q2 hq h
      obtain ⟨x, h1, i, j, h2, h3, b, h4, h5⟩ := h
      exact ⟨x, h1, i, j, h2, h3, b, h4, hq _ _ h5⟩
theorem scFractionOf : FnScope ["top", "bottom", "divisor"] ["top", "bottom"] (defScope (topS 6)) := ⟨rfl, rfl, rfl, by decide +kernel, rfl, by decide +kernel, by decide +kernel⟩
def spFractionOf : Sp := fun vs H Q _ => ∃ t b : Int, vs = [.int t, .int b] ∧ 0 < t ∧ 0 < b ∧ b < 1073741824 ∧ ∀ v H' p q g, Same H H' → FracT H' v (p, q) → 0 < g → p * g = t → q * g = b → Q v H'
theorem c_fractionOf (F : Fn K mg "fraction_of" (topS 6) ["top", "bottom"]) (T : Txt mg) (C1 : Cal P w K mg base 1 "common" ["one", "other"] spCommon) : Cal P w K mg base 2 "fraction_of" ["top", "bottom"] spFractionOf := by
  refine F.cal scFractionOf (fun vs H Q E h => ?_) (fun f cdv A outer s H vs Q E hr h => ?_)
  · obtain ⟨a, b, rfl, _⟩ := h
    rfl
  · obtain ⟨t, b, rfl, ht, hb, hb2, k⟩ := h
    refine ⟨_, pss_cons (ps_if (pt_cmpR op_eq (pv 1) pe_int (nomark _)) (pss_one ps_never) pss_nil)
      (pss_cons (ps_set (i := 2) scFractionOf.nd rfl (.inl rfl) (pe_cal C1 hr rfl (pa_cons (pv 0) (pa_cons (pv 1) pa_nil))))
      (pss_cons (ps_if (pt_cmpR op_lt (pv 1) pe_int (nomark _)) (pss_one ps_never) pss_nil)
      (pss_one (ps_ret (pe_tup (pa_cons (pe_op op_fdiv (pv 0) (pv 2)) (pa_cons (pe_op op_fdiv (pv 1) (pv 2)) pa_nil))))))), ?_⟩
    refine ⟨_, rfl, rfl, _, rfl, iteN (by intro e; injection e with e; omega) ?_⟩
    refine ⟨_, rfl, _, rfl, t, b, rfl, ht, hb, fun g H1 S hg d1 d2 => ?_⟩
    have hgb := Int.le_of_dvd hb d2
    refine ⟨_, rfl, _, _, rfl, rfl, _, rfl, iteN (by omega) ?_⟩
    refine ⟨_, rfl, _, rfl, _, _, rfl, rfl, ⟨hg, by omega⟩, _, rfl, _, rfl, _, _, rfl, rfl, ⟨hg, by omega⟩, (by show 2 ≤ sizeLine; decide), fun p hp => ?_⟩
    exact k _ _ (t / g) (b / g) g (S.trans (same_upd hp)) ⟨p, rfl, upd_same⟩ hg (Int.ediv_mul_cancel d1) (Int.ediv_mul_cancel d2)
theorem scDivided : FnScope ["one", "other"] ["one", "other"] (defScope (topS 7)) := ⟨rfl, rfl, rfl, by decide +kernel, rfl, by decide +kernel, by decide +kernel⟩
def spDivided : Sp := fun vs H Q _ => ∃ (u v : V) (p q : Int × Int), vs = [u, v] ∧ FracT H u p ∧ FracT H v q ∧ (0 < p.1 ∧ p.1 ≤ 2000) ∧ p.2 = 1 ∧ (0 < q.1 ∧ q.1 ≤ 2000) ∧ (0 < q.2 ∧ q.2 ≤ 2000) ∧
  ∀ v' H' r g, Same H H' → FracT H' v' r → 0 < g → r.1 * g = p.1 * q.2 → r.2 * g = p.2 * q.1 → Q v' H'
theorem c_divided (F : Fn K mg "divided" (topS 7) ["one", "other"]) (T : Txt mg) (C1 : Cal P w K mg base 2 "fraction_of" ["top", "bottom"] spFractionOf) : Cal P w K mg base 3 "divided" ["one", "other"] spDivided := by
  refine F.cal scDivided (fun vs H Q E h => ?_) (fun f cdv A outer s H vs Q E hr h => ?_)
  · obtain ⟨u, v, p, q, rfl, _⟩ := h
    rfl
  · obtain ⟨u, v, p, q, rfl, ⟨a, rfl, ha⟩, ⟨b, rfl, hb⟩, hp1, hp2, hq1, hq2, k⟩ := h
    refine ⟨_, pss_one (ps_ret (pe_cal C1 hr rfl (pa_cons (pe_op op_mul (pe_ix ix_tup (pv 0) pe_int (fun _ _ => rfl)) (pe_ix ix_tup (pv 1) pe_int (fun _ _ => rfl)))
      (pa_cons (pe_op op_mul (pe_ix ix_tup (pv 0) pe_int (fun _ _ => rfl)) (pe_ix ix_tup (pv 1) pe_int (fun _ _ => rfl))) pa_nil)))), ?_⟩
    refine ⟨_, rfl, _, _, _, _, rfl, rfl, SqT.of ha, rfl, _, rfl, _, _, _, _, rfl, rfl, SqT.of hb, rfl, _, _, rfl, rfl, .inl ⟨by omega, by omega⟩, ?_⟩
    refine ⟨_, rfl, _, _, _, _, rfl, rfl, SqT.of ha, rfl, _, rfl, _, _, _, _, rfl, rfl, SqT.of hb, rfl, _, _, rfl, rfl, .inl ⟨by omega, by omega⟩, ?_⟩
    refine ⟨_, _, rfl, Int.mul_pos hp1.1 hq2.1, Int.mul_pos (by omega) hq1.1, by rw [hp2, Int.one_mul]; omega, fun v' H' p' q' g S hf hg e1 e2 => ?_⟩
    exact k v' H' (p', q') g S hf hg e1 e2
theorem scIsLess : FnScope ["one", "other"] ["one", "other"] (defScope (topS 8)) := ⟨rfl, rfl, rfl, by decide +kernel, rfl, by decide +kernel, by decide +kernel⟩
def spIsLess : Sp := fun vs H Q _ => ∃ (u v : V) (p q : Int × Int), vs = [u, v] ∧ FracT H u p ∧ FracT H v q ∧ (0 < p.1 ∧ p.1 ≤ 1000000000) ∧ (0 < q.1 ∧ q.1 ≤ 1000000000) ∧ Q (.bl (decide (p.1 * q.2 < q.1 * p.2))) H
theorem c_isLess (F : Fn K mg "is_less" (topS 8) ["one", "other"]) (T : Txt mg) : Cal P w K mg base 1 "is_less" ["one", "other"] spIsLess := by
  refine F.cal scIsLess (fun vs H Q E h => ?_) (fun f cdv A outer s H vs Q E hr h => ?_)
  · obtain ⟨u, v, p, q, rfl, _⟩ := h
    rfl
  · obtain ⟨u, v, p, q, rfl, ⟨a, rfl, ha⟩, ⟨b, rfl, hb⟩, hp1, hq1, k⟩ := h
    refine ⟨_, pss_one (ps_ret (pe_cmpR op_lt (pe_op op_mul (pe_ix ix_tup (pv 0) pe_int (fun _ _ => rfl)) (pe_ix ix_tup (pv 1) pe_int (fun _ _ => rfl)))
      (pe_op op_mul (pe_ix ix_tup (pv 1) pe_int (fun _ _ => rfl)) (pe_ix ix_tup (pv 0) pe_int (fun _ _ => rfl))) (nomark _))), ?_⟩
    refine ⟨_, rfl, _, _, _, _, rfl, rfl, SqT.of ha, rfl, _, rfl, _, _, _, _, rfl, rfl, SqT.of hb, rfl, _, _, rfl, rfl, .inl ⟨by omega, by omega⟩, ?_⟩
    refine ⟨_, rfl, _, _, _, _, rfl, rfl, SqT.of hb, rfl, _, rfl, _, _, _, _, rfl, rfl, SqT.of ha, rfl, _, _, rfl, rfl, .inl ⟨by omega, by omega⟩, ?_⟩
    exact ⟨_, _, rfl, rfl, k⟩
/-- the comparison that quickest makes -/
theorem less_frac {x y bk tk bf tf g h : Int} {p q : Int × Int} (hg : 0 < g) (hh : 0 < h) (hx : 0 < x) (e1 : p.1 * g = x * bk) (e2 : p.2 * g = 1 * tk) (e3 : q.1 * h = y * bf) (e4 : q.2 * h = 1 * tf) :
    decide (p.1 * q.2 < q.1 * p.2) = decide (x * bk * tf < y * bf * tk) := by
  apply decide_eq_decide.mpr
  have e5 : x * bk * tf = p.1 * q.2 * (g * h) := by
    rw [← e1, show tf = q.2 * h by rw [e4, Int.one_mul]]
    simp only [Int.mul_assoc, Int.mul_comm, Int.mul_left_comm]
  have e6 : y * bf * tk = q.1 * p.2 * (g * h) := by
    rw [← e3, show tk = p.2 * g by rw [e2, Int.one_mul]]
    simp only [Int.mul_assoc, Int.mul_comm, Int.mul_left_comm]
  rw [e5, e6]
  have := Int.mul_pos hg hh
  exact (Int.mul_lt_mul_right this).symm
theorem scLFrac : FnScope ["_law_top", "_law_bottom", "_law_one", "_law_other"] ["_law_top", "_law_bottom"] (defScope (topS 43)) := ⟨rfl, rfl, rfl, by decide +kernel, rfl, by decide +kernel, by decide +kernel⟩
theorem c_lFrac (F : Fn K mg "_law_frac" (topS 43) ["_law_top", "_law_bottom"]) (T : Txt mg) : Cal P w K mg base 1 "_law_frac" ["_law_top", "_law_bottom"] spFractionOf := by
  refine F.cal scLFrac (fun vs H Q E h => ?_) (fun f cdv A outer s H vs Q E hr h => ?_)
  · obtain ⟨a, b, rfl, _⟩ := h
    rfl
  · obtain ⟨t, b, rfl, ht, hb, hb2, k⟩ := h
    refine ⟨_, pss_cons (ps_par (i := 2) (j := 3) rfl scLFrac.nd rfl rfl (by decide) rfl rfl (pa_cons (pv 0) (pa_cons (pv 1) pa_nil)) (by rfl))
      (pss_cons (ps_while PassesOwn.never (pt_cmpR op_gt (pv 3) pe_int (nomark _))
        (pss_one (ps_par (i := 2) (j := 3) rfl scLFrac.nd rfl rfl (by decide) rfl rfl (pa_cons (pv 3) (pa_cons (pe_op op_mod (pv 2) (pv 3)) pa_nil)) (by rfl))))
      (pss_one (ps_ret (pe_tup (pa_cons (pe_op op_fdiv (pv 0) (pv 2)) (pa_cons (pe_op op_fdiv (pv 1) (pv 2)) pa_nil)))))), ?_⟩
    refine ⟨_, rfl, _, rfl, _, _, rfl, ?_⟩
    refine while_by (fun σ H' => ∃ o p : Int, σ = [some (.int t), some (.int b), some (.int o), some (.int p)] ∧ H' = H ∧ 0 < o ∧ 0 ≤ p ∧ ∀ d, d ∣ o → d ∣ p → d ∣ t ∧ d ∣ b) (fun σ _ => match σ with | [_, _, _, some (.int p)] => p.toNat | _ => 0) ⟨t, b, rfl, rfl, ht, by omega, fun d h1 h2 => ⟨h1, h2⟩⟩ ?_ ?_
    · rintro σ H' ⟨o, p, rfl, rfl, h1, h2, h3⟩
      refine ⟨_, rfl, _, _, rfl, rfl, _, rfl, iteD (fun h4 => ?_) (fun h4 => ?_)⟩
      · refine ⟨_, rfl, _, rfl, _, rfl, _, _, rfl, rfl, h4, _, _, rfl, ⟨p, o % p, rfl, rfl, h4, Int.emod_nonneg _ (by omega), gcd_step (by omega) h3⟩, ?_⟩
        have := Int.emod_lt_of_pos o h4
        have := Int.emod_nonneg o (show p ≠ 0 by omega)
        show (o % p).toNat < p.toNat
        omega
      · have e : p = 0 := by omega
        subst e
        have h5 := h3 o (Int.dvd_refl _) (Int.dvd_zero _)
        have hob := Int.le_of_dvd hb h5.2
        refine ⟨_, rfl, _, rfl, _, _, rfl, rfl, ⟨h1, by omega⟩, _, rfl, _, rfl, _, _, rfl, rfl, ⟨h1, by omega⟩, (by show 2 ≤ sizeLine; decide), fun p hp => ?_⟩
        exact k _ _ (t / o) (b / o) o (same_upd hp) ⟨p, rfl, upd_same⟩ h1 (Int.ediv_mul_cancel h5.1) (Int.ediv_mul_cancel h5.2)
    · intro σ H' Q1 Q2 hq h
      obtain ⟨x, h1, i, j, h2, h3, b, h4, h5⟩ := h
      exact ⟨x, h1, i, j, h2, h3, b, h4, hq _ _ h5⟩
end
end SLW
/-! Part SLHalls. -/
set_option Elab.async false
set_option linter.all false
set_option maxRecDepth 100000
set_option maxHeartbeats 4000000
/-! Halls: is_alike, hall_turned, first_stand. -/
namespace SLW
open PySem PySem.Spec PyProof.Rows L2 SLR
/-- a server as data -/
def dS (s : SL.Srv) : PyData := .tuple [.tuple [.int s.1.1, .int s.1.2], .int s.2]
theorem dS_shaped (s : SL.Srv) : SeqAt.shaped (dS s) = true := by rfl
theorem dS_eqv (s t : SL.Srv) : PyData.eqv (dS s) (dS t) = decide (s = t) := by
  obtain ⟨⟨a, b⟩, c⟩ := s
  obtain ⟨⟨a', b'⟩, c'⟩ := t
  unfold dS
  simp only [PyData.eqv, PyData.eqvAll, Bool.and_true]
  rw [Bool.eq_iff_iff]
  simp only [Bool.and_eq_true, beq_iff_eq, decide_eq_true_eq, Prod.mk.injEq]
theorem SrvT.dp {K : PySem.W.Frag} {H : Hp} {v : V} {s : SL.Srv} (h : SrvT H v s) : Dp K H v (dS s) := by
  obtain ⟨a, f, rfl, h1, b, rfl, h2⟩ := h
  exact .tup (SqT.of h1) (.cons (.tup (SqT.of h2) (.cons (.int _) (.cons (.int _) .nil))) (.cons (.int _) .nil))
theorem natsI_at {o : List Nat} {i : Nat} {x : V} (h : ((natsI o).map V.int)[i]? = some x) : ∃ k, o[i]? = some k ∧ x = .int (k : Int) := by
  unfold natsI at h
  rw [List.getElem?_map, List.getElem?_map] at h
  cases e : o[i]? with
  | none =>
    rw [e] at h
    cases h
  | some k =>
    rw [e] at h
    cases h
    exact ⟨k, rfl, rfl⟩
theorem natsI_len (o : List Nat) : ((natsI o).map V.int).length = o.length := by
  unfold natsI
  rw [List.length_map, List.length_map]
section
variable {P : Program} {w : World} {K : PySem.W.Frag} {mg : Str → Option Value} {base : Heap}
theorem scIsAlike : FnScope ["hall", "server"] ["hall"] (defScope (topS 10)) := ⟨rfl, rfl, rfl, by decide +kernel, rfl, by decide +kernel, by decide +kernel⟩
def spIsAlike : Sp := fun vs H Q _ => ∃ (v : V) (ss : List SL.Srv), vs = [v] ∧ HallT H v ss ∧ 1 ≤ ss.length ∧ ss.length ≤ 6 ∧ ∀ H', Same H H' → Q (.bl (SL.alike ss)) H'
theorem c_isAlike (F : Fn K mg "is_alike" (topS 10) ["hall"]) (T : Txt mg) : Cal P w K mg base 1 "is_alike" ["hall"] spIsAlike := by
  refine F.cal scIsAlike (fun vs H Q E h => ?_) (fun f cdv A outer s H vs Q E hr h => ?_)
  · obtain ⟨v, ss, rfl, _⟩ := h
    rfl
  · obtain ⟨v, ss, rfl, hh, h1, h6, k⟩ := h
    have hh0 := hh
    obtain ⟨a, c, sv, rfl, ha, b, vs, rfl, hb, hp⟩ := hh
    refine ⟨_, pss_one (ps_ret (pe_callB (cr_all rfl) (by rfl) T.all (by decide +kernel) (pa_cons
      (pe_lc (own := [("server", 1)]) (g := gName 1) (tt := tYes) rfl scIsAlike.nd (pi_tup (pe_at K (pv 0) pe_int)) (blkOk_by (N := ["hall", "server"]) (sc := defScope (topS 10)) (by decide +kernel))
        (fun _ _ _ _ _ => pg_name (i := 1) scIsAlike.nd rfl (Or.inl rfl)) (fun _ _ _ _ _ => pts_nil)
        (fun _ _ _ _ _ => pe_cmpR (op_eqK K hr.units) (pv 1) (pe_at K (pe_at K (pv 0) pe_int) pe_int) (nomark _))) pa_nil))), ?_⟩
    refine ⟨_, rfl, _, _, _, _, rfl, rfl, SqT.of ha, rfl, b, rfl, ⟨_, SqT.of hb⟩, fun D hD => ?_⟩
    refine lc_tup (K := K) (a := b) (xs := vs) (fun i H' => Same H H' ∧ H' D = some (.lst ((ss.take i).map fun s => V.bl (decide (s = SL.gs ss 0))))) ⟨same_upd hD, upd_same⟩ (fun i H' _ hP => SqT.of (hP.1 _ _ hb)) ?_ ?_
    · rintro i x H' hx ⟨S, hl⟩
      obtain ⟨s, hs, hst⟩ := pget hp hx
      refine ⟨rfl, ?_⟩
      obtain ⟨u0, hu0, hs0⟩ := pget2 hp (show ss[0]? = some (SL.gs ss 0) by
        unfold SL.gs
        rw [List.getD_eq_getElem?_getD, List.getElem?_eq_getElem (by omega)]
        rfl)
      refine ⟨_, rfl, _, rfl, _, _, _, _, rfl, rfl, SqT.of (S _ _ ha), rfl, _, _, _, _, rfl, rfl, SqT.of (S _ _ hb), at_nat (j := 0) hu0, _, _, (hst.keep (Same.ts S)).dp, (hs0.keep (Same.ts S)).dp, dS_shaped _, dS_shaped _, ?_⟩
      rw [dS_eqv]
      refine ⟨_, hl, ?_, same_mut S hD, ?_⟩
      · rw [List.length_map, List.length_take]
        exact small1000 (by omega)
      · rw [upd_same, List.take_add_one, hs, List.map_append]
        rfl
    · rintro H' ⟨S, hl⟩
      refine ⟨D, ss.map fun s => decide (s = SL.gs ss 0), rfl, SqL.of ?_, ?_⟩
      · rw [hl, plen hp, List.take_length, List.map_map]
        rfl
      · have e : (ss.map fun s => decide (s = SL.gs ss 0)).all id = SL.alike ss := by
          unfold SL.alike
          rw [List.all_map]
          rfl
        rw [e]
        exact k H' S
theorem scTurned : FnScope ["hall", "order", "k"] ["hall", "order"] (defScope (topS 11)) := ⟨rfl, rfl, rfl, by decide +kernel, rfl, by decide +kernel, by decide +kernel⟩
def spTurned : Sp := fun vs H Q _ => ∃ (v u : V) (ss : List SL.Srv) (o : List Nat), vs = [v, u] ∧ HallT H v ss ∧ IntsT H u (natsI o) ∧ (∀ k ∈ o, k < ss.length) ∧ o.length ≤ 6 ∧ ∀ v' H', Same H H' → HallT H' v' (SL.turnS o ss) → Q v' H'
theorem c_turned (F : Fn K mg "hall_turned" (topS 11) ["hall", "order"]) (T : Txt mg) : Cal P w K mg base 1 "hall_turned" ["hall", "order"] spTurned := by
  refine F.cal scTurned (fun vs H Q E h => ?_) (fun f cdv A outer s H vs Q E hr h => ?_)
  · obtain ⟨v, u, ss, o, rfl, _⟩ := h
    rfl
  · obtain ⟨v, u, ss, o, rfl, ⟨a, c, sv, rfl, ha, b, vs, rfl, hb, hp⟩, ⟨oa, rfl, ho⟩, hlt, h6, k⟩ := h
    refine ⟨_, pss_one (ps_ret (pe_tup (pa_cons (pe_at K (pv 0) pe_int) (pa_cons
      (pe_callTy call_tuple_of (by rfl) T.tuple (by decide +kernel) (pa_cons
        (pe_lc (own := [("k", 2)]) (g := gName 2) (tt := tYes) rfl scTurned.nd (pi_tup (pv 1)) (blkOk_by (N := ["hall", "order", "k"]) (sc := defScope (topS 11)) (by decide +kernel))
          (fun _ _ _ _ _ => pg_name (i := 2) scTurned.nd rfl (Or.inl rfl)) (fun _ _ _ _ _ => pts_nil)
          (fun _ _ _ _ _ => pe_at K (pe_at K (pv 0) pe_int) (pv 2))) pa_nil))
      (pa_cons (pe_at K (pv 0) pe_int) pa_nil))))), ?_⟩
    refine ⟨_, rfl, _, _, _, _, rfl, rfl, SqT.of ha, rfl, _, rfl, oa, rfl, ⟨_, SqT.of ho⟩, fun D hD => ?_⟩
    refine lc_tup (K := K) (a := oa) (xs := (natsI o).map V.int) (fun i H' => Same H H' ∧ ∃ acc, H' D = some (.lst acc) ∧ Paired (SrvT H) acc (SL.turnS (o.take i) ss)) ⟨same_upd hD, [], upd_same, .nil⟩ (fun i H' _ hP => SqT.of (hP.1 _ _ ho)) ?_ ?_
    · rintro i x H' hx ⟨S, acc, hl, hacc⟩
      obtain ⟨j, hj, rfl⟩ := natsI_at hx
      have hjl : j < ss.length := hlt j (List.mem_of_getElem? hj)
      obtain ⟨u, hu, hs⟩ := pget2 hp (show ss[j]? = some (SL.gs ss j) by
        unfold SL.gs
        rw [List.getD_eq_getElem?_getD, List.getElem?_eq_getElem hjl]
        rfl)
      refine ⟨rfl, ?_⟩
      refine ⟨_, rfl, _, _, _, _, rfl, rfl, SqT.of (S _ _ ha), rfl, _, rfl, _, _, _, _, rfl, rfl, SqT.of (S _ _ hb), at_nat hu, _, hl, ?_, same_mut S hD, _, upd_same, ?_⟩
      · have := plen hacc
        unfold SL.turnS at this
        rw [List.length_map, List.length_take] at this
        exact small1000 (by omega)
      · have e : SL.turnS (o.take (i + 1)) ss = SL.turnS (o.take i) ss ++ [SL.gs ss j] := by
          unfold SL.turnS
          rw [List.take_add_one, hj, List.map_append]
          rfl
        rw [e]
        exact Paired.snoc hacc hs
    · rintro H' ⟨S, acc, hl, hacc⟩
      rw [natsI_len, List.take_length] at hacc
      refine ⟨D, _, rfl, .inl ⟨SqL.of hl, fun t ht => ?_⟩⟩
      have S1 := S.trans (same_upd (o := .tup acc) ht)
      refine ⟨_, rfl, _, _, _, _, rfl, rfl, SqT.of (S1 _ _ ha), rfl, (by show 3 ≤ sizeLine; decide), fun r hr => ?_⟩
      have S2 := same_upd (o := .tup [c, .ref t, .bl false]) hr
      exact k _ _ (S1.trans S2) ⟨r, c, .ref t, rfl, upd_same, t, acc, rfl, S2 _ _ upd_same, Paired.mapP hacc fun _ _ z => z.keep (Same.ts (S1.trans S2))⟩
theorem scFirst : FnScope ["hall", "server"] ["hall"] (defScope (topS 23)) := ⟨rfl, rfl, rfl, by decide +kernel, rfl, by decide +kernel, by decide +kernel⟩
def spFirst : Sp := fun vs H Q _ => ∃ (v : V) (ss : List SL.Srv), vs = [v] ∧ HallT H v ss ∧ ss.length ≤ 6 ∧ ∀ v' H', Same H H' → StandT H' v' (SL.voidL ss.length) → Q v' H'
theorem c_first (F : Fn K mg "first_stand" (topS 23) ["hall"]) (T : Txt mg) : Cal P w K mg base 1 "first_stand" ["hall"] spFirst := by
  refine F.cal scFirst (fun vs H Q E h => ?_) (fun f cdv A outer s H vs Q E hr h => ?_)
  · obtain ⟨v, ss, rfl, _⟩ := h
    rfl
  · obtain ⟨v, ss, rfl, ⟨a, c, sv, rfl, ha, b, vs, rfl, hb, hp⟩, h6, k⟩ := h
    refine ⟨_, pss_one (ps_ret (pe_tup (pa_cons
      (pe_callTy call_tuple_of (by rfl) T.tuple (by decide +kernel) (pa_cons
        (pe_lc (own := [("server", 1)]) (g := gName 1) (tt := tYes) rfl scFirst.nd (pi_tup (pe_at K (pv 0) pe_int)) (blkOk_by (N := ["hall", "server"]) (sc := defScope (topS 23)) (by decide +kernel))
          (fun _ _ _ _ _ => pg_name (i := 1) scFirst.nd rfl (Or.inl rfl)) (fun _ _ _ _ _ => pts_nil)
          (fun _ _ _ _ _ => pe_int)) pa_nil))
      (pa_cons pe_int pa_nil)))), ?_⟩
    refine ⟨_, rfl, _, _, _, _, rfl, rfl, SqT.of ha, rfl, b, rfl, ⟨_, SqT.of hb⟩, fun D hD => ?_⟩
    refine lc_tup (K := K) (a := b) (xs := vs) (fun i H' => Same H H' ∧ H' D = some (.lst ((SL.voidL i).map V.int))) ⟨same_upd hD, upd_same⟩ (fun i H' _ hP => SqT.of (hP.1 _ _ hb)) ?_ ?_
    · rintro i x H' hx ⟨S, hl⟩
      have hi : i < ss.length := by
        rw [← plen hp]
        exact (List.getElem?_eq_some_iff.mp hx).1
      refine ⟨rfl, ?_⟩
      refine ⟨_, hl, ?_, same_mut S hD, ?_⟩
      · unfold SL.voidL
        rw [List.length_map, List.length_replicate]
        exact small1000 (by omega)
      · rw [upd_same]
        unfold SL.voidL
        rw [List.replicate_succ', List.map_append]
        rfl
    · rintro H' ⟨S, hl⟩
      rw [plen hp] at hl
      refine ⟨D, _, rfl, .inl ⟨SqL.of hl, fun t ht => ⟨(by show 2 ≤ sizeLine; decide), fun r hr => ?_⟩⟩⟩
      have S2 := same_upd (o := .tup [.ref t, .int 0]) hr
      exact k _ _ ((S.trans (same_upd ht)).trans S2) ⟨r, .ref t, rfl, upd_same, t, rfl, S2 _ _ upd_same⟩
end
end SLW
/-! Part SLRulesW. -/
set_option Elab.async false
set_option linter.all false
set_option maxRecDepth 100000
set_option maxHeartbeats 4000000
/-! Rules by which askers are sent: shorter, shortest, quickest, sent_to; the law's own _law_sent. -/
namespace SLW
open PySem PySem.Spec PyProof.Rows L2 SLR
theorem sent_cons (ss : List SL.Srv) (r : SL.Rl) (x : List Int) (a : Nat) (t : List Nat) : SL.sent ss r x (a :: t) = (SL.rest r (a :: t)).foldl (SL.pick ss r x) a := rfl
theorem sent_two1 (ss : List SL.Srv) (x : List Int) (a : Nat) : SL.sent ss .two x [a] = a := rfl
theorem sent_two2 (ss : List SL.Srv) (x : List Int) (a b : Nat) (t : List Nat) : SL.sent ss .two x (a :: b :: t) = if SL.gx x b < SL.gx x a then b else a := by
  show (if decide (SL.gx x b < SL.gx x a) = true then b else a) = _
  by_cases h : SL.gx x b < SL.gx x a
  · rw [if_pos h, if_pos (decide_eq_true h)]
  · rw [if_neg h, if_neg (by rw [decide_eq_true_eq]; exact h)]
/-- the first of the least, and the fold that keeps the first of the least -/
theorem first_min (ss : List SL.Srv) (x : List Int) (m : Int) : ∀ (t : List Nat) (a : Nat), (∀ k ∈ a :: t, m ≤ SL.gx x k) → (∃ k ∈ a :: t, SL.gx x k = m) →
    ((a :: t).filter fun k => decide (SL.gx x k = m))[0]? = some (t.foldl (SL.pick ss .least x) a) := by
  have eq1 : ∀ (t : List Nat) (a : Nat), (∀ k ∈ t, m ≤ SL.gx x k) → SL.gx x a = m → t.foldl (SL.pick ss .least x) a = a := by
    intro t
    induction t with
    | nil => exact fun _ _ _ => rfl
    | cons b t ih =>
      intro a h e
      rw [List.foldl_cons]
      have e2 : SL.pick ss .least x a b = a := by
        show (if decide (SL.gx x b < SL.gx x a) = true then b else a) = a
        rw [if_neg]
        rw [decide_eq_true_eq]
        have := h b (List.mem_cons_self ..)
        omega
      rw [e2]
      exact ih a (fun k hk => h k (List.mem_cons_of_mem _ hk)) e
  have eq2 : ∀ (t : List Nat) (a : Nat), (∀ k ∈ t, m ≤ SL.gx x k) → m < SL.gx x a → (∃ k ∈ t, SL.gx x k = m) → (t.filter fun k => decide (SL.gx x k = m))[0]? = some (t.foldl (SL.pick ss .least x) a) := by
    intro t
    induction t with
    | nil => exact fun _ _ _ ⟨_, h, _⟩ => nomatch h
    | cons b t ih =>
      intro a h ha hex
      rw [List.foldl_cons]
      by_cases hb : SL.gx x b = m
      · rw [List.filter_cons_of_pos (p := fun k => decide (SL.gx x k = m)) (show decide (SL.gx x b = m) = true from decide_eq_true hb)]
        have e2 : SL.pick ss .least x a b = b := by
          show (if decide (SL.gx x b < SL.gx x a) = true then b else a) = b
          rw [if_pos]
          rw [decide_eq_true_eq]
          omega
        rw [e2, eq1 t b (fun k hk => h k (List.mem_cons_of_mem _ hk)) hb]
        rfl
      · rw [List.filter_cons_of_neg (by rw [decide_eq_true_eq]; exact hb)]
        have hb2 : m < SL.gx x b := by
          have := h b (List.mem_cons_self ..)
          omega
        refine ih _ (fun k hk => h k (List.mem_cons_of_mem _ hk)) ?_ ?_
        · rcases SL.pick_or ss .least x a b with e | e
          · rw [e]; exact ha
          · rw [e]; exact hb2
        · obtain ⟨k, hk, e⟩ := hex
          rcases List.mem_cons.mp hk with z | z
          · rw [z] at e
            exact absurd e hb
          · exact ⟨k, z, e⟩
  intro t a h hex
  by_cases ha : SL.gx x a = m
  · rw [List.filter_cons_of_pos (p := fun k => decide (SL.gx x k = m)) (show decide (SL.gx x a = m) = true from decide_eq_true ha), eq1 t a (fun k hk => h k (List.mem_cons_of_mem _ hk)) ha]
    rfl
  · rw [List.filter_cons_of_neg (by rw [decide_eq_true_eq]; exact ha)]
    have h0 := h a (List.mem_cons_self ..)
    refine eq2 t a (fun k hk => h k (List.mem_cons_of_mem _ hk)) (by omega) ?_
    obtain ⟨k, hk, e⟩ := hex
    rcases List.mem_cons.mp hk with z | z
    · rw [z] at e
      exact absurd e ha
    · exact ⟨k, z, e⟩
theorem natsI_get {o : List Nat} {j k : Nat} (h : o[j]? = some k) : ((natsI o).map V.int)[j]? = some (.int (k : Int)) := by
  unfold natsI
  rw [List.getElem?_map, List.getElem?_map, h]
  rfl
theorem cut_from1 (xs : List V) : cutV xs (some 1) none = xs.drop 1 := by
  unfold cutV
  rw [show HT.sIx xs.length 0 (some 1) = min 1 xs.length from HT.sIx_nat xs.length 0 1, HT.sIx_none]
  cases xs with
  | nil => rfl
  | cons x r =>
    rw [show min 1 (x :: r).length = 1 by rw [List.length_cons]; omega]
    show (List.take ((x :: r).length - 1) r) = r
    rw [List.length_cons, Nat.add_sub_cancel]
    exact List.take_length
theorem cut_1to2 (xs : List V) : cutV xs (some 1) (some 2) = (xs.drop 1).take 1 := by
  unfold cutV
  rw [show HT.sIx xs.length 0 (some 1) = min 1 xs.length from HT.sIx_nat xs.length 0 1, show HT.sIx xs.length xs.length (some 2) = min 2 xs.length from HT.sIx_nat xs.length _ 2]
  match xs with
  | [] => rfl
  | [x] => rfl
  | x :: y :: r =>
    rw [show min 1 (x :: y :: r).length = 1 by rw [List.length_cons, List.length_cons]; omega, show min 2 (x :: y :: r).length = 2 by rw [List.length_cons, List.length_cons]; omega]
theorem not_whole1 {xs : List V} (h : xs ≠ []) (hi : Option Int) : ¬ (HT.sIx xs.length 0 (some 1) = 0 ∧ HT.sIx xs.length xs.length hi = xs.length) := by
  rintro ⟨e, _⟩
  rw [show HT.sIx xs.length 0 (some 1) = min 1 xs.length from HT.sIx_nat xs.length 0 1] at e
  have : xs.length ≠ 0 := fun z => h (List.eq_nil_of_length_eq_zero z)
  omega
section
variable {P : Program} {w : World} {K : PySem.W.Frag} {mg : Str → Option Value} {base : Heap}
theorem scShorter : FnScope ["lines", "order"] ["lines", "order"] (defScope (topS 14)) := ⟨rfl, rfl, rfl, by decide +kernel, rfl, by decide +kernel, by decide +kernel⟩
def spShorter : Sp := fun vs H Q _ => ∃ (u v : V) (ss : List SL.Srv) (x : List Int) (o : List Nat), vs = [u, v] ∧ IntsT H u x ∧ IntsT H v (natsI o) ∧ o ≠ [] ∧ (∀ k ∈ o, k < x.length) ∧ Q (.int (SL.sent ss .two x o : Nat)) H
theorem c_shorter (F : Fn K mg "shorter" (topS 14) ["lines", "order"]) (T : Txt mg) : Cal P w K mg base 1 "shorter" ["lines", "order"] spShorter := by
  refine F.cal scShorter (fun vs H Q E h => ?_) (fun f cdv A outer s H vs Q E hr h => ?_)
  · obtain ⟨u, v, ss, x, o, rfl, _⟩ := h
    rfl
  · obtain ⟨u, v, ss, x, o, rfl, ⟨a, rfl, ha⟩, ⟨b, rfl, hb⟩, hne, hlt, k⟩ := h
    refine ⟨_, pss_cons (ps_if (PW.pt (pw_and (pt_cmpR op_gt (pe_callB call_len_seq (by rfl) T.len PySem.boot_len (pa_cons (pv 1) pa_nil)) pe_int (nomark _))
        (pw_and1 (pt_cmpR op_lt (pe_at K (pv 0) (pe_at K (pv 1) pe_int)) (pe_at K (pv 0) (pe_at K (pv 1) pe_int)) (nomark _))))) (pss_one (ps_ret (pe_at K (pv 1) pe_int))) pss_nil)
      (pss_one (ps_ret (pe_at K (pv 1) pe_int))), ?_⟩
    refine ⟨_, rfl, _, _, rfl, .inr (SqT.of hb), _, _, rfl, rfl, _, rfl, ?_⟩
    rw [natsI_len]
    match o, hne, hlt, k, hb with
    | [a0], _, hlt, k, hb =>
      refine iteN (by show ¬ ((1 : Int) < ((1 : Nat) : Int)); decide) ?_
      exact ⟨_, rfl, _, _, _, _, rfl, rfl, SqT.of hb, rfl, k⟩
    | a0 :: b0 :: t, _, hlt, k, hb =>
      refine iteY (by simp only [List.length_cons]; omega) ?_
      refine ⟨_, rfl, _, rfl, _, _, _, _, rfl, rfl, SqT.of hb, at_nat (j := 1) (natsI_get rfl), _, _, _, _, rfl, rfl, SqT.of ha, at_nat (gx_at (hlt b0 (by simp))), ?_⟩
      refine ⟨_, rfl, _, rfl, _, _, _, _, rfl, rfl, SqT.of hb, at_nat (j := 0) (natsI_get rfl), _, _, _, _, rfl, rfl, SqT.of ha, at_nat (gx_at (hlt a0 (by simp))), _, _, rfl, rfl, _, rfl, iteD (fun h => ?_) (fun h => ?_)⟩
      · rw [sent_two2, if_pos h] at k
        exact ⟨_, rfl, _, _, _, _, rfl, rfl, SqT.of hb, at_nat (j := 1) (natsI_get rfl), k⟩
      · rw [sent_two2, if_neg h] at k
        exact ⟨_, rfl, _, _, _, _, rfl, rfl, SqT.of hb, at_nat (j := 0) (natsI_get rfl), k⟩
theorem scShortest : FnScope ["lines", "order", "fewest", "k"] ["lines", "order"] (defScope (topS 15)) := ⟨rfl, rfl, rfl, by decide +kernel, rfl, by decide +kernel, by decide +kernel⟩
def spShortest : Sp := fun vs H Q _ => ∃ (u v : V) (ss : List SL.Srv) (x : List Int) (o : List Nat), vs = [u, v] ∧ IntsT H u x ∧ IntsT H v (natsI o) ∧ 1 ≤ x.length ∧ x.length ≤ 6 ∧ SL.Ord x.length o ∧ ∀ H', Same H H' → Q (.int (SL.sent ss .least x o : Nat)) H'
theorem c_shortest (F : Fn K mg "shortest" (topS 15) ["lines", "order"]) (T : Txt mg) : Cal P w K mg base 1 "shortest" ["lines", "order"] spShortest := by
  refine F.cal scShortest (fun vs H Q E h => ?_) (fun f cdv A outer s H vs Q E hr h => ?_)
  · obtain ⟨u, v, ss, x, o, rfl, _⟩ := h
    rfl
  · obtain ⟨u, v, ss, x, o, rfl, ⟨a, rfl, ha⟩, ⟨b, rfl, hb⟩, h1, h6, hO, k⟩ := h
    refine ⟨_, pss_cons (ps_set (i := 2) scShortest.nd rfl (Or.inr rfl) (pe_callB (cr_minT rfl hr.units) (by rfl) T.min (by decide +kernel) (pa_cons (pv 0) pa_nil)))
      (pss_one (ps_ret (pe_atL K (pe_lc (own := [("k", 3)]) (g := gName 3) rfl scShortest.nd (pi_tup (pv 1)) (blkOk_by (N := ["lines", "order", "fewest", "k"]) (sc := defScope (topS 15)) (by decide +kernel))
          (fun _ _ _ _ _ => pg_name (i := 3) scShortest.nd rfl (Or.inl rfl)) (fun _ _ _ _ _ => pts_one (pt_cmpR op_eq (pe_at K (pv 0) (pv 3)) (pv 2) (nomark _)))
          (fun _ _ _ _ _ => pv 3)) pe_int))), ?_⟩
    refine ⟨_, rfl, _, _, rfl, SqT.of ha, by omega, fun m hm hle => ?_⟩
    refine ⟨_, rfl, b, rfl, ⟨_, SqT.of hb⟩, fun D hD => ?_⟩
    refine lc_tup (K := K) (a := b) (xs := (natsI o).map V.int) (fun i H' => Same H H' ∧ H' D = some (.lst ((natsI ((o.take i).filter fun k => decide (SL.gx x k = m))).map V.int))) ⟨same_upd hD, upd_same⟩ (fun i H' _ hP => SqT.of (hP.1 _ _ hb)) ?_ ?_
    · rintro i y H' hy ⟨S, hl⟩
      obtain ⟨j, hj, rfl⟩ := natsI_at hy
      have hjl : j < x.length := hO.lt j (List.mem_of_getElem? hj)
      have e0 : (o.take (i + 1)).filter (fun k => decide (SL.gx x k = m)) = (o.take i).filter (fun k => decide (SL.gx x k = m)) ++ (if SL.gx x j = m then [j] else []) := by
        rw [List.take_add_one, hj, List.filter_append]
        congr 1
        by_cases e : SL.gx x j = m
        · rw [if_pos e]
          show List.filter _ [j] = [j]
          rw [List.filter_cons_of_pos (p := fun k => decide (SL.gx x k = m)) (show decide (SL.gx x j = m) = true from decide_eq_true e)]
          rfl
        · rw [if_neg e]
          show List.filter _ [j] = []
          rw [List.filter_cons_of_neg (by rw [decide_eq_true_eq]; exact e)]
          rfl
      refine ⟨rfl, _, rfl, _, rfl, _, _, _, _, rfl, rfl, SqT.of (S _ _ ha), at_nat (gx_at hjl), _, rfl, rfl, _, rfl, iteD (fun e => ?_) (fun e => ?_)⟩
      · injection e with e
        refine ⟨_, rfl, _, hl, ?_, same_mut S hD, ?_⟩
        · rw [natsI_len]
          have h2 := List.length_filter_le (fun k => decide (SL.gx x k = m)) (o.take i)
          have h3 : (o.take i).length ≤ o.length := by rw [List.length_take]; omega
          have h4 := hO.len
          exact small1000 (by omega)
        · rw [upd_same, e0, if_pos e]
          unfold natsI
          rw [List.map_append, List.map_append]
          rfl
      · have e' : ¬ SL.gx x j = m := fun z => e (by rw [z])
        refine ⟨S, ?_⟩
        rw [e0, if_neg e', List.append_nil]
        exact hl
    · rintro H' ⟨S, hl⟩
      rw [natsI_len, List.take_length] at hl
      have hne : o ≠ [] := by
        intro z
        have := hO.len
        rw [z] at this
        simp at this
        omega
      match o, hne, hO, hl, k with
      | a0 :: t, _, hO, hl, k =>
        have e1 := first_min ss x m t a0 (fun j hj => hle _ (SL.gx_mem (hO.lt j hj))) (by
          obtain ⟨j, hj, e⟩ := SL.mem_gx hm
          exact ⟨j, hO.all j hj, e⟩)
        refine ⟨_, _, _, _, rfl, rfl, SqL.of hl, at_nat (j := 0) (natsI_get e1), ?_⟩
        exact k H' S
theorem scQuickest : FnScope ["hall", "lines", "order", "found", "k", "one"] ["hall", "lines", "order"] (defScope (topS 16)) := ⟨rfl, rfl, rfl, by decide +kernel, rfl, by decide +kernel, by decide +kernel⟩
def spQuickest : Sp := fun vs H Q _ => ∃ (z u v : V) (ss : List SL.Srv) (x : List Int) (o : List Nat), vs = [z, u, v] ∧ HallT H z ss ∧ IntsT H u x ∧ IntsT H v (natsI o) ∧ SL.Hok ss ∧ SL.OkL ss x ∧ SL.Ord ss.length o ∧ ∀ H', Same H H' → Q (.int (SL.sent ss .quick x o : Nat)) H'
theorem c_quickest (F : Fn K mg "quickest" (topS 16) ["hall", "lines", "order"]) (T : Txt mg) (CD : Cal P w K mg base 3 "divided" ["one", "other"] spDivided) (CL : Cal P w K mg base 1 "is_less" ["one", "other"] spIsLess) : Cal P w K mg base 4 "quickest" ["hall", "lines", "order"] spQuickest := by
  refine F.cal scQuickest (fun vs H Q E h => ?_) (fun f cdv A outer s H vs Q E hr h => ?_)
  · obtain ⟨z, u, v, ss, x, o, rfl, _⟩ := h
    rfl
  · obtain ⟨z, u, v, ss, x, o, rfl, hh, ⟨a, rfl, ha⟩, ⟨b, rfl, hb⟩, hk, hx, hO, k⟩ := h
    obtain ⟨ah, c, sv, rfl, hah, hsv⟩ := id hh
    have hr1 : Room 1 _ := hr.mono (by decide)
    refine ⟨_, pss_cons (ps_set (i := 3) scQuickest.nd rfl (Or.inl rfl) (pe_at K (pv 2) pe_int))
      (pss_cons (ps_for PassesOwn.never rfl (pi_tup (pe_slice sl_tupA (pv 2) (po_some pe_int) po_none)) (pg_name (i := 4) scQuickest.nd rfl (Or.inl rfl))
        (pss_cons (ps_set (i := 5) scQuickest.nd rfl (Or.inl rfl) (pe_cal CD hr rfl (pa_cons (pe_tup (pa_cons (pe_op op_add (pe_at K (pv 1) (pv 4)) pe_int) (pa_cons pe_int pa_nil)))
            (pa_cons (pe_at K (pe_at K (pe_at K (pv 0) pe_int) (pv 4)) pe_int) pa_nil))))
        (pss_one (ps_if (pt_val (pe_cal CL hr1 rfl (pa_cons (pv 5) (pa_cons (pe_cal CD hr rfl (pa_cons (pe_tup (pa_cons (pe_op op_add (pe_at K (pv 1) (pv 3)) pe_int) (pa_cons pe_int pa_nil)))
            (pa_cons (pe_at K (pe_at K (pe_at K (pv 0) pe_int) (pv 3)) pe_int) pa_nil))) pa_nil)))) (pss_one (ps_set (i := 3) scQuickest.nd rfl (Or.inl rfl) (pv 4))) pss_nil))))
      (pss_one (ps_ret (pv 3)))), ?_⟩
    have hne : o ≠ [] := by
      intro z
      have h1 := hO.len
      have h2 := hk.n1
      rw [z] at h1
      simp at h1
      omega
    match o, hne, hO, hb, k with
    | a0 :: t, _, hO, hb, k =>
      refine ⟨_, rfl, _, _, _, _, rfl, rfl, SqT.of hb, at_nat (j := 0) (natsI_get rfl), ?_⟩
      refine ⟨_, rfl, _, rfl, b, _, rfl, SqT.of hb, fun z => absurd z (not_whole1 (by simp [natsI]) none), fun _ p hp => ?_⟩
      rw [cut_from1]
      refine ⟨p, rfl, ⟨_, SqT.of upd_same⟩, ?_⟩
      have hdrop : ((natsI (a0 :: t)).map V.int).drop 1 = (natsI t).map V.int := rfl
      rw [hdrop]
      have S0 := same_upd (o := .tup ((natsI t).map V.int)) hp
      refine for_tup (K := K) (a := p) (xs := (natsI t).map V.int) (fun i σ H' => ∃ (fd : Nat) (v4 v5 : Option V), σ = [some (.ref ah), some (.ref a), some (.ref b), some (.int (fd : Int)), v4, v5] ∧ Same (upd H p (.tup ((natsI t).map V.int))) H' ∧ fd = (t.take i).foldl (SL.pick ss .quick x) a0 ∧ fd < ss.length)
        ⟨a0, none, none, rfl, Same.refl _, rfl, hO.lt a0 (List.mem_cons_self ..)⟩ ?_ ?_ ?_
      · rintro i σ H' _ ⟨fd, v4, v5, rfl, S, _⟩
        exact SqT.of (S _ _ upd_same)
      · rintro i y σ H' hy ⟨fd, v4, v5, rfl, S, hfd, hlt⟩
        obtain ⟨j, hj, rfl⟩ := natsI_at hy
        have hjl : j < ss.length := hO.lt j (List.mem_cons_of_mem _ (List.mem_of_getElem? hj))
        have S1 : Same H H' := S0.trans S
        have hxl := hx.1
        have bj := hk.sv _ (SL.gs_mem hjl)
        have bf := hk.sv _ (SL.gs_mem hlt)
        have lj := hx.2 j hjl
        have lf := hx.2 fd hlt
        unfold SL.room at lj lf
        -- one = divided((lines[k] + 1, 1), hall[1][k][0])
        refine ⟨_, rfl, _, rfl, _, _, _, _, rfl, rfl, SqT.of (S1 _ _ ha), at_nat (gx_at (by omega)), _, _, rfl, rfl, (by show 2 ≤ sizeLine; decide), fun q hq => ?_⟩
        have S2 : Same H (upd H' q (.tup [V.int (SL.gx x j + 1), V.int 1])) := S1.trans (same_upd hq)
        obtain ⟨sa, svs, sj, rfl, hsa, hsj, asj, fj, rfl, hasj, hfj⟩ := hsv.at_ hjl
        refine ⟨_, rfl, _, _, _, _, rfl, rfl, SqT.of (S2 _ _ hah), rfl, _, rfl, _, _, _, _, rfl, rfl, SqT.of (S2 _ _ hsa), at_nat hsj, _, _, _, _, rfl, rfl, SqT.of (S2 _ _ hasj), rfl, ?_⟩
        refine ⟨_, _, (SL.gx x j + 1, 1), (SL.gs ss j).1, rfl, ⟨q, rfl, upd_same⟩, hfj.keep (Same.ts S2), ⟨by show (0 : Int) < SL.gx x j + 1; omega, by show SL.gx x j + 1 ≤ (2000 : Int); omega⟩, rfl, ⟨by omega, by omega⟩, ⟨by omega, by omega⟩, fun v' H3 r g S3 hr3 hg e1 e2 => ?_⟩
        have S4 : Same H H3 := S2.trans S3
        have b1 : 0 < r.1 ∧ r.1 ≤ 1000000000 := by
          have h0 : 0 < (SL.gx x j + 1) * (SL.gs ss j).1.2 := Int.mul_pos (by omega) (by omega)
          have h1 : (SL.gx x j + 1) * (SL.gs ss j).1.2 ≤ 2000 * 1000 := Int.mul_le_mul (by omega) (by omega) (by omega) (by omega)
          have h2 : r.1 * g = (SL.gx x j + 1) * (SL.gs ss j).1.2 := e1
          have h3 : 0 < r.1 := by
            rcases Int.lt_or_le 0 r.1 with z | z
            · exact z
            · have := Int.mul_nonpos_of_nonpos_of_nonneg z (Int.le_of_lt hg)
              omega
          refine ⟨h3, ?_⟩
          have h4 : r.1 * 1 ≤ r.1 * g := Int.mul_le_mul_of_nonneg_left (by omega) (by omega)
          omega
        -- is_less(one, divided((lines[found] + 1, 1), hall[1][found][0]))
        refine ⟨_, rfl, _, rfl, _, rfl, _, _, _, _, rfl, rfl, SqT.of (S4 _ _ ha), at_nat (gx_at (by omega)), _, _, rfl, rfl, (by show 2 ≤ sizeLine; decide), fun q2 hq2 => ?_⟩
        have S5 : Same H3 (upd H3 q2 (.tup [V.int (SL.gx x fd + 1), V.int 1])) := same_upd hq2
        have S6 := S4.trans S5
        obtain ⟨sa', svs', sf, ea, hsa', hsf, asf, ff, rfl, hasf, hff⟩ := hsv.at_ hlt
        cases ea
        refine ⟨_, rfl, _, _, _, _, rfl, rfl, SqT.of (S6 _ _ hah), rfl, _, rfl, _, _, _, _, rfl, rfl, SqT.of (S6 _ _ hsa'), at_nat hsf, _, _, _, _, rfl, rfl, SqT.of (S6 _ _ hasf), rfl, ?_⟩
        refine ⟨_, _, (SL.gx x fd + 1, 1), (SL.gs ss fd).1, rfl, ⟨q2, rfl, upd_same⟩, hff.keep (Same.ts S6), ⟨by show (0 : Int) < SL.gx x fd + 1; omega, by show SL.gx x fd + 1 ≤ (2000 : Int); omega⟩, rfl, ⟨by omega, by omega⟩, ⟨by omega, by omega⟩, fun v2 H4 r2 g2 S7 hr4 hg2 e3 e4 => ?_⟩
        have b2 : 0 < r2.1 ∧ r2.1 ≤ 1000000000 := by
          have h0 : 0 < (SL.gx x fd + 1) * (SL.gs ss fd).1.2 := Int.mul_pos (by omega) (by omega)
          have h1 : (SL.gx x fd + 1) * (SL.gs ss fd).1.2 ≤ 2000 * 1000 := Int.mul_le_mul (by omega) (by omega) (by omega) (by omega)
          have h2 : r2.1 * g2 = (SL.gx x fd + 1) * (SL.gs ss fd).1.2 := e3
          have h3 : 0 < r2.1 := by
            rcases Int.lt_or_le 0 r2.1 with z | z
            · exact z
            · have := Int.mul_nonpos_of_nonpos_of_nonneg z (Int.le_of_lt hg2)
              omega
          refine ⟨h3, ?_⟩
          have h4 : r2.1 * 1 ≤ r2.1 * g2 := Int.mul_le_mul_of_nonneg_left (by omega) (by omega)
          omega
        have S8 := S6.trans S7
        refine ⟨_, _, r, r2, rfl, hr3.keep (Same.ts (S5.trans S7)), hr4, b1, b2, _, rfl, ?_⟩
        have SS : Same (upd H p (.tup ((natsI t).map V.int))) H4 := ((S.trans (same_upd hq)).trans S3).trans (S5.trans S7)
        have e9 : (t.take (i + 1)).foldl (SL.pick ss .quick x) a0 = SL.pick ss .quick x fd j := by
          rw [List.take_add_one, hj, List.foldl_append, ← hfd]
          rfl
        have eb : decide (r.1 * r2.2 < r2.1 * r.2) = SL.better ss .quick x j fd := less_frac (p := r) (q := r2) hg hg2 (by omega) e1 e2 e3 e4
        rw [eb]
        refine iteB (fun hb1 => ?_) (fun hb1 => ?_)
        · have e10 : SL.pick ss .quick x fd j = j := by
            unfold SL.pick
            rw [if_pos hb1]
          exact ⟨_, rfl, j, _, _, rfl, SS, by rw [e9, e10], hjl⟩
        · have e10 : SL.pick ss .quick x fd j = fd := by
            unfold SL.pick
            rw [if_neg (by rw [hb1]; decide)]
          exact ⟨fd, _, _, rfl, SS, by rw [e9, e10], hlt⟩
      · rintro σ H' ⟨fd, v4, v5, rfl, S, hfd, hlt⟩
        rw [show ((natsI t).map V.int).length = t.length from natsI_len t, List.take_length] at hfd
        refine ⟨_, rfl, ?_⟩
        have := k H' (S0.trans S)
        rw [hfd]
        exact this
end
end SLW
/-! Part SLSent. -/
set_option Elab.async false
set_option linter.all false
set_option maxRecDepth 100000
set_option maxHeartbeats 4000000
/-! sent_to, and the law's own _law_sent. -/
namespace SLW
open PySem PySem.Spec PyProof.Rows L2 SLR
section
variable {P : Program} {w : World} {K : PySem.W.Frag} {mg : Str → Option Value} {base : Heap}
def spSentTo : Sp := fun vs H Q _ => ∃ (z rv st u : V) (ss : List SL.Srv) (r : SL.Rl) (x : List Int) (o : List Nat), vs = [z, rv, st, u] ∧ HallT H z ss ∧ RuleT H rv r ∧ StandT H st x ∧ IntsT H u (natsI o) ∧ SL.Hok ss ∧ SL.OkL ss x ∧ SL.Ord ss.length o ∧
  ∀ H', Same H H' → Q (.int (SL.sent ss r x o : Nat)) H'
theorem scSentTo : FnScope ["hall", "rule", "stand", "order", "lines", "turn"] ["hall", "rule", "stand", "order"] (defScope (topS 17)) := ⟨rfl, rfl, rfl, by decide +kernel, rfl, by decide +kernel, by decide +kernel⟩
/-- which of two written texts: told apart -/
theorem w_rt : ¬ V.str "random" = V.str "two" := by decide +kernel
theorem ord_head {n : Nat} {o : List Nat} (h1 : 1 ≤ n) (hO : SL.Ord n o) : ∃ a t, o = a :: t := by
  cases o with
  | nil =>
    have := hO.len
    simp at this
    omega
  | cons a t => exact ⟨a, t, rfl⟩
theorem c_sentTo (F : Fn K mg "sent_to" (topS 17) ["hall", "rule", "stand", "order"]) (T : Txt mg) (C1 : Cal P w K mg base 1 "shorter" ["lines", "order"] spShorter) (C2 : Cal P w K mg base 1 "shortest" ["lines", "order"] spShortest)
    (C3 : Cal P w K mg base 4 "quickest" ["hall", "lines", "order"] spQuickest) : Cal P w K mg base 5 "sent_to" ["hall", "rule", "stand", "order"] spSentTo := by
  refine F.cal scSentTo (fun vs H Q E h => ?_) (fun f cdv A outer s H vs Q E hr h => ?_)
  · obtain ⟨z, rv, st, u, ss, r, x, o, rfl, _⟩ := h
    rfl
  · obtain ⟨z, rv, st, u, ss, r, x, o, rfl, hh, ⟨ra, rfl, hra⟩, ⟨sa, l, rfl, hsa, hl⟩, ho, hk, hx, hO, k⟩ := h
    have hr1 : Room 1 _ := hr.mono (by decide)
    refine ⟨_, pss_cons (ps_asg (pv 2) (pg_tup rfl (pgs_cons (pg_name (i := 4) scSentTo.nd rfl (.inl rfl)) (pgs_cons (pg_name (i := 5) scSentTo.nd rfl (.inl rfl)) pgs_nil))))
      (pss_cons (ps_if (pt_cmpR op_eq (pe_at K (pv 1) pe_int) pe_str (nomark _)) (pss_one (ps_ret (pe_at K (pv 3) pe_int))) pss_nil)
      (pss_cons (ps_if (pt_cmpR op_eq (pe_at K (pv 1) pe_int) pe_str (nomark _)) (pss_one ps_never) pss_nil)
      (pss_cons (ps_if (pt_cmpR op_eq (pe_at K (pv 1) pe_int) pe_str (nomark _)) (pss_one (ps_ret (pe_cal C1 hr1 rfl (pa_cons (pv 4) (pa_cons (pv 3) pa_nil))))) pss_nil)
      (pss_cons (ps_if (pt_cmpR op_eq (pe_at K (pv 1) pe_int) pe_str (nomark _)) (pss_one (ps_ret (pe_cal C2 hr1 rfl (pa_cons (pv 4) (pa_cons (pv 3) pa_nil))))) pss_nil)
      (pss_cons (ps_if (pt_cmpR op_eq (pe_at K (pv 1) pe_int) pe_str (nomark _)) (pss_one (ps_ret (pe_cal C3 hr rfl (pa_cons (pv 0) (pa_cons (pv 4) (pa_cons (pv 3) pa_nil)))))) pss_nil)
      (pss_one ps_never)))))), ?_⟩
    refine ⟨_, rfl, sa, _, rfl, SqT.of hsa, rfl, _, _, rfl, _, _, rfl, rfl, ?_⟩
    have hne : o ≠ [] := by
      obtain ⟨a, t, e⟩ := ord_head hk.n1 hO
      rw [e]
      exact List.cons_ne_nil _ _
    refine ⟨_, rfl, _, _, _, _, rfl, rfl, SqT.of hra, rfl, rfl, _, rfl, ?_⟩
    cases r with
    | random =>
      refine iteY rfl ?_
      obtain ⟨oa, rfl, hoa⟩ := ho
      obtain ⟨a, t, rfl⟩ := ord_head hk.n1 hO
      exact ⟨_, rfl, _, _, _, _, rfl, rfl, SqT.of hoa, at_nat (j := 0) (natsI_get rfl), k H (Same.refl _)⟩
    | two =>
      refine iteN (by decide +kernel) ?_
      refine ⟨_, rfl, _, _, _, _, rfl, rfl, SqT.of hra, rfl, rfl, _, rfl, iteN (by decide +kernel) ?_⟩
      refine ⟨_, rfl, _, _, _, _, rfl, rfl, SqT.of hra, rfl, rfl, _, rfl, iteY rfl ?_⟩
      exact ⟨_, rfl, _, rfl, _, _, ss, x, o, rfl, hl, ho, hne, (fun j hj => by rw [hx.1]; exact hO.lt j hj), k H (Same.refl _)⟩
    | least =>
      refine iteN (by decide +kernel) ?_
      refine ⟨_, rfl, _, _, _, _, rfl, rfl, SqT.of hra, rfl, rfl, _, rfl, iteN (by decide +kernel) ?_⟩
      refine ⟨_, rfl, _, _, _, _, rfl, rfl, SqT.of hra, rfl, rfl, _, rfl, iteN (by decide +kernel) ?_⟩
      refine ⟨_, rfl, _, _, _, _, rfl, rfl, SqT.of hra, rfl, rfl, _, rfl, iteY rfl ?_⟩
      have h1 := hk.n1
      have h3 := hk.n3
      have h4 := hx.1
      exact ⟨_, rfl, _, rfl, _, _, ss, x, o, rfl, hl, ho, by omega, by omega, by rw [h4]; exact hO, k⟩
    | quick =>
      refine iteN (by decide +kernel) ?_
      refine ⟨_, rfl, _, _, _, _, rfl, rfl, SqT.of hra, rfl, rfl, _, rfl, iteN (by decide +kernel) ?_⟩
      refine ⟨_, rfl, _, _, _, _, rfl, rfl, SqT.of hra, rfl, rfl, _, rfl, iteN (by decide +kernel) ?_⟩
      refine ⟨_, rfl, _, _, _, _, rfl, rfl, SqT.of hra, rfl, rfl, _, rfl, iteN (by decide +kernel) ?_⟩
      refine ⟨_, rfl, _, _, _, _, rfl, rfl, SqT.of hra, rfl, rfl, _, rfl, iteY rfl ?_⟩
      exact ⟨_, rfl, _, rfl, _, rfl, _, _, _, ss, x, o, rfl, hh, hl, ho, hk, hx, hO, k⟩
def spLSent : Sp := fun vs H Q _ => ∃ (z rv l u : V) (ss : List SL.Srv) (r : SL.Rl) (x : List Int) (o : List Nat), vs = [z, rv, l, u] ∧ HallT H z ss ∧ RuleT H rv r ∧ IntsT H l x ∧ IntsT H u (natsI o) ∧ SL.Hok ss ∧ SL.OkL ss x ∧ SL.Ord ss.length o ∧
  ∀ H', Same H H' → Q (.int (SL.sent ss r x o : Nat)) H'
abbrev nLSent : List Str := ["_law_hall_here", "_law_rule", "_law_lines", "_law_order_here", "_law_found", "_law_rest", "_law_k", "_law_one", "_law_other", "_law_mine", "_law_theirs"]
theorem scLSent : FnScope nLSent ["_law_hall_here", "_law_rule", "_law_lines", "_law_order_here"] (defScope (topS 46)) := ⟨rfl, rfl, rfl, by decide +kernel, rfl, by decide +kernel, by decide +kernel⟩
theorem c_lSent (F : Fn K mg "_law_sent" (topS 46) ["_law_hall_here", "_law_rule", "_law_lines", "_law_order_here"]) (T : Txt mg) : Cal P w K mg base 1 "_law_sent" ["_law_hall_here", "_law_rule", "_law_lines", "_law_order_here"] spLSent := by
  refine F.cal scLSent (fun vs H Q E h => ?_) (fun f cdv A outer s H vs Q E hr h => ?_)
  · obtain ⟨z, rv, l, u, ss, r, x, o, rfl, _⟩ := h
    rfl
  · obtain ⟨z, rv, l, u, ss, r, x, o, rfl, hh, ⟨ra, rfl, hra⟩, ⟨la, rfl, hla⟩, ⟨oa, rfl, hoa⟩, hk, hx, hO, k⟩ := h
    obtain ⟨ah, c, sv, rfl, hah, hsv⟩ := id hh
    refine ⟨_, pss_cons (ps_if (pt_cmpR op_eq (pe_at K (pv 1) pe_int) pe_str (nomark _)) (pss_one (ps_ret (pe_at K (pv 3) pe_int))) pss_nil)
      (pss_cons (ps_if (pt_cmpR op_eq (pe_at K (pv 1) pe_int) pe_str (nomark _)) pss_never pss_nil)
      (pss_cons (ps_set (i := 4) scLSent.nd rfl (.inl rfl) (pe_at K (pv 3) pe_int))
      (pss_cons (ps_set (i := 5) scLSent.nd rfl (.inl rfl) (pe_ifExp (pt_cmpR op_eq (pe_at K (pv 1) pe_int) pe_str (nomark _)) (pe_slice sl_tupA (pv 3) (po_some pe_int) (po_some pe_int)) (pe_slice sl_tupA (pv 3) (po_some pe_int) po_none)))
      (pss_cons (ps_for PassesOwn.never rfl (pi_tup (pv 5)) (pg_name (i := 6) scLSent.nd rfl (.inl rfl))
        (pss_cons (ps_par (i := 7) (j := 8) rfl scLSent.nd rfl rfl (by decide) rfl rfl (pa_cons (pe_at K (pv 2) (pv 6)) (pa_cons (pe_at K (pv 2) (pv 4)) pa_nil)) (by rfl))
        (pss_cons (ps_if (pt_cmpR op_eq (pe_at K (pv 1) pe_int) pe_str (nomark _))
            (pss_cons (ps_par (i := 9) (j := 10) rfl scLSent.nd rfl rfl (by decide) rfl rfl (pa_cons (pe_at K (pe_at K (pe_at K (pv 0) pe_int) (pv 6)) pe_int) (pa_cons (pe_at K (pe_at K (pe_at K (pv 0) pe_int) (pv 4)) pe_int) pa_nil)) (by rfl))
            (pss_cons (ps_set (i := 7) scLSent.nd rfl (.inl rfl) (pe_op op_mul (pe_op op_mul (pe_op op_add (pv 7) pe_int) (pe_at K (pv 9) pe_int)) (pe_at K (pv 10) pe_int)))
            (pss_one (ps_set (i := 8) scLSent.nd rfl (.inl rfl) (pe_op op_mul (pe_op op_mul (pe_op op_add (pv 8) pe_int) (pe_at K (pv 10) pe_int)) (pe_at K (pv 9) pe_int)))))) pss_nil)
        (pss_one (ps_if (pt_cmpR op_lt (pv 7) (pv 8) (nomark _)) (pss_one (ps_set (i := 4) scLSent.nd rfl (.inl rfl) (pv 6))) pss_nil)))))
      (pss_one (ps_ret (pv 4))))))), ?_⟩
    obtain ⟨a0, t, rfl⟩ := ord_head hk.n1 hO
    have hlt0 : a0 < ss.length := hO.lt a0 (List.mem_cons_self ..)
    have hne : ((natsI (a0 :: t)).map V.int) ≠ [] := by
      unfold natsI
      rw [List.map_cons, List.map_cons]
      exact List.cons_ne_nil _ _
    refine ⟨_, rfl, _, _, _, _, rfl, rfl, SqT.of hra, rfl, rfl, _, rfl, ?_⟩
    -- the loop, for any rest
    have loop : ∀ (H1 : Hp) (p : Addr) (rs : List Nat), Same H H1 → H1 p = some (.tup ((natsI rs).map V.int)) → rs = SL.rest r (a0 :: t) → r ≠ .random →
        ∀ (D : Ends) (v6 v7 v8 v9 v10 : Option V), (∀ H', Same H H' → D.rt (.int (SL.sent ss r x (a0 :: t) : Nat)) H') → 
        (tSeq (tFor (iTup K (tVar 5)) (gName 6) (tSeq (tPar 7 8 (tCons (tOp (rIxT K) (tVar 2) (tVar 6)) (tCons (tOp (rIxT K) (tVar 2) (tVar 4)) tNil)))
          (tSeq (tIfS (tTest (tOp rEq (tOp (rIxT K) (tVar 1) (tC (.int 0))) (tC (.str "quick"))))
            (tSeq (tPar 9 10 (tCons (tOp (rIxT K) (tOp (rIxT K) (tOp (rIxT K) (tVar 0) (tC (.int 1))) (tVar 6)) (tC (.int 0))) (tCons (tOp (rIxT K) (tOp (rIxT K) (tOp (rIxT K) (tVar 0) (tC (.int 1))) (tVar 4)) (tC (.int 0))) tNil)))
            (tSeq (tAsg (tOp (rI CMul fun i j => .int (i * j)) (tOp (rI CMul fun i j => .int (i * j)) (tOp (rI0 fun i j => .int (i + j)) (tVar 7) (tC (.int 1))) (tOp (rIxT K) (tVar 9) (tC (.int 1)))) (tOp (rIxT K) (tVar 10) (tC (.int 0)))) (gName 7))
              (tAsg (tOp (rI CMul fun i j => .int (i * j)) (tOp (rI CMul fun i j => .int (i * j)) (tOp (rI0 fun i j => .int (i + j)) (tVar 8) (tC (.int 1))) (tOp (rIxT K) (tVar 10) (tC (.int 1)))) (tOp (rIxT K) (tVar 9) (tC (.int 0)))) (gName 8)))) tNext)
            (tIfS (tTest (tOp (rI0 fun i j => .bl (decide (i < j))) (tVar 7) (tVar 8))) (tAsg (tVar 6) (gName 4)) tNext)))) (tRet (tVar 4)))
          D [some (.ref ah), some (.ref ra), some (.ref la), some (.ref oa), some (.int (a0 : Int)), some (.ref p), v6, v7, v8, v9, v10] H1 := by
      intro H1 p rs S0 hp hrs hnr D v6 v7 v8 v9 v10 kk
      have hsub : ∀ j ∈ rs, j < ss.length := fun j hj => hO.lt j (SL.rest_sub r _ j (by rw [← hrs]; exact hj))
      refine ⟨_, rfl, p, rfl, ⟨_, SqT.of hp⟩, ?_⟩
      refine for_tup (K := K) (a := p) (xs := (natsI rs).map V.int) (fun i σ H' => ∃ (fd : Nat) (v6 v7 v8 v9 v10 : Option V), σ = [some (.ref ah), some (.ref ra), some (.ref la), some (.ref oa), some (.int (fd : Int)), some (.ref p), v6, v7, v8, v9, v10] ∧ Same H1 H' ∧ fd = (rs.take i).foldl (SL.pick ss r x) a0 ∧ fd < ss.length)
        ⟨a0, _, _, _, _, _, rfl, Same.refl _, rfl, hlt0⟩ ?_ ?_ ?_
      · rintro i σ H' _ ⟨fd, _, _, _, _, _, rfl, S, _⟩
        exact SqT.of (S _ _ hp)
      · rintro i y σ H' hy ⟨fd, v6, v7, v8, v9, v10, rfl, S, hfd, hlt⟩
        obtain ⟨j, hj, rfl⟩ := natsI_at hy
        have hjl : j < ss.length := hsub j (List.mem_of_getElem? hj)
        have S1 : Same H H' := S0.trans S
        have hxl := hx.1
        have e9 : (rs.take (i + 1)).foldl (SL.pick ss r x) a0 = SL.pick ss r x fd j := by
          rw [List.take_add_one, hj, List.foldl_append, ← hfd]
          rfl
        have bj := hk.sv _ (SL.gs_mem hjl)
        have bf := hk.sv _ (SL.gs_mem hlt)
        have lj := hx.2 j hjl
        have lf := hx.2 fd hlt
        unfold SL.room at lj lf
        have fin : ∀ (b : Bool) (σ' : L2.St), b = SL.better ss r x j fd → σ' = [some (.ref ah), some (.ref ra), some (.ref la), some (.ref oa), some (.int (fd : Int)), some (.ref p), some (.int (j : Int)), σ'.getD 7 none, σ'.getD 8 none, σ'.getD 9 none, σ'.getD 10 none] →
            if b = true then (tAsg (tVar 6) (gName 4)) { D with nx := fun σ H' => ∃ (fd : Nat) (v6 v7 v8 v9 v10 : Option V), σ = [some (.ref ah), some (.ref ra), some (.ref la), some (.ref oa), some (.int (fd : Int)), some (.ref p), v6, v7, v8, v9, v10] ∧ Same H1 H' ∧ fd = (rs.take (i + 1)).foldl (SL.pick ss r x) a0 ∧ fd < ss.length, ct := fun σ H' => ∃ (fd : Nat) (v6 v7 v8 v9 v10 : Option V), σ = [some (.ref ah), some (.ref ra), some (.ref la), some (.ref oa), some (.int (fd : Int)), some (.ref p), v6, v7, v8, v9, v10] ∧ Same H1 H' ∧ fd = (rs.take (i + 1)).foldl (SL.pick ss r x) a0 ∧ fd < ss.length, bk := fun σ H' => (tRet (tVar 4)) D σ H' } σ' H'
            else ∃ (fd : Nat) (v6 v7 v8 v9 v10 : Option V), σ' = [some (.ref ah), some (.ref ra), some (.ref la), some (.ref oa), some (.int (fd : Int)), some (.ref p), v6, v7, v8, v9, v10] ∧ Same H1 H' ∧ fd = (rs.take (i + 1)).foldl (SL.pick ss r x) a0 ∧ fd < ss.length := by
          intro b σ' eb es
          rw [es]
          refine iteB (fun hb1 => ?_) (fun hb1 => ?_)
          · have e10 : SL.pick ss r x fd j = j := by
              unfold SL.pick
              rw [if_pos (by rw [← eb]; exact hb1)]
            exact ⟨_, rfl, j, _, _, _, _, _, rfl, S, by rw [e9, e10], hjl⟩
          · have e10 : SL.pick ss r x fd j = fd := by
              unfold SL.pick
              rw [if_neg (by rw [← eb, hb1]; decide)]
            exact ⟨fd, _, _, _, _, _, rfl, S, by rw [e9, e10], hlt⟩
        refine ⟨_, rfl, _, rfl, _, _, _, _, rfl, rfl, SqT.of (S1 _ _ hla), at_nat (gx_at (k := j) (by omega)), _, rfl, _, rfl, _, _, _, _, rfl, rfl, SqT.of (S1 _ _ hla), at_nat (gx_at (k := fd) (by omega)), _, _, rfl, ?_⟩
        refine ⟨_, rfl, _, _, _, _, rfl, rfl, SqT.of (S1 _ _ hra), rfl, rfl, _, rfl, ?_⟩
        cases r with
        | random => exact absurd rfl hnr
        | two =>
          refine iteN (by decide +kernel) ?_
          exact ⟨_, rfl, _, rfl, _, _, rfl, rfl, _, rfl, fin _ _ rfl rfl⟩
        | least =>
          refine iteN (by decide +kernel) ?_
          exact ⟨_, rfl, _, rfl, _, _, rfl, rfl, _, rfl, fin _ _ rfl rfl⟩
        | quick =>
          refine iteY rfl ?_
          obtain ⟨sa, svs, sj, rfl, hsa, hsj, asj, fj, rfl, hasj, afj, rfl, hfj⟩ := hsv.at_ hjl
          obtain ⟨sa', svs', sf, ea, hsa', hsf, asf, ff, rfl, hasf, aff, rfl, hff⟩ := hsv.at_ hlt
          cases ea
          refine ⟨_, rfl, _, _, _, _, rfl, rfl, SqT.of (S1 _ _ hah), rfl, _, rfl, _, _, _, _, rfl, rfl, SqT.of (S1 _ _ hsa), at_nat hsj, _, _, _, _, rfl, rfl, SqT.of (S1 _ _ hasj), rfl, ?_⟩
          refine ⟨_, rfl, _, _, _, _, rfl, rfl, SqT.of (S1 _ _ hah), rfl, _, rfl, _, _, _, _, rfl, rfl, SqT.of (S1 _ _ hsa'), at_nat hsf, _, _, _, _, rfl, rfl, SqT.of (S1 _ _ hasf), rfl, _, _, rfl, ?_⟩
          refine ⟨_, rfl, _, _, rfl, rfl, _, rfl, _, _, _, _, rfl, rfl, SqT.of (S1 _ _ hfj), rfl, _, _, rfl, rfl, .inl ⟨by omega, by omega⟩, _, rfl, _, _, _, _, rfl, rfl, SqT.of (S1 _ _ hff), rfl, _, _, rfl, rfl, .inr ⟨by omega, by omega⟩, ?_⟩
          refine ⟨_, rfl, _, _, rfl, rfl, _, rfl, _, _, _, _, rfl, rfl, SqT.of (S1 _ _ hff), rfl, _, _, rfl, rfl, .inl ⟨by omega, by omega⟩, _, rfl, _, _, _, _, rfl, rfl, SqT.of (S1 _ _ hfj), rfl, _, _, rfl, rfl, .inr ⟨by omega, by omega⟩, ?_⟩
          exact ⟨_, rfl, _, rfl, _, _, rfl, rfl, _, rfl, fin _ _ rfl rfl⟩
      · rintro σ H' ⟨fd, _, _, _, _, _, rfl, S, hfd, hlt⟩
        rw [show ((natsI rs).map V.int).length = rs.length from natsI_len rs, List.take_length] at hfd
        refine ⟨_, rfl, ?_⟩
        have e : SL.sent ss r x (a0 :: t) = fd := by
          rw [sent_cons, ← hrs, hfd]
        rw [← e]
        exact kk H' (S0.trans S)
    have cut2 : ∀ p, (upd H p (.tup (cutV ((natsI (a0 :: t)).map V.int) (some 1) (some 2)))) p = some (.tup ((natsI (t.take 1)).map V.int)) := by
      intro p
      rw [upd_same, cut_1to2]
      unfold natsI
      rw [List.map_cons, List.map_cons, List.drop_succ_cons, List.drop_zero, List.map_take, List.map_take]
    have cut1 : ∀ p, (upd H p (.tup (cutV ((natsI (a0 :: t)).map V.int) (some 1) none))) p = some (.tup ((natsI t).map V.int)) := by
      intro p
      rw [upd_same, cut_from1]
      rfl
    cases r with
    | random =>
      refine iteY rfl ?_
      exact ⟨_, rfl, _, _, _, _, rfl, rfl, SqT.of hoa, at_nat (j := 0) (natsI_get rfl), k H (Same.refl _)⟩
    | two =>
      refine iteN (by decide +kernel) ?_
      refine ⟨_, rfl, _, _, _, _, rfl, rfl, SqT.of hra, rfl, rfl, _, rfl, iteN (by decide +kernel) ?_⟩
      refine ⟨_, rfl, _, _, _, _, rfl, rfl, SqT.of hoa, at_nat (j := 0) (natsI_get rfl), ?_⟩
      refine ⟨_, rfl, _, _, _, _, rfl, rfl, SqT.of hra, rfl, rfl, _, rfl, iteY rfl ?_⟩
      refine ⟨_, rfl, _, rfl, _, rfl, oa, _, rfl, SqT.of hoa, fun z => absurd z (not_whole1 hne _), fun _ p hp => ?_⟩
      exact loop _ p (t.take 1) (same_upd hp) (cut2 p) rfl (fun z => nomatch z) _ _ _ _ _ _ k
    | least =>
      refine iteN (by decide +kernel) ?_
      refine ⟨_, rfl, _, _, _, _, rfl, rfl, SqT.of hra, rfl, rfl, _, rfl, iteN (by decide +kernel) ?_⟩
      refine ⟨_, rfl, _, _, _, _, rfl, rfl, SqT.of hoa, at_nat (j := 0) (natsI_get rfl), ?_⟩
      refine ⟨_, rfl, _, _, _, _, rfl, rfl, SqT.of hra, rfl, rfl, _, rfl, iteN (by decide +kernel) ?_⟩
      refine ⟨_, rfl, _, rfl, oa, _, rfl, SqT.of hoa, fun z => absurd z (not_whole1 hne _), fun _ p hp => ?_⟩
      exact loop _ p t (same_upd hp) (cut1 p) rfl (fun z => nomatch z) _ _ _ _ _ _ k
    | quick =>
      refine iteN (by decide +kernel) ?_
      refine ⟨_, rfl, _, _, _, _, rfl, rfl, SqT.of hra, rfl, rfl, _, rfl, iteN (by decide +kernel) ?_⟩
      refine ⟨_, rfl, _, _, _, _, rfl, rfl, SqT.of hoa, at_nat (j := 0) (natsI_get rfl), ?_⟩
      refine ⟨_, rfl, _, _, _, _, rfl, rfl, SqT.of hra, rfl, rfl, _, rfl, iteN (by decide +kernel) ?_⟩
      refine ⟨_, rfl, _, rfl, oa, _, rfl, SqT.of hoa, fun z => absurd z (not_whole1 hne _), fun _ p hp => ?_⟩
      exact loop _ p t (same_upd hp) (cut1 p) rfl (fun z => nomatch z) _ _ _ _ _ _ k
end
end SLW
/-! Part SLMoves. -/
set_option Elab.async false
set_option linter.all false
set_option maxRecDepth 100000
set_option maxHeartbeats 4000000
/-! Moves: lines_with, shifts_of, asked, changed, moved_on; the law's own _law_put, _law_step. -/
namespace SLW
open PySem PySem.Spec PyProof.Rows L2 SLR
theorem pt_never {X : Cx} {e : Expr} : PT X e (fun _ _ _ => False) := ⟨fun _ _ _ _ _ _ h => h.elim⟩
theorem pw_never {X : Cx} {e : Expr} : PW X e (fun _ _ _ => False) := ⟨fun _ _ _ _ _ _ _ h => h.elim⟩
theorem op_catK {X : Cx} (K : PySem.W.Frag) (hK : X.K = K := by rfl) : OpR X (binaryOp .Add) (rCatA K) := by
  subst hK
  exact op_catA
/-- t + u, whatever stands in them -/
theorem cat_go {K : PySem.W.Frag} {H : Hp} {a b : Addr} {xs ys : List V} {Q : VK} (ha : H a = some (.tup xs)) (hb : H b = some (.tup ys)) (hz : xs.length + ys.length ≤ 1000) (k : ∀ p H', Same H H' → H' p = some (.tup (xs ++ ys)) → Q (.ref p) H') :
    rCatA K (.ref a) (.ref b) H Q := by
  refine ⟨a, b, xs, ys, rfl, rfl, SqT.of ha, SqT.of hb, Nat.le_of_lt (small1000 hz), fun e => ?_, fun _ e => ?_, fun _ _ p hp => ?_⟩
  · exact k b H (Same.refl _) (by rw [e, List.nil_append]; exact hb)
  · exact k a H (Same.refl _) (by rw [e, List.append_nil]; exact ha)
  · exact k p _ (same_upd hp) upd_same
/-- t[lo:hi] -/
theorem cut_go {K : PySem.W.Frag} {H : Hp} {a : Addr} {xs : List V} {lo hi : Option Int} {Q : VK} (ha : H a = some (.tup xs)) (k : ∀ p H', Same H H' → H' p = some (.tup (cutV xs lo hi)) → Q (.ref p) H') : rSlA K (.ref a) lo hi H Q := by
  refine ⟨a, xs, rfl, SqT.of ha, fun ⟨e1, e2⟩ => ?_, fun _ p hp => ?_⟩
  · refine k a H (Same.refl _) ?_
    unfold cutV
    rw [e1, e2, List.drop_zero, Nat.sub_zero, List.take_length]
    exact ha
  · exact k p _ (same_upd hp) upd_same
theorem cut_upto (xs : List V) {k : Nat} (h : k ≤ xs.length) : cutV xs none (some (k : Int)) = xs.take k := by
  unfold cutV
  rw [HT.sIx_none, HT.sIx_nat, List.drop_zero, Nat.sub_zero, Nat.min_eq_left h]
theorem cut_from (xs : List V) (k : Nat) : cutV xs (some (k : Int)) none = xs.drop k := by
  unfold cutV
  rw [HT.sIx_none, HT.sIx_nat]
  by_cases h : k ≤ xs.length
  · rw [Nat.min_eq_left h, List.take_of_length_le (by rw [List.length_drop]; exact Nat.le_refl _)]
  · rw [Nat.min_eq_right (by omega), List.drop_of_length_le (Nat.le_refl _), List.drop_of_length_le (by omega)]
    simp
theorem put_parts {x : List Int} {k : Nat} (hk : k < x.length) (m : Int) : (SL.put x k m).map V.int = (x.map V.int).take k ++ [V.int (SL.gx x k + m)] ++ (x.map V.int).drop (k + 1) := by
  unfold SL.put
  rw [List.set_eq_take_append_cons_drop, if_pos hk, List.map_append, List.map_cons, List.map_take, List.map_drop, List.append_assoc]
  rfl
def wdS : SL.Wd → Str
  | .away => "away"
  | .taken => "taken"
  | .served => "served"
  | .non => "none"
/-- a tuple of lines, turn 0, a word -/
def StepT (H : Hp) (v : V) (y : List Int × SL.Wd) : Prop := ∃ p l, v = .ref p ∧ H p = some (.tup [l, .int 0, .str (wdS y.2)]) ∧ IntsT H l y.1
def MovT (H : Hp) (v : V) (y : List Int × SL.Wd) : Prop := ∃ p q l, v = .ref p ∧ H p = some (.tup [.ref q, .str (wdS y.2)]) ∧ H q = some (.tup [l, .int 0]) ∧ IntsT H l y.1
theorem MovT.keep {H H' : Hp} {v : V} {y : List Int × SL.Wd} (t : TS H H') (h : MovT H v y) : MovT H' v y := by
  obtain ⟨p, q, l, e, h1, h2, h3⟩ := h
  exact ⟨p, q, l, e, t _ _ h1, t _ _ h2, h3.keep t⟩
def MvOk (n : Nat) (mv : SL.Mv) : Prop := (∃ o, mv = .come o ∧ SL.Ord n o) ∨ (∃ k, mv = .done k ∧ k < n) ∨ mv = .still
section
variable {P : Program} {w : World} {K : PySem.W.Frag} {mg : Str → Option Value} {base : Heap}
theorem scLinesWith : FnScope ["lines", "k", "many"] ["lines", "k", "many"] (defScope (topS 25)) := ⟨rfl, rfl, rfl, by decide +kernel, rfl, by decide +kernel, by decide +kernel⟩
theorem scLPut : FnScope ["_law_lines", "_law_k", "_law_more"] ["_law_lines", "_law_k", "_law_more"] (defScope (topS 47)) := ⟨rfl, rfl, rfl, by decide +kernel, rfl, by decide +kernel, by decide +kernel⟩
def spLinesWith : Sp := fun vs H Q _ => ∃ (u : V) (x : List Int) (k : Nat) (m : Int), vs = [u, .int (k : Int), .int m] ∧ IntsT H u x ∧ k < x.length ∧ x.length ≤ 100 ∧ ∀ v H', Same H H' → IntsT H' v (SL.put x k m) → Q v H'
theorem lw_read {a : Addr} {x : List Int} {k : Nat} {m : Int} {H : Hp} {Q : VK} (ha : H a = some (.tup (x.map V.int))) (hk : k < x.length) (h9 : x.length ≤ 100) (kk : ∀ v H', Same H H' → IntsT H' v (SL.put x k m) → Q v H') :
    (tOp (rCatA K) (tOp (rCatA K) (tSl (rSlA K) (tVar 0) tNoPart (tPart (tVar 1))) (tTup (tCons (tOp (rI0 fun i j => .int (i + j)) (tOp (rIxT K) (tVar 0) (tVar 1)) (tVar 2)) tNil))) (tSl (rSlA K) (tVar 0) (tPart (tOp (rI0 fun i j => .int (i + j)) (tVar 1) (tC (.int 1)))) tNoPart))
      [some (.ref a), some (.int (k : Int)), some (.int m)] H Q := by
  have hl : (x.map V.int).length = x.length := List.length_map _
  refine ⟨_, rfl, _, rfl, _, rfl, cut_go ha fun p1 H1 S1 h1 => ?_⟩
  rw [cut_upto _ (by omega)] at h1
  refine ⟨_, rfl, _, rfl, _, _, _, _, rfl, rfl, SqT.of (S1 _ _ ha), at_nat (gx_at hk), _, rfl, _, _, rfl, rfl, (by show 1 ≤ sizeLine; decide), fun p2 hp2 => ?_⟩
  have S2 := same_upd (o := .tup [V.int (SL.gx x k + m)]) hp2
  refine cat_go (S2 _ _ h1) upd_same (by rw [List.length_take, hl]; simp only [List.length_singleton]; omega) fun p3 H3 S3 h3 => ?_
  have S4 := (S1.trans S2).trans S3
  refine ⟨_, rfl, _, rfl, _, _, rfl, rfl, _, rfl, ?_⟩
  show rSlA K (.ref a) (some ((k : Int) + 1)) none H3 (fun y H2 => rCatA K (.ref p3) y H2 Q)
  refine cut_go (S4 _ _ ha) fun p5 H5 S5 h5 => ?_
  rw [show ((k : Int) + 1) = ((k + 1 : Nat) : Int) by omega, cut_from] at h5
  refine cat_go (S5 _ _ h3) h5 (by rw [List.length_append, List.length_take, List.length_drop, hl]; simp only [List.length_singleton]; omega) fun p6 H6 S6 h6 => ?_
  exact kk _ _ ((S4.trans S5).trans S6) ⟨p6, rfl, by rw [put_parts hk]; exact h6⟩
theorem c_linesWith (F : Fn K mg "lines_with" (topS 25) ["lines", "k", "many"]) : Cal P w K mg base 1 "lines_with" ["lines", "k", "many"] spLinesWith := by
  refine F.cal scLinesWith (fun vs H Q E h => ?_) (fun f cdv A outer s H vs Q E hr h => ?_)
  · obtain ⟨u, x, k, m, rfl, _⟩ := h
    rfl
  · obtain ⟨u, x, k, m, rfl, ⟨a, rfl, ha⟩, hk, h9, kk⟩ := h
    refine ⟨_, pss_one (ps_ret (pe_op (op_catK K) (pe_op (op_catK K) (pe_slice sl_tupA (pv 0) po_none (po_some (pv 1))) (pe_tup (pa_cons (pe_op op_add (pe_at K (pv 0) (pv 1)) (pv 2)) pa_nil))) (pe_slice sl_tupA (pv 0) (po_some (pe_op op_add (pv 1) pe_int)) po_none))), ?_⟩
    exact lw_read (K := K) ha hk h9 kk
theorem c_lPut (F : Fn K mg "_law_put" (topS 47) ["_law_lines", "_law_k", "_law_more"]) : Cal P w K mg base 1 "_law_put" ["_law_lines", "_law_k", "_law_more"] spLinesWith := by
  refine F.cal scLPut (fun vs H Q E h => ?_) (fun f cdv A outer s H vs Q E hr h => ?_)
  · obtain ⟨u, x, k, m, rfl, _⟩ := h
    rfl
  · obtain ⟨u, x, k, m, rfl, ⟨a, rfl, ha⟩, hk, h9, kk⟩ := h
    refine ⟨_, pss_one (ps_ret (pe_op (op_catK K) (pe_op (op_catK K) (pe_slice sl_tupA (pv 0) po_none (po_some (pv 1))) (pe_tup (pa_cons (pe_op op_add (pe_at K (pv 0) (pv 1)) (pv 2)) pa_nil))) (pe_slice sl_tupA (pv 0) (po_some (pe_op op_add (pv 1) pe_int)) po_none))), ?_⟩
    exact lw_read (K := K) ha hk h9 kk
theorem scShifts : FnScope ["hall", "lines", "shifts", "longest", "void"] ["hall", "lines"] (defScope (topS 26)) := ⟨rfl, rfl, rfl, by decide +kernel, rfl, by decide +kernel, by decide +kernel⟩
def spShifts : Sp := fun vs H Q _ => ∃ (z l : V) (ss : List SL.Srv), vs = [z, l] ∧ HallT H z ss ∧ ∀ p q H', Same H H' → H' p = some (.tup [q, l]) → Q (.ref p) H'
theorem c_shifts (F : Fn K mg "shifts_of" (topS 26) ["hall", "lines"]) : Cal P w K mg base 1 "shifts_of" ["hall", "lines"] spShifts := by
  refine F.cal scShifts (fun vs H Q E h => ?_) (fun f cdv A outer s H vs Q E hr h => ?_)
  · obtain ⟨z, l, ss, rfl, _⟩ := h
    rfl
  · obtain ⟨z, l, ss, rfl, ⟨a, c, sv, rfl, ha, _⟩, k⟩ := h
    refine ⟨_, pss_cons (ps_set (i := 2) scShifts.nd rfl (.inl rfl) (pe_lst pa_nil))
      (pss_cons (ps_while PassesOwn.never (PW.pt (pw_and (pt_val (pe_at K (pv 0) pe_int)) pw_never)) pss_never)
      (pss_one (ps_ret (pe_tup (pa_cons (pv 2) (pa_cons (pv 1) pa_nil)))))), ?_⟩
    refine ⟨Nat.zero_le _, fun p hp => ?_⟩
    have S1 := same_upd (o := .lst []) hp
    refine ⟨fun _ σ' H' => σ' = [some (.ref a), some l, some (.ref p), none, none] ∧ H' = upd H p (.lst []), ⟨0, rfl, rfl⟩, ?_⟩
    rintro _ σ' H' ⟨rfl, rfl⟩
    refine ⟨_, rfl, _, _, _, _, rfl, rfl, SqT.of (S1 _ _ ha), rfl, false, rfl, ?_⟩
    refine ⟨_, rfl, _, rfl, (by show 2 ≤ sizeLine; decide), fun q hq => ?_⟩
    exact k q _ _ (S1.trans (same_upd hq)) upd_same
theorem scAsked : FnScope ["hall", "rule", "stand", "order", "lines", "turn", "line"] ["hall", "rule", "stand", "order"] (defScope (topS 27)) := ⟨rfl, rfl, rfl, by decide +kernel, rfl, by decide +kernel, by decide +kernel⟩
def spAsked : Sp := fun vs H Q _ => ∃ (z rv st u : V) (ss : List SL.Srv) (r : SL.Rl) (x : List Int) (o : List Nat), vs = [z, rv, st, u] ∧ HallT H z ss ∧ RuleT H rv r ∧ StandT H st x ∧ IntsT H u (natsI o) ∧ SL.Hok ss ∧ SL.OkL ss x ∧ SL.Ord ss.length o ∧
  ∀ v H', Same H H' → StepT H' v (SL.step ss r x (.come o)) → Q v H'
theorem rl_turns (r : SL.Rl) : ¬ V.str (rw_ r) = V.str "turns" := by
  cases r <;> decide +kernel
theorem c_asked (F : Fn K mg "asked" (topS 27) ["hall", "rule", "stand", "order"]) (T : Txt mg) (C1 : Cal P w K mg base 5 "sent_to" ["hall", "rule", "stand", "order"] spSentTo) (C2 : Cal P w K mg base 1 "lines_with" ["lines", "k", "many"] spLinesWith) :
    Cal P w K mg base 6 "asked" ["hall", "rule", "stand", "order"] spAsked := by
  refine F.cal scAsked (fun vs H Q E h => ?_) (fun f cdv A outer s H vs Q E hr h => ?_)
  · obtain ⟨z, rv, st, u, ss, r, x, o, rfl, _⟩ := h
    rfl
  · obtain ⟨z, rv, st, u, ss, r, x, o, rfl, hh, hra, hst, ho, hk, hx, hO, k⟩ := h
    obtain ⟨ra, rfl, hra1⟩ := id hra
    obtain ⟨sa, l, rfl, hsa, la, rfl, hla⟩ := id hst
    obtain ⟨ah, c, sv, rfl, hah, hsv⟩ := id hh
    obtain ⟨ta, ea⟩ := T.aw
    obtain ⟨tk, ek⟩ := T.tk
    have hr1 : Room 1 _ := hr.mono (by decide)
    refine ⟨_, pss_cons (ps_asg (pv 2) (pg_tup rfl (pgs_cons (pg_name (i := 4) scAsked.nd rfl (.inl rfl)) (pgs_cons (pg_name (i := 5) scAsked.nd rfl (.inl rfl)) pgs_nil))))
      (pss_cons (ps_set (i := 6) scAsked.nd rfl (.inl rfl) (pe_cal C1 hr rfl (pa_cons (pv 0) (pa_cons (pv 1) (pa_cons (pv 2) (pa_cons (pv 3) pa_nil))))))
      (pss_cons (ps_if (pt_cmpR op_eq (pe_at K (pv 1) pe_int) pe_str (nomark _)) (pss_one ps_never) pss_nil)
      (pss_cons (ps_if (pt_cmpR op_eq (pe_at K (pv 4) (pv 6)) (pe_at K (pe_at K (pe_at K (pv 0) pe_int) (pv 6)) pe_int) (nomark _)) (pss_one (ps_ret (pe_tup (pa_cons (pv 4) (pa_cons (pv 5) (pa_cons (pe_glob (v := .str "away") rfl ea ⟨_, rfl⟩) pa_nil)))))) pss_nil)
      (pss_one (ps_ret (pe_tup (pa_cons (pe_cal C2 hr1 rfl (pa_cons (pv 4) (pa_cons (pv 6) (pa_cons pe_int pa_nil)))) (pa_cons (pv 5) (pa_cons (pe_glob (v := .str "taken") rfl ek ⟨_, rfl⟩) pa_nil))))))))), ?_⟩
    refine ⟨_, rfl, sa, _, rfl, SqT.of hsa, rfl, _, _, rfl, _, _, rfl, rfl, ?_⟩
    refine ⟨_, rfl, _, rfl, _, rfl, _, rfl, _, _, _, _, ss, r, x, o, rfl, hh, hra, hst, ho, hk, hx, hO, fun H1 S1 => ?_⟩
    refine ⟨_, rfl, _, _, _, _, rfl, rfl, SqT.of (S1 _ _ hra1), rfl, rfl, _, rfl, iteN (rl_turns r) ?_⟩
    have hs := SL.sent_lt (ss := ss) (r := r) (x := x) hk.n1 hO
    have hxl := hx.1
    obtain ⟨va, svs, sj, rfl, hva, hsj, asj, fj, rfl, hasj, hfj⟩ := hsv.at_ hs
    refine ⟨_, rfl, _, rfl, _, _, _, _, rfl, rfl, SqT.of (S1 _ _ hla), at_nat (gx_at (by omega)), ?_⟩
    refine ⟨_, rfl, _, _, _, _, rfl, rfl, SqT.of (S1 _ _ hah), rfl, _, rfl, _, _, _, _, rfl, rfl, SqT.of (S1 _ _ hva), at_nat hsj, _, _, _, _, rfl, rfl, SqT.of (S1 _ _ hasj), rfl, rfl, _, rfl, iteD (fun e => ?_) (fun e => ?_)⟩
    · injection e with e
      refine ⟨_, rfl, _, rfl, (by show 3 ≤ sizeLine; decide), fun p hp => ?_⟩
      have S2 := same_upd (o := .tup [V.ref la, V.int 0, V.str "away"]) hp
      refine k _ _ (S1.trans S2) ⟨p, .ref la, rfl, ?_, la, rfl, ?_⟩
      · rw [show (SL.step ss r x (.come o)) = (x, .away) from if_pos e]
        exact upd_same
      · rw [show (SL.step ss r x (.come o)) = (x, .away) from if_pos e]
        exact S2 _ _ (S1 _ _ hla)
    · have e' : ¬ SL.gx x (SL.sent ss r x o) = SL.room ss (SL.sent ss r x o) := fun z => e (congrArg V.int z)
      refine ⟨_, rfl, _, rfl, _, x, SL.sent ss r x o, 1, rfl, ⟨la, rfl, S1 _ _ hla⟩, by omega, by have := hk.n3; omega, fun v H2 S2 hv => ?_⟩
      refine ⟨_, rfl, (by show 3 ≤ sizeLine; decide), fun p hp => ?_⟩
      have S3 := same_upd (o := .tup [v, V.int 0, V.str "taken"]) hp
      refine k _ _ ((S1.trans S2).trans S3) ⟨p, v, rfl, ?_, ?_⟩
      · rw [show (SL.step ss r x (.come o)) = (SL.put x (SL.sent ss r x o) 1, .taken) from if_neg e']
        exact upd_same
      · rw [show (SL.step ss r x (.come o)) = (SL.put x (SL.sent ss r x o) 1, .taken) from if_neg e']
        exact hv.keep (Same.ts S3)
theorem scChanged : FnScope ["hall", "rule", "stand", "move", "lines", "turn"] ["hall", "rule", "stand", "move"] (defScope (topS 28)) := ⟨rfl, rfl, rfl, by decide +kernel, rfl, by decide +kernel, by decide +kernel⟩
def spChanged : Sp := fun vs H Q _ => ∃ (z rv st u : V) (ss : List SL.Srv) (r : SL.Rl) (x : List Int) (mv : SL.Mv), vs = [z, rv, st, u] ∧ HallT H z ss ∧ RuleT H rv r ∧ StandT H st x ∧ MoveT H u mv ∧ SL.Hok ss ∧ SL.OkL ss x ∧ MvOk ss.length mv ∧
  ∀ v H', Same H H' → StepT H' v (SL.step ss r x mv) → Q v H'
theorem c_changed (F : Fn K mg "changed" (topS 28) ["hall", "rule", "stand", "move"]) (T : Txt mg) (C1 : Cal P w K mg base 6 "asked" ["hall", "rule", "stand", "order"] spAsked) (C2 : Cal P w K mg base 1 "lines_with" ["lines", "k", "many"] spLinesWith) :
    Cal P w K mg base 7 "changed" ["hall", "rule", "stand", "move"] spChanged := by
  refine F.cal scChanged (fun vs H Q E h => ?_) (fun f cdv A outer s H vs Q E hr h => ?_)
  · obtain ⟨z, rv, st, u, ss, r, x, o, rfl, _⟩ := h
    rfl
  · obtain ⟨z, rv, st, u, ss, r, x, mv, rfl, hh, hra, hst, hm, hk, hx, hO, k⟩ := h
    obtain ⟨sa, l, rfl, hsa, la, rfl, hla⟩ := id hst
    obtain ⟨tv, ev⟩ := T.sv
    obtain ⟨tn, en⟩ := T.no
    have hr1 : Room 1 _ := hr.mono (by decide)
    refine ⟨_, pss_cons (ps_asg (pv 2) (pg_tup rfl (pgs_cons (pg_name (i := 4) scChanged.nd rfl (.inl rfl)) (pgs_cons (pg_name (i := 5) scChanged.nd rfl (.inl rfl)) pgs_nil))))
      (pss_cons (ps_if (pt_cmpR op_eq (pe_at K (pv 3) pe_int) pe_str (nomark _)) (pss_one (ps_ret (pe_cal C1 hr rfl (pa_cons (pv 0) (pa_cons (pv 1) (pa_cons (pv 2) (pa_cons (pe_at K (pv 3) pe_int) pa_nil))))))) pss_nil)
      (pss_cons (ps_if (PW.pt (pw_and (pt_cmpR op_eq (pe_at K (pv 3) pe_int) pe_str (nomark _)) (pw_and1 (pt_cmpR op_gt (pe_at K (pv 4) (pe_at K (pv 3) pe_int)) pe_int (nomark _)))))
        (pss_one (ps_ret (pe_tup (pa_cons (pe_cal C2 hr1 rfl (pa_cons (pv 4) (pa_cons (pe_at K (pv 3) pe_int) (pa_cons (pe_un un_neg pe_int) pa_nil)))) (pa_cons (pv 5) (pa_cons (pe_glob (v := .str "served") rfl ev ⟨_, rfl⟩) pa_nil)))))) pss_nil)
      (pss_one (ps_ret (pe_tup (pa_cons (pv 4) (pa_cons (pv 5) (pa_cons (pe_glob (v := .str "none") rfl en ⟨_, rfl⟩) pa_nil)))))))), ?_⟩
    refine ⟨_, rfl, sa, _, rfl, SqT.of hsa, rfl, _, _, rfl, _, _, rfl, rfl, ?_⟩
    have hxl := hx.1
    rcases hO with ⟨o, rfl, hO⟩ | ⟨j, rfl, hj⟩ | rfl
    · obtain ⟨a, b, rfl, ha, hb⟩ := hm
      refine ⟨_, rfl, _, _, _, _, rfl, rfl, SqT.of ha, rfl, rfl, _, rfl, iteY rfl ?_⟩
      exact ⟨_, rfl, _, rfl, _, rfl, _, rfl, _, _, _, _, rfl, rfl, SqT.of ha, rfl, _, _, _, _, ss, r, x, o, rfl, hh, hra, hst, hb, hk, hx, hO, k⟩
    · obtain ⟨a, rfl, ha⟩ := hm
      refine ⟨_, rfl, _, _, _, _, rfl, rfl, SqT.of ha, rfl, rfl, _, rfl, iteN (by decide +kernel) ?_⟩
      refine ⟨_, rfl, _, _, _, _, rfl, rfl, SqT.of ha, rfl, rfl, _, rfl, iteY rfl ?_⟩
      refine ⟨_, rfl, _, rfl, _, _, _, _, rfl, rfl, SqT.of ha, rfl, _, _, _, _, rfl, rfl, SqT.of hla, at_nat (gx_at (by omega)), _, _, rfl, rfl, _, rfl, iteD (fun e => ?_) (fun e => ?_)⟩
      · refine ⟨_, rfl, _, rfl, _, _, _, _, rfl, rfl, SqT.of ha, rfl, _, rfl, _, x, j, -1, rfl, ⟨la, rfl, hla⟩, by omega, by have := hk.n3; omega, fun v H2 S2 hv => ?_⟩
        refine ⟨_, rfl, (by show 3 ≤ sizeLine; decide), fun p hp => ?_⟩
        have S3 := same_upd (o := .tup [v, V.int 0, V.str "served"]) hp
        refine k _ _ (S2.trans S3) ⟨p, v, rfl, ?_, ?_⟩
        · rw [show (SL.step ss r x (.done j)) = (SL.put x j (-1), .served) from if_pos e]
          exact upd_same
        · rw [show (SL.step ss r x (.done j)) = (SL.put x j (-1), .served) from if_pos e]
          exact hv.keep (Same.ts S3)
      · refine ⟨_, rfl, _, rfl, (by show 3 ≤ sizeLine; decide), fun p hp => ?_⟩
        have S3 := same_upd (o := .tup [V.ref la, V.int 0, V.str "none"]) hp
        refine k _ _ S3 ⟨p, .ref la, rfl, ?_, la, rfl, ?_⟩
        · rw [show (SL.step ss r x (.done j)) = (x, .non) from if_neg e]
          exact upd_same
        · rw [show (SL.step ss r x (.done j)) = (x, .non) from if_neg e]
          exact S3 _ _ hla
    · obtain ⟨a, rfl, ha⟩ := hm
      refine ⟨_, rfl, _, _, _, _, rfl, rfl, SqT.of ha, rfl, rfl, _, rfl, iteN (by decide +kernel) ?_⟩
      refine ⟨_, rfl, _, _, _, _, rfl, rfl, SqT.of ha, rfl, rfl, _, rfl, iteN (by decide +kernel) ?_⟩
      refine ⟨_, rfl, _, rfl, (by show 3 ≤ sizeLine; decide), fun p hp => ?_⟩
      have S3 := same_upd (o := .tup [V.ref la, V.int 0, V.str "none"]) hp
      exact k _ _ S3 ⟨p, .ref la, rfl, upd_same, la, rfl, S3 _ _ hla⟩
theorem scMovedOn : FnScope ["hall", "rule", "stand", "move", "lines", "turn", "word", "shifts"] ["hall", "rule", "stand", "move"] (defScope (topS 29)) := ⟨rfl, rfl, rfl, by decide +kernel, rfl, by decide +kernel, by decide +kernel⟩
def spMovedOn : Sp := fun vs H Q _ => ∃ (z rv st u : V) (ss : List SL.Srv) (r : SL.Rl) (x : List Int) (mv : SL.Mv), vs = [z, rv, st, u] ∧ HallT H z ss ∧ RuleT H rv r ∧ StandT H st x ∧ MoveT H u mv ∧ SL.Hok ss ∧ SL.OkL ss x ∧ MvOk ss.length mv ∧
  ∀ v H', Same H H' → MovT H' v (SL.step ss r x mv) → Q v H'
theorem c_movedOn (F : Fn K mg "moved_on" (topS 29) ["hall", "rule", "stand", "move"]) (C1 : Cal P w K mg base 7 "changed" ["hall", "rule", "stand", "move"] spChanged) (C2 : Cal P w K mg base 1 "shifts_of" ["hall", "lines"] spShifts) :
    Cal P w K mg base 8 "moved_on" ["hall", "rule", "stand", "move"] spMovedOn := by
  refine F.cal scMovedOn (fun vs H Q E h => ?_) (fun f cdv A outer s H vs Q E hr h => ?_)
  · obtain ⟨z, rv, st, u, ss, r, x, o, rfl, _⟩ := h
    rfl
  · obtain ⟨z, rv, st, u, ss, r, x, mv, rfl, hh, hra, hst, hm, hk, hx, hO, k⟩ := h
    have hr1 : Room 1 _ := hr.mono (by decide)
    refine ⟨_, pss_cons (ps_asg (pe_cal C1 hr rfl (pa_cons (pv 0) (pa_cons (pv 1) (pa_cons (pv 2) (pa_cons (pv 3) pa_nil))))) (pg_tup rfl (pgs_cons (pg_name (i := 4) scMovedOn.nd rfl (.inl rfl)) (pgs_cons (pg_name (i := 5) scMovedOn.nd rfl (.inl rfl)) (pgs_cons (pg_name (i := 6) scMovedOn.nd rfl (.inl rfl)) pgs_nil)))))
      (pss_cons (ps_asg (pe_cal C2 hr1 rfl (pa_cons (pv 0) (pa_cons (pv 4) pa_nil))) (pg_tup rfl (pgs_cons (pg_name (i := 7) scMovedOn.nd rfl (.inl rfl)) (pgs_cons (pg_name (i := 4) scMovedOn.nd rfl (.inl rfl)) pgs_nil))))
      (pss_one (ps_ret (pe_tup (pa_cons (pe_tup (pa_cons (pv 4) (pa_cons (pv 5) pa_nil))) (pa_cons (pv 6) pa_nil)))))), ?_⟩
    refine ⟨_, rfl, _, rfl, _, rfl, _, rfl, _, _, _, _, ss, r, x, mv, rfl, hh, hra, hst, hm, hk, hx, hO, fun v H1 S1 ⟨p, l, e, hp, hl⟩ => ?_⟩
    subst e
    refine ⟨p, _, rfl, SqT.of hp, rfl, _, _, rfl, _, _, rfl, _, _, rfl, rfl, ?_⟩
    refine ⟨_, rfl, _, rfl, _, _, ss, rfl, hh.keep (Same.ts S1), fun p2 q H2 S2 h2 => ?_⟩
    refine ⟨p2, _, rfl, SqT.of h2, rfl, _, _, rfl, _, _, rfl, rfl, ?_⟩
    refine ⟨_, rfl, _, rfl, (by show 2 ≤ sizeLine; decide), fun p3 hp3 => ?_⟩
    have S3 := same_upd (o := .tup [l, V.int 0]) hp3
    refine ⟨_, rfl, (by show 2 ≤ sizeLine; decide), fun p4 hp4 => ?_⟩
    have S4 := same_upd (o := .tup [V.ref p3, V.str (wdS (SL.step ss r x mv).2)]) hp4
    exact k _ _ (((S1.trans S2).trans S3).trans S4) ⟨p4, p3, l, rfl, upd_same, S4 _ _ upd_same, hl.keep (Same.ts ((S2.trans S3).trans S4))⟩
end
end SLW
/-! Part SLOrders. -/
set_option Elab.async false
set_option linter.all false
set_option maxRecDepth 100000
set_option maxHeartbeats 4000000
/-! all_orders, all_moves. -/
namespace SLW
open PySem PySem.Spec PyProof.Rows L2 SLR
def OrdT (H : Hp) (v : V) (o : List Nat) : Prop := IntsT H v (natsI o)
theorem inV_nats (k : Nat) (o : List Nat) : inV (.int (k : Int)) ((natsI o).map V.int) = decide (k ∈ o) := by
  unfold inV natsI
  induction o with
  | nil => rfl
  | cons a t ih =>
    rw [List.map_cons, List.map_cons, List.any_cons, ih]
    rw [Bool.eq_iff_iff, Bool.or_eq_true, decide_eq_true_eq, decide_eq_true_eq, List.mem_cons]
    show (((a : Int) == (k : Int)) = true ∨ _) ↔ _
    rw [beq_iff_eq]
    constructor
    · rintro (h | h)
      · exact .inl (by omega)
      · exact .inr h
    · rintro (h | h)
      · exact .inl (by omega)
      · exact .inr h
theorem flat_nats (o : List Nat) : ((natsI o).map V.int).all flatV = true := by
  rw [List.all_eq_true]
  intro v hv
  obtain ⟨i, _, rfl⟩ := List.mem_map.mp hv
  rfl
theorem longer_len (n : Nat) (o : List Nat) : (SL.longer n o).length ≤ n := by
  unfold SL.longer
  rw [List.length_map]
  have := List.length_filter_le (fun k => !decide (k ∈ o)) (List.range n)
  rw [List.length_range] at this
  exact this
/-- one line's turn of longer, up to i -/
theorem longer_turn (n i : Nat) (o : List Nat) : (((List.range (i + 1)).filter fun k => !decide (k ∈ o)).map fun k => o ++ [k]) = (((List.range i).filter fun k => !decide (k ∈ o)).map fun k => o ++ [k]) ++ (if i ∈ o then [] else [o ++ [i]]) := by
  rw [List.range_succ, List.filter_append, List.map_append]
  congr 1
  by_cases h : i ∈ o
  · rw [if_pos h, List.filter_cons_of_neg (by simp [h])]
    rfl
  · rw [if_neg h, List.filter_cons_of_pos (by simp [h])]
    rfl
theorem flat_len {α β : Type} (f : α → List β) (m : Nat) (hf : ∀ a, (f a).length ≤ m) : ∀ l : List α, (l.flatMap f).length ≤ l.length * m
  | [] => by simp
  | a :: l => by
    rw [List.flatMap_cons, List.length_append, List.length_cons, Nat.add_mul, Nat.one_mul]
    have := flat_len f m hf l
    have := hf a
    omega
theorem ordersF_len (n : Nat) : ∀ k, (SL.ordersF n k).length ≤ n ^ k
  | 0 => Nat.le_refl _
  | k + 1 => by
    have h1 := flat_len (SL.longer n) n (longer_len n) (SL.ordersF n k)
    have h2 := ordersF_len n k
    show ((SL.ordersF n k).flatMap (SL.longer n)).length ≤ n ^ k * n
    exact Nat.le_trans h1 (Nat.mul_le_mul_right n h2)
theorem pow_small {n k : Nat} (hn : n ≤ 3) (hk : k ≤ 3) : n ^ k ≤ 27 := by
  have h1 : n ^ k ≤ 3 ^ k := Nat.pow_le_pow_left hn k
  have h2 : 3 ^ k ≤ 3 ^ 3 := Nat.pow_le_pow_right (by decide) hk
  exact Nat.le_trans h1 h2
section
variable {P : Program} {w : World} {K : PySem.W.Frag} {mg : Str → Option Value} {base : Heap}
abbrev nOrders : List Str := ["hall", "found", "turn", "longer", "order", "k"]
theorem scOrders : FnScope nOrders ["hall"] (defScope (topS 24)) := ⟨rfl, rfl, rfl, by decide +kernel, rfl, by decide +kernel, by decide +kernel⟩
def spOrders : Sp := fun vs H Q _ => ∃ (z : V) (ss : List SL.Srv), vs = [z] ∧ HallT H z ss ∧ ss.length ≤ 3 ∧ ∀ l ws H', Same H H' → H l = none → H' l = some (.lst ws) → Paired (OrdT H') ws (SL.orders ss.length) → Q (.ref l) H'
theorem c_orders (F : Fn K mg "all_orders" (topS 24) ["hall"]) (T : Txt mg) : Cal P w K mg base 1 "all_orders" ["hall"] spOrders := by
  refine F.cal scOrders (fun vs H Q E h => ?_) (fun f cdv A outer s H vs Q E hr h => ?_)
  · obtain ⟨z, ss, rfl, _⟩ := h
    rfl
  · obtain ⟨z, ss, rfl, ⟨ah, c, sv, rfl, hah, sa, vs, rfl, hsa, hp⟩, h3, k⟩ := h
    have hpl := plen hp
    refine ⟨_, pss_cons (ps_set (i := 1) scOrders.nd rfl (.inl rfl) (pe_lst (pa_cons (pe_tup pa_nil) pa_nil)))
      (pss_cons (ps_for PassesOwn.never rfl (pi_tup (pe_at K (pv 0) pe_int)) (pg_name (i := 2) scOrders.nd rfl (.inl rfl))
        (pss_cons (ps_set (i := 3) scOrders.nd rfl (.inl rfl) (pe_lst pa_nil))
        (pss_cons (ps_for PassesOwn.never rfl (pi_list (pv 1)) (pg_name (i := 4) scOrders.nd rfl (.inr rfl))
          (pss_one (ps_expr (pe_bm PySem.F.plainAttrs_list PySem.F.slot_list_extend PySem.F.type_list_extend mt_extend (pv 3) (pa_cons
            (pe_lc (own := [("k", 5)]) (g := gName 5) rfl scOrders.nd (pi_range1 (by rfl) T.range (pa_cons (pe_callB call_len_seq (by rfl) T.len PySem.boot_len (pa_cons (pe_at K (pv 0) pe_int) pa_nil)) pa_nil))
              (blkOk_by (N := nOrders) (sc := defScope (topS 24)) (by decide +kernel))
              (fun _ _ _ _ _ => pg_name (i := 5) scOrders.nd rfl (Or.inl rfl)) (fun _ _ _ _ _ => pts_one (pt_cmpR (op_notInK K) (pv 5) (pv 4) (by rfl)))
              (fun _ _ _ _ _ => pe_op (op_catK K) (pv 4) (pe_tup (pa_cons (pv 5) pa_nil)))) pa_nil)))))
        (pss_one (ps_set (i := 1) scOrders.nd rfl (.inl rfl) (pv 3))))))
      (pss_one (ps_ret (pv 1)))), ?_⟩
    -- found = [()]
    refine ⟨Nat.zero_le _, fun p0 hp0 => ⟨(by show 1 ≤ sizeLine; decide), fun l0 hl0 => ?_⟩⟩
    have S0 : Same H (upd H p0 (.tup [])) := same_upd hp0
    have nl0 : H l0 = none := Same.free S0 hl0
    have S1 := S0.trans (same_upd (o := .lst [V.ref p0]) hl0)
    refine ⟨_, rfl, _, _, _, _, rfl, rfl, SqT.of (S1 _ _ hah), rfl, sa, rfl, ⟨_, SqT.of (S1 _ _ hsa)⟩, ?_⟩
    refine for_tup (K := K) (a := sa) (xs := vs) (fun i σ H' => ∃ (l : Addr) (v2 v3 v4 : Option V) (ws : List V), σ = [some (.ref ah), some (.ref l), v2, v3, v4, none] ∧ Same H H' ∧ H l = none ∧ H' l = some (.lst ws) ∧ Paired (OrdT H') ws (SL.ordersF ss.length i))
      ⟨l0, none, none, none, [.ref p0], rfl, S1, nl0, upd_same, .cons ⟨p0, rfl, ?_⟩ .nil⟩ ?_ ?_ ?_
    · rw [upd_ne (ne_of_none upd_same hl0)]
      exact upd_same
    · rintro i σ H' _ ⟨l, _, _, _, _, rfl, S, _⟩
      exact SqT.of (S _ _ hsa)
    · rintro i y σ H2 hy ⟨l, v2, v3, v4, ws, rfl, S2, nl, hl, hws⟩
      have hi : i < ss.length := by
        rw [← hpl]
        exact (List.getElem?_eq_some_iff.mp hy).1
      have lws : ws.length ≤ 27 := by
        rw [plen hws]
        exact Nat.le_trans (ordersF_len _ _) (pow_small h3 (by omega))
      -- longer = []
      refine ⟨Nat.zero_le _, fun m hm => ?_⟩
      have nm : H m = none := Same.free S2 hm
      have hlm : l ≠ m := ne_of_none hl hm
      have S3 : Same H2 (upd H2 m (.lst [])) := same_upd hm
      refine ⟨_, rfl, l, rfl, ⟨_, SqL.of (S3 _ _ hl)⟩, ?_⟩
      refine for_list (K := K) (a := l) (xs := ws) (fun j σ H' => ∃ (v4 : Option V) (us : List V), σ = [some (.ref ah), some (.ref l), some y, some (.ref m), v4, none] ∧ Same H2 H' ∧ H' m = some (.lst us) ∧ Paired (OrdT H') us (((SL.ordersF ss.length i).take j).flatMap (SL.longer ss.length)))
        ⟨v4, [], rfl, S3, upd_same, .nil⟩ ?_ ?_ ?_
      · rintro j σ H' _ ⟨_, _, rfl, S, _⟩
        exact SqL.of (S _ _ hl)
      · rintro j u σ H4 hu ⟨v4', us, rfl, S4, hm4, hus⟩
        obtain ⟨o, ho, hou⟩ := pget hws hu
        have hou4 : OrdT H4 u o := IntsT.keep (Same.ts S4) hou
        obtain ⟨oa, rfl, hoa⟩ := hou4
        have SA : Same H H4 := S2.trans S4
        -- longer.extend([..])
        refine ⟨_, rfl, .inl ⟨rfl, _, SqL.of hm4⟩, ?_⟩
        refine ⟨_, rfl, _, _, _, _, rfl, rfl, SqT.of (SA _ _ hah), rfl, sa, _, rfl, .inr (SqT.of (SA _ _ hsa)), ?_⟩
        rw [hpl]
        refine ⟨_, rfl, by omega, by omega, fun D hD => ?_⟩
        refine lc_range (lo := 0) (n := ss.length) (fun i' H' => ∃ ds : List V, Same H4 H' ∧ H' D = some (.lst ds) ∧ Paired (OrdT H') ds (((List.range i').filter fun k => !decide (k ∈ o)).map fun k => o ++ [k]))
          ⟨[], same_upd hD, upd_same, .nil⟩ ?_ ?_
        · rintro i' H5 hi' ⟨ds, S5, hd5, hds⟩
          refine ⟨rfl, ?_⟩
          have hoa5 := S5 _ _ hoa
          refine ⟨_, rfl, _, rfl, _, _, rfl, .inr (SqT.of hoa5), rfl, flat_nats o, _, rfl, ?_⟩
          rw [show ((0 : Int) + (i' : Nat)) = ((i' : Nat) : Int) by omega, inV_nats]
          have dl : ds.length ≤ 1000 := by
            rw [plen hds, List.length_map]
            have := List.length_filter_le (fun k => !decide (k ∈ o)) (List.range i')
            rw [List.length_range] at this
            omega
          by_cases hio : i' ∈ o
          · have e : (if (true : Bool) = true then !decide (i' ∈ o) else decide (i' ∈ o)) = false := by simp [hio]
            rw [e]
            refine iteF ⟨ds, S5, hd5, ?_⟩
            rw [longer_turn ss.length, if_pos hio, List.append_nil]
            exact hds
          · have e : (if (true : Bool) = true then !decide (i' ∈ o) else decide (i' ∈ o)) = true := by simp [hio]
            rw [e]
            refine iteT ?_
            refine ⟨_, rfl, _, rfl, (by show 1 ≤ sizeLine; decide), fun q hq => ?_⟩
            have S6 := same_upd (o := .tup [V.int ((i' : Nat) : Int)]) hq
            have ol : ((natsI o).map V.int).length ≤ 999 := by
              rw [natsI_len]
              have : o ∈ SL.ordersF ss.length i := List.mem_of_getElem? ho
              have key : ∀ (n k : Nat) (o : List Nat), o ∈ SL.ordersF n k → o.length = k := by
                intro n k
                induction k with
                | zero =>
                  intro o h
                  rw [List.mem_singleton.mp h]
                  rfl
                | succ k ih =>
                  intro o h
                  obtain ⟨o', h1, h2⟩ := List.mem_flatMap.mp h
                  obtain ⟨j, _, e⟩ := List.mem_map.mp h2
                  rw [← e, List.length_append, ih o' h1]
                  rfl
              rw [key _ _ _ this]
              omega
            refine cat_go (S6 _ _ hoa5) upd_same (by simp only [List.length_singleton]; omega) fun r H7 S7 h7 => ?_
            have S8 := S6.trans S7
            refine ⟨ds, S8 _ _ hd5, small1000 dl, ds ++ [.ref r], same_mut (S5.trans S8) hD, upd_same, ?_⟩
            have ts : TS H5 (upd H7 D (.lst (ds ++ [V.ref r]))) := (Same.ts S8).trans (TS.lst (S8 _ _ hd5))
            rw [longer_turn ss.length, if_neg hio]
            refine Paired.snoc (Paired.mapP hds fun _ _ z => IntsT.keep ts z) ⟨r, rfl, ?_⟩
            rw [TS.lst (S8 _ _ hd5) _ _ h7]
            unfold natsI
            rw [List.map_append, List.map_append]
            rfl
        · rintro H5 ⟨ds, S5, hd5, hds⟩
          have hm5 := S5 _ _ hm4
          have dl : ds.length ≤ 1000 := by
            have h1 := plen hds
            have h2 := longer_len ss.length o
            unfold SL.longer at h2
            omega
          have ul : us.length ≤ 1000 := by
            rw [plen hus]
            refine Nat.le_trans (flat_len (SL.longer ss.length) ss.length (longer_len _) _) ?_
            have h1 : ((SL.ordersF ss.length i).take j).length ≤ 27 := by
              rw [List.length_take, ← plen hws]
              omega
            have h2 := Nat.mul_le_mul h1 h3
            omega
          refine ⟨m, D, us, ds, rfl, rfl, hm5, hd5, by rw [sizeLine_eq]; omega, ?_⟩
          have S9 : Same H2 (upd H5 m (.lst (us ++ ds))) := same_mut (S4.trans S5) hm
          refine ⟨some (.ref oa), us ++ ds, rfl, S9, upd_same, ?_⟩
          have ts5 : TS H5 (upd H5 m (.lst (us ++ ds))) := TS.lst hm5
          have ts4 : TS H4 (upd H5 m (.lst (us ++ ds))) := (Same.ts S5).trans ts5
          have e9 : ((SL.ordersF ss.length i).take (j + 1)).flatMap (SL.longer ss.length) = ((SL.ordersF ss.length i).take j).flatMap (SL.longer ss.length) ++ SL.longer ss.length o := by
            rw [List.take_add_one, ho, List.flatMap_append]
            simp
          rw [e9]
          have app : ∀ {l1 l2 : List V} {m1 m2 : List (List Nat)}, Paired (OrdT (upd H5 m (.lst (us ++ ds)))) l1 m1 → Paired (OrdT (upd H5 m (.lst (us ++ ds)))) l2 m2 → Paired (OrdT (upd H5 m (.lst (us ++ ds)))) (l1 ++ l2) (m1 ++ m2) := by
            intro l1 l2 m1 m2 h1 h2
            induction h1 with
            | nil => exact h2
            | cons a t ih => exact .cons a ih
          exact app (Paired.mapP hus fun _ _ z => IntsT.keep ts4 z) (Paired.mapP hds fun _ _ z => IntsT.keep ts5 z)
      · rintro σ H4 ⟨v4', us, rfl, S4, hm4, hus⟩
        rw [plen hws, List.take_length] at hus
        exact ⟨_, rfl, m, _, _, _, us, rfl, S2.trans S4, nm, hm4, hus⟩
    · rintro σ H2 ⟨l, v2, v3, v4, ws, rfl, S2, nl, hl, hws⟩
      rw [hpl] at hws
      exact ⟨_, rfl, k l ws H2 S2 nl hl hws⟩
end
end SLW
/-! Part SLBoth. -/
set_option Elab.async false
set_option linter.all false
set_option maxRecDepth 100000
set_option maxHeartbeats 4000000
/-! all_moves, kept_lines, ask_rules, both_moved, is_worse. -/
namespace SLW
open PySem PySem.Spec PyProof.Rows L2 SLR
theorem sortD_of {x y : List Int} (hp : y.Perm x) (ho : OrdB true y) : y = SL.sortD x := by
  have h1 : (SL.sortD x).Pairwise (fun a b => decide (b ≤ a) = true) := List.pairwise_mergeSort (fun a b c h1 h2 => by
    rw [decide_eq_true_eq] at *
    omega) (fun a b => by
    rw [Bool.or_eq_true, decide_eq_true_eq, decide_eq_true_eq]
    omega) x
  have h2 : (SL.sortD x).Pairwise (fun a b => a ≥ b) := h1.imp fun h => of_decide_eq_true h
  have h3 : y.Pairwise (fun a b => a ≥ b) := ho
  exact List.Perm.eq_of_pairwise (fun a b _ _ h1 h2 => Int.le_antisymm h2 h1) h3 h2 (hp.trans (SL.sortD_perm x).symm)
theorem w1_eq (wd : SL.Wd) : (if decide (V.str (wdS wd) = V.str "away") = true then (1 : Int) else 0) = SL.w1 wd := by
  cases wd with
  | away => rfl
  | taken =>
    rw [if_neg]
    · rfl
    · rw [decide_eq_true_eq]
      decide +kernel
  | served =>
    rw [if_neg]
    · rfl
    · rw [decide_eq_true_eq]
      decide +kernel
  | non =>
    rw [if_neg]
    · rfl
    · rw [decide_eq_true_eq]
      decide +kernel
section
variable {P : Program} {w : World} {K : PySem.W.Frag} {mg : Str → Option Value} {base : Heap}
abbrev nMoves : List Str := ["hall", "found", "order", "k"]
theorem scMoves : FnScope nMoves ["hall"] (defScope (topS 33)) := ⟨rfl, rfl, rfl, by decide +kernel, rfl, by decide +kernel, by decide +kernel⟩
def spMoves : Sp := fun vs H Q _ => ∃ (z : V) (ss : List SL.Srv), vs = [z] ∧ HallT H z ss ∧ ss.length ≤ 3 ∧ ∀ l ws H', Same H H' → H l = none → H' l = some (.lst ws) → Paired (MoveT H') ws (SL.moves ss.length) → Q (.ref l) H'
theorem orders_len {n : Nat} (h : n ≤ 3) : (SL.orders n).length ≤ 27 := Nat.le_trans (ordersF_len n n) (pow_small h h)
theorem papp {F : V → SL.Mv → Prop} : ∀ {l1 l2 : List V} {m1 m2 : List SL.Mv}, Paired F l1 m1 → Paired F l2 m2 → Paired F (l1 ++ l2) (m1 ++ m2)
  | _, _, _, _, .nil, h => h
  | _, _, _, _, .cons a t, h => .cons a (papp t h)
theorem c_moves (F : Fn K mg "all_moves" (topS 33) ["hall"]) (T : Txt mg) (C1 : Cal P w K mg base 1 "all_orders" ["hall"] spOrders) : Cal P w K mg base 2 "all_moves" ["hall"] spMoves := by
  refine F.cal scMoves (fun vs H Q E h => ?_) (fun f cdv A outer s H vs Q E hr h => ?_)
  · obtain ⟨z, ss, rfl, _⟩ := h
    rfl
  · obtain ⟨z, ss, rfl, hh, h3, k⟩ := h
    obtain ⟨ah, c, sv, rfl, hah, sa, vs, rfl, hsa, hp⟩ := id hh
    have hpl := plen hp
    refine ⟨_, pss_cons (ps_setLc (i := 1) (own := [("order", 2)]) (g := gName 2) (tt := tYes) (by rfl) scMoves.nd rfl rfl (sw_true rfl rfl rfl (by decide +kernel)) (pi_list (pe_cal C1 hr rfl (pa_cons (pv 0) pa_nil)))
        (blkOk_by (N := nMoves) (sc := defScope (topS 33)) (by decide +kernel)) (fun _ _ _ _ _ => pg_name (i := 2) scMoves.nd rfl (Or.inl rfl)) (fun _ _ _ _ _ => pts_nil)
        (fun _ _ _ _ _ => pe_tup (pa_cons pe_str (pa_cons (pv 2) pa_nil))))
      (pss_one (ps_ret (pe_op op_cat (pe_op op_cat (pv 1)
        (pe_lc (own := [("k", 3)]) (g := gName 3) (tt := tYes) rfl scMoves.nd (pi_range1 (by rfl) T.range (pa_cons (pe_callB call_len_seq (by rfl) T.len PySem.boot_len (pa_cons (pe_at K (pv 0) pe_int) pa_nil)) pa_nil))
          (blkOk_by (N := nMoves) (sc := defScope (topS 33)) (by decide +kernel)) (fun _ _ _ _ _ => pg_name (i := 3) scMoves.nd rfl (Or.inl rfl)) (fun _ _ _ _ _ => pts_nil)
          (fun _ _ _ _ _ => pe_tup (pa_cons pe_str (pa_cons (pv 3) pa_nil)))))
        (pe_lst (pa_cons (pe_tup (pa_cons pe_str pa_nil)) pa_nil))))), ?_⟩
    refine ⟨_, rfl, _, ss, rfl, hh, h3, fun l ws H1 S1 nl hl hws => ?_⟩
    have lws : ws.length ≤ 27 := by
      rw [plen hws]
      exact orders_len h3
    refine ⟨l, rfl, ⟨_, SqL.of hl⟩, fun D hD => ?_⟩
    have nD : H D = none := Same.free S1 hD
    refine lc_list (K := K) (a := l) (xs := ws) (fun i H' => ∃ ds : List V, Same H1 H' ∧ H' D = some (.lst ds) ∧ Paired (MoveT H') ds (((SL.orders ss.length).take i).map .come))
      ⟨[], same_upd hD, upd_same, .nil⟩ (fun i H' _ ⟨_, S, _⟩ => SqL.of (S _ _ hl)) ?_ ?_
    · rintro i u H2 hu ⟨ds, S2, hd, hds⟩
      obtain ⟨o, ho, hou⟩ := pget hws hu
      have hi : i < ws.length := (List.getElem?_eq_some_iff.mp hu).1
      refine ⟨rfl, _, rfl, (by show 2 ≤ sizeLine; decide), fun q hq => ?_⟩
      have S3 := same_upd (o := .tup [V.str "come", u]) hq
      have dl : ds.length ≤ 1000 := by
        rw [plen hds, List.length_map, List.length_take]
        omega
      refine ⟨ds, S3 _ _ hd, small1000 dl, ds ++ [.ref q], same_mut (S2.trans S3) hD, upd_same, ?_⟩
      have ts : TS H2 (upd (upd H2 q (.tup [V.str "come", u])) D (.lst (ds ++ [V.ref q]))) := (Same.ts S3).trans (TS.lst (S3 _ _ hd))
      have e9 : ((SL.orders ss.length).take (i + 1)).map SL.Mv.come = ((SL.orders ss.length).take i).map SL.Mv.come ++ [.come o] := by
        rw [List.take_add_one, ho, List.map_append]
        rfl
      rw [e9]
      exact Paired.snoc (Paired.mapP hds fun _ _ z => z.keep ts) ⟨q, u, rfl, TS.lst (S3 _ _ hd) _ _ upd_same, IntsT.keep ((Same.ts S2).trans ts) hou⟩
    · rintro H2 ⟨ds, S2, hd, hds⟩
      rw [plen hws, List.take_length] at hds
      have dl : ds.length ≤ 27 := by
        rw [plen hds, List.length_map, ← plen hws]
        exact lws
      have SA := S1.trans S2
      refine ⟨_, rfl, _, rfl, _, _, _, _, rfl, rfl, SqT.of (SA _ _ hah), rfl, sa, _, rfl, .inr (SqT.of (SA _ _ hsa)), ?_⟩
      rw [hpl]
      refine ⟨_, rfl, by omega, by omega, fun D2 hD2 => ?_⟩
      refine lc_range (lo := 0) (n := ss.length) (fun i' H' => ∃ es : List V, Same H2 H' ∧ H' D2 = some (.lst es) ∧ Paired (MoveT H') es ((List.range i').map .done))
        ⟨[], same_upd hD2, upd_same, .nil⟩ ?_ ?_
      · rintro i' H3 hi' ⟨es, S3, he, hes⟩
        refine ⟨rfl, ?_⟩
        rw [show ((0 : Int) + (i' : Nat)) = ((i' : Nat) : Int) by omega]
        refine ⟨_, rfl, (by show 2 ≤ sizeLine; decide), fun q hq => ?_⟩
        have S4 := same_upd (o := .tup [V.str "done", V.int ((i' : Nat) : Int)]) hq
        have el : es.length ≤ 1000 := by
          rw [plen hes, List.length_map, List.length_range]
          omega
        refine ⟨es, S4 _ _ he, small1000 el, es ++ [.ref q], same_mut (S3.trans S4) hD2, upd_same, ?_⟩
        have ts : TS H3 (upd (upd H3 q (.tup [V.str "done", V.int ((i' : Nat) : Int)])) D2 (.lst (es ++ [V.ref q]))) := (Same.ts S4).trans (TS.lst (S4 _ _ he))
        rw [List.range_succ, List.map_append]
        refine Paired.snoc (Paired.mapP hes fun _ _ z => z.keep ts) ⟨q, rfl, ?_⟩
        exact TS.lst (S4 _ _ he) _ _ upd_same
      · rintro H3 ⟨es, S3, he, hes⟩
        have el : es.length ≤ 3 := by
          rw [plen hes, List.length_map, List.length_range]
          exact h3
        refine ⟨D, D2, ds, es, rfl, rfl, S3 _ _ hd, he, by rw [sizeLine_eq]; omega, fun p hp' => ?_⟩
        have S5 := same_upd (o := .lst (ds ++ es)) hp'
        refine ⟨(by show 1 ≤ sizeLine; decide), fun q hq => ⟨(by show 1 ≤ sizeLine; decide), fun l2 hl2 => ?_⟩⟩
        have S6 := same_upd (o := .tup [V.str "still"]) hq
        have S7 := same_upd (o := .lst [V.ref q]) hl2
        have S8 := S6.trans S7
        refine ⟨p, l2, ds ++ es, [.ref q], rfl, rfl, S8 _ _ upd_same, upd_same, by rw [sizeLine_eq, List.length_append]; simp only [List.length_singleton]; omega, fun m hm => ?_⟩
        have S9 := same_upd (o := .lst (ds ++ es ++ [V.ref q])) hm
        have SB := ((S5.trans S8).trans S9)
        have SC := (SA.trans S3).trans SB
        refine k m _ _ SC (Same.free (SA.trans S3) (Same.free (S5.trans S8) hm)) upd_same ?_
        unfold SL.moves
        refine papp (papp (Paired.mapP hds fun _ _ z => z.keep (Same.ts (S3.trans SB))) (Paired.mapP hes fun _ _ z => z.keep (Same.ts SB))) (.cons ⟨q, rfl, S9 _ _ (S7 _ _ upd_same)⟩ .nil)
theorem scKept : FnScope ["hall", "lines"] ["hall", "lines"] (defScope (topS 32)) := ⟨rfl, rfl, rfl, by decide +kernel, rfl, by decide +kernel, by decide +kernel⟩
def spKept : Sp := fun vs H Q _ => ∃ (z u : V) (ss : List SL.Srv) (x : List Int), vs = [z, u] ∧ HallT H z ss ∧ IntsT H u x ∧ 1 ≤ ss.length ∧ ss.length ≤ 6 ∧ ∀ v H', Same H H' → IntsT H' v (SL.kept ss x) → Q v H'
theorem c_kept (F : Fn K mg "kept_lines" (topS 32) ["hall", "lines"]) (T : Txt mg) (C1 : Cal P w K mg base 1 "is_alike" ["hall"] spIsAlike) : Cal P w K mg base 2 "kept_lines" ["hall", "lines"] spKept := by
  refine F.cal scKept (fun vs H Q E h => ?_) (fun f cdv A outer s H vs Q E hr h => ?_)
  · obtain ⟨z, u, ss, x, rfl, _⟩ := h
    rfl
  · obtain ⟨z, u, ss, x, rfl, hh, ⟨a, rfl, ha⟩, h1, h6, k⟩ := h
    refine ⟨_, pss_one (ps_ret (pe_ifExp (pt_val (pe_cal C1 hr rfl (pa_cons (pv 0) pa_nil)))
      (pe_callTy call_tuple_of (by rfl) T.tuple (by decide +kernel) (pa_cons (pe_callBK (cr_sortedRevT (b := true)) (by rfl) T.sorted (by decide +kernel) (pa_cons (pv 1) pa_nil) (pk_cons pe_bl pk_nil)) pa_nil))
      (pe_callTy call_tuple_of (by rfl) T.tuple (by decide +kernel) (pa_cons (pv 1) pa_nil)))), ?_⟩
    refine ⟨_, rfl, _, ss, rfl, hh, h1, h6, fun H1 S1 => ⟨_, rfl, ?_⟩⟩
    unfold SL.kept at k
    cases e : SL.alike ss with
    | true =>
      rw [e, if_pos rfl] at k
      refine iteT ?_
      refine ⟨_, rfl, a, x, rfl, rfl, SqT.of (S1 _ _ ha), fun ns' p hpm ho hp => ?_⟩
      rw [sortD_of hpm ho]
      have S2 := same_upd (o := .lst ((SL.sortD x).map V.int)) hp
      refine ⟨p, _, rfl, .inl ⟨SqL.of upd_same, fun q hq => ?_⟩⟩
      exact k _ _ ((S1.trans S2).trans (same_upd hq)) ⟨q, rfl, upd_same⟩
    | false =>
      rw [e, if_neg (by decide)] at k
      refine iteF ?_
      exact ⟨_, rfl, a, _, rfl, .inr ⟨SqT.of (S1 _ _ ha), k _ _ S1 ⟨a, rfl, S1 _ _ ha⟩⟩⟩
theorem scAsk : FnScope ["one", "other"] ["one", "other"] (defScope (topS 34)) := ⟨rfl, rfl, rfl, by decide +kernel, rfl, by decide +kernel, by decide +kernel⟩
def spAsk : Sp := fun vs H Q _ => ∃ (u v : V) (r1 r2 : SL.Rl), vs = [u, v] ∧ RuleT H u r1 ∧ RuleT H v r2 ∧ Q .non H
theorem c_ask (F : Fn K mg "ask_rules" (topS 34) ["one", "other"]) (T : Txt mg) : Cal P w K mg base 1 "ask_rules" ["one", "other"] spAsk := by
  refine F.cal scAsk (fun vs H Q E h => ?_) (fun f cdv A outer s H vs Q E hr h => ?_)
  · obtain ⟨u, v, r1, r2, rfl, _⟩ := h
    rfl
  · obtain ⟨u, v, r1, r2, rfl, ⟨a, rfl, ha⟩, ⟨b, rfl, hb⟩, k⟩ := h
    obtain ⟨tt, et⟩ := T.tu
    refine ⟨_, pss_one (ps_if (PW.pt (pw_or (pt_cmpR op_eq (pe_at K (pv 0) pe_int) (pe_glob (v := .str "turns") rfl et ⟨_, rfl⟩) (nomark _)) (pw_or1 (pt_cmpR op_eq (pe_at K (pv 1) pe_int) (pe_glob (v := .str "turns") rfl et ⟨_, rfl⟩) (nomark _))))) (pss_one ps_never) pss_nil), ?_⟩
    refine ⟨_, rfl, _, _, _, _, rfl, rfl, SqT.of ha, rfl, rfl, _, rfl, iteN (rl_turns r1) ?_⟩
    exact ⟨_, rfl, _, _, _, _, rfl, rfl, SqT.of hb, rfl, rfl, _, rfl, iteN (rl_turns r2) k⟩
abbrev nBoth : List Str := ["hall", "one", "other", "triple", "move", "x", "y", "more", "here", "first", "there", "second"]
theorem scBoth : FnScope nBoth ["hall", "one", "other", "triple", "move"] (defScope (topS 35)) := ⟨rfl, rfl, rfl, by decide +kernel, rfl, by decide +kernel, by decide +kernel⟩
def spBoth : Sp := fun vs H Q _ => ∃ (z u v t m : V) (ss : List SL.Srv) (r1 r2 : SL.Rl) (tr : SL.Pr × Int) (mv : SL.Mv), vs = [z, u, v, t, m] ∧ HallT H z ss ∧ RuleT H u r1 ∧ RuleT H v r2 ∧ TripT H t tr ∧ MoveT H m mv ∧ SL.Hok ss ∧ SL.OkP ss tr.1 ∧ MvOk ss.length mv ∧
  ∀ t' H', Same H H' → TripT H' t' (SL.tr (SL.both ss r1 r2) tr mv) → Q t' H'
theorem c_both (F : Fn K mg "both_moved" (topS 35) ["hall", "one", "other", "triple", "move"]) (T : Txt mg) (C1 : Cal P w K mg base 8 "moved_on" ["hall", "rule", "stand", "move"] spMovedOn) (C2 : Cal P w K mg base 2 "kept_lines" ["hall", "lines"] spKept) :
    Cal P w K mg base 9 "both_moved" ["hall", "one", "other", "triple", "move"] spBoth := by
  refine F.cal scBoth (fun vs H Q E h => ?_) (fun f cdv A outer s H vs Q E hr h => ?_)
  · obtain ⟨z, u, v, t, m, ss, r1, r2, tr, mv, rfl, _⟩ := h
    rfl
  · obtain ⟨z, u, v, t, m, ss, r1, r2, tr, mv, rfl, hh, hu, hv, ⟨ta, x, y, rfl, hta, hx, hy⟩, hm, hk, hok, hO, k⟩ := h
    obtain ⟨tw, ew⟩ := T.aw
    have hr2 : Room 2 _ := hr.mono (by decide)
    have h1 := hk.n1
    have h3 := hk.n3
    refine ⟨_, pss_cons (ps_asg (pv 3) (pg_tup rfl (pgs_cons (pg_name (i := 5) scBoth.nd rfl (.inl rfl)) (pgs_cons (pg_name (i := 6) scBoth.nd rfl (.inl rfl)) (pgs_cons (pg_name (i := 7) scBoth.nd rfl (.inl rfl)) pgs_nil)))))
      (pss_cons (ps_asg (pe_cal C1 hr rfl (pa_cons (pv 0) (pa_cons (pv 1) (pa_cons (pe_tup (pa_cons (pv 5) (pa_cons pe_int pa_nil))) (pa_cons (pv 4) pa_nil))))) (pg_tup rfl (pgs_cons (pg_name (i := 8) scBoth.nd rfl (.inl rfl)) (pgs_cons (pg_name (i := 9) scBoth.nd rfl (.inl rfl)) pgs_nil))))
      (pss_cons (ps_asg (pe_cal C1 hr rfl (pa_cons (pv 0) (pa_cons (pv 2) (pa_cons (pe_tup (pa_cons (pv 6) (pa_cons pe_int pa_nil))) (pa_cons (pv 4) pa_nil))))) (pg_tup rfl (pgs_cons (pg_name (i := 10) scBoth.nd rfl (.inl rfl)) (pgs_cons (pg_name (i := 11) scBoth.nd rfl (.inl rfl)) pgs_nil))))
      (pss_one (ps_ret (pe_tup (pa_cons (pe_cal C2 hr2 rfl (pa_cons (pv 0) (pa_cons (pe_at K (pv 8) pe_int) pa_nil))) (pa_cons (pe_cal C2 hr2 rfl (pa_cons (pv 0) (pa_cons (pe_at K (pv 10) pe_int) pa_nil)))
        (pa_cons (pe_op op_sub (pe_op op_add (pv 7) (pe_callTy call_int1 (by rfl) T.int (by decide +kernel) (pa_cons (pe_cmpR op_eq (pv 11) (pe_glob (v := .str "away") rfl ew ⟨_, rfl⟩) (nomark _)) pa_nil)))
          (pe_callTy call_int1 (by rfl) T.int (by decide +kernel) (pa_cons (pe_cmpR op_eq (pv 9) (pe_glob (v := .str "away") rfl ew ⟨_, rfl⟩) (nomark _)) pa_nil))) pa_nil)))))))), ?_⟩
    refine ⟨_, rfl, ta, _, rfl, SqT.of hta, rfl, _, _, rfl, _, _, rfl, _, _, rfl, rfl, ?_⟩
    -- here, first
    refine ⟨_, rfl, _, rfl, _, rfl, (by show 2 ≤ sizeLine; decide), fun p hp => ⟨_, rfl, ?_⟩⟩
    have S1 := same_upd (o := .tup [x, V.int 0]) hp
    refine ⟨_, _, _, _, ss, r1, tr.1.1, mv, rfl, hh.keep (Same.ts S1), hu.keep (Same.ts S1), ⟨p, x, rfl, upd_same, hx.keep (Same.ts S1)⟩, hm.keep (Same.ts S1), hk, hok.1, hO, fun v1 H2 S2 hm1 => ?_⟩
    have hm1' := hm1
    obtain ⟨a1, b1, l1, rfl, ha1, hb1, hl1⟩ := hm1
    have S3 := S1.trans S2
    refine ⟨a1, _, rfl, SqT.of ha1, rfl, _, _, rfl, _, _, rfl, rfl, ?_⟩
    -- there, second
    refine ⟨_, rfl, _, rfl, _, rfl, (by show 2 ≤ sizeLine; decide), fun p2 hp2 => ⟨_, rfl, ?_⟩⟩
    have S4 := same_upd (o := .tup [y, V.int 0]) hp2
    have S5 := S3.trans S4
    refine ⟨_, _, _, _, ss, r2, tr.1.2, mv, rfl, hh.keep (Same.ts S5), hv.keep (Same.ts S5), ⟨p2, y, rfl, upd_same, hy.keep (Same.ts S5)⟩, hm.keep (Same.ts S5), hk, hok.2, hO, fun v2 H3 S6 hm2 => ?_⟩
    obtain ⟨a2, b2, l2, rfl, ha2, hb2, hl2⟩ := hm2
    have S7 := S5.trans S6
    have S8 := S4.trans S6
    refine ⟨a2, _, rfl, SqT.of ha2, rfl, _, _, rfl, _, _, rfl, rfl, ?_⟩
    -- the triple
    refine ⟨_, rfl, _, rfl, _, _, _, _, rfl, rfl, SqT.of (S8 _ _ hb1), rfl, _, _, ss, (SL.step ss r1 tr.1.1 mv).1, rfl, hh.keep (Same.ts S7), hl1.keep (Same.ts S8), h1, by omega, fun k1 H4 S9 hk1 => ?_⟩
    have SA := S7.trans S9
    refine ⟨_, rfl, _, rfl, _, _, _, _, rfl, rfl, SqT.of (S9 _ _ hb2), rfl, _, _, ss, (SL.step ss r2 tr.1.2 mv).1, rfl, hh.keep (Same.ts SA), hl2.keep (Same.ts S9), h1, by omega, fun k2 H5 SB hk2 => ?_⟩
    refine ⟨_, rfl, _, rfl, rfl, .inr ⟨_, rfl, _, _, rfl, rfl, _, rfl, rfl, .inr ⟨_, rfl, _, _, rfl, rfl, (by show 3 ≤ sizeLine; decide), fun q hq => ?_⟩⟩⟩
    rw [w1_eq, w1_eq]
    have SC := same_upd (o := .tup [k1, k2, V.int (tr.2 + SL.w1 (SL.step ss r2 tr.1.2 mv).2 - SL.w1 (SL.step ss r1 tr.1.1 mv).2)]) hq
    refine k _ _ ((SA.trans SB).trans SC) ⟨q, k1, k2, rfl, ?_, hk1.keep (Same.ts (SB.trans SC)), hk2.keep (Same.ts SC)⟩
    have e : (SL.tr (SL.both ss r1 r2) tr mv).2 = tr.2 + SL.w1 (SL.step ss r2 tr.1.2 mv).2 - SL.w1 (SL.step ss r1 tr.1.1 mv).2 := by
      show tr.2 + (SL.w1 (SL.step ss r2 tr.1.2 mv).2 - SL.w1 (SL.step ss r1 tr.1.1 mv).2) = _
      omega
    rw [e]
    exact upd_same
theorem scWorse : FnScope ["triple", "x", "y", "more"] ["triple"] (defScope (topS 36)) := ⟨rfl, rfl, rfl, by decide +kernel, rfl, by decide +kernel, by decide +kernel⟩
def spWorse : Sp := fun vs H Q _ => ∃ (t : V) (tr : SL.Pr × Int), vs = [t] ∧ TripT H t tr ∧ Q (.bl (SL.bad tr.1 tr.2)) H
theorem c_worse (F : Fn K mg "is_worse" (topS 36) ["triple"]) (T : Txt mg) : Cal P w K mg base 1 "is_worse" ["triple"] spWorse := by
  refine F.cal scWorse (fun vs H Q E h => ?_) (fun f cdv A outer s H vs Q E hr h => ?_)
  · obtain ⟨t, tr, rfl, _⟩ := h
    rfl
  · obtain ⟨t, tr, rfl, ⟨ta, x, y, rfl, hta, ⟨xa, rfl, hxa⟩, ⟨ya, rfl, hya⟩⟩, k⟩ := h
    refine ⟨_, pss_cons (ps_asg (pv 0) (pg_tup rfl (pgs_cons (pg_name (i := 1) scWorse.nd rfl (.inl rfl)) (pgs_cons (pg_name (i := 2) scWorse.nd rfl (.inl rfl)) (pgs_cons (pg_name (i := 3) scWorse.nd rfl (.inl rfl)) pgs_nil)))))
      (pss_one (ps_ret (pe_or (pe_cmpR op_lt (pv 3) pe_int (nomark _)) (pe_one (pe_cmpR op_gt (pe_callB (cr_sumT rfl) (by rfl) T.sum (by decide +kernel) (pa_cons (pv 1) pa_nil))
        (pe_op op_add (pe_callB (cr_sumT rfl) (by rfl) T.sum (by decide +kernel) (pa_cons (pv 2) pa_nil)) (pv 3)) (nomark _)))))), ?_⟩
    refine ⟨_, rfl, ta, _, rfl, SqT.of hta, rfl, _, _, rfl, _, _, rfl, _, _, rfl, rfl, ?_⟩
    refine ⟨_, rfl, _, _, rfl, rfl, _, rfl, iteD (fun h => ?_) (fun h => ?_)⟩
    · have e : SL.bad tr.1 tr.2 = true := by
        unfold SL.bad
        rw [decide_eq_true h]
        rfl
      rw [e] at k
      exact k
    · refine ⟨_, rfl, _, _, rfl, SqT.of hxa, _, rfl, _, _, rfl, SqT.of hya, _, rfl, _, _, rfl, rfl, _, _, rfl, rfl, ?_⟩
      have e : SL.bad tr.1 tr.2 = decide (tr.1.2.sum + tr.2 < tr.1.1.sum) := by
        unfold SL.bad
        rw [decide_eq_false h]
        rfl
      rw [e] at k
      exact k
end
end SLW
/-! Part SLPairs. -/
set_option Elab.async false
set_option linter.all false
set_option maxRecDepth 100000
set_option maxHeartbeats 4000000
/-! The class Pairs: __init__, run_to, met. -/
namespace SLW
open PySem PySem.Spec PyProof.Rows L2 SLR
abbrev BFp := SL.BF SL.Pr SL.Mv
/-- a method of the class at C -/
structure Fm (K : PySem.W.Frag) (C : Addr) (m q : Str) (st : Stmt) (ps : List Str) : Prop where
  ex : ∃ f fd, Fun K m q st f fd ∧ Meth K C m f ∧ Binds K fd ps []
structure CalM (P : Program) (w : World) (K : PySem.W.Frag) (mg : Str → Option Value) (base : Heap) (C : Addr) (k : Nat) (m : Str) (ps : List Str) (sp : Sp) : Prop where
  ex : ∃ f fd, FnOk P w K mg base CX0 k f fd ps sp ∧ Meth K C m f ∧ Binds K fd ps []
section
variable {P : Program} {w : World} {K : PySem.W.Frag} {mg : Str → Option Value} {base : Heap}
theorem Fm.cal {C : Addr} {x q : Str} {st : Stmt} {N ps : List Str} {k : Nat} {sp : Sp} (F : Fm K C x q st ps) (S : FnScope N ps (defScope st)) (len : ∀ vs H Q E, sp vs H Q E → vs.length = ps.length)
    (hbody : ∀ (f : Addr) (cdv : Value) (A : Around) (outer : List Env) (s : Shared) (H : Hp) (vs : List V) (Q : VK) (E : XK), Room k (A.deeper (envOfC q (defScope st) s.heap.objs.size f cdv)) → sp vs H Q E →
      ∃ t, PSs (cxOf CX0 P w K mg base N q (defScope st) f cdv A outer s H E).nox (defBody st) t ∧ t { nx := fun _ H' => Q .non H', rt := Q } (start N vs) H) : CalM P w K mg base C (k + 1) x ps sp := by
  obtain ⟨f, fd, F1, h1, h2⟩ := F.ex
  exact ⟨f, fd, F1.ok S len (hbody f), h1, h2⟩
theorem CalM.mono {C : Addr} {x : Str} {ps : List Str} {j k : Nat} {sp : Sp} (c : CalM P w K mg base C j x ps sp) (h : j ≤ k) : CalM P w K mg base C k x ps sp := by
  obtain ⟨f, fd, F1, h1, h2⟩ := c.ex
  exact ⟨f, fd, F1.mono h, h1, h2⟩
end
section
variable {X : Cx} {k : Nat} {C : Addr} {m : Str} {ps : List Str} {sp : Sp} {pos apos : Pos} {o e : Expr} {es : List Expr} {t : TA} {ta : TE}
theorem pe_calM {pl : Sem Bool} (c : CalM X.prog X.w X.K X.mg X.base C k m ps sp) (cl : Cls X.K C) (hr : Room k X.A) (he : PE X o ta) (ha : PA X (e :: es) t)
    (hst : starEach (e :: es) X.env = (false, eval e X.env) :: starEach es X.env := by rfl) (hpl : (backTo pos (starEach es X.env)).any (·.1) = false := by rfl)
    (ht : eval (.Call (.Attribute o m apos) (e :: es) [] pos) X.env = (do
      let ov ← eval o X.env
      standAt apos.atName
      let (f, first) ← holding [ov] (getMethod ov m pl)
      callWith pos f first (backTo pos (starEach (e :: es) X.env)) (backToKw pos (keywordEach [] X.env))) := by rfl) :
    PE X (.Call (.Attribute o m apos) (e :: es) [] pos) (tMeth C m sp [] E0 ta t) := by
  obtain ⟨f, fd, F1, h1, h2⟩ := c.ex
  exact pe_meth he cl h1 F1 hr h2 .nil pass0 ha hst hpl ht
theorem pe_calM0 {pl : Sem Bool} (c : CalM X.prog X.w X.K X.mg X.base C k m ps sp) (cl : Cls X.K C) (hr : Room k X.A) (he : PE X o ta)
    (ht : eval (.Call (.Attribute o m apos) [] [] pos) X.env = (do
      let ov ← eval o X.env
      standAt apos.atName
      let (f, first) ← holding [ov] (getMethod ov m pl)
      callWith pos f first (backTo pos (starEach [] X.env)) (backToKw pos (keywordEach [] X.env))) := by rfl) :
    PE X (.Call (.Attribute o m apos) [] [] pos) (tMeth C m sp [] E0 ta tNil) := by
  obtain ⟨f, fd, F1, h1, h2⟩ := c.ex
  exact pe_meth0 he cl h1 F1 hr h2 .nil pass0 ht
end
/-- what is known of the class -/
structure PCls (K : PySem.W.Frag) (C : Addr) : Prop where
  cl : Cls K C
  nH : NoAttr K C "hall"
  n1 : NoAttr K C "one"
  n2 : NoAttr K C "other"
  nL : NoAttr K C "line"
  nA : NoAttr K C "ahead_of"
  nD : NoAttr K C "least_of"
def flds (a b c : V) (L A D : Addr) : List (Str × V) := putF "least_of" (.ref D) (putF "ahead_of" (.ref A) (putF "line" (.ref L) (putF "other" c (putF "one" b (putF "hall" a [])))))
section
variable (a b c : V) (L A D : Addr)
theorem flds_D : (flds a b c L A D).lookup ("least_of" : Str) = some (V.ref D) := by
  unfold flds
  rw [lookup_putF, if_pos rfl]
theorem flds_A : (flds a b c L A D).lookup ("ahead_of" : Str) = some (V.ref A) := by
  unfold flds
  rw [lookup_putF, if_neg (by decide +kernel), lookup_putF, if_pos rfl]
theorem flds_L : (flds a b c L A D).lookup ("line" : Str) = some (V.ref L) := by
  unfold flds
  rw [lookup_putF, if_neg (by decide +kernel), lookup_putF, if_neg (by decide +kernel), lookup_putF, if_pos rfl]
theorem flds_2 : (flds a b c L A D).lookup ("other" : Str) = some c := by
  unfold flds
  rw [lookup_putF, if_neg (by decide +kernel), lookup_putF, if_neg (by decide +kernel), lookup_putF, if_neg (by decide +kernel), lookup_putF, if_pos rfl]
theorem flds_1 : (flds a b c L A D).lookup ("one" : Str) = some b := by
  unfold flds
  rw [lookup_putF, if_neg (by decide +kernel), lookup_putF, if_neg (by decide +kernel), lookup_putF, if_neg (by decide +kernel), lookup_putF, if_neg (by decide +kernel), lookup_putF, if_pos rfl]
theorem flds_H : (flds a b c L A D).lookup ("hall" : Str) = some a := by
  unfold flds
  rw [lookup_putF, if_neg (by decide +kernel), lookup_putF, if_neg (by decide +kernel), lookup_putF, if_neg (by decide +kernel), lookup_putF, if_neg (by decide +kernel), lookup_putF, if_neg (by decide +kernel), lookup_putF, if_pos rfl]
theorem flds_no {m : Str} (h : m = "run_to" ∨ m = "met" ∨ m = "worse_run") : (flds a b c L A D).lookup m = none := by
  unfold flds
  rcases h with h | h | h
  all_goals
    subst h
    rw [lookup_putF, if_neg (by decide +kernel), lookup_putF, if_neg (by decide +kernel), lookup_putF, if_neg (by decide +kernel), lookup_putF, if_neg (by decide +kernel), lookup_putF, if_neg (by decide +kernel), lookup_putF, if_neg (by decide +kernel)]
    rfl
end
theorem len_putF {f : Str} {v : V} {fs : List (Str × V)} {n : Nat} (h : fs.length ≤ n) : (putF f v fs).length ≤ n + 1 := Nat.le_trans (length_putF f v fs) (Nat.succ_le_succ h)
def AheadT (H : Hp) (v : V) : Option (Nat × SL.Mv) → Prop
  | none => v = .non
  | some (i, mv) => ∃ a m, v = .ref a ∧ H a = some (.tup [.int (i : Int), m]) ∧ MoveT H m mv
theorem AheadT.keep {H H' : Hp} {v : V} {o : Option (Nat × SL.Mv)} (t : TS H H') (h : AheadT H v o) : AheadT H' v o := by
  cases o with
  | none => exact h
  | some p =>
    obtain ⟨i, mv⟩ := p
    obtain ⟨a, m, e, h1, h2⟩ := h
    exact ⟨a, m, e, t _ _ h1, h2.keep t⟩
/-- the search's data in the heap -/
structure BfT (P : Program) (w : World) (H : Hp) (L A D : Addr) (b : BFp) : Prop where
  ne : L ≠ A
  ln : ∃ ls, H L = some (.lst ls) ∧ Paired (TripT H) ls b.line
  ah : ∃ as, H A = some (.lst as) ∧ Paired (AheadT H) as b.ahead
  ld : ND P w H D b.least
/-- but for three objects all stays -/
def But3 (L A D : Addr) (H H' : Hp) : Prop := ∀ b o, b ≠ L → b ≠ A → b ≠ D → H b = some o → H' b = some o
theorem But3.trans {L A D : Addr} {H H1 H2 : Hp} (x : But3 L A D H H1) (y : But3 L A D H1 H2) : But3 L A D H H2 := fun b o h1 h2 h3 e => y b o h1 h2 h3 (x b o h1 h2 h3 e)
theorem Same.but3 {L A D : Addr} {H H1 : Hp} (x : Same H H1) : But3 L A D H H1 := fun b o _ _ _ e => x b o e
section
variable {P : Program} {w : World} {H H' : Hp} {L A D : Addr} {b : BFp}
theorem BfT.keep (e : Same H H') (h : BfT P w H L A D b) : BfT P w H' L A D b := by
  obtain ⟨ne, ⟨ls, h1, h2⟩, ⟨as, h3, h4⟩, h5⟩ := h
  have t := Same.ts e
  exact ⟨ne, ⟨ls, e _ _ h1, Paired.mapP h2 fun _ _ z => z.keep t⟩, ⟨as, e _ _ h3, Paired.mapP h4 fun _ _ z => z.keep t⟩, h5.keep t fun o z => e _ _ z⟩
theorem BfT.lne {xs : List V} (h : BfT P w H L A D b) {c : Addr} (hc : H c = some (.tup xs)) : c ≠ L ∧ c ≠ A ∧ c ≠ D := by
  obtain ⟨ne, ⟨ls, h1, h2⟩, ⟨as, h3, h4⟩, ⟨_, ks, h5, _⟩⟩ := h
  exact ⟨ne_of hc h1 (fun z => nomatch z), ne_of hc h3 (fun z => nomatch z), ne_of hc h5 (fun z => nomatch z)⟩
theorem BfT.ine {C dx : Addr} {fs : List (Str × V)} (h : BfT P w H L A D b) {c : Addr} (hc : H c = some (.ins C dx fs)) : c ≠ L ∧ c ≠ A ∧ c ≠ D := by
  obtain ⟨ne, ⟨ls, h1, h2⟩, ⟨as, h3, h4⟩, ⟨_, ks, h5, _⟩⟩ := h
  exact ⟨ne_of hc h1 (fun z => nomatch z), ne_of hc h3 (fun z => nomatch z), ne_of hc h5 (fun z => nomatch z)⟩
theorem BfT.fne (h : BfT P w H L A D b) {c : Addr} (hc : H c = none) : c ≠ L ∧ c ≠ A ∧ c ≠ D := by
  obtain ⟨ne, ⟨ls, h1, h2⟩, ⟨as, h3, h4⟩, ⟨_, ks, h5, _⟩⟩ := h
  exact ⟨(ne_of_none h1 hc).symm, (ne_of_none h3 hc).symm, (ne_of_none h5 hc).symm⟩
theorem But3.ts (x : But3 L A D H H') (h : BfT P w H L A D b) : TS H H' := fun c xs e => by
  obtain ⟨h1, h2, h3⟩ := h.lne e
  exact x c _ h1 h2 h3 e
end
section
variable {P : Program} {w : World} {K : PySem.W.Frag} {mg : Str → Option Value} {base : Heap} {C : Addr}
theorem scInit : FnScope ["self", "hall", "one", "other", "void"] ["self", "hall", "one", "other"] (defScope (inClass (topS 38) 0)) := ⟨rfl, rfl, rfl, by decide +kernel, rfl, by decide +kernel, by decide +kernel⟩
def spInit (P : Program) (w : World) (C : Addr) : Sp := fun vs H Q _ => ∃ (p dx : Addr) (hv u v : V) (ss : List SL.Srv), vs = [.ref p, hv, u, v] ∧ H p = some (.ins C dx []) ∧ HallT H hv ss ∧ ss.length ≤ 6 ∧
  ∀ (L A D : Addr) (H' : Hp), H L = none → H A = none → H D = none → H' p = some (.ins C dx (flds hv u v L A D)) → BfT P w H' L A D (SL.startB (SL.voids ss.length)) → (∀ b o, H b = some o → b ≠ p → H' b = some o) → Q .non H'
theorem c_init (F : Fm K C "__init__" "Pairs.__init__" (inClass (topS 38) 0) ["self", "hall", "one", "other"]) (PC : PCls K C) (C1 : Cal P w K mg base 1 "first_stand" ["hall"] spFirst) : CalM P w K mg base C 2 "__init__" ["self", "hall", "one", "other"] (spInit P w C) := by
  refine F.cal scInit (fun vs H Q E h => ?_) (fun f cdv A outer s H vs Q E hr h => ?_)
  · obtain ⟨p, dx, hv, u, v, ss, rfl, _⟩ := h
    rfl
  · obtain ⟨p, dx, hv, u, v, ss, rfl, hp, hh, h6, k⟩ := h
    refine ⟨_, pss_cons (ps_fld (pv 0) (pv 1) rfl)
      (pss_cons (ps_fld (pv 0) (pv 2) rfl)
      (pss_cons (ps_fld (pv 0) (pv 3) rfl)
      (pss_cons (ps_set (i := 4) scInit.nd rfl (.inl rfl) (pe_at K (pe_cal C1 hr rfl (pa_cons (pv 1) pa_nil)) pe_int))
      (pss_cons (ps_fld (pv 0) (pe_lst (pa_cons (pe_tup (pa_cons (pv 4) (pa_cons (pv 4) (pa_cons pe_int pa_nil)))) pa_nil)) rfl)
      (pss_cons (ps_fld (pv 0) (pe_lst (pa_cons pe_non pa_nil)) rfl)
      (pss_one (ps_fld (pv 0) (pe_dispN hr.units (pe_tup (pa_cons (pv 4) (pa_cons (pv 4) pa_nil))) pe_int) rfl))))))), ?_⟩
    have l1 : (putF "hall" hv []).length ≤ 1 := len_putF (Nat.le_refl _)
    have l2 : (putF "one" u (putF "hall" hv [])).length ≤ 2 := len_putF l1
    have l3 : (putF "other" v (putF "one" u (putF "hall" hv []))).length ≤ 3 := len_putF l2
    refine ⟨_, rfl, _, rfl, p, C, dx, _, rfl, hp, PC.cl, PC.nH, (by show 0 < 1000; decide), ?_⟩
    refine ⟨_, rfl, _, rfl, p, C, dx, _, rfl, upd_same, PC.cl, PC.n1, by omega, ?_⟩
    refine ⟨_, rfl, _, rfl, p, C, dx, _, rfl, upd_same, PC.cl, PC.n2, by omega, ?_⟩
    rw [upd_upd, upd_upd]
    have t0 : TS H (upd H p (.ins C dx (putF "other" v (putF "one" u (putF "hall" hv []))))) := TS.upd fun xs e => by rw [hp] at e; cases e
    refine ⟨_, rfl, _, ss, rfl, hh.keep t0, h6, fun st H1 S1 ⟨sa, l, e, hsa, hl⟩ => ?_⟩
    subst e
    obtain ⟨la, rfl, hla⟩ := hl
    have hp1 := S1 _ _ upd_same
    refine ⟨_, _, _, _, rfl, rfl, SqT.of hsa, rfl, ?_⟩
    -- self.line = [(void, void, 0)]
    refine ⟨_, rfl, _, rfl, (by show 3 ≤ sizeLine; decide), fun q hq => ⟨(by show 1 ≤ sizeLine; decide), fun L hL => ?_⟩⟩
    have S2 := same_upd (o := .tup [V.ref la, V.ref la, V.int 0]) hq
    have S3 := same_upd (o := .lst [V.ref q]) hL
    refine ⟨_, rfl, p, C, dx, _, rfl, S3 _ _ (S2 _ _ hp1), PC.cl, PC.nL, by omega, ?_⟩
    have pL : p ≠ L := ne_of_none (S2 _ _ hp1) hL
    have l4 : (putF "line" (.ref L) (putF "other" v (putF "one" u (putF "hall" hv [])))).length ≤ 4 := len_putF l3
    -- self.ahead_of = [None]
    refine ⟨(by show 1 ≤ sizeLine; decide), fun B hB => ?_⟩
    have S4 := same_upd (o := .lst [V.non]) hB
    refine ⟨_, rfl, p, C, dx, _, rfl, S4 _ _ upd_same, PC.cl, PC.nA, by omega, ?_⟩
    have pB : p ≠ B := ne_of_none upd_same hB
    have l5 : (putF "ahead_of" (.ref B) (putF "line" (.ref L) (putF "other" v (putF "one" u (putF "hall" hv []))))).length ≤ 5 := len_putF l4
    -- self.least_of = {(void, void): 0}
    intro D o0 hD nd0
    have pD : p ≠ D := ne_of_none upd_same hD
    refine ⟨_, rfl, _, rfl, (by show 2 ≤ sizeLine; decide), fun r hr' => ?_⟩
    have hLB : L ≠ B := by
      refine ne_of_none (o := .lst [V.ref q]) ?_ hB
      rw [upd_ne pL.symm]
      exact upd_same
    have rD : D ≠ r := ne_of_none upd_same hr'
    have S6 := same_upd (o := .tup [V.ref la, V.ref la]) hr'
    -- names for the heaps
    generalize hH2 : upd (upd (upd H1 q (.tup [V.ref la, V.ref la, V.int 0])) L (.lst [V.ref q])) p (.ins C dx (putF "line" (.ref L) (putF "other" v (putF "one" u (putF "hall" hv []))))) = H2 at *
    generalize hH3 : upd (upd H2 B (.lst [V.non])) p (.ins C dx (putF "ahead_of" (.ref B) (putF "line" (.ref L) (putF "other" v (putF "one" u (putF "hall" hv [])))))) = H3 at *
    have t2 : TS H1 H2 := by
      rw [← hH2]
      refine ((Same.ts S2).trans (Same.ts S3)).trans (TS.upd fun xs e => ?_)
      rw [S3 _ _ (S2 _ _ hp1)] at e
      cases e
    have t3 : TS H2 H3 := by
      rw [← hH3]
      refine (Same.ts S4).trans (TS.upd fun xs e => ?_)
      rw [S4 _ _ (by rw [← hH2]; exact upd_same)] at e
      cases e
    have S5 : Same H3 (upd H3 D o0) := same_upd hD
    have hla3 := t3 _ _ (t2 _ _ hla)
    refine ⟨nd0.keep (Same.ts S6) (fun o e => S6 _ _ e), r, (SL.voidL ss.length, SL.voidL ss.length), 0, rfl, rfl, ⟨la, la, upd_same, S6 _ _ (S5 _ _ hla3), S6 _ _ (S5 _ _ hla3)⟩, fun o1 nd1 => ?_⟩
    have hD6 : ∀ xs, (upd (upd H3 D o0) r (.tup [V.ref la, V.ref la])) D ≠ some (.tup xs) := by
      intro xs e
      obtain ⟨_, ks, e2, _⟩ := nd0
      rw [upd_ne rD, e2] at e
      cases e
    have hp3 : H3 p = some (.ins C dx (putF "ahead_of" (.ref B) (putF "line" (.ref L) (putF "other" v (putF "one" u (putF "hall" hv [])))))) := by
      rw [← hH3]
      exact upd_same
    have hp6 : (upd (upd (upd H3 D o0) r (.tup [V.ref la, V.ref la])) D o1) p = some (.ins C dx (putF "ahead_of" (.ref B) (putF "line" (.ref L) (putF "other" v (putF "one" u (putF "hall" hv [])))))) := by
      rw [upd_ne pD]
      exact S6 _ _ (S5 _ _ hp3)
    refine ⟨_, rfl, p, C, dx, _, rfl, hp6, PC.cl, PC.nD, by omega, ?_⟩
    -- the end
    generalize hH7 : upd (upd (upd H3 D o0) r (.tup [V.ref la, V.ref la])) D o1 = H7 at *
    have t7 : TS H3 H7 := by
      rw [← hH7]
      exact ((Same.ts S5).trans (Same.ts S6)).trans (TS.upd hD6)
    have t8 : TS H7 (upd H7 p (.ins C dx (putF "least_of" (.ref D) (putF "ahead_of" (.ref B) (putF "line" (.ref L) (putF "other" v (putF "one" u (putF "hall" hv []))))))))  := TS.upd fun xs e => by rw [hp6] at e; cases e
    have nB : B ≠ D := by
      refine ne_of_none (o := .lst [V.non]) ?_ hD
      rw [← hH3, upd_ne pB.symm]
      exact upd_same
    have hB3 : H3 B = some (.lst [V.non]) := by
      rw [← hH3, upd_ne pB.symm]
      exact upd_same
    have hL2 : H2 L = some (.lst [V.ref q]) := by
      rw [← hH2, upd_ne pL.symm]
      exact upd_same
    have hL3 : H3 L = some (.lst [V.ref q]) := by
      rw [← hH3, upd_ne pL.symm]
      exact S4 _ _ hL2
    have nLD : L ≠ D := ne_of_none hL3 hD
    have hq2 : H2 q = some (.tup [V.ref la, V.ref la, V.int 0]) := by
      have e : (upd (upd H1 q (.tup [V.ref la, V.ref la, V.int 0])) L (.lst [V.ref q])) q = some (.tup [V.ref la, V.ref la, V.int 0]) := S3 _ _ upd_same
      rw [← hH2, upd_ne (ne_of_none hp1 hq).symm]
      exact e
    have old : ∀ b o, H b = some o → b ≠ p → H7 b = some o := by
      intro b o e hb
      have e1 : H1 b = some o := S1 _ _ (by rw [upd_ne hb]; exact e)
      have e2 : H2 b = some o := by
        rw [← hH2, upd_ne hb]
        exact S3 _ _ (S2 _ _ e1)
      have e3 : H3 b = some o := by
        rw [← hH3, upd_ne hb]
        exact S4 _ _ e2
      rw [← hH7, upd_ne (ne_of_none e3 hD)]
      exact S6 _ _ (S5 _ _ e3)
    have fL : H L = none := by
      cases e : H L with
      | none => rfl
      | some o =>
        have e1 : H1 L = some o := S1 _ _ (by rw [upd_ne pL.symm]; exact e)
        rw [S2 _ _ e1] at hL
        cases hL
    have fB : H B = none := by
      cases e : H B with
      | none => rfl
      | some o =>
        have e1 : H1 B = some o := S1 _ _ (by rw [upd_ne pB.symm]; exact e)
        have e2 : H2 B = some o := by
          rw [← hH2, upd_ne pB.symm]
          exact S3 _ _ (S2 _ _ e1)
        rw [e2] at hB
        cases hB
    have fD : H D = none := by
      cases e : H D with
      | none => rfl
      | some o =>
        have e1 : H1 D = some o := S1 _ _ (by rw [upd_ne pD.symm]; exact e)
        have e2 : H2 D = some o := by
          rw [← hH2, upd_ne pD.symm]
          exact S3 _ _ (S2 _ _ e1)
        have e3 : H3 D = some o := by
          rw [← hH3, upd_ne pD.symm]
          exact S4 _ _ e2
        rw [e3] at hD
        cases hD
    have hL7 : H7 L = some (.lst [V.ref q]) := by
      rw [← hH7, upd_ne nLD]
      exact S6 _ _ (S5 _ _ hL3)
    have hB7 : H7 B = some (.lst [V.non]) := by
      rw [← hH7, upd_ne nB]
      exact S6 _ _ (S5 _ _ hB3)
    have hla8 := t8 _ _ (t7 _ _ hla3)
    refine k L B D _ fL fB fD upd_same ⟨hLB, ⟨[.ref q], ?_, .cons ⟨q, .ref la, .ref la, rfl, t8 _ _ (t7 _ _ (t3 _ _ hq2)), ⟨la, rfl, hla8⟩, ⟨la, rfl, hla8⟩⟩ .nil⟩, ⟨[.non], ?_, .cons rfl .nil⟩, ?_⟩ (fun b o e hb => ?_)
    · rw [upd_ne pL.symm]
      exact hL7
    · rw [upd_ne pB.symm]
      exact hB7
    · refine nd1.keep t8 fun o e => ?_
      rw [upd_ne pD.symm]
      exact e
    · rw [upd_ne hb]
      exact old b o e hb
end
end SLW
/-! Part SLSearch. -/
set_option Elab.async false
set_option linter.all false
set_option maxRecDepth 100000
set_option maxHeartbeats 4000000
/-! Pairs.run_to, Pairs.met. -/
namespace SLW
open PySem PySem.Spec PyProof.Rows L2 SLR
theorem prev {α β : Type} {F : α → β → Prop} : ∀ {l : List α} {m : List β}, Paired F l m → Paired F l.reverse m.reverse
  | _, _, .nil => .nil
  | _, _, .cons h t => by
    rw [List.reverse_cons, List.reverse_cons]
    exact Paired.snoc (prev t) h
/-- every place of the line has its run -/
theorem path_ex {f : SL.Pr → SL.Mv → SL.Pr × Int} {bad : SL.Pr → Int → Bool} {ms : List SL.Mv} {s0 : SL.Pr} {ok : SL.Pr → Prop} {b : BFp} {dep : List Nat} {at_ j : Nat} (I : SL.BInv f bad ms s0 ok b dep at_ j) :
    ∀ (n i : Nat), i ≤ n → i < b.line.length → ∃ run, SL.Path b.ahead i run := by
  intro n
  induction n with
  | zero =>
    intro i hi _
    have e : i = 0 := by omega
    subst e
    exact ⟨[], .here I.hd2⟩
  | succ n ih =>
    intro i hi hl
    by_cases e : i = 0
    · subst e
      exact ⟨[], .here I.hd2⟩
    · obtain ⟨p, mv, t, dp, a1, a2, _⟩ := I.par i (by omega) hl
      obtain ⟨run, hr⟩ := ih p (by omega) (by omega)
      exact ⟨run ++ [mv], .step a1 a2 hr⟩
theorem path_lt {ahead : List (Option (Nat × SL.Mv))} {i : Nat} {run : List SL.Mv} (h : SL.Path ahead i run) : i < ahead.length := by
  cases h with
  | here h => exact (List.getElem?_eq_some_iff.mp h).1
  | step h _ _ => exact (List.getElem?_eq_some_iff.mp h).1
section
variable {P : Program} {w : World} {K : PySem.W.Frag} {mg : Str → Option Value} {base : Heap} {C : Addr}
/-- an object of the class -/
def ObT (C : Addr) (H : Hp) (p : Addr) (hv u v : V) (L A D : Addr) : Prop := ∃ dx, H p = some (.ins C dx (flds hv u v L A D))
theorem scRunTo : FnScope ["self", "at", "found", "move"] ["self", "at"] (defScope (inClass (topS 38) 1)) := ⟨rfl, rfl, rfl, by decide +kernel, rfl, by decide +kernel, by decide +kernel⟩
def spRunTo (P : Program) (w : World) (C : Addr) : Sp := fun vs H Q _ => ∃ (p : Addr) (i : Nat) (hv u v : V) (L A D : Addr) (b : BFp) (run : List SL.Mv), vs = [.ref p, .int (i : Int)] ∧ ObT C H p hv u v L A D ∧ BfT P w H L A D b ∧ SL.Path b.ahead i run ∧ i ≤ 100000 ∧
  ∀ (q : Addr) (ws : List V) (H' : Hp), Same H H' → H' q = some (.tup ws) → Paired (MoveT H') ws run → Q (.ref q) H'
theorem c_runTo (F : Fm K C "run_to" "Pairs.run_to" (inClass (topS 38) 1) ["self", "at"]) (PC : PCls K C) (T : Txt mg) : CalM P w K mg base C 1 "run_to" ["self", "at"] (spRunTo P w C) := by
  refine F.cal scRunTo (fun vs H Q E h => ?_) (fun f cdv A0 outer s H vs Q E hr h => ?_)
  · obtain ⟨p, i, hv, u, v, L, A, D, b, run, rfl, _⟩ := h
    rfl
  · obtain ⟨p, i, hv, u, v, L, A, D, b, run, rfl, ⟨dx, hp⟩, hb, hpath, hi5, k⟩ := h
    obtain ⟨ne, hln, ⟨as, hA, hAs⟩, hld⟩ := hb
    refine ⟨_, pss_cons (ps_set (i := 2) scRunTo.nd rfl (.inl rfl) (pe_lst pa_nil))
      (pss_cons (ps_while PassesOwn.never (pt_cmpR op_notN (pe_atL K (pe_fld (pv 0) rfl) (pv 1)) pe_non (nomark _))
        (pss_cons (ps_asg (pe_atL K (pe_fld (pv 0) rfl) (pv 1)) (pg_tup rfl (pgs_cons (pg_name (i := 1) scRunTo.nd rfl (.inl rfl)) (pgs_cons (pg_name (i := 3) scRunTo.nd rfl (.inl rfl)) pgs_nil))))
        (pss_one (ps_expr (pe_bm PySem.F.plainAttrs_list PySem.F.slot_list_append PySem.F.type_list_append mt_append (pv 2) (pa_cons (pv 3) pa_nil))))))
      (pss_one (ps_ret (pe_tupRev rfl (by rfl) T.tuple (by rfl) T.reversed (pv 2))))), ?_⟩
    refine ⟨Nat.zero_le _, fun F0 hF0 => ?_⟩
    have S0 := same_upd (o := .lst []) hF0
    refine ⟨fun m σ H' => ∃ (j : Nat) (r1 r2 : List SL.Mv) (ms : List V) (v3 : Option V), σ = [some (.ref p), some (.int (j : Int)), some (.ref F0), v3] ∧ m = j ∧ Same H H' ∧ H' F0 = some (.lst ms) ∧ Paired (MoveT H') ms r2 ∧ SL.Path b.ahead j r1 ∧ run = r1 ++ r2.reverse ∧ ms.length + j ≤ 100000, ⟨i, i, run, [], [], none, rfl, rfl, S0, upd_same, .nil, hpath, by simp, by simpa using hi5⟩, ?_⟩
    rintro m σ H2 ⟨j, r1, r2, ms, v3, rfl, rfl, S2, hF, hms, hpj, hrun, hlen⟩
    obtain ⟨o, ho⟩ : ∃ o, b.ahead[m]? = some o := ⟨_, List.getElem?_eq_getElem (path_lt hpj)⟩
    obtain ⟨x, hx, hxo⟩ := pget2 hAs ho
    refine ⟨_, rfl, p, C, dx, _, _, rfl, S2 _ _ hp, PC.cl, PC.nA, flds_A _ _ _ _ _ _, _, rfl, A, as, _, _, rfl, rfl, SqL.of (S2 _ _ hA), at_nat hx, rfl, _, rfl, ?_⟩
    cases o with
    | none =>
      have e1 : x = .non := hxo
      subst e1
      have e2 : r1 = [] := by
        cases hpj with
        | here _ => rfl
        | step h _ _ =>
          rw [ho] at h
          cases h
      subst e2
      refine ⟨_, rfl, F0, ms, rfl, SqL.of hF, fun q hq => ?_⟩
      have S3 := same_upd (o := .tup ms.reverse) hq
      refine k q _ _ (S2.trans S3) upd_same ?_
      rw [hrun, List.nil_append]
      exact prev (Paired.mapP hms fun _ _ z => z.keep (Same.ts S3))
    | some y =>
      obtain ⟨i2, mv⟩ := y
      obtain ⟨a, m2, rfl, ha, hm2⟩ := hxo
      have e1 : ∃ r, r1 = r ++ [mv] ∧ i2 < m ∧ SL.Path b.ahead i2 r := by
        cases hpj with
        | here h =>
          rw [ho] at h
          cases h
        | step h h2 h3 =>
          rw [ho] at h
          cases h
          exact ⟨_, rfl, h2, h3⟩
      obtain ⟨r, rfl, hlt, hpr⟩ := e1
      refine ⟨fun σ' H' => ∃ (m' : Nat), m' < m ∧ ∃ (j : Nat) (r1 r2 : List SL.Mv) (ms : List V) (v3 : Option V), σ' = [some (.ref p), some (.int (j : Int)), some (.ref F0), v3] ∧ m' = j ∧ Same H H' ∧ H' F0 = some (.lst ms) ∧ Paired (MoveT H') ms r2 ∧ SL.Path b.ahead j r1 ∧ run = r1 ++ r2.reverse ∧ ms.length + j ≤ 100000,
        fun σ' H' h => h, ?_⟩
      have ts2 : TS H H2 := Same.ts S2
      refine ⟨_, rfl, p, C, dx, _, _, rfl, S2 _ _ hp, PC.cl, PC.nA, flds_A _ _ _ _ _ _, _, rfl, A, as, _, _, rfl, rfl, SqL.of (S2 _ _ hA), at_nat hx, ?_⟩
      refine ⟨a, _, rfl, SqT.of (ts2 _ _ ha), rfl, _, _, rfl, _, _, rfl, rfl, ?_⟩
      refine ⟨_, rfl, .inl ⟨rfl, _, SqL.of hF⟩, _, rfl, F0, ms, _, rfl, rfl, hF, small_line (by omega), ?_⟩
      have ts3 : TS H2 (upd H2 F0 (.lst (ms ++ [m2]))) := TS.lst hF
      refine ⟨i2, hlt, i2, r, r2 ++ [mv], ms ++ [m2], some m2, rfl, rfl, same_mut S2 hF0, upd_same, Paired.snoc (Paired.mapP hms fun _ _ z => z.keep ts3) (hm2.keep (ts2.trans ts3)), hpr, ?_, ?_⟩
      · rw [hrun, List.reverse_append, List.append_assoc]
        rfl
      · rw [List.length_append, List.length_singleton]
        omega
where small_line {n : Nat} (h : n ≤ 100000) : n < sizeLine := by rw [sizeLine_eq]; omega
abbrev nMet : List Str := ["self", "at", "move", "triple", "x", "y", "more"]
theorem scMet : FnScope nMet ["self", "at", "move", "triple"] (defScope (inClass (topS 38) 2)) := ⟨rfl, rfl, rfl, by decide +kernel, rfl, by decide +kernel, by decide +kernel⟩
def spMet (P : Program) (w : World) (C : Addr) : Sp := fun vs H Q _ => ∃ (p : Addr) (i : Nat) (m t hv u v : V) (L A D : Addr) (b : BFp) (mv : SL.Mv) (tr : SL.Pr × Int), vs = [.ref p, .int (i : Int), m, t] ∧ ObT C H p hv u v L A D ∧ BfT P w H L A D b ∧ MoveT H m mv ∧ TripT H t tr ∧
  b.line.length ≤ 100000 ∧ b.ahead.length ≤ 100000 ∧ b.least.length ≤ 100000 ∧ ∀ H', But3 L A D H H' → BfT P w H' L A D (SL.metB b i mv tr) → Q .non H'
theorem c_met (F : Fm K C "met" "Pairs.met" (inClass (topS 38) 2) ["self", "at", "move", "triple"]) (PC : PCls K C) (T : Txt mg) : CalM P w K mg base C 1 "met" ["self", "at", "move", "triple"] (spMet P w C) := by
  refine F.cal scMet (fun vs H Q E h => ?_) (fun f cdv A0 outer s H vs Q E hr h => ?_)
  · obtain ⟨p, i, m, t, hv, u, v, L, A, D, b, mv, tr, rfl, _⟩ := h
    rfl
  · obtain ⟨p, i, m, t, hv, u, v, L, A, D, b, mv, tr, rfl, ⟨dx, hp⟩, hb, hm, ⟨ta, x, y, rfl, hta, ⟨xa, rfl, hxa⟩, ⟨ya, rfl, hya⟩⟩, z1, z2, z3, k⟩ := h
    have htr : TripT H (.ref ta) tr := ⟨ta, .ref xa, .ref ya, rfl, hta, ⟨xa, rfl, hxa⟩, ⟨ya, rfl, hya⟩⟩
    obtain ⟨p1, p2, p3⟩ := hb.ine hp
    have hu := hr.units
    refine ⟨_, pss_cons (ps_asg (pv 3) (pg_tup rfl (pgs_cons (pg_name (i := 4) scMet.nd rfl (.inl rfl)) (pgs_cons (pg_name (i := 5) scMet.nd rfl (.inl rfl)) (pgs_cons (pg_name (i := 6) scMet.nd rfl (.inl rfl)) pgs_nil)))))
      (pss_one (ps_if (PW.pt (pw_or (pt_cmpR (op_notInN hu) (pe_tup (pa_cons (pv 4) (pa_cons (pv 5) pa_nil))) (pe_fld (pv 0) rfl) (by rfl)) (pw_or1 (pt_cmpR op_lt (pv 6) (pe_ix (ix_nd hu) (pe_fld (pv 0) rfl) (pe_tup (pa_cons (pv 4) (pa_cons (pv 5) pa_nil))) (fun _ _ => rfl)) (nomark _)))))
        (pss_cons (ps_asg (pv 6) (pg_sub (pe_fld (pv 0) rfl) (pe_tup (pa_cons (pv 4) (pa_cons (pv 5) pa_nil))) (set_nd hu)))
        (pss_cons (ps_expr (pe_bm PySem.F.plainAttrs_list PySem.F.slot_list_append PySem.F.type_list_append mt_append (pe_fld (pv 0) rfl) (pa_cons (pv 3) pa_nil)))
        (pss_one (ps_expr (pe_bm PySem.F.plainAttrs_list PySem.F.slot_list_append PySem.F.type_list_append mt_append (pe_fld (pv 0) rfl) (pa_cons (pe_tup (pa_cons (pv 1) (pa_cons (pv 2) pa_nil))) pa_nil)))))) pss_nil)), ?_⟩
    refine ⟨_, rfl, ta, _, rfl, SqT.of hta, rfl, _, _, rfl, _, _, rfl, _, _, rfl, rfl, ?_⟩
    -- what the store and the appends do, from any heap that has grown
    have push : ∀ H1, Same H H1 → SL.isNew b tr = true → (tSeq (tAsg (tVar 6) (gSub (tFld K (tVar 0) "least_of") (tTup (tCons (tVar 4) (tCons (tVar 5) tNil))) (rSetN P w)))
        (tSeq (tDrop (tBM K "list" rAppend (tFld K (tVar 0) "line") (tCons (tVar 3) tNil))) (tDrop (tBM K "list" rAppend (tFld K (tVar 0) "ahead_of") (tCons (tTup (tCons (tVar 1) (tCons (tVar 2) tNil))) tNil)))))
        { nx := fun _ H' => Q .non H', rt := Q } [some (.ref p), some (.int (i : Int)), some m, some (.ref ta), some (.ref xa), some (.ref ya), some (.int tr.2)] H1 := by
      intro H1 S1 hnew
      have hb1 := hb.keep S1
      obtain ⟨ne, ⟨ls, hL, hls⟩, ⟨as, hA, has⟩, hD⟩ := hb1
      refine ⟨_, rfl, _, rfl, p, C, dx, _, _, rfl, S1 _ _ hp, PC.cl, PC.nD, flds_D _ _ _ _ _ _, _, rfl, _, rfl, (by show 2 ≤ sizeLine; decide), fun q hq => ?_⟩
      have S2 := same_upd (o := .tup [V.ref xa, V.ref ya]) hq
      have S3 := S1.trans S2
      refine ⟨D, q, tr.1, b.least, tr.2, rfl, rfl, rfl, ⟨xa, ya, upd_same, S3 _ _ hxa, S3 _ _ hya⟩, hD.keep (Same.ts S2) (fun o e => S2 _ _ e), by rw [sizeLine_eq]; omega, fun o1 nd1 => ?_⟩
      have hDn : ∀ xs, (upd H1 q (.tup [V.ref xa, V.ref ya])) D ≠ some (.tup xs) := by
        intro xs e
        obtain ⟨_, ks, e2, _⟩ := hD
        rw [S2 _ _ e2] at e
        cases e
      have LD : L ≠ D := by
        obtain ⟨_, ks, e2, _⟩ := hD
        exact ne_of hL e2 (fun z => nomatch z)
      have AD : A ≠ D := by
        obtain ⟨_, ks, e2, _⟩ := hD
        exact ne_of hA e2 (fun z => nomatch z)
      generalize hH4 : upd (upd H1 q (.tup [V.ref xa, V.ref ya])) D o1 = H4 at *
      have t4 : TS H1 H4 := by
        rw [← hH4]
        exact (Same.ts S2).trans (TS.upd hDn)
      have k4 : ∀ c o, c ≠ D → H1 c = some o → H4 c = some o := fun c o h e => by
        rw [← hH4, upd_ne h]
        exact S2 _ _ e
      have hp4 : H4 p = some (.ins C dx (flds hv u v L A D)) := k4 _ _ p3 (S1 _ _ hp)
      have hL4 := k4 _ _ LD hL
      have hA4 := k4 _ _ AD hA
      have ll : ls.length = b.line.length := plen hls
      have la : as.length = b.ahead.length := plen has
      -- self.line.append(triple)
      refine ⟨_, rfl, p, C, dx, _, _, rfl, hp4, PC.cl, PC.nL, flds_L _ _ _ _ _ _, .inl ⟨rfl, _, SqL.of hL4⟩, _, rfl, L, ls, _, rfl, rfl, hL4, by rw [sizeLine_eq]; omega, ?_⟩
      have t5 : TS H4 (upd H4 L (.lst (ls ++ [V.ref ta]))) := TS.lst hL4
      -- self.ahead_of.append((at, move))
      have hp5 : (upd H4 L (.lst (ls ++ [V.ref ta]))) p = some (.ins C dx (flds hv u v L A D)) := by rw [upd_ne p1]; exact hp4
      have hA5 : (upd H4 L (.lst (ls ++ [V.ref ta]))) A = some (.lst as) := by rw [upd_ne (fun z => ne z.symm)]; exact hA4
      refine ⟨_, rfl, p, C, dx, _, _, rfl, hp5, PC.cl, PC.nA, flds_A _ _ _ _ _ _, .inl ⟨rfl, _, SqL.of hA5⟩, _, rfl, _, rfl, (by show 2 ≤ sizeLine; decide), fun r hr' => ?_⟩
      have S6 := same_upd (o := .tup [V.int (i : Int), m]) hr'
      refine ⟨A, as, _, rfl, rfl, S6 _ _ hA5, by rw [sizeLine_eq]; omega, ?_⟩
      have hA6 := S6 _ _ hA5
      have t6 : TS (upd H4 L (.lst (ls ++ [V.ref ta]))) (upd (upd (upd H4 L (.lst (ls ++ [V.ref ta]))) r (.tup [V.int (i : Int), m])) A (.lst (as ++ [V.ref r]))) := (Same.ts S6).trans (TS.lst hA6)
      have tt : TS H (upd (upd (upd H4 L (.lst (ls ++ [V.ref ta]))) r (.tup [V.int (i : Int), m])) A (.lst (as ++ [V.ref r]))) := (((Same.ts S1).trans t4).trans t5).trans t6
      have t46 := t5.trans t6
      have rL : L ≠ r := ne_of_none upd_same hr'
      have hL6 : (upd (upd (upd H4 L (.lst (ls ++ [V.ref ta]))) r (.tup [V.int (i : Int), m])) A (.lst (as ++ [V.ref r]))) L = some (.lst (ls ++ [V.ref ta])) := by
        rw [upd_ne ne]
        exact S6 _ _ upd_same
      refine k _ (fun c o c1 c2 c3 e => ?_) ?_
      · rw [upd_ne c2]
        refine S6 _ _ ?_
        rw [upd_ne c1]
        exact k4 _ _ c3 (S1 _ _ e)
      · have em : SL.metB b i mv tr = SL.pushB b i mv tr := by
          unfold SL.metB
          rw [if_pos hnew]
        rw [em]
        refine ⟨ne, ⟨_, hL6, Paired.snoc (Paired.mapP hls fun _ _ z => z.keep (t4.trans t46)) (htr.keep tt)⟩, ⟨_, upd_same, Paired.snoc (Paired.mapP has fun _ _ z => z.keep (t4.trans t46)) ⟨r, m, rfl, ?_, hm.keep tt⟩⟩, ?_⟩
        · exact TS.lst hA6 _ _ upd_same
        · refine nd1.keep t46 fun o e => ?_
          have rD : D ≠ r := ne_of_none (o := o) (by rw [upd_ne LD.symm]; exact e) hr'
          rw [upd_ne AD.symm, upd_ne rD, upd_ne LD.symm]
          exact e
    -- the test
    refine ⟨_, rfl, _, rfl, (by show 2 ≤ sizeLine; decide), fun q hq => ?_⟩
    have S1 := same_upd (o := .tup [V.ref xa, V.ref ya]) hq
    refine ⟨_, rfl, p, C, dx, _, _, rfl, S1 _ _ hp, PC.cl, PC.nD, flds_D _ _ _ _ _ _, D, q, tr.1, b.least, rfl, rfl, ⟨xa, ya, upd_same, S1 _ _ hxa, S1 _ _ hya⟩, hb.ld.keep (Same.ts S1) (fun o e => S1 _ _ e), _, rfl, ?_⟩
    cases e : SL.lk b.least tr.1 with
    | none =>
      refine iteT ?_
      exact push _ S1 (by unfold SL.isNew; rw [e])
    | some m0 =>
      refine iteF ?_
      refine ⟨_, rfl, _, rfl, p, C, dx, _, _, rfl, S1 _ _ hp, PC.cl, PC.nD, flds_D _ _ _ _ _ _, _, rfl, _, rfl, (by show 2 ≤ sizeLine; decide), fun q2 hq2 => ?_⟩
      have S2 := same_upd (o := .tup [V.ref xa, V.ref ya]) hq2
      have S3 := S1.trans S2
      refine ⟨D, q2, tr.1, b.least, m0, rfl, rfl, ⟨xa, ya, upd_same, S3 _ _ hxa, S3 _ _ hya⟩, hb.ld.keep (Same.ts S3) (fun o e => S3 _ _ e), e, _, _, rfl, rfl, _, rfl, iteD (fun hlt => ?_) (fun hlt => ?_)⟩
      · exact push _ S3 (by unfold SL.isNew; rw [e]; exact decide_eq_true hlt)
      · refine k _ (Same.but3 S3) ?_
        have em : SL.metB b i mv tr = b := by
          unfold SL.metB
          rw [if_neg]
          unfold SL.isNew
          rw [e]
          exact fun z => hlt (of_decide_eq_true z)
        rw [em]
        exact hb.keep S3
end
end SLW
/-! Part SLWorse. -/
set_option Elab.async false
set_option linter.all false
set_option maxRecDepth 100000
set_option maxHeartbeats 4000000
/-! Pairs.worse_run: the search's invariant is kept. -/
namespace SLW
open PySem PySem.Spec PyProof.Rows L2 SLR
theorem cat_big {K : PySem.W.Frag} {H : Hp} {a b : Addr} {xs ys : List V} {Q : VK} (ha : H a = some (.tup xs)) (hb : H b = some (.tup ys)) (hz : xs.length + ys.length ≤ 100000) (k : ∀ p H', Same H H' → H' p = some (.tup (xs ++ ys)) → Q (.ref p) H') :
    rCatA K (.ref a) (.ref b) H Q := by
  refine ⟨a, b, xs, ys, rfl, rfl, SqT.of ha, SqT.of hb, by rw [sizeLine_eq]; omega, fun e => ?_, fun _ e => ?_, fun _ _ p hp => ?_⟩
  · exact k b H (Same.refl _) (by rw [e, List.nil_append]; exact hb)
  · exact k a H (Same.refl _) (by rw [e, List.append_nil]; exact ha)
  · exact k p _ (same_upd hp) upd_same
theorem path_len {ahead : List (Option (Nat × SL.Mv))} {i : Nat} {run : List SL.Mv} (h : SL.Path ahead i run) : run.length ≤ i := by
  induction h with
  | here _ => exact Nat.zero_le _
  | step _ h2 _ ih =>
    rw [List.length_append, List.length_singleton]
    omega
abbrev SInv (ss : List SL.Srv) (r1 r2 : SL.Rl) (b : BFp) (dep : List Nat) (i j : Nat) : Prop := SL.BInv (SL.both ss r1 r2) SL.bad (SL.moves ss.length) (SL.voids ss.length) (SL.OkP ss) b dep i j
abbrev STells (ss : List SL.Srv) (r1 r2 : SL.Rl) (res : Option (List SL.Mv)) : Prop := SL.Tells (SL.both ss r1 r2) SL.bad (SL.moves ss.length) (SL.voids ss.length) res
theorem short {ss : List SL.Srv} (hk : SL.Hok ss) {r1 r2 : SL.Rl} {b : BFp} {dep : List Nat} {i j : Nat} (I : SInv ss r1 r2 b dep i j) : b.line.length ≤ 6561 ∧ b.least.length ≤ 81 := by
  obtain ⟨h1, h2⟩ := SL.line_short (SL.fit hk r1 r2) I
  have h3 : (SL.pairsAll ss).length ≤ 81 := by
    rw [SL.pairsAll_len]
    exact Nat.le_trans (Nat.mul_le_mul hk.few hk.few) (by decide)
  exact ⟨Nat.le_trans h1 (Nat.le_trans (Nat.mul_le_mul h3 h3) (by decide)), Nat.le_trans h2 h3⟩
section
variable {P : Program} {w : World} {K : PySem.W.Frag} {mg : Str → Option Value} {base : Heap} {C : Addr}
theorem scWorseRun : FnScope ["self", "at", "move", "triple"] ["self"] (defScope (inClass (topS 38) 3)) := ⟨rfl, rfl, rfl, by decide +kernel, rfl, by decide +kernel, by decide +kernel⟩
def spWorseRun (P : Program) (w : World) (C : Addr) : Sp := fun vs H Q _ => ∃ (p : Addr) (hv u v : V) (ss : List SL.Srv) (r1 r2 : SL.Rl) (L A D : Addr), vs = [.ref p] ∧ ObT C H p hv u v L A D ∧ HallT H hv ss ∧ RuleT H u r1 ∧ RuleT H v r2 ∧ SL.Hok ss ∧ BfT P w H L A D (SL.startB (SL.voids ss.length)) ∧
  (∀ (b : BFp) (H' : Hp), But3 L A D H H' → BfT P w H' L A D b → b.least.length ≤ 81 → STells ss r1 r2 none → Q .non H') ∧
  (∀ (q : Addr) (ws : List V) (run : List SL.Mv) (H' : Hp), But3 L A D H H' → H' q = some (.tup ws) → Paired (MoveT H') ws run → run.length ≤ 10000 → STells ss r1 r2 (some run) → Q (.ref q) H')
theorem c_worseRun (F : Fm K C "worse_run" "Pairs.worse_run" (inClass (topS 38) 3) ["self"]) (PC : PCls K C) (T : Txt mg) (CM : Cal P w K mg base 2 "all_moves" ["hall"] spMoves) (CB : Cal P w K mg base 9 "both_moved" ["hall", "one", "other", "triple", "move"] spBoth)
    (CW : Cal P w K mg base 1 "is_worse" ["triple"] spWorse) (CR : CalM P w K mg base C 1 "run_to" ["self", "at"] (spRunTo P w C)) (CT : CalM P w K mg base C 1 "met" ["self", "at", "move", "triple"] (spMet P w C)) :
    CalM P w K mg base C 10 "worse_run" ["self"] (spWorseRun P w C) := by
  refine F.cal scWorseRun (fun vs H Q E h => ?_) (fun f cdv A0 outer s H vs Q E hr h => ?_)
  · obtain ⟨p, hv, u, v, ss, r1, r2, L, A, D, rfl, _⟩ := h
    rfl
  · obtain ⟨p, hv, u, v, ss, r1, r2, L, A, D, rfl, ⟨dx, hp⟩, hh, hu, hv2, hk, hb0, k1, k2⟩ := h
    have hr1 : Room 1 _ := hr.mono (by decide)
    have hr2 : Room 2 _ := hr.mono (by decide)
    have n1 := hk.n1
    have n3 := hk.n3
    obtain ⟨pL, pA, pD⟩ := hb0.ine hp
    refine ⟨_, pss_cons (ps_set (i := 1) scWorseRun.nd rfl (.inl rfl) pe_int)
      (pss_cons (ps_while PassesOwn.never (pt_cmpR op_lt (pv 1) (pe_callB call_len_seq (by rfl) T.len PySem.boot_len (pa_cons (pe_fld (pv 0) rfl) pa_nil)) (nomark _))
        (pss_cons (ps_for PassesOwn.never rfl (pi_list (pe_cal CM hr2 rfl (pa_cons (pe_fld (pv 0) rfl) pa_nil))) (pg_name (i := 2) scWorseRun.nd rfl (.inl rfl))
          (pss_cons (ps_set (i := 3) scWorseRun.nd rfl (.inl rfl) (pe_cal CB hr rfl (pa_cons (pe_fld (pv 0) rfl) (pa_cons (pe_fld (pv 0) rfl) (pa_cons (pe_fld (pv 0) rfl) (pa_cons (pe_atL K (pe_fld (pv 0) rfl) (pv 1)) (pa_cons (pv 2) pa_nil)))))))
          (pss_cons (ps_if (pt_val (pe_cal CW hr1 rfl (pa_cons (pv 3) pa_nil))) (pss_one (ps_ret (pe_op (op_catK K) (pe_calM CR PC.cl hr1 (pv 0) (pa_cons (pv 1) pa_nil)) (pe_tup (pa_cons (pv 2) pa_nil))))) pss_nil)
          (pss_one (ps_expr (pe_calM CT PC.cl hr1 (pv 0) (pa_cons (pv 1) (pa_cons (pv 2) (pa_cons (pv 3) pa_nil)))))))))
        (pss_one (ps_set (i := 1) scWorseRun.nd rfl (.inl rfl) (pe_op op_add (pv 1) pe_int)))))
      (pss_one (ps_ret pe_non))), ?_⟩
    refine ⟨fun m σ H' => ∃ (i : Nat) (b : BFp) (dep : List Nat) (v2 v3 : Option V), σ = [some (.ref p), some (.int (i : Int)), v2, v3] ∧ But3 L A D H H' ∧ BfT P w H' L A D b ∧ SInv ss r1 r2 b dep i 0 ∧ i ≤ b.line.length ∧ m = 6561 - i,
      ⟨_, 0, _, [0], none, none, rfl, Same.but3 (Same.refl _), hb0, SL.start_inv (SL.fit hk r1 r2), Nat.zero_le _, rfl⟩, ?_⟩
    rintro m σ H1 ⟨i, b, dep, v2, v3, rfl, B1, hb1, I1, hil, rfl⟩
    have hp1 : H1 p = some (.ins C dx (flds hv u v L A D)) := B1 _ _ pL pA pD hp
    have ts1 : TS H H1 := B1.ts hb0
    obtain ⟨ne1, ⟨ls1, hL1, hls1⟩, hA1, hD1⟩ := id hb1
    have hsh := short hk I1
    refine ⟨_, rfl, _, rfl, p, C, dx, _, _, rfl, hp1, PC.cl, PC.nL, flds_L _ _ _ _ _ _, L, ls1, rfl, .inl (SqL.of hL1), _, _, rfl, rfl, _, rfl, iteD (fun hlt => ?_) (fun hlt => ?_)⟩
    · have hlt' : i < b.line.length := by
        rw [plen hls1] at hlt
        omega
      refine ⟨fun σ' H' => ∃ m', m' < 6561 - i ∧ ∃ (i : Nat) (b : BFp) (dep : List Nat) (v2 v3 : Option V), σ' = [some (.ref p), some (.int (i : Int)), v2, v3] ∧ But3 L A D H H' ∧ BfT P w H' L A D b ∧ SInv ss r1 r2 b dep i 0 ∧ i ≤ b.line.length ∧ m' = 6561 - i, fun σ' H' h => h, ?_⟩
      -- for move in all_moves(self.hall)
      refine ⟨_, rfl, p, C, dx, _, _, rfl, hp1, PC.cl, PC.nH, flds_H _ _ _ _ _ _, hv, ss, rfl, hh.keep ts1, n3, fun l ws H2 S2 nl hl hws => ?_⟩
      have hb2 := hb1.keep S2
      obtain ⟨lL, lA, lD⟩ := hb1.fne nl
      have B2 : But3 L A D H H2 := B1.trans (Same.but3 S2)
      have ts2 : TS H H2 := B2.ts hb0
      have hp2 := S2 _ _ hp1
      refine ⟨l, rfl, ⟨_, SqL.of hl⟩, ?_⟩
      refine for_list (K := K) (a := l) (xs := ws) (fun j σ H' => ∃ (b : BFp) (dep : List Nat) (v2 v3 : Option V), σ = [some (.ref p), some (.int (i : Int)), v2, v3] ∧ But3 L A D H2 H' ∧ BfT P w H' L A D b ∧ SInv ss r1 r2 b dep i j ∧ i < b.line.length)
        ⟨b, dep, v2, v3, rfl, Same.but3 (Same.refl _), hb2, I1, hlt'⟩ ?_ ?_ ?_
      · rintro j σ H' _ ⟨_, _, _, _, rfl, B, _⟩
        exact SqL.of (B _ _ lL lA lD hl)
      · rintro j y σ H3 hy ⟨b3, dep3, v2', v3', rfl, B3, hb3, I3, hi3⟩
        obtain ⟨mv, hmv, hym⟩ := pget hws hy
        have B30 := B2.trans B3
        have ts3 : TS H H3 := B30.ts hb0
        have ts23 : TS H2 H3 := B3.ts hb2
        have hp3 : H3 p = some (.ins C dx (flds hv u v L A D)) := B3 _ _ pL pA pD hp2
        obtain ⟨ne3, ⟨ls3, hL3, hls3⟩, ⟨as3, hA3, has3⟩, hD3⟩ := id hb3
        obtain ⟨tr, htr⟩ : ∃ tr, b3.line[i]? = some tr := ⟨_, List.getElem?_eq_getElem hi3⟩
        obtain ⟨tv, htv, htt⟩ := pget2 hls3 htr
        have hmm : mv ∈ SL.moves ss.length := List.mem_of_getElem? hmv
        have sh3 := short hk I3
        -- triple = both_moved(..)
        refine ⟨_, rfl, p, C, dx, _, _, rfl, hp3, PC.cl, PC.nH, flds_H _ _ _ _ _ _, _, rfl, p, C, dx, _, _, rfl, hp3, PC.cl, PC.n1, flds_1 _ _ _ _ _ _, _, rfl, p, C, dx, _, _, rfl, hp3, PC.cl, PC.n2, flds_2 _ _ _ _ _ _,
          _, rfl, p, C, dx, _, _, rfl, hp3, PC.cl, PC.nL, flds_L _ _ _ _ _ _, _, rfl, L, ls3, _, _, rfl, rfl, SqL.of hL3, at_nat htv, _, rfl, ?_⟩
        refine ⟨hv, u, v, tv, y, ss, r1, r2, tr, mv, rfl, hh.keep ts3, hu.keep ts3, hv2.keep ts3, htt, hym.keep ts23, hk, I3.oks tr (List.mem_of_getElem? htr), SL.moves_ok n1 n3 hmm, fun t' H4 S4 ht' => ?_⟩
        have hb4 := hb3.keep S4
        have hp4 := S4 _ _ hp3
        refine ⟨_, rfl, t', _, rfl, ht', _, rfl, iteB (fun hbad => ?_) (fun hbad => ?_)⟩
        · -- return self.run_to(at) + (move,)
          obtain ⟨run, hrun⟩ := path_ex I3 i i (Nat.le_refl _) hi3
          have hrl := path_len hrun
          refine ⟨_, rfl, p, dx, _, rfl, hp4, flds_no _ _ _ _ _ _ (.inl rfl), _, rfl, p, i, hv, u, v, L, A, D, b3, run, rfl, ⟨dx, hp4⟩, hb4, hrun, by omega, fun q ws' H5 S5 hq hqs => ?_⟩
          refine ⟨_, rfl, (by show 1 ≤ sizeLine; decide), fun r hr' => ?_⟩
          have S6 := same_upd (o := .tup [y]) hr'
          have hwl : ws'.length = run.length := plen hqs
          refine cat_big (S6 _ _ hq) upd_same (by simp only [List.length_singleton]; omega) fun q6 H7 S7 h7 => ?_
          have S8 := S6.trans S7
          have SB := (S4.trans S5).trans S8
          refine k2 q6 _ (run ++ [mv]) H7 (B30.trans (Same.but3 SB)) h7 (Paired.snoc (Paired.mapP hqs fun _ _ z => z.keep (Same.ts S8)) (hym.keep (ts23.trans (Same.ts SB)))) (by rw [List.length_append, List.length_singleton]; omega) ?_
          exact SL.found_tells (SL.fit hk r1 r2) I3 htr hmv hbad hrun
        · -- self.met(at, move, triple)
          obtain ⟨dep', I4⟩ := SL.step_inv (SL.fit hk r1 r2) I3 htr hmv hbad
          refine ⟨_, rfl, p, dx, _, rfl, hp4, flds_no _ _ _ _ _ _ (.inr (.inl rfl)), _, rfl, _, rfl, _, rfl, ?_⟩
          refine ⟨p, i, y, t', hv, u, v, L, A, D, b3, mv, _, rfl, ⟨dx, hp4⟩, hb4, hym.keep (ts23.trans (Same.ts S4)), ht', by omega, by rw [I3.len1]; omega, by omega, fun H5 B5 hb5 => ?_⟩
          refine ⟨_, dep', _, _, rfl, B3.trans ((Same.but3 S4).trans B5), hb5, I4, ?_⟩
          exact (List.getElem?_eq_some_iff.mp (SL.met_keeps htr)).1
      · rintro σ H3 ⟨b3, dep3, v2', v3', rfl, B3, hb3, I3, hi3⟩
        have hwl : ws.length = (SL.moves ss.length).length := plen hws
        rw [hwl] at I3
        have sh3 := short hk I3
        refine ⟨_, rfl, _, _, rfl, rfl, 6561 - (i + 1), by omega, i + 1, b3, dep3, v2', v3', ?_, B2.trans B3, hb3, SL.next_inv I3, hi3, rfl⟩
        rfl
    · refine k1 b H1 B1 hb1 hsh.2 (SL.end_tells (SL.fit hk r1 r2) I1 ?_)
      rw [plen hls1] at hlt
      omega
end
end SLW
/-! Part SLNever. -/
set_option Elab.async false
set_option linter.all false
set_option maxRecDepth 100000
set_option maxHeartbeats 4000000
/-! never_worse. -/
namespace SLW
open PySem PySem.Spec PyProof.Rows L2 SLR
theorem pg_tupK {X : Cx} (K : PySem.W.Frag) {es : List Expr} {k : Nat} {pos : Pos} {t : TGs} {n : Nat} (hc : X.calm = true) (h : PGs X es t) (hn : (assignEach es X.env).length = n := by rfl) (hst : (assignEach es X.env).findIdx? (·.1) = none := by rfl) (hK : X.K = K := by rfl) :
    PG X (.Tuple es k pos) (gTup K n t) := by
  subst hK
  exact pg_tup hc h hn hst
theorem ix_ndK {X : Cx} (P : Program) (w : World) (hu : X.A.units + 64 < cLine) (hP : X.prog = P := by rfl) (hw : X.w = w := by rfl) : IxR X (rIxN P w) := by
  subst hP
  subst hw
  exact ix_nd hu
theorem lk_mem {kvs : List (K2 × Int)} {k : K2} (h : k ∈ kvs.map (·.1)) : ∃ i, SL.lk kvs k = some i := by
  cases e : SL.lk kvs k with
  | none => exact absurd h (SL.lk_none_keys e)
  | some i => exact ⟨i, rfl⟩
section
variable {P : Program} {w : World} {K : PySem.W.Frag} {mg : Str → Option Value} {base : Heap} {C : Addr}
abbrev nNever : List Str := ["hall", "one", "other", "pairs", "run", "least_of", "x", "y"]
theorem scNever : FnScope nNever ["hall", "one", "other"] (defScope (topS 39)) := ⟨rfl, rfl, rfl, by decide +kernel, rfl, by decide +kernel, by decide +kernel⟩
def spNever : Sp := fun vs H Q _ => ∃ (hv u v : V) (ss : List SL.Srv) (r1 r2 : SL.Rl), vs = [hv, u, v] ∧ HallT H hv ss ∧ RuleT H u r1 ∧ RuleT H v r2 ∧ SL.Hok ss ∧
  (∀ (p : Addr) (y : V) (H' : Hp), Same H H' → H' p = some (.tup [.str "never", y]) → STells ss r1 r2 none → Q (.ref p) H') ∧
  (∀ (p q : Addr) (ws : List V) (run : List SL.Mv) (H' : Hp), Same H H' → H' p = some (.tup [.str "worse", .ref q]) → H' q = some (.tup ws) → Paired (MoveT H') ws run → run.length ≤ 10000 → STells ss r1 r2 (some run) → Q (.ref p) H')
theorem c_never (F : Fn K mg "never_worse" (topS 39) ["hall", "one", "other"]) (PC : PCls K C) (hC : mg "Pairs" = some (.ref C)) (hmk : PySem.W.makesIn K C = true) (hkC : PySem.W.keepIn K (.ref C) = true) (T : Txt mg)
    (CA : Cal P w K mg base 1 "ask_rules" ["one", "other"] spAsk) (CI : CalM P w K mg base C 2 "__init__" ["self", "hall", "one", "other"] (spInit P w C)) (CW : CalM P w K mg base C 10 "worse_run" ["self"] (spWorseRun P w C)) :
    Cal P w K mg base 11 "never_worse" ["hall", "one", "other"] spNever := by
  refine F.cal scNever (fun vs H Q E h => ?_) (fun f cdv A0 outer s H vs Q E hr h => ?_)
  · obtain ⟨hv, u, v, ss, r1, r2, rfl, _⟩ := h
    rfl
  · obtain ⟨hv, u, v, ss, r1, r2, rfl, hh, hu, hv2, hk, k1, k2⟩ := h
    obtain ⟨fi, fdi, GI, MI, bI⟩ := CI.ex
    have hr1 : Room 1 _ := hr.mono (by decide)
    have hr3 : Room 3 _ := hr.mono (by decide)
    have n3 := hk.n3
    refine ⟨_, pss_cons (ps_expr (pe_cal CA hr1 rfl (pa_cons (pv 1) (pa_cons (pv 2) pa_nil))))
      (pss_cons (ps_set (i := 3) scNever.nd rfl (.inl rfl) (pe_make ⟨hmk, MI.at_, MI.fn, hkC⟩ GI hr3 rfl hC bI .nil pass0 (pa_cons (pv 0) (pa_cons (pv 1) (pa_cons (pv 2) pa_nil)))))
      (pss_cons (ps_set (i := 4) scNever.nd rfl (.inl rfl) (pe_calM0 CW PC.cl hr (pv 3)))
      (pss_cons (ps_if (pt_cmpR op_notN (pv 4) pe_non (nomark _)) (pss_one (ps_ret (pe_tup (pa_cons pe_str (pa_cons (pv 4) pa_nil))))) pss_nil)
      (pss_cons (ps_set (i := 5) scNever.nd rfl (.inr rfl) (pe_fld (pv 3) rfl))
      (pss_one (ps_ret (pe_tup (pa_cons pe_str (pa_cons (pe_callTy call_tuple_of (by rfl) T.tuple (by decide +kernel) (pa_cons
        (pe_lc (own := [("x", 6), ("y", 7)]) (g := gTup K 2 (gCons (gName 6) (gCons (gName 7) gNil))) (tt := tYes) rfl scNever.nd (pi_list (pe_callB (cr_sortedN rfl hr.units) (by rfl) T.sorted (by decide +kernel) (pa_cons (pv 5) pa_nil)))
          (blkOk_by (N := nNever) (sc := defScope (topS 39)) (by decide +kernel))
          (fun _ _ _ _ _ => pg_tupK K rfl (pgs_cons (pg_name (i := 6) scNever.nd rfl (.inl rfl)) (pgs_cons (pg_name (i := 7) scNever.nd rfl (.inl rfl)) pgs_nil))) (fun _ _ _ _ _ => pts_nil)
          (fun _ _ _ _ _ => pe_tup (pa_cons (pv 6) (pa_cons (pv 7) (pa_cons (pe_ix (ix_ndK P w hr.units) (pv 5) (pe_tup (pa_cons (pv 6) (pa_cons (pv 7) pa_nil))) (fun _ _ => rfl)) pa_nil))))) pa_nil)) pa_nil))))))))), ?_⟩
    refine ⟨_, rfl, _, rfl, _, _, r1, r2, rfl, hu, hv2, ?_⟩
    -- pairs = Pairs(hall, one, other)
    refine ⟨_, rfl, _, rfl, _, rfl, fun x dx nx ndx nex => ?_⟩
    have S0 : Same H (upd (upd H dx (.own x)) x (.ins C dx [])) := fun b o e => by
      rw [upd_ne (ne_of_none e nx), upd_ne (ne_of_none e ndx)]
      exact e
    refine ⟨x, dx, hv, u, v, ss, rfl, upd_same, hh.keep (Same.ts S0), by omega, fun L A D H1 fL fA fD hx1 hb1 old => ⟨rfl, ?_⟩⟩
    have S1 : Same H H1 := fun b o e => old b o (S0 b o e) (ne_of_none e nx)
    have nL : H L = none := Same.free S0 fL
    have nA : H A = none := Same.free S0 fA
    have nD : H D = none := Same.free S0 fD
    have big : ∀ {H'}, But3 L A D H1 H' → Same H H' := fun B b o e => B b o (ne_of_none e nL) (ne_of_none e nA) (ne_of_none e nD) (S1 b o e)
    -- run = pairs.worse_run()
    refine ⟨_, rfl, x, dx, _, rfl, hx1, flds_no _ _ _ _ _ _ (.inr (.inr rfl)), ?_⟩
    refine ⟨x, hv, u, v, ss, r1, r2, L, A, D, rfl, ⟨dx, hx1⟩, hh.keep (Same.ts S1), hu.keep (Same.ts S1), hv2.keep (Same.ts S1), hk, hb1, fun b H2 B hb2 hlen ht => ?_, fun q ws run H2 B hq hqs hl ht => ?_⟩
    · refine ⟨_, rfl, rfl, _, rfl, iteF ?_⟩
      obtain ⟨xL, xA, xD⟩ := hb1.ine hx1
      have S2 : Same H H2 := big B
      have hx2 := B _ _ xL xA xD hx1
      have hd2 := hb2.ld
      -- least_of = pairs.least_of
      refine ⟨_, rfl, x, C, dx, _, _, rfl, hx2, PC.cl, PC.nD, flds_D _ _ _ _ _ _, ?_⟩
      refine ⟨_, rfl, D, b.least, rfl, hd2, fun ks bs p hperm hpair hp => ?_⟩
      have S3 := same_upd (o := .lst (bs.map V.ref)) hp
      have hkl : bs.length = b.least.length := by
        rw [← plen hpair, hperm.length_eq, List.length_map]
      refine ⟨p, rfl, ⟨_, SqL.of upd_same⟩, fun D2 hD2 => ?_⟩
      refine lc_list (K := K) (a := p) (xs := bs.map V.ref) (fun i H' => ∃ acc : List V, Same (upd H2 p (.lst (bs.map V.ref))) H' ∧ H' D2 = some (.lst acc) ∧ acc.length = i) ⟨[], same_upd hD2, upd_same, rfl⟩ (fun i H' _ ⟨_, S, _⟩ => SqL.of (S _ _ upd_same)) ?_ ?_
      · rintro i y H4 hy ⟨acc, S4, hacc, hal⟩
        have hib : i < bs.length := by
          have := (List.getElem?_eq_some_iff.mp hy).1
          rw [List.length_map] at this
          exact this
        obtain ⟨bi, hbi, rfl⟩ : ∃ bi, bs[i]? = some bi ∧ y = V.ref bi := by
          rw [List.getElem?_map] at hy
          cases e : bs[i]? with
          | none =>
            rw [e] at hy
            cases hy
          | some bi =>
            rw [e] at hy
            cases hy
            exact ⟨bi, rfl, rfl⟩
        obtain ⟨k, hk', hkt⟩ := pget2 hpair hbi
        have S24 := S3.trans S4
        obtain ⟨b1, b2, e0, e1, e2⟩ := hkt.keep (Same.ts S24)
        obtain ⟨val, hval⟩ := lk_mem (hperm.mem_iff.mp (List.mem_of_getElem? hk'))
        refine ⟨bi, _, rfl, SqT.of e0, rfl, _, _, rfl, _, _, rfl, rfl, rfl, ?_⟩
        refine ⟨_, rfl, _, rfl, _, rfl, _, rfl, _, rfl, (by show 2 ≤ sizeLine; decide), fun r hr' => ?_⟩
        have S5 := same_upd (o := .tup [V.ref b1, V.ref b2]) hr'
        refine ⟨D, r, k, b.least, val, rfl, rfl, ⟨b1, b2, upd_same, S5 _ _ e1, S5 _ _ e2⟩, hd2.keep (Same.ts (S24.trans S5)) (fun o e => (S24.trans S5) _ _ e), hval, (by show 3 ≤ sizeLine; decide), fun t ht' => ?_⟩
        have S6 := same_upd (o := .tup [V.ref b1, V.ref b2, V.int val]) ht'
        refine ⟨acc, S6 _ _ (S5 _ _ hacc), small1000 (by omega), acc ++ [.ref t], same_mut ((S4.trans S5).trans S6) hD2, upd_same, ?_⟩
        rw [List.length_append, List.length_singleton, hal]
      · rintro H4 ⟨acc, S4, hacc, hal⟩
        refine ⟨D2, acc, rfl, .inl ⟨SqL.of hacc, fun t ht' => ⟨(by show 2 ≤ sizeLine; decide), fun r hr' => ?_⟩⟩⟩
        exact k1 r _ _ (((S2.trans S3).trans S4).trans ((same_upd ht').trans (same_upd hr'))) upd_same ht
    · refine ⟨_, rfl, rfl, _, rfl, iteT ?_⟩
      refine ⟨_, rfl, (by show 2 ≤ sizeLine; decide), fun r hr' => ?_⟩
      have S3 := same_upd (o := .tup [V.str "worse", V.ref q]) hr'
      exact k2 r q ws run _ ((big B).trans S3) upd_same (S3 _ _ hq) (Paired.mapP hqs fun _ _ z => z.keep (Same.ts S3)) hl ht
end
end SLW
/-! Part SLLawA. -/
set_option Elab.async false
set_option linter.all false
set_option maxRecDepth 100000
set_option maxHeartbeats 4000000
/-! The law's own steps: _law_step, _law_kept, _law_both, _law_is_bad. -/
namespace SLW
open PySem PySem.Spec PyProof.Rows L2 SLR
def LStepT (H : Hp) (v : V) (y : List Int × SL.Wd) : Prop := ∃ p l, v = .ref p ∧ H p = some (.tup [l, .str (wdS y.2)]) ∧ IntsT H l y.1
theorem put_zero (x : List Int) (k : Nat) : SL.put x k 0 = x := by
  apply List.ext_getElem?
  intro j
  unfold SL.put SL.gx
  rw [Int.add_zero, List.getElem?_set]
  by_cases e : k = j
  · subst e
    rw [if_pos rfl]
    by_cases h : k < x.length
    · rw [if_pos h, List.getD_eq_getElem?_getD, List.getElem?_eq_getElem h]
      rfl
    · rw [if_neg h, List.getElem?_eq_none (by omega)]
  · rw [if_neg e]
theorem dSs_shaped (ss : List SL.Srv) : SeqAt.shaped (.list (ss.map dS)) = true := by
  have h1 : ∀ ss : List SL.Srv, PyData.canLayAll0 (ss.map dS) = true ∧ PyData.depthAll (ss.map dS) ≤ 2 := by
    intro ss
    induction ss with
    | nil => exact ⟨rfl, Nat.zero_le _⟩
    | cons s t ih =>
      rw [List.map_cons]
      simp only [PyData.canLayAll0, PyData.depthAll]
      refine ⟨?_, ?_⟩
      · rw [ih.1, Bool.and_true]
        rfl
      · have : (dS s).depth = 2 := rfl
        rw [this]
        omega
  obtain ⟨a, b⟩ := h1 ss
  have h2 : PyData.depth (.list (ss.map dS)) ≤ 64 := by
    simp only [PyData.depth]
    omega
  show (PyData.canLay0 (.list (ss.map dS)) && decide (PyData.depth (.list (ss.map dS)) ≤ 64)) = true
  rw [Bool.and_eq_true]
  exact ⟨by simp only [PyData.canLay0]; exact a, decide_eq_true h2⟩
theorem eqv_nil (ds : List PyData) : PyData.eqv (.list ds) (.list []) = ds.isEmpty := by
  cases ds with
  | nil => rfl
  | cons d t => rfl
theorem dp_srvs {K : PySem.W.Frag} {H : Hp} : ∀ {vs : List V} {ss : List SL.Srv}, Paired (SrvT H) vs ss → DpAll K H vs (ss.map dS)
  | _, _, .nil => .nil
  | _, _, .cons h t => .cons h.dp (dp_srvs t)
/-- the servers unlike the first -/
def unl (ss : List SL.Srv) : List SL.Srv := ss.filter fun s => !decide (s = SL.gs ss 0)
theorem unl_empty (ss : List SL.Srv) : ((unl ss).map dS).isEmpty = SL.alike ss := by
  unfold unl SL.alike
  rw [Bool.eq_iff_iff, List.isEmpty_iff, List.map_eq_nil_iff, List.filter_eq_nil_iff, List.all_eq_true]
  constructor
  · intro h s hs
    have := h s hs
    simpa using this
  · intro h s hs
    have := h s hs
    simpa using this
section
variable {P : Program} {w : World} {K : PySem.W.Frag} {mg : Str → Option Value} {base : Heap}
abbrev nLStep : List Str := ["_law_hall_here", "_law_rule", "_law_lines", "_law_move", "_law_word", "_law_k", "_law_longest", "_law_void"]
theorem scLStep : FnScope nLStep ["_law_hall_here", "_law_rule", "_law_lines", "_law_move"] (defScope (topS 48)) := ⟨rfl, rfl, rfl, by decide +kernel, rfl, by decide +kernel, by decide +kernel⟩
def spLStep : Sp := fun vs H Q _ => ∃ (z rv l m : V) (ss : List SL.Srv) (r : SL.Rl) (x : List Int) (mv : SL.Mv), vs = [z, rv, l, m] ∧ HallT H z ss ∧ RuleT H rv r ∧ IntsT H l x ∧ MoveT H m mv ∧ SL.Hok ss ∧ SL.OkL ss x ∧ MvOk ss.length mv ∧
  ∀ v H', Same H H' → LStepT H' v (SL.step ss r x mv) → Q v H'
theorem c_lStep (F : Fn K mg "_law_step" (topS 48) ["_law_hall_here", "_law_rule", "_law_lines", "_law_move"]) (T : Txt mg) (C1 : Cal P w K mg base 1 "_law_sent" ["_law_hall_here", "_law_rule", "_law_lines", "_law_order_here"] spLSent)
    (C2 : Cal P w K mg base 1 "_law_put" ["_law_lines", "_law_k", "_law_more"] spLinesWith) : Cal P w K mg base 2 "_law_step" ["_law_hall_here", "_law_rule", "_law_lines", "_law_move"] spLStep := by
  refine F.cal scLStep (fun vs H Q E h => ?_) (fun f cdv A outer s H vs Q E hr h => ?_)
  · obtain ⟨z, rv, l, m, ss, r, x, mv, rfl, _⟩ := h
    rfl
  · obtain ⟨z, rv, l, m, ss, r, x, mv, rfl, hh, hra, hl, hm, hk, hx, hO, k⟩ := h
    obtain ⟨la, rfl, hla⟩ := id hl
    obtain ⟨ah, c, sv, rfl, hah, hsv⟩ := id hh
    have hxl := hx.1
    have n3 := hk.n3
    refine ⟨_, pss_cons (ps_set (i := 4) scLStep.nd rfl (.inl rfl) pe_str)
      (pss_cons (ps_if (pt_cmpR op_eq (pe_at K (pv 3) pe_int) pe_str (nomark _))
          (pss_cons (ps_set (i := 5) scLStep.nd rfl (.inl rfl) (pe_cal C1 hr rfl (pa_cons (pv 0) (pa_cons (pv 1) (pa_cons (pv 2) (pa_cons (pe_at K (pv 3) pe_int) pa_nil))))))
          (pss_cons (ps_set (i := 4) scLStep.nd rfl (.inl rfl) (pe_ifExp (pt_cmpR op_eq (pe_at K (pv 2) (pv 5)) (pe_at K (pe_at K (pe_at K (pv 0) pe_int) (pv 5)) pe_int) (nomark _)) pe_str pe_str))
          (pss_one (ps_set (i := 2) scLStep.nd rfl (.inl rfl) (pe_cal C2 hr rfl (pa_cons (pv 2) (pa_cons (pv 5) (pa_cons (pe_callTy call_int1 (by rfl) T.int (by decide +kernel) (pa_cons (pe_cmpR op_eq (pv 4) pe_str (nomark _)) pa_nil)) pa_nil))))))))
          (pss_one (ps_if (PW.pt (pw_and (pt_cmpR op_eq (pe_at K (pv 3) pe_int) pe_str (nomark _)) (pw_and1 (pt_cmpR op_gt (pe_at K (pv 2) (pe_at K (pv 3) pe_int)) pe_int (nomark _)))))
            (pss_cons (ps_set (i := 4) scLStep.nd rfl (.inl rfl) pe_str)
            (pss_one (ps_set (i := 2) scLStep.nd rfl (.inl rfl) (pe_cal C2 hr rfl (pa_cons (pv 2) (pa_cons (pe_at K (pv 3) pe_int) (pa_cons (pe_un un_neg pe_int) pa_nil))))))) pss_nil)))
      (pss_cons (ps_while PassesOwn.never (PW.pt (pw_and (pt_val (pe_at K (pv 0) pe_int)) pw_never)) pss_never)
      (pss_one (ps_ret (pe_tup (pa_cons (pv 2) (pa_cons (pv 4) pa_nil))))))), ?_⟩
    -- the loop is not entered, the answer
    have fin : ∀ (H1 : Hp) (l' : V) (v3 v5 : Option V), Same H H1 → IntsT H1 l' (SL.step ss r x mv).1 → ∀ rv', 
        (tSeq (tWhile (tAnd (tB (tOp (rIxT K) (tVar 0) (tC (.int 2)))) (fun _ _ _ => False)) tNever) (tRet (tTup (tCons (tVar 2) (tCons (tVar 4) tNil)))))
          { nx := fun _ H' => Q .non H', rt := Q } [some (.ref ah), some rv', some l', v3, some (.str (wdS (SL.step ss r x mv).2)), v5, none, none] H1 := by
      intro H1 l' v3 v5 S1 hl' rv'
      refine ⟨fun _ σ' H' => σ' = [some (.ref ah), some rv', some l', v3, some (.str (wdS (SL.step ss r x mv).2)), v5, none, none] ∧ H' = H1, ⟨0, rfl, rfl⟩, ?_⟩
      rintro _ σ' H' ⟨rfl, rfl⟩
      refine ⟨_, rfl, _, _, _, _, rfl, rfl, SqT.of (S1 _ _ hah), rfl, false, rfl, ?_⟩
      refine ⟨_, rfl, _, rfl, (by show 2 ≤ sizeLine; decide), fun q hq => ?_⟩
      have S2 := same_upd (o := .tup [l', .str (wdS (SL.step ss r x mv).2)]) hq
      exact k _ _ (S1.trans S2) ⟨q, l', rfl, upd_same, hl'.keep (Same.ts S2)⟩
    rcases hO with ⟨o, rfl, hO⟩ | ⟨j, rfl, hj⟩ | rfl
    · obtain ⟨a, b, rfl, ha, hb⟩ := hm
      refine ⟨_, rfl, _, _, _, _, rfl, rfl, SqT.of ha, rfl, rfl, _, rfl, iteY rfl ?_⟩
      refine ⟨_, rfl, _, rfl, _, rfl, _, rfl, _, _, _, _, rfl, rfl, SqT.of ha, rfl, _, _, _, _, ss, r, x, o, rfl, hh, hra, hl, hb, hk, hx, hO, fun H1 S1 => ?_⟩
      have hs := SL.sent_lt (ss := ss) (r := r) (x := x) hk.n1 hO
      obtain ⟨va, svs, sj, rfl, hva, hsj, asj, fj, rfl, hasj, hfj⟩ := hsv.at_ hs
      refine ⟨_, rfl, _, rfl, _, _, _, _, rfl, rfl, SqT.of (S1 _ _ hla), at_nat (gx_at (by omega)), ?_⟩
      refine ⟨_, rfl, _, _, _, _, rfl, rfl, SqT.of (S1 _ _ hah), rfl, _, rfl, _, _, _, _, rfl, rfl, SqT.of (S1 _ _ hva), at_nat hsj, _, _, _, _, rfl, rfl, SqT.of (S1 _ _ hasj), rfl, rfl, _, rfl, iteD (fun e => ?_) (fun e => ?_)⟩
      · injection e with e
        have e0 : (SL.step ss r x (.come o)) = (x, .away) := if_pos e
        rw [e0] at fin
        refine ⟨_, rfl, _, rfl, _, rfl, rfl, .inr ⟨_, rfl, ?_⟩⟩
        rw [if_neg (by rw [decide_eq_true_eq]; decide +kernel)]
        refine ⟨_, x, SL.sent ss r x o, 0, rfl, ⟨la, rfl, S1 _ _ hla⟩, by omega, by omega, fun v H2 S2 hv => ?_⟩
        rw [put_zero] at hv
        exact fin H2 v _ _ (S1.trans S2) hv _
      · have e' : ¬ SL.gx x (SL.sent ss r x o) = SL.room ss (SL.sent ss r x o) := fun z => e (congrArg V.int z)
        have e0 : (SL.step ss r x (.come o)) = (SL.put x (SL.sent ss r x o) 1, .taken) := if_neg e'
        rw [e0] at fin
        refine ⟨_, rfl, _, rfl, _, rfl, rfl, .inr ⟨_, rfl, ?_⟩⟩
        rw [if_pos (decide_eq_true rfl)]
        refine ⟨_, x, SL.sent ss r x o, 1, rfl, ⟨la, rfl, S1 _ _ hla⟩, by omega, by omega, fun v H2 S2 hv => ?_⟩
        exact fin H2 v _ _ (S1.trans S2) hv _
    · obtain ⟨a, rfl, ha⟩ := hm
      refine ⟨_, rfl, _, _, _, _, rfl, rfl, SqT.of ha, rfl, rfl, _, rfl, iteN (by decide +kernel) ?_⟩
      refine ⟨_, rfl, _, _, _, _, rfl, rfl, SqT.of ha, rfl, rfl, _, rfl, iteY rfl ?_⟩
      refine ⟨_, rfl, _, rfl, _, _, _, _, rfl, rfl, SqT.of ha, rfl, _, _, _, _, rfl, rfl, SqT.of hla, at_nat (gx_at (by omega)), _, _, rfl, rfl, _, rfl, iteD (fun e => ?_) (fun e => ?_)⟩
      · have e0 : (SL.step ss r x (.done j)) = (SL.put x j (-1), .served) := if_pos e
        rw [e0] at fin
        refine ⟨_, rfl, _, rfl, _, _, _, _, rfl, rfl, SqT.of ha, rfl, _, rfl, _, x, j, -1, rfl, ⟨la, rfl, hla⟩, by omega, by omega, fun v H2 S2 hv => ?_⟩
        exact fin H2 v _ _ S2 hv _
      · have e0 : (SL.step ss r x (.done j)) = (x, .non) := if_neg e
        rw [e0] at fin
        exact fin H _ _ _ (Same.refl _) hl _
    · obtain ⟨a, rfl, ha⟩ := hm
      refine ⟨_, rfl, _, _, _, _, rfl, rfl, SqT.of ha, rfl, rfl, _, rfl, iteN (by decide +kernel) ?_⟩
      refine ⟨_, rfl, _, _, _, _, rfl, rfl, SqT.of ha, rfl, rfl, _, rfl, iteN (by decide +kernel) ?_⟩
      exact fin H _ _ _ (Same.refl _) hl _
theorem scLKept : FnScope ["_law_hall_here", "_law_lines", "_law_alike", "_law_server"] ["_law_hall_here", "_law_lines"] (defScope (topS 49)) := ⟨rfl, rfl, rfl, by decide +kernel, rfl, by decide +kernel, by decide +kernel⟩
theorem c_lKept (F : Fn K mg "_law_kept" (topS 49) ["_law_hall_here", "_law_lines"]) (T : Txt mg) : Cal P w K mg base 1 "_law_kept" ["_law_hall_here", "_law_lines"] spKept := by
  refine F.cal scLKept (fun vs H Q E h => ?_) (fun f cdv A outer s H vs Q E hr h => ?_)
  · obtain ⟨z, u, ss, x, rfl, _⟩ := h
    rfl
  · obtain ⟨z, u, ss, x, rfl, hh, ⟨a, rfl, ha⟩, h1, h6, k⟩ := h
    obtain ⟨ah, c, sv, rfl, hah, b, vs, rfl, hb, hp⟩ := id hh
    refine ⟨_, pss_cons (ps_set (i := 2) scLKept.nd rfl (.inl rfl) (pe_cmpR (op_eqK K hr.units)
        (pe_lc (own := [("_law_server", 3)]) (g := gName 3) rfl scLKept.nd (pi_tup (pe_at K (pv 0) pe_int)) (blkOk_by (N := ["_law_hall_here", "_law_lines", "_law_alike", "_law_server"]) (sc := defScope (topS 49)) (by decide +kernel))
          (fun _ _ _ _ _ => pg_name (i := 3) scLKept.nd rfl (Or.inl rfl)) (fun _ _ _ _ _ => pts_one (pt_cmpR (op_neK K hr.units) (pv 3) (pe_at K (pe_at K (pv 0) pe_int) pe_int) (nomark _)))
          (fun _ _ _ _ _ => pv 3)) (pe_lst pa_nil) (nomark _)))
      (pss_one (ps_ret (pe_ifExp (pt_val (pv 2))
        (pe_callTy call_tuple_of (by rfl) T.tuple (by decide +kernel) (pa_cons (pe_callBK (cr_sortedRevT (b := true)) (by rfl) T.sorted (by decide +kernel) (pa_cons (pv 1) pa_nil) (pk_cons pe_bl pk_nil)) pa_nil))
        (pv 1)))), ?_⟩
    refine ⟨_, rfl, _, _, _, _, rfl, rfl, SqT.of hah, rfl, b, rfl, ⟨_, SqT.of hb⟩, fun D hD => ?_⟩
    obtain ⟨u0, hu0, hs0⟩ := pget2 hp (show ss[0]? = some (SL.gs ss 0) by
      unfold SL.gs
      rw [List.getD_eq_getElem?_getD, List.getElem?_eq_getElem (by omega)]
      rfl)
    refine lc_tup (K := K) (a := b) (xs := vs) (fun i H' => Same H H' ∧ ∃ acc, H' D = some (.lst acc) ∧ Paired (SrvT H) acc ((ss.take i).filter fun s => !decide (s = SL.gs ss 0))) ⟨same_upd hD, [], upd_same, .nil⟩ (fun i H' _ hP => SqT.of (hP.1 _ _ hb)) ?_ ?_
    · rintro i x' H' hx ⟨S, acc, hl, hacc⟩
      obtain ⟨s, hs, hst⟩ := pget hp hx
      have hi : i < ss.length := (List.getElem?_eq_some_iff.mp hs).1
      have e0 : (ss.take (i + 1)).filter (fun s => !decide (s = SL.gs ss 0)) = (ss.take i).filter (fun s => !decide (s = SL.gs ss 0)) ++ (if s = SL.gs ss 0 then [] else [s]) := by
        rw [List.take_add_one, hs, List.filter_append]
        congr 1
        by_cases e : s = SL.gs ss 0
        · rw [if_pos e]
          show List.filter _ [s] = []
          rw [List.filter_cons_of_neg (by simp [e])]
          rfl
        · rw [if_neg e]
          show List.filter _ [s] = [s]
          rw [List.filter_cons_of_pos (by simp [e])]
          rfl
      have al : acc.length ≤ 1000 := by
        rw [plen hacc]
        have h2 := List.length_filter_le (fun s => !decide (s = SL.gs ss 0)) (ss.take i)
        rw [List.length_take] at h2
        omega
      refine ⟨rfl, _, rfl, _, rfl, _, _, _, _, rfl, rfl, SqT.of (S _ _ hah), rfl, _, _, _, _, rfl, rfl, SqT.of (S _ _ hb), at_nat (j := 0) hu0, _, _, (hst.keep (Same.ts S)).dp, (hs0.keep (Same.ts S)).dp, dS_shaped _, dS_shaped _, _, rfl, ?_⟩
      rw [dS_eqv, e0]
      by_cases e : s = SL.gs ss 0
      · rw [decide_eq_true e, if_pos e, List.append_nil]
        exact iteF ⟨S, acc, hl, hacc⟩
      · rw [decide_eq_false e, if_neg e]
        refine iteT ?_
        exact ⟨_, rfl, acc, hl, small1000 al, same_mut S hD, _, upd_same, Paired.snoc hacc hst⟩
    · rintro H' ⟨S, acc, hl, hacc⟩
      rw [plen hp, List.take_length] at hacc
      refine ⟨Nat.zero_le _, fun p hp' => ?_⟩
      have S2 := same_upd (o := .lst []) hp'
      have SA := S.trans S2
      refine ⟨.list ((unl ss).map dS), .list [], .lst (SqL.of (S2 _ _ hl)) (dp_srvs (Paired.mapP hacc fun _ _ z => z.keep (Same.ts SA))), .lst (SqL.of upd_same) .nil, dSs_shaped _, rfl, ?_⟩
      rw [eqv_nil, unl_empty]
      refine ⟨_, rfl, _, rfl, ?_⟩
      unfold SL.kept at k
      cases e : SL.alike ss with
      | true =>
        rw [e, if_pos rfl] at k
        refine iteT ?_
        refine ⟨_, rfl, a, x, rfl, rfl, SqT.of (SA _ _ ha), fun ns' p hpm ho hp => ?_⟩
        rw [sortD_of hpm ho]
        have S3 := same_upd (o := .lst ((SL.sortD x).map V.int)) hp
        refine ⟨p, _, rfl, .inl ⟨SqL.of upd_same, fun q hq => ?_⟩⟩
        exact k _ _ ((SA.trans S3).trans (same_upd hq)) ⟨q, rfl, upd_same⟩
      | false =>
        rw [e, if_neg (by decide)] at k
        refine iteF ?_
        exact ⟨_, rfl, k _ _ SA ⟨a, rfl, SA _ _ ha⟩⟩
abbrev nLBoth : List Str := ["_law_hall_here", "_law_one", "_law_other", "_law_triple", "_law_move", "_law_x", "_law_first", "_law_y", "_law_second"]
theorem scLBoth : FnScope nLBoth ["_law_hall_here", "_law_one", "_law_other", "_law_triple", "_law_move"] (defScope (topS 51)) := ⟨rfl, rfl, rfl, by decide +kernel, rfl, by decide +kernel, by decide +kernel⟩
theorem c_lBoth (F : Fn K mg "_law_both" (topS 51) ["_law_hall_here", "_law_one", "_law_other", "_law_triple", "_law_move"]) (T : Txt mg) (C1 : Cal P w K mg base 2 "_law_step" ["_law_hall_here", "_law_rule", "_law_lines", "_law_move"] spLStep) (C2 : Cal P w K mg base 1 "_law_kept" ["_law_hall_here", "_law_lines"] spKept) :
    Cal P w K mg base 3 "_law_both" ["_law_hall_here", "_law_one", "_law_other", "_law_triple", "_law_move"] spBoth := by
  refine F.cal scLBoth (fun vs H Q E h => ?_) (fun f cdv A outer s H vs Q E hr h => ?_)
  · obtain ⟨z, u, v, t, m, ss, r1, r2, tr, mv, rfl, _⟩ := h
    rfl
  · obtain ⟨z, u, v, t, m, ss, r1, r2, tr, mv, rfl, hh, hu, hv, ⟨ta, x, y, rfl, hta, hx, hy⟩, hm, hk, hok, hO, k⟩ := h
    have hr2 : Room 1 _ := hr.mono (by decide)
    have h1 := hk.n1
    have h3 := hk.n3
    refine ⟨_, pss_cons (ps_asg (pe_cal C1 hr rfl (pa_cons (pv 0) (pa_cons (pv 1) (pa_cons (pe_at K (pv 3) pe_int) (pa_cons (pv 4) pa_nil))))) (pg_tup rfl (pgs_cons (pg_name (i := 5) scLBoth.nd rfl (.inl rfl)) (pgs_cons (pg_name (i := 6) scLBoth.nd rfl (.inl rfl)) pgs_nil))))
      (pss_cons (ps_asg (pe_cal C1 hr rfl (pa_cons (pv 0) (pa_cons (pv 2) (pa_cons (pe_at K (pv 3) pe_int) (pa_cons (pv 4) pa_nil))))) (pg_tup rfl (pgs_cons (pg_name (i := 7) scLBoth.nd rfl (.inl rfl)) (pgs_cons (pg_name (i := 8) scLBoth.nd rfl (.inl rfl)) pgs_nil))))
      (pss_one (ps_ret (pe_tup (pa_cons (pe_cal C2 hr2 rfl (pa_cons (pv 0) (pa_cons (pv 5) pa_nil))) (pa_cons (pe_cal C2 hr2 rfl (pa_cons (pv 0) (pa_cons (pv 7) pa_nil)))
        (pa_cons (pe_op op_sub (pe_op op_add (pe_at K (pv 3) pe_int) (pe_callTy call_int1 (by rfl) T.int (by decide +kernel) (pa_cons (pe_cmpR op_eq (pv 8) pe_str (nomark _)) pa_nil)))
          (pe_callTy call_int1 (by rfl) T.int (by decide +kernel) (pa_cons (pe_cmpR op_eq (pv 6) pe_str (nomark _)) pa_nil))) pa_nil))))))), ?_⟩
    refine ⟨_, rfl, _, rfl, _, rfl, _, _, _, _, rfl, rfl, SqT.of hta, rfl, _, rfl, ?_⟩
    refine ⟨_, _, _, _, ss, r1, tr.1.1, mv, rfl, hh, hu, hx, hm, hk, hok.1, hO, fun v1 H2 S2 ⟨a1, l1, e1, ha1, hl1⟩ => ?_⟩
    subst e1
    refine ⟨a1, _, rfl, SqT.of ha1, rfl, _, _, rfl, _, _, rfl, rfl, ?_⟩
    refine ⟨_, rfl, _, rfl, _, rfl, _, _, _, _, rfl, rfl, SqT.of (S2 _ _ hta), rfl, _, rfl, ?_⟩
    refine ⟨_, _, _, _, ss, r2, tr.1.2, mv, rfl, hh.keep (Same.ts S2), hv.keep (Same.ts S2), hy.keep (Same.ts S2), hm.keep (Same.ts S2), hk, hok.2, hO, fun v2 H3 S3 ⟨a2, l2, e2, ha2, hl2⟩ => ?_⟩
    subst e2
    have S4 := S2.trans S3
    refine ⟨a2, _, rfl, SqT.of ha2, rfl, _, _, rfl, _, _, rfl, rfl, ?_⟩
    refine ⟨_, rfl, _, rfl, _, _, ss, (SL.step ss r1 tr.1.1 mv).1, rfl, hh.keep (Same.ts S4), hl1.keep (Same.ts S3), h1, by omega, fun k1 H4 S9 hk1 => ?_⟩
    have SA := S4.trans S9
    refine ⟨_, rfl, _, rfl, _, _, ss, (SL.step ss r2 tr.1.2 mv).1, rfl, hh.keep (Same.ts SA), hl2.keep (Same.ts S9), h1, by omega, fun k2 H5 SB hk2 => ?_⟩
    have SE := SA.trans SB
    refine ⟨_, rfl, _, _, _, _, rfl, rfl, SqT.of (SE _ _ hta), rfl, _, rfl, rfl, .inr ⟨_, rfl, _, _, rfl, rfl, _, rfl, rfl, .inr ⟨_, rfl, _, _, rfl, rfl, (by show 3 ≤ sizeLine; decide), fun q hq => ?_⟩⟩⟩
    rw [w1_eq, w1_eq]
    have SC := same_upd (o := .tup [k1, k2, V.int (tr.2 + SL.w1 (SL.step ss r2 tr.1.2 mv).2 - SL.w1 (SL.step ss r1 tr.1.1 mv).2)]) hq
    refine k _ _ (SE.trans SC) ⟨q, k1, k2, rfl, ?_, hk1.keep (Same.ts (SB.trans SC)), hk2.keep (Same.ts SC)⟩
    have e : (SL.tr (SL.both ss r1 r2) tr mv).2 = tr.2 + SL.w1 (SL.step ss r2 tr.1.2 mv).2 - SL.w1 (SL.step ss r1 tr.1.1 mv).2 := by
      show tr.2 + (SL.w1 (SL.step ss r2 tr.1.2 mv).2 - SL.w1 (SL.step ss r1 tr.1.1 mv).2) = _
      omega
    rw [e]
    exact upd_same
theorem scLBad : FnScope ["_law_triple"] ["_law_triple"] (defScope (topS 52)) := ⟨rfl, rfl, rfl, by decide +kernel, rfl, by decide +kernel, by decide +kernel⟩
theorem c_lBad (F : Fn K mg "_law_is_bad" (topS 52) ["_law_triple"]) (T : Txt mg) : Cal P w K mg base 1 "_law_is_bad" ["_law_triple"] spWorse := by
  refine F.cal scLBad (fun vs H Q E h => ?_) (fun f cdv A outer s H vs Q E hr h => ?_)
  · obtain ⟨t, tr, rfl, _⟩ := h
    rfl
  · obtain ⟨t, tr, rfl, ⟨ta, x, y, rfl, hta, ⟨xa, rfl, hxa⟩, ⟨ya, rfl, hya⟩⟩, k⟩ := h
    refine ⟨_, pss_one (ps_ret (pe_or (pe_cmpR op_lt (pe_at K (pv 0) pe_int) pe_int (nomark _)) (pe_one (pe_cmpR op_gt (pe_callB (cr_sumT rfl) (by rfl) T.sum (by decide +kernel) (pa_cons (pe_at K (pv 0) pe_int) pa_nil))
        (pe_op op_add (pe_callB (cr_sumT rfl) (by rfl) T.sum (by decide +kernel) (pa_cons (pe_at K (pv 0) pe_int) pa_nil)) (pe_at K (pv 0) pe_int)) (nomark _))))), ?_⟩
    refine ⟨_, rfl, _, _, _, _, rfl, rfl, SqT.of hta, rfl, _, _, rfl, rfl, _, rfl, iteD (fun h => ?_) (fun h => ?_)⟩
    · have e : SL.bad tr.1 tr.2 = true := by
        unfold SL.bad
        rw [decide_eq_true h]
        rfl
      rw [e] at k
      exact k
    · refine ⟨_, rfl, _, _, _, _, rfl, rfl, SqT.of hta, rfl, _, _, rfl, SqT.of hxa, _, rfl, _, _, _, _, rfl, rfl, SqT.of hta, rfl, _, _, rfl, SqT.of hya, _, rfl, _, _, _, _, rfl, rfl, SqT.of hta, rfl, _, _, rfl, rfl, _, _, rfl, rfl, ?_⟩
      have e : SL.bad tr.1 tr.2 = decide (tr.1.2.sum + tr.2 < tr.1.1.sum) := by
        unfold SL.bad
        rw [decide_eq_false h]
        rfl
      rw [e] at k
      exact k
end
end SLW
/-! Part SLTape. -/
set_option Elab.async false
set_option linter.all false
set_option maxRecDepth 100000
set_option maxHeartbeats 4000000
/-! The law's tape: _law_tape, _law_draw. -/
namespace SLW
open PySem PySem.Spec PyProof.Rows L2 SLR
theorem dp_ints {K : PySem.W.Frag} {H : Hp} : ∀ ns : List Int, DpAll K H (ns.map V.int) (ns.map PyData.int)
  | [] => .nil
  | n :: t => .cons (.int n) (dp_ints t)
theorem ints_shaped (ns : List Int) : SeqAt.shaped (.list (ns.map PyData.int)) = true := by
  have h1 : ∀ ns : List Int, PyData.canLayAll0 (ns.map PyData.int) = true ∧ PyData.depthAll (ns.map PyData.int) ≤ 2 := by
    intro ns
    induction ns with
    | nil => exact ⟨rfl, Nat.zero_le _⟩
    | cons s t ih =>
      rw [List.map_cons]
      simp only [PyData.canLayAll0, PyData.depthAll]
      refine ⟨?_, ?_⟩
      · rw [ih.1, Bool.and_true]
        rfl
      · have : (PyData.int s).depth = 0 := rfl
        rw [this]
        omega
  obtain ⟨a, b⟩ := h1 ns
  have h2 : PyData.depth (.list (ns.map PyData.int)) ≤ 64 := by
    simp only [PyData.depth]
    omega
  show (PyData.canLay0 (.list (ns.map PyData.int)) && decide (PyData.depth (.list (ns.map PyData.int)) ≤ 64)) = true
  rw [Bool.and_eq_true]
  exact ⟨by simp only [PyData.canLay0]; exact a, decide_eq_true h2⟩
theorem ints_eqv : ∀ ns ms : List Int, PyData.eqv (.list (ns.map PyData.int)) (.list (ms.map PyData.int)) = decide (ns = ms) := by
  have h : ∀ ns ms : List Int, PyData.eqvAll (ns.map PyData.int) (ms.map PyData.int) = decide (ns = ms) := by
    intro ns
    induction ns with
    | nil =>
      intro ms
      cases ms with
      | nil => rfl
      | cons m t => rfl
    | cons n t ih =>
      intro ms
      cases ms with
      | nil => rfl
      | cons m u =>
        rw [List.map_cons, List.map_cons]
        simp only [PyData.eqvAll, PyData.eqv]
        rw [ih u, Bool.eq_iff_iff]
        simp
  intro ns ms
  simp only [PyData.eqv]
  exact h ns ms
/-- what changes but at d -/
def But (d : Addr) (H H' : Hp) : Prop := ∀ b o, b ≠ d → H b = some o → H' b = some o
theorem But.refl (d : Addr) (H : Hp) : But d H H := fun _ _ _ h => h
theorem But.trans {d : Addr} {H H1 H2 : Hp} (a : But d H H1) (b : But d H1 H2) : But d H H2 := fun c o n h => b c o n (a c o n h)
theorem But.same {d : Addr} {H H1 : Hp} (a : Same H H1) : But d H H1 := fun c o _ h => a c o h
theorem But.upd {d : Addr} (H : Hp) (o : HO) : But d H (upd H d o) := fun c x n h => by
  rw [upd_ne n]
  exact h
theorem But.mut {d p : Addr} {H H' : Hp} {o : HO} (a : But d H H') (n : H p = none) : But d H (L2.upd H' p o) := fun c x m h => by
  rw [upd_ne (ne_of_none h n)]
  exact a c x m h
/-- the tape at d, its script at sl -/
def TapeT (H : Hp) (d sl : Addr) : Prop := ∃ (ns : List Int) (a b : Int), H d = some (.dK [(.inr "script", .ref sl), (.inr "turn", .int a), (.inr "left", .int b)]) ∧ H sl = some (.lst (ns.map V.int)) ∧ ns.length ≤ 63
theorem TapeT.ts {d sl : Addr} {H H' : Hp} (h : TapeT H d sl) (b : But d H H') : TS H H' := by
  obtain ⟨ns, x, y, hd, _⟩ := h
  intro a l e
  refine b a _ (fun z => ?_) e
  subst z
  rw [hd] at e
  cases e
theorem TapeT.keep {d sl : Addr} {H H' : Hp} (h : TapeT H d sl) (b : Same H H') : TapeT H' d sl := by
  obtain ⟨ns, x, y, hd, hs, hl⟩ := h
  exact ⟨ns, x, y, b _ _ hd, b _ _ hs, hl⟩
/-- what was new may have changed since -/
theorem TapeT.mut {d sl p : Addr} {H H' : Hp} {o : HO} (h0 : TapeT H d sl) (h : TapeT H' d sl) (n : H p = none) : TapeT (upd H' p o) d sl := by
  obtain ⟨_, _, _, ed, es, _⟩ := h0
  obtain ⟨ns, x, y, hd, hs, hl⟩ := h
  exact ⟨ns, x, y, by rw [upd_ne (ne_of_none ed n)]; exact hd, by rw [upd_ne (ne_of_none es n)]; exact hs, hl⟩
theorem TapeT.ne {d sl p : Addr} {H : Hp} {xs : List V} (h : TapeT H d sl) (e : H p = some (.lst xs)) : p ≠ d := by
  obtain ⟨_, _, _, ed, _⟩ := h
  intro z
  subst z
  rw [ed] at e
  cases e
section
variable {P : Program} {w : World} {K : PySem.W.Frag} {mg : Str → Option Value} {base : Heap}
theorem scTape : FnScope ["_law_script"] ["_law_script"] (defScope (topS 41)) := ⟨rfl, rfl, rfl, by decide +kernel, rfl, by decide +kernel, by decide +kernel⟩
def spTape (K : PySem.W.Frag) : Sp := fun vs H Q _ => ∃ (a : Addr) (ns : List Int), vs = [.ref a] ∧ SqL K H a (ns.map V.int) ∧ ns.length ≤ 63 ∧ ∀ d sl H', Same H H' → H d = none → TapeT H' d sl → Q (.ref d) H'
theorem c_tape (F : Fn K mg "_law_tape" (topS 41) ["_law_script"]) : Cal P w K mg base 1 "_law_tape" ["_law_script"] (spTape K) := by
  refine F.cal scTape (fun vs H Q E h => ?_) (fun f cdv A outer s H vs Q E hr h => ?_)
  · obtain ⟨a, ns, rfl, _⟩ := h
    rfl
  · obtain ⟨a, ns, rfl, hS, hl, k⟩ := h
    refine ⟨_, pss_one (ps_ret (pe_disp (pps_cons pe_str (pe_slice sl_list (pv 0) po_none (po_some pe_int)) (pps_cons pe_str pe_int (pps_cons pe_str pe_int pps_nil))) rfl rfl (by decide) (by decide))), ?_⟩
    intro d hd
    have S0 := same_upd (o := .dK []) hd
    refine ⟨_, rfl, _, rfl, a, _, rfl, S0.seq hS, fun p hp => ?_⟩
    have S1 := S0.trans (same_upd (o := .lst (cutV (ns.map V.int) none (some 63))) hp)
    have ndp : d ≠ p := ne_of_none (a := d) upd_same hp
    refine ⟨by rw [upd_ne ndp, upd_same], [(.inr "script", .ref p), (.inr "turn", .int 0), (.inr "left", .int 0)], rfl, (by show 3 ≤ 15; decide), ?_⟩
    refine k d p _ (same_mut S1 hd) hd ⟨(ns.drop 0).take 63, 0, 0, upd_same, ?_, ?_⟩
    · rw [upd_ne ndp.symm, upd_same]
      unfold cutV
      rw [← List.map_drop, ← List.map_take]
      have e1 : HT.sIx (ns.map V.int).length 0 none = 0 := rfl
      have e2 : HT.sIx (ns.map V.int).length (ns.map V.int).length (some 63) = ns.length := by
        have := HT.sIx_nat (ns.map V.int).length (ns.map V.int).length 63
        rw [List.length_map] at this ⊢
        exact this.trans (by omega)
      rw [e1, e2, List.take_of_length_le (by rw [List.length_drop]; omega), List.take_of_length_le (by rw [List.length_drop]; omega)]
    · rw [List.length_take]
      omega
def spDraw : Sp := fun vs H Q _ => ∃ (d sl : Addr) (m : Int), vs = [.ref d, .int m] ∧ TapeT H d sl ∧ 0 < m ∧ m ≤ 100 ∧ ∀ i H', But d H H' → TapeT H' d sl → 0 ≤ i → i < m → Q (.int i) H'
abbrev nDraw : List Str := ["_law_tape_here", "_law_many", "_law_found", "_law_turn", "_law_cell", "_law_mixed"]
theorem scDraw : FnScope nDraw ["_law_tape_here", "_law_many"] (defScope (topS 42)) := ⟨rfl, rfl, rfl, by decide +kernel, rfl, by decide +kernel, by decide +kernel⟩
theorem c_draw (F : Fn K mg "_law_draw" (topS 42) ["_law_tape_here", "_law_many"]) (T : Txt mg) : Cal P w K mg base 1 "_law_draw" ["_law_tape_here", "_law_many"] spDraw := by
  refine F.cal scDraw (fun vs H Q E h => ?_) (fun f cdv A outer s H vs Q E hr h => ?_)
  · obtain ⟨d, sl, m, rfl, _⟩ := h
    rfl
  · obtain ⟨d, sl, m, rfl, hT, h0, hm, k⟩ := h
    obtain ⟨ns, a, b, hd, hs, hl⟩ := id hT
    have hu := Nat.lt_of_le_of_lt (Nat.add_le_add_left (show 1 ≤ 64 by decide) _) hr.units
    refine ⟨_, pss_cons (ps_if (pt_cmpR op_gt (pe_dget hu (pv 0) pe_str (fun _ _ => rfl)) pe_int (nomark _))
        (pss_cons (ps_set (i := 2) scDraw.nd rfl (.inl rfl) (pe_op op_mod (pe_dget hu (pv 0) pe_str (fun _ _ => rfl)) (pv 1)))
        (pss_cons (ps_dput hu (pv 0) pe_str (pe_op op_fdiv (pe_dget hu (pv 0) pe_str (fun _ _ => rfl)) (pv 1)) rfl)
        (pss_one (ps_ret (pv 2))))) pss_nil)
      (pss_cons (ps_set (i := 3) scDraw.nd rfl (.inl rfl) (pe_dget hu (pv 0) pe_str (fun _ _ => rfl)))
      (pss_cons (ps_dput hu (pv 0) pe_str (pe_op op_add (pv 3) pe_int) rfl)
      (pss_cons (ps_set (i := 4) scDraw.nd rfl (.inl rfl) (pe_op op_mul pe_int (pv 3)))
      (pss_cons (ps_if (pt_cmpR (op_neK K hr.units) (pe_dget hu (pv 0) pe_str (fun _ _ => rfl)) (pe_lst pa_nil) (nomark _))
        (pss_one (ps_set (i := 4) scDraw.nd rfl (.inl rfl) (pe_atL K (pe_dget hu (pv 0) pe_str (fun _ _ => rfl)) (pe_op op_mod (pv 3) (pe_callB call_len_seq (by rfl) T.len PySem.boot_len (pa_cons (pe_dget hu (pv 0) pe_str (fun _ _ => rfl)) pa_nil)))))) pss_nil)
      (pss_cons (ps_if (PW.pt (pw_and (pt_cmpR op_ge (pv 4) (pe_op op_pow pe_int pe_int) (nomark _)) (pw_and1 (pt_cmpR op_lt (pv 3) (pe_callB call_len_seq (by rfl) T.len PySem.boot_len (pa_cons (pe_dget hu (pv 0) pe_str (fun _ _ => rfl)) pa_nil)) (nomark _)))))
        (pss_cons (ps_dput hu (pv 0) pe_str (pe_op op_fdiv (pv 4) (pv 1)) rfl)
        (pss_one (ps_ret (pe_op op_mod (pv 4) (pv 1))))) pss_nil)
      (pss_cons (ps_set (i := 5) scDraw.nd rfl (.inl rfl) (pe_op op_mod (pe_op op_mul (pe_op op_add (pe_op op_add (pe_op op_mod (pv 4) pe_int) (pe_op op_mul pe_int (pv 3))) pe_int) pe_int) pe_int))
      (pss_cons (ps_set (i := 5) scDraw.nd rfl (.inl rfl) (pe_op op_mod (pe_op op_mul (pe_op op_add (pe_op op_add (pe_op op_fdiv (pv 5) pe_int) (pe_op op_mul pe_int (pv 3))) pe_int) pe_int) pe_int))
      (pss_one (ps_ret (pe_op op_mod (pe_op op_fdiv (pv 5) pe_int) (pv 1))))))))))), ?_⟩
    have g1 : DGet H d (.str "left") (some (.int b)) := DGet.k (k := Sum.inr "left") hd
    have g2 : DGet H d (.str "turn") (some (.int a)) := DGet.k (k := Sum.inr "turn") hd
    have back : ∀ (a' b' : Int) (H' : Hp), But d H H' → H' d = some (.dK [(.inr "script", .ref sl), (.inr "turn", .int a'), (.inr "left", .int b')]) → TapeT H' d sl := fun a' b' H' B e => by
      refine ⟨ns, a', b', e, B _ _ (fun z => ?_) hs, hl⟩
      subst z
      rw [hd] at hs
      cases hs
    refine ⟨_, rfl, _, _, rfl, g1, _, _, rfl, rfl, _, rfl, iteD (fun h => ?_) (fun h => ?_)⟩
    · refine ⟨_, rfl, _, _, rfl, g1, _, rfl, _, _, rfl, rfl, h0, ?_⟩
      refine ⟨_, rfl, _, _, rfl, g1, _, rfl, _, _, rfl, rfl, ⟨h0, by omega⟩, _, rfl, d, _, rfl, DPut.k (k := Sum.inr "left") hd (by show 3 < sizeLine; decide), ?_⟩
      exact ⟨_, rfl, k _ _ (But.upd H _) (back a (b / m) _ (But.upd H _) upd_same) (Int.emod_nonneg _ (by omega)) (Int.emod_lt_of_pos _ h0)⟩
    · refine ⟨_, rfl, _, _, rfl, g2, ?_⟩
      refine ⟨_, rfl, _, _, rfl, rfl, _, rfl, d, _, rfl, DPut.k (k := Sum.inr "turn") hd (by show 3 < sizeLine; decide), ?_⟩
      have B1 : But d H (upd H d (.dK (putK [(Sum.inr "script", V.ref sl), (Sum.inr "turn", V.int a), (Sum.inr "left", V.int b)] (Sum.inr "turn") (V.int (a + 1))))) := But.upd H _
      generalize hH1 : upd H d (.dK (putK [(Sum.inr "script", V.ref sl), (Sum.inr "turn", V.int a), (Sum.inr "left", V.int b)] (Sum.inr "turn") (V.int (a + 1)))) = H1 at B1
      have hd1 : H1 d = some (.dK [(.inr "script", .ref sl), (.inr "turn", .int (a + 1)), (.inr "left", .int b)]) := by
        rw [← hH1]
        exact upd_same
      have T1 := back _ _ _ B1 hd1
      have hs1 : H1 sl = some (.lst (ns.map V.int)) := by
        refine B1 _ _ (fun z => ?_) hs
        subst z
        rw [hd] at hs
        cases hs
      have g3 : ∀ {H2 : Hp}, Same H1 H2 → DGet H2 d (.str "script") (some (.ref sl)) := fun S => DGet.k (k := Sum.inr "script") (S _ _ hd1)
      -- from the cell on
      have fin : ∀ (cell : Int) (H2 : Hp), Same H1 H2 → (tSeq (tIfS (tAnd (tTest (tOp (rI0 fun i j => V.bl (decide (j ≤ i))) (tVar 4) (tOp (rI CPow fun i j => V.int (i ^ j.toNat)) (tC (V.int 10)) (tC (V.int 18)))))
          (tTest (tOp (rI0 fun i j => V.bl (decide (i < j))) (tVar 3) (tCB (fun xs H_1 Q => ∃ p ys, xs = [V.ref p] ∧ (SqL K H_1 p ys ∨ SqT K H_1 p ys) ∧ Q (V.int ↑ys.length) H_1) (tCons (tDGet (tVar 0) (tC (V.str "script"))) tNil)))))
          (tSeq (sDPut (tVar 0) (tC (V.str "left")) (tOp (rI CDiv fun i j => V.int (i / j)) (tVar 4) (tVar 1))) (tRet (tOp (rI (fun x j => 0 < j) fun i j => V.int (i % j)) (tVar 4) (tVar 1)))) tNext)
          (tSeq (tAsg (tOp (rI (fun x j => 0 < j) fun i j => V.int (i % j)) (tOp (rI CMul fun i j => V.int (i * j)) (tOp (rI0 fun i j => V.int (i + j)) (tOp (rI0 fun i j => V.int (i + j)) (tOp (rI (fun x j => 0 < j) fun i j => V.int (i % j)) (tVar 4) (tC (V.int 2147483629)))
              (tOp (rI CMul fun i j => V.int (i * j)) (tC (V.int 7919)) (tVar 3))) (tC (V.int 104729))) (tC (V.int 48271))) (tC (V.int 2147483647))) (gName 5))
          (tSeq (tAsg (tOp (rI (fun x j => 0 < j) fun i j => V.int (i % j)) (tOp (rI CMul fun i j => V.int (i * j)) (tOp (rI0 fun i j => V.int (i + j)) (tOp (rI0 fun i j => V.int (i + j)) (tOp (rI CDiv fun i j => V.int (i / j)) (tVar 5) (tC (V.int 64)))
              (tOp (rI CMul fun i j => V.int (i * j)) (tC (V.int 6151)) (tVar 3))) (tC (V.int 17))) (tC (V.int 69621))) (tC (V.int 2147483587))) (gName 5))
            (tRet (tOp (rI (fun x j => 0 < j) fun i j => V.int (i % j)) (tOp (rI CDiv fun i j => V.int (i / j)) (tVar 5) (tC (V.int 64))) (tVar 1))))))
          { nx := fun x H' => Q V.non H', rt := Q } [some (.ref d), some (.int m), none, some (.int a), some (.int cell), none] H2 := by
        intro cell H2 S2
        have B2 : But d H H2 := B1.trans (But.same S2)
        have T2 := T1.keep S2
        refine ⟨_, rfl, _, _, rfl, rfl, ⟨by decide, by decide, by decide⟩, _, _, rfl, rfl, _, rfl, iteD (fun h3 => ?_) (fun h3 => ?_)⟩
        · refine ⟨_, rfl, _, rfl, _, _, rfl, g3 S2, _, _, rfl, .inl (SqL.of (S2 _ _ hs1)), _, _, rfl, rfl, _, rfl, iteD (fun h4 => ?_) (fun h4 => ?_)⟩
          · refine ⟨_, rfl, _, rfl, _, _, rfl, rfl, ⟨h0, by omega⟩, _, rfl, d, _, rfl, DPut.k (k := Sum.inr "left") (S2 _ _ hd1) (by show 3 < sizeLine; decide), ?_⟩
            have B3 := B2.trans (But.upd H2 (.dK (putK [(Sum.inr "script", V.ref sl), (Sum.inr "turn", V.int (a + 1)), (Sum.inr "left", V.int b)] (Sum.inr "left") (V.int (cell / m)))))
            exact ⟨_, rfl, _, rfl, _, _, rfl, rfl, h0, k _ _ B3 (back (a + 1) (cell / m) _ B3 upd_same) (Int.emod_nonneg _ (by omega)) (Int.emod_lt_of_pos _ h0)⟩
          · refine ⟨_, rfl, _, _, rfl, rfl, (by show (0 : Int) < 2147483629; decide), _, rfl, _, _, rfl, rfl, .inl ⟨by decide, by decide⟩, _, _, rfl, rfl, _, _, rfl, rfl, _, _, rfl, rfl, .inr ⟨by decide, by decide⟩, _, _, rfl, rfl, (by show (0 : Int) < 2147483647; decide), ?_⟩
            refine ⟨_, rfl, _, _, rfl, rfl, ⟨by decide, by decide⟩, _, rfl, _, _, rfl, rfl, .inl ⟨by decide, by decide⟩, _, _, rfl, rfl, _, _, rfl, rfl, _, _, rfl, rfl, .inr ⟨by decide, by decide⟩, _, _, rfl, rfl, (by show (0 : Int) < 2147483587; decide), ?_⟩
            exact ⟨_, rfl, _, _, rfl, rfl, ⟨by decide, by decide⟩, _, rfl, _, _, rfl, rfl, h0, k _ _ B2 T2 (Int.emod_nonneg _ (by omega)) (Int.emod_lt_of_pos _ h0)⟩
        · refine iteF ?_
          refine ⟨_, rfl, _, _, rfl, rfl, (by show (0 : Int) < 2147483629; decide), _, rfl, _, _, rfl, rfl, .inl ⟨by decide, by decide⟩, _, _, rfl, rfl, _, _, rfl, rfl, _, _, rfl, rfl, .inr ⟨by decide, by decide⟩, _, _, rfl, rfl, (by show (0 : Int) < 2147483647; decide), ?_⟩
          refine ⟨_, rfl, _, _, rfl, rfl, ⟨by decide, by decide⟩, _, rfl, _, _, rfl, rfl, .inl ⟨by decide, by decide⟩, _, _, rfl, rfl, _, _, rfl, rfl, _, _, rfl, rfl, .inr ⟨by decide, by decide⟩, _, _, rfl, rfl, (by show (0 : Int) < 2147483587; decide), ?_⟩
          exact ⟨_, rfl, _, _, rfl, rfl, ⟨by decide, by decide⟩, _, rfl, _, _, rfl, rfl, h0, k _ _ B2 T2 (Int.emod_nonneg _ (by omega)) (Int.emod_lt_of_pos _ h0)⟩
      refine ⟨_, rfl, _, _, rfl, rfl, .inl ⟨by decide, by decide⟩, ?_⟩
      refine ⟨_, rfl, _, _, rfl, g3 (Same.refl H1), Nat.zero_le _, fun p hp => ?_⟩
      have S2 := same_upd (o := .lst []) hp
      refine ⟨_, _, .lst (SqL.of (S2 _ _ hs1)) (dp_ints ns), .lst (SqL.of upd_same) .nil, ints_shaped ns, rfl, _, rfl, ?_⟩
      have ev : PyData.eqv (.list (ns.map PyData.int)) (.list []) = decide (ns = []) := ints_eqv ns []
      rw [ev]
      by_cases e : ns = []
      · rw [decide_eq_true e]
        refine iteF ?_
        exact fin _ _ S2
      · rw [decide_eq_false e]
        have hpos : 0 < ns.length := List.length_pos_iff.mpr e
        refine iteT ?_
        obtain ⟨x, hx⟩ : ∃ x, ns[(a % (ns.length : Int)).toNat]? = some x := by
          have := Int.emod_nonneg a (show (ns.length : Int) ≠ 0 by omega)
          have := Int.emod_lt_of_pos a (show 0 < (ns.length : Int) by omega)
          exact ⟨_, List.getElem?_eq_getElem (by omega)⟩
        have hat : atI (ns.map V.int) (a % ((ns.map V.int).length : Int)) = some (V.int x) := by
          rw [List.length_map, ← Int.toNat_of_nonneg (Int.emod_nonneg a (show (ns.length : Int) ≠ 0 by omega))]
          refine at_nat ?_
          rw [List.getElem?_map, hx]
          rfl
        refine ⟨_, rfl, _, _, rfl, g3 S2, _, rfl, _, rfl, _, _, rfl, g3 S2, _, _, rfl, .inl (SqL.of (S2 _ _ hs1)), _, _, rfl, rfl, ?_, _, _, _, _, rfl, rfl, SqL.of (S2 _ _ hs1), hat, ?_⟩
        · show (0 : Int) < ((ns.map V.int).length : Int)
          rw [List.length_map]
          omega
        · exact fin x _ S2
end
end SLW
/-! Part SLLawB. -/
set_option Elab.async false
set_option linter.all false
set_option maxRecDepth 100000
set_option maxHeartbeats 4000000
/-! The law's _law_order, _law_called, _law_shows, _law_all_lines. -/
namespace SLW
open PySem PySem.Spec PyProof.Rows L2 SLR
theorem orders3 : ∀ a ∈ List.range 3, ∀ b ∈ List.range 3, ∀ c ∈ List.range 3, (a ≠ b ∧ a ≠ c ∧ b ≠ c) → [a, b, c] ∈ SL.orders 3 := by decide +kernel
theorem orders2 : ∀ a ∈ List.range 2, ∀ b ∈ List.range 2, a ≠ b → [a, b] ∈ SL.orders 2 := by decide +kernel
theorem perm_order {n : Nat} {o : List Nat} (h1 : 1 ≤ n) (h3 : n ≤ 3) (p : o.Perm (List.range n)) : o ∈ SL.orders n := by
  have hl : o.length = n := by rw [p.length_eq, List.length_range]
  have hd : o.Nodup := p.nodup_iff.mpr List.nodup_range
  have hm : ∀ k ∈ o, k < n := fun k hk => List.mem_range.mp (p.mem_iff.mp hk)
  have e : n = 1 ∨ n = 2 ∨ n = 3 := by omega
  rcases e with rfl | rfl | rfl
  · match o, hl with
    | [a], _ =>
      have := hm a (by simp)
      obtain rfl : a = 0 := by omega
      decide
  · match o, hl with
    | [a, b], _ =>
      simp only [List.nodup_cons, List.mem_cons, List.not_mem_nil, or_false] at hd
      exact orders2 a (List.mem_range.mpr (hm a (by simp))) b (List.mem_range.mpr (hm b (by simp))) hd.1
  · match o, hl with
    | [a, b, c], _ =>
      simp only [List.nodup_cons, List.mem_cons, List.not_mem_nil, or_false, not_or] at hd
      exact orders3 a (List.mem_range.mpr (hm a (by simp))) b (List.mem_range.mpr (hm b (by simp))) c (List.mem_range.mpr (hm c (by simp))) ⟨hd.1.1, hd.1.2, hd.2.1⟩
theorem perm_ins {o : List Nat} {k i : Nat} (p : o.Perm (List.range k)) : (o.take i ++ [k] ++ o.drop i).Perm (List.range (k + 1)) := by
  rw [List.range_succ]
  have h1 : (o.take i ++ [k] ++ o.drop i).Perm (k :: o) := by
    rw [List.append_assoc]
    refine (List.perm_middle).trans ?_
    show (k :: (o.take i ++ o.drop i)).Perm (k :: o)
    rw [List.take_append_drop]
  exact h1.trans ((p.cons k).trans (List.perm_append_singleton k (List.range k)).symm)
theorem rg_ints (n : Nat) : rgV 0 (n : Int) = ((List.range n).map fun i : Nat => (0 + (i : Int))).map V.int := by
  unfold rgV
  rw [List.map_map, show ((n : Int) - 0).toNat = n by omega]
  rfl
/-- how many LINES, told by the rooms -/
def nL : List Int → Nat
  | [] => 1
  | r :: rs => (r + 1).toNat * nL rs
theorem nL_lines : ∀ rs : List Int, (SL.linesAll rs).length = nL rs
  | [] => rfl
  | r :: rs => by
    unfold SL.linesAll nL
    rw [List.length_flatMap, ← nL_lines rs]
    simp [List.map_const']
theorem nL_snoc (r : Int) : ∀ rs : List Int, nL (rs ++ [r]) = nL rs * (r + 1).toNat
  | [] => by simp [nL]
  | q :: rs => by
    rw [List.cons_append]
    unfold nL
    rw [nL_snoc r rs, Nat.mul_assoc]
theorem nL_le : ∀ rs : List Int, (∀ r ∈ rs, r ≤ 4) → nL rs ≤ 5 ^ rs.length
  | [], _ => Nat.le_refl _
  | r :: rs, h => by
    have h1 := nL_le rs fun q hq => h q (List.mem_cons_of_mem _ hq)
    have h2 : (r + 1).toNat ≤ 5 := by
      have := h r (List.mem_cons_self ..)
      omega
    unfold nL
    rw [List.length_cons, Nat.pow_succ, Nat.mul_comm (5 ^ rs.length)]
    exact Nat.mul_le_mul h2 h1
theorem five3 {m : Nat} (h : m ≤ 3) : 5 ^ m ≤ 125 := Nat.pow_le_pow_right (n := 5) (by decide) h
theorem nL_perm {a b : List Int} (p : a.Perm b) : nL a = nL b := by
  induction p with
  | nil => rfl
  | cons x _ ih =>
    unfold nL
    rw [ih]
  | swap x y l =>
    unfold nL
    unfold nL
    rw [← Nat.mul_assoc, ← Nat.mul_assoc, Nat.mul_comm (y + 1).toNat]
  | trans _ _ h1 h2 => exact h1.trans h2
theorem void_rep (n : Nat) : (List.replicate n [V.int 0]).flatten = (SL.voidL n).map V.int := by
  unfold SL.voidL
  induction n with
  | zero => rfl
  | succ n ih =>
    rw [List.replicate_succ, List.flatten_cons, ih, List.replicate_succ, List.map_cons]
    rfl
theorem gn_get {o : List Nat} {k : Nat} (h : k < o.length) : ((natsI o).map V.int)[k]? = some (.int (SL.gn o k : Nat)) := by
  unfold natsI SL.gn
  rw [List.getElem?_map, List.getElem?_map, List.getD_eq_getElem?_getD, List.getElem?_eq_getElem h]
  rfl
section
variable {P : Program} {w : World} {K : PySem.W.Frag} {mg : Str → Option Value} {base : Heap}
theorem scOrder : FnScope ["_law_tape_here", "_law_many", "_law_order_here", "_law_k"] ["_law_tape_here", "_law_many"] (defScope (topS 53)) := ⟨rfl, rfl, rfl, by decide +kernel, rfl, by decide +kernel, by decide +kernel⟩
def spOrder : Sp := fun vs H Q _ => ∃ (d sl : Addr) (n : Nat), vs = [.ref d, .int (n : Int)] ∧ TapeT H d sl ∧ 1 ≤ n ∧ n ≤ 3 ∧ ∀ v o H', But d H H' → TapeT H' d sl → o ∈ SL.orders n → IntsT H' v (natsI o) → Q v H'
theorem c_order (F : Fn K mg "_law_order" (topS 53) ["_law_tape_here", "_law_many"]) (T : Txt mg) (C1 : Cal P w K mg base 1 "_law_draw" ["_law_tape_here", "_law_many"] spDraw) : Cal P w K mg base 2 "_law_order" ["_law_tape_here", "_law_many"] spOrder := by
  refine F.cal scOrder (fun vs H Q E h => ?_) (fun f cdv A outer s H vs Q E hr h => ?_)
  · obtain ⟨d, sl, n, rfl, _⟩ := h
    rfl
  · obtain ⟨d, sl, n, rfl, hT, h1, h3, k⟩ := h
    refine ⟨_, pss_cons (ps_set (i := 2) scOrder.nd rfl (.inl rfl) (pe_lst pa_nil))
      (pss_cons (ps_for PassesOwn.never rfl (pi_range1 (by rfl) T.range (pa_cons (pv 1) pa_nil)) (pg_name (i := 3) scOrder.nd rfl (.inl rfl))
        (pss_one (ps_expr (pe_bm PySem.F.plainAttrs_list PySem.F.slot_list_insert PySem.F.type_list_insert mt_insert (pv 2) (pa_cons (pe_cal C1 hr rfl (pa_cons (pv 0) (pa_cons (pe_op op_add (pv 3) pe_int) pa_nil))) (pa_cons (pv 3) pa_nil))))))
      (pss_one (ps_ret (pe_callTy call_tuple_of (by rfl) T.tuple (by decide +kernel) (pa_cons
        (pe_ifExp (pt_cmpR (op_neK K hr.units) (pv 2) (pe_listRg rfl (by rfl) T.list (prg_1 (by rfl) T.range (pv 1))) (nomark _)) (pv 2) (pe_revL (pv 2))) pa_nil))))), ?_⟩
    refine ⟨Nat.zero_le _, fun l nl => ?_⟩
    refine ⟨_, rfl, n, rfl, (by omega), (by omega), ?_⟩
    refine for_range (lo := 0) (n := n) (fun i σ H' => ∃ (o : List Nat) (v3 : Option V), σ = [some (.ref d), some (.int (n : Int)), some (.ref l), v3] ∧ But d H H' ∧ TapeT H' d sl ∧ H' l = some (.lst ((natsI o).map V.int)) ∧ o.Perm (List.range i))
      ⟨[], none, rfl, But.same (same_upd nl), hT.mut hT nl, upd_same, List.Perm.refl _⟩ ?_ ?_
    · rintro i σ H1 hi ⟨o, v3, rfl, B, T1, hl, hp⟩
      rw [show ((0 : Int) + (i : Nat)) = ((i : Nat) : Int) by omega]
      refine ⟨_, rfl, .inl ⟨rfl, _, SqL.of hl⟩, ?_⟩
      refine ⟨_, rfl, _, rfl, _, _, rfl, rfl, ?_⟩
      refine ⟨d, sl, (i : Int) + 1, rfl, T1, by omega, by omega, fun j H2 B2 T2 h4 h5 => ?_⟩
      have hl2 := B2 _ _ (T1.ne hl) hl
      have lo : ((natsI o).map V.int).length = i := by
        rw [natsI_len, hp.length_eq, List.length_range]
      refine ⟨_, rfl, l, _, j, .int (i : Int), rfl, rfl, hl2, (by rw [lo, sizeLine_eq]; omega), h4, by omega, ?_⟩
      refine ⟨o.take j.toNat ++ [i] ++ o.drop j.toNat, some (.int (i : Int)), rfl, (B.trans B2).mut nl, hT.mut T2 nl, ?_, perm_ins hp⟩
      rw [upd_same]
      unfold natsI
      simp only [List.map_append, List.map_take, List.map_drop, List.map_cons, List.map_nil]
    · rintro σ H1 ⟨o, v3, rfl, B, T1, hl, hp⟩
      refine ⟨_, rfl, _, rfl, _, rfl, RgOk.of_le (by omega) (by omega) (by omega) (by omega), fun q hq => ?_⟩
      have S2 := same_upd (o := .lst (rgV 0 (n : Int))) hq
      refine ⟨.list ((natsI o).map PyData.int), .list (((List.range n).map fun i : Nat => (0 + (i : Int))).map PyData.int), .lst (SqL.of (S2 _ _ hl)) (dp_ints _), .lst (SqL.of (upd_same.trans (by rw [rg_ints]))) (dp_ints _), ints_shaped _, ints_shaped _, ?_⟩
      generalize (!PyData.eqv (.list ((natsI o).map PyData.int)) (.list (((List.range n).map fun i : Nat => (0 + (i : Int))).map PyData.int))) = b
      refine ⟨_, rfl, iteB (fun _ => ?_) (fun _ => ?_)⟩
      · refine ⟨_, rfl, l, _, rfl, .inl ⟨SqL.of (S2 _ _ hl), fun t ht => ?_⟩⟩
        have S3 := S2.trans (same_upd (o := .tup ((natsI o).map V.int)) ht)
        exact k _ o _ (B.trans (But.same S3)) (T1.keep S3) (perm_order h1 h3 hp) ⟨t, rfl, upd_same⟩
      · refine ⟨_, rfl, l, _, rfl, SqL.of (S2 _ _ hl), fun p hpn => ?_⟩
        refine ⟨p, _, rfl, .inl ⟨SqL.of upd_same, fun t ht => ?_⟩⟩
        have S4 := S2.trans (same_upd (o := .lst ((natsI o).map V.int).reverse) hpn)
        have S3 := S4.trans (same_upd (o := .tup ((natsI o).map V.int).reverse) ht)
        refine k _ o.reverse _ (B.trans (But.same S3)) (T1.keep S3) (perm_order h1 h3 ((List.reverse_perm o).trans hp)) ⟨t, rfl, ?_⟩
        rw [upd_same]
        unfold natsI
        rw [List.map_reverse, List.map_reverse]
theorem scCalled : FnScope ["_law_order_here", "_law_move", "_law_k"] ["_law_order_here", "_law_move"] (defScope (topS 54)) := ⟨rfl, rfl, rfl, by decide +kernel, rfl, by decide +kernel, by decide +kernel⟩
def spCalled : Sp := fun vs H Q _ => ∃ (u m : V) (ord : List Nat) (mv : SL.Mv), vs = [u, m] ∧ IntsT H u (natsI ord) ∧ MoveT H m mv ∧ MvOk ord.length mv ∧ ord.length ≤ 6 ∧ ∀ v H', Same H H' → MoveT H' v (SL.called ord mv) → Q v H'
theorem c_called (F : Fn K mg "_law_called" (topS 54) ["_law_order_here", "_law_move"]) (T : Txt mg) : Cal P w K mg base 1 "_law_called" ["_law_order_here", "_law_move"] spCalled := by
  refine F.cal scCalled (fun vs H Q E h => ?_) (fun f cdv A outer s H vs Q E hr h => ?_)
  · obtain ⟨u, m, ord, mv, rfl, _⟩ := h
    rfl
  · obtain ⟨u, m, ord, mv, rfl, ⟨oa, rfl, ho⟩, hm, hO, h6, k⟩ := h
    refine ⟨_, pss_cons (ps_if (pt_cmpR op_eq (pe_at K (pv 1) pe_int) pe_str (nomark _)) (pss_one (ps_ret (pe_tup (pa_cons pe_str (pa_cons
        (pe_callTy call_tuple_of (by rfl) T.tuple (by decide +kernel) (pa_cons
          (pe_lc (own := [("_law_k", 2)]) (g := gName 2) (tt := tYes) rfl scCalled.nd (pi_tup (pe_at K (pv 1) pe_int)) (blkOk_by (N := ["_law_order_here", "_law_move", "_law_k"]) (sc := defScope (topS 54)) (by decide +kernel))
            (fun _ _ _ _ _ => pg_name (i := 2) scCalled.nd rfl (Or.inl rfl)) (fun _ _ _ _ _ => pts_nil)
            (fun _ _ _ _ _ => pe_at K (pv 0) (pv 2))) pa_nil)) pa_nil))))) pss_nil)
      (pss_one (ps_ret (pe_ifExp (pt_cmpR op_eq (pe_at K (pv 1) pe_int) pe_str (nomark _)) (pe_tup (pa_cons pe_str (pa_cons (pe_at K (pv 0) (pe_at K (pv 1) pe_int)) pa_nil))) (pv 1)))), ?_⟩
    rcases hO with ⟨o, rfl, hO⟩ | ⟨j, rfl, hj⟩ | rfl
    · obtain ⟨a, b, rfl, ha, ba, rfl, hb⟩ := hm
      refine ⟨_, rfl, _, _, _, _, rfl, rfl, SqT.of ha, rfl, rfl, _, rfl, iteY rfl ?_⟩
      refine ⟨_, rfl, _, _, _, _, rfl, rfl, SqT.of ha, rfl, ba, rfl, ⟨_, SqT.of hb⟩, fun D hD => ?_⟩
      refine lc_tup (K := K) (a := ba) (xs := (natsI o).map V.int) (fun i H' => Same H H' ∧ H' D = some (.lst ((natsI ((o.take i).map (SL.gn ord))).map V.int))) ⟨same_upd hD, upd_same⟩ (fun i H' _ hP => SqT.of (hP.1 _ _ hb)) ?_ ?_
      · rintro i x H' hx ⟨S, hl⟩
        obtain ⟨j, hj, rfl⟩ := natsI_at hx
        have hjl : j < ord.length := hO.lt j (List.mem_of_getElem? hj)
        refine ⟨rfl, ?_⟩
        refine ⟨_, rfl, _, rfl, _, _, _, _, rfl, rfl, SqT.of (S _ _ ho), at_nat (gn_get hjl), _, hl, ?_, same_mut S hD, ?_⟩
        · rw [natsI_len, List.length_map, List.length_take, hO.len]
          exact small1000 (by omega)
        · rw [upd_same, List.take_add_one, hj]
          unfold natsI
          simp only [List.map_append, Option.toList, List.map_cons, List.map_nil]
      · rintro H' ⟨S, hl⟩
        rw [natsI_len, List.take_length] at hl
        refine ⟨D, _, rfl, .inl ⟨SqL.of hl, fun t ht => ?_⟩⟩
        have S1 := S.trans (same_upd (o := .tup ((natsI (o.map (SL.gn ord))).map V.int)) ht)
        refine ⟨(by show 2 ≤ sizeLine; decide), fun q hq => ?_⟩
        have S2 := same_upd (o := .tup [.str "come", .ref t]) hq
        exact k _ _ (S1.trans S2) ⟨q, .ref t, rfl, upd_same, t, rfl, S2 _ _ upd_same⟩
    · obtain ⟨a, rfl, ha⟩ := hm
      refine ⟨_, rfl, _, _, _, _, rfl, rfl, SqT.of ha, rfl, rfl, _, rfl, iteN (by decide +kernel) ?_⟩
      refine ⟨_, rfl, _, _, _, _, rfl, rfl, SqT.of ha, rfl, rfl, _, rfl, iteY rfl ?_⟩
      refine ⟨_, rfl, _, rfl, _, _, _, _, rfl, rfl, SqT.of ha, rfl, _, _, _, _, rfl, rfl, SqT.of ho, at_nat (gn_get hj), (by show 2 ≤ sizeLine; decide), fun q hq => ?_⟩
      exact k _ _ (same_upd hq) ⟨q, rfl, upd_same⟩
    · obtain ⟨a, rfl, ha⟩ := hm
      refine ⟨_, rfl, _, _, _, _, rfl, rfl, SqT.of ha, rfl, rfl, _, rfl, iteN (by decide +kernel) ?_⟩
      refine ⟨_, rfl, _, _, _, _, rfl, rfl, SqT.of ha, rfl, rfl, _, rfl, iteN (by decide +kernel) ?_⟩
      exact ⟨_, rfl, k _ _ (Same.refl _) ⟨a, rfl, ha⟩⟩
abbrev nShows : List Str := ["_law_hall_here", "_law_one", "_law_other", "_law_run", "_law_triple", "_law_move"]
theorem scShows : FnScope nShows ["_law_hall_here", "_law_one", "_law_other", "_law_run"] (defScope (topS 55)) := ⟨rfl, rfl, rfl, by decide +kernel, rfl, by decide +kernel, by decide +kernel⟩
def spShows : Sp := fun vs H Q _ => ∃ (z u v m : V) (ss : List SL.Srv) (r1 r2 : SL.Rl) (run : List SL.Mv), vs = [z, u, v, m] ∧ HallT H z ss ∧ RuleT H u r1 ∧ RuleT H v r2 ∧ RunT H m run ∧ SL.Hok ss ∧ 2 ≤ ss.length ∧ (∀ mv ∈ run, mv ∈ SL.moves ss.length) ∧
  ∀ H', Same H H' → Q (.bl (SL.bad (SL.go (SL.both ss r1 r2) (SL.voids ss.length, 0) run).1 (SL.go (SL.both ss r1 r2) (SL.voids ss.length, 0) run).2)) H'
theorem c_shows (F : Fn K mg "_law_shows" (topS 55) ["_law_hall_here", "_law_one", "_law_other", "_law_run"]) (T : Txt mg) (C1 : Cal P w K mg base 3 "_law_both" ["_law_hall_here", "_law_one", "_law_other", "_law_triple", "_law_move"] spBoth)
    (C2 : Cal P w K mg base 1 "_law_is_bad" ["_law_triple"] spWorse) : Cal P w K mg base 4 "_law_shows" ["_law_hall_here", "_law_one", "_law_other", "_law_run"] spShows := by
  refine F.cal scShows (fun vs H Q E h => ?_) (fun f cdv A outer s H vs Q E hr h => ?_)
  · obtain ⟨z, u, v, m, ss, r1, r2, run, rfl, _⟩ := h
    rfl
  · obtain ⟨z, u, v, m, ss, r1, r2, run, rfl, hh, hu, hv, ⟨ra, ws, rfl, hra, hws⟩, hk, h2, hmv, k⟩ := h
    obtain ⟨ah, c, sv, rfl, hah, sa, vs, rfl, hsa, hp⟩ := id hh
    have hpl := plen hp
    have h3 := hk.n3
    have hr2 : Room 1 _ := hr.mono (by decide)
    refine ⟨_, pss_cons (ps_set (i := 4) scShows.nd rfl (.inl rfl) (pe_tup
        (pa_cons (pe_op op_repT (pe_tup (pa_cons pe_int pa_nil)) (pe_callB call_len_seq (by rfl) T.len PySem.boot_len (pa_cons (pe_at K (pv 0) pe_int) pa_nil)))
        (pa_cons (pe_op op_repT (pe_tup (pa_cons pe_int pa_nil)) (pe_callB call_len_seq (by rfl) T.len PySem.boot_len (pa_cons (pe_at K (pv 0) pe_int) pa_nil)))
        (pa_cons pe_int pa_nil)))))
      (pss_cons (ps_for PassesOwn.never rfl (pi_tup (pv 3)) (pg_name (i := 5) scShows.nd rfl (.inl rfl))
        (pss_one (ps_set (i := 4) scShows.nd rfl (.inl rfl) (pe_cal C1 hr rfl (pa_cons (pv 0) (pa_cons (pv 1) (pa_cons (pv 2) (pa_cons (pv 4) (pa_cons (pv 5) pa_nil)))))))))
      (pss_one (ps_ret (pe_cal C2 hr2 rfl (pa_cons (pv 4) pa_nil))))), ?_⟩
    refine ⟨(by show 1 ≤ sizeLine; decide), fun p1 n1 => ?_⟩
    have S1 := same_upd (o := .tup [V.int 0]) n1
    refine ⟨_, rfl, _, _, _, _, rfl, rfl, SqT.of (S1 _ _ hah), rfl, sa, _, rfl, .inr (SqT.of (S1 _ _ hsa)), p1, _, _, rfl, rfl, SqT.of upd_same, (by simp), (by omega), (by omega), (by decide), fun p2 n2 => ?_⟩
    have S2 := S1.trans (same_upd (o := .tup (List.replicate (vs.length : Int).toNat [V.int 0]).flatten) n2)
    refine ⟨(by show 1 ≤ sizeLine; decide), fun p3 n3 => ?_⟩
    have S3 := same_upd (o := .tup [V.int 0]) n3
    have S4 := S2.trans S3
    refine ⟨_, rfl, _, _, _, _, rfl, rfl, SqT.of (S4 _ _ hah), rfl, sa, _, rfl, .inr (SqT.of (S4 _ _ hsa)), p3, _, _, rfl, rfl, SqT.of upd_same, (by simp), (by omega), (by omega), (by decide), fun p4 n4 => ?_⟩
    have S5 := same_upd (o := .tup (List.replicate (vs.length : Int).toNat [V.int 0]).flatten) n4
    refine ⟨(by show 3 ≤ sizeLine; decide), fun p5 n5 => ?_⟩
    have S6 := same_upd (o := .tup [V.ref p2, V.ref p4, V.int 0]) n5
    have S7 := (S4.trans S5).trans S6
    have ev : (List.replicate (vs.length : Int).toNat [V.int 0]).flatten = (SL.voidL ss.length).map V.int := by
      rw [Int.toNat_natCast, hpl, void_rep]
    have F := SL.fit hk r1 r2
    have T0 : TripT (upd (upd (upd (upd (upd H p1 (.tup [V.int 0])) p2 (.tup (List.replicate (vs.length : Int).toNat [V.int 0]).flatten)) p3 (.tup [V.int 0])) p4 (.tup (List.replicate (vs.length : Int).toNat [V.int 0]).flatten)) p5 (.tup [V.ref p2, V.ref p4, V.int 0])) (.ref p5) (SL.voids ss.length, 0) :=
      ⟨p5, _, _, rfl, upd_same, ⟨p2, rfl, (((S3.trans S5).trans S6) _ _ upd_same).trans (by rw [ev]; rfl)⟩, ⟨p4, rfl, (S6 _ _ upd_same).trans (by rw [ev]; rfl)⟩⟩
    refine ⟨_, rfl, ra, rfl, ⟨_, SqT.of (S7 _ _ hra)⟩, ?_⟩
    refine for_tup (K := K) (a := ra) (xs := ws) (fun i σ H' => ∃ (t : V) (v5 : Option V), σ = [some (.ref ah), some u, some v, some (.ref ra), some t, v5] ∧ Same H H' ∧ TripT H' t (SL.go (SL.both ss r1 r2) (SL.voids ss.length, 0) (run.take i)) ∧ SL.OkP ss (SL.go (SL.both ss r1 r2) (SL.voids ss.length, 0) (run.take i)).1)
      ⟨.ref p5, none, rfl, S7, T0, F.ok0⟩ ?_ ?_ ?_
    · rintro i σ H' _ ⟨_, _, rfl, S, _⟩
      exact SqT.of (S _ _ hra)
    · rintro i y σ H' hy ⟨t, v5, rfl, S, ht, hok⟩
      obtain ⟨mv, hm, hmt⟩ := pget hws hy
      have hmm := hmv mv (List.mem_of_getElem? hm)
      have e1 : SL.go (SL.both ss r1 r2) (SL.voids ss.length, 0) (run.take (i + 1)) = SL.tr (SL.both ss r1 r2) (SL.go (SL.both ss r1 r2) (SL.voids ss.length, 0) (run.take i)) mv := by
        unfold SL.go
        rw [List.take_add_one, hm, List.foldl_append]
        rfl
      refine ⟨_, rfl, _, rfl, _, rfl, _, rfl, _, rfl, _, _, _, _, _, ss, r1, r2, _, mv, rfl, hh.keep (Same.ts S), hu.keep (Same.ts S), hv.keep (Same.ts S), ht, hmt.keep (Same.ts S), hk, hok, SL.moves_ok hk.n1 hk.n3 hmm, fun t' H2 S2 ht' => ?_⟩
      refine ⟨t', some y, rfl, S.trans S2, ?_, ?_⟩
      · rw [e1]
        exact ht'
      · rw [e1]
        exact F.ok1 _ _ hok hmm
    · rintro σ H' ⟨t, v5, rfl, S, ht, hok⟩
      rw [plen hws, List.take_length] at ht
      exact ⟨_, rfl, t, _, rfl, ht, k _ S⟩
abbrev nAllL : List Str := ["_law_rooms", "_law_found", "_law_room", "_law_longer", "_law_lines", "_law_k"]
theorem scAllL : FnScope nAllL ["_law_rooms"] (defScope (topS 45)) := ⟨rfl, rfl, rfl, by decide +kernel, rfl, by decide +kernel, by decide +kernel⟩
/-- tuples of at most m -/
def TL (H : Hp) (m : Nat) (ws : List V) : Prop := ∀ v ∈ ws, ∃ p us, v = V.ref p ∧ H p = some (.tup us) ∧ us.length ≤ m
theorem TL.keep {H H' : Hp} {m : Nat} {ws : List V} (t : TS H H') (h : TL H m ws) : TL H' m ws := fun v hv => by
  obtain ⟨p, us, e, h1, h2⟩ := h v hv
  exact ⟨p, us, e, t _ _ h1, h2⟩
def spAllL : Sp := fun vs H Q _ => ∃ (a : Addr) (rs : List Int), vs = [.ref a] ∧ H a = some (.lst (rs.map V.int)) ∧ rs.length ≤ 3 ∧ (∀ r ∈ rs, 0 ≤ r ∧ r ≤ 4) ∧ ∀ l ws H', Same H H' → H' l = some (.lst ws) → ws.length = nL rs → Q (.ref l) H'
theorem c_allL (F : Fn K mg "_law_all_lines" (topS 45) ["_law_rooms"]) (T : Txt mg) : Cal P w K mg base 1 "_law_all_lines" ["_law_rooms"] spAllL := by
  refine F.cal scAllL (fun vs H Q E h => ?_) (fun f cdv A outer s H vs Q E hr h => ?_)
  · obtain ⟨a, rs, rfl, _⟩ := h
    rfl
  · obtain ⟨a, rs, rfl, ha, h3, hb, k⟩ := h
    refine ⟨_, pss_cons (ps_set (i := 1) scAllL.nd rfl (.inl rfl) (pe_lst (pa_cons (pe_tup pa_nil) pa_nil)))
      (pss_cons (ps_for PassesOwn.never rfl (pi_list (pv 0)) (pg_name (i := 2) scAllL.nd rfl (.inl rfl))
        (pss_cons (ps_set (i := 3) scAllL.nd rfl (.inl rfl) (pe_lst pa_nil))
        (pss_cons (ps_for PassesOwn.never rfl (pi_list (pv 1)) (pg_name (i := 4) scAllL.nd rfl (.inr rfl))
          (pss_one (ps_expr (pe_bm PySem.F.plainAttrs_list PySem.F.slot_list_extend PySem.F.type_list_extend mt_extend (pv 3) (pa_cons
            (pe_lc (own := [("_law_k", 5)]) (g := gName 5) (tt := tYes) rfl scAllL.nd (pi_range1 (by rfl) T.range (pa_cons (pe_op op_add (pv 2) pe_int) pa_nil))
              (blkOk_by (N := nAllL) (sc := defScope (topS 45)) (by decide +kernel))
              (fun _ _ _ _ _ => pg_name (i := 5) scAllL.nd rfl (Or.inl rfl)) (fun _ _ _ _ _ => pts_nil)
              (fun _ _ _ _ _ => pe_op (op_catK K) (pv 4) (pe_tup (pa_cons (pv 5) pa_nil)))) pa_nil)))))
        (pss_one (ps_set (i := 1) scAllL.nd rfl (.inl rfl) (pv 3))))))
      (pss_one (ps_ret (pv 1)))), ?_⟩
    refine ⟨Nat.zero_le _, fun p0 hp0 => ⟨(by show 1 ≤ sizeLine; decide), fun l0 hl0 => ?_⟩⟩
    have S0 : Same H (upd H p0 (.tup [])) := same_upd hp0
    have nl0 : H l0 = none := Same.free S0 hl0
    have S1 := S0.trans (same_upd (o := .lst [V.ref p0]) hl0)
    have small : ∀ i, nL (rs.take i) ≤ 125 := fun i => Nat.le_trans (nL_le _ fun r hr => (hb r (List.mem_of_mem_take hr)).2) (five3 (by rw [List.length_take]; omega))
    refine ⟨_, rfl, a, rfl, ⟨_, SqL.of (S1 _ _ ha)⟩, ?_⟩
    refine for_list (K := K) (a := a) (xs := rs.map V.int) (fun i σ H' => ∃ (l : Addr) (v2 v3 v4 : Option V) (ws : List V), σ = [some (.ref a), some (.ref l), v2, v3, v4, none] ∧ Same H H' ∧ H l = none ∧ H' l = some (.lst ws) ∧ ws.length = nL (rs.take i) ∧ TL H' i ws)
      ⟨l0, none, none, none, [.ref p0], rfl, S1, nl0, upd_same, rfl, ?_⟩ ?_ ?_ ?_
    · intro v hv
      rw [List.mem_singleton] at hv
      subst hv
      refine ⟨p0, [], rfl, ?_, Nat.zero_le _⟩
      rw [upd_ne (ne_of_none upd_same hl0)]
      exact upd_same
    · rintro i σ H' _ ⟨l, _, _, _, _, rfl, S, _⟩
      exact SqL.of (S _ _ ha)
    · rintro i y σ H2 hy ⟨l, v2, v3, v4, ws, rfl, S2, nl, hl, hlen, htl⟩
      obtain ⟨r, hri, rfl⟩ : ∃ r, rs[i]? = some r ∧ y = V.int r := by
        rw [List.getElem?_map] at hy
        cases e : rs[i]? with
        | none =>
          rw [e] at hy
          cases hy
        | some r =>
          rw [e] at hy
          exact ⟨r, rfl, (Option.some.inj hy).symm⟩
      have hi : i < rs.length := (List.getElem?_eq_some_iff.mp hri).1
      have hrb := hb r (List.mem_of_getElem? hri)
      have lws : ws.length ≤ 125 := by
        rw [hlen]
        exact small i
      refine ⟨Nat.zero_le _, fun m hm => ?_⟩
      have nm : H m = none := Same.free S2 hm
      have hlm : l ≠ m := ne_of_none hl hm
      have S3 : Same H2 (upd H2 m (.lst [])) := same_upd hm
      refine ⟨_, rfl, l, rfl, ⟨_, SqL.of (S3 _ _ hl)⟩, ?_⟩
      refine for_list (K := K) (a := l) (xs := ws) (fun j σ H' => ∃ (v4 : Option V) (us : List V), σ = [some (.ref a), some (.ref l), some (.int r), some (.ref m), v4, none] ∧ Same H2 H' ∧ H' m = some (.lst us) ∧ us.length = j * (r + 1).toNat ∧ TL H' (i + 1) us)
        ⟨v4, [], rfl, S3, upd_same, by simp, fun v hv => nomatch hv⟩ ?_ ?_ ?_
      · rintro j σ H' _ ⟨_, _, rfl, S, _⟩
        exact SqL.of (S _ _ hl)
      · rintro j u σ H4 hu ⟨v4', us, rfl, S4, hm4, hlu, hus⟩
        have hjl : j < ws.length := (List.getElem?_eq_some_iff.mp hu).1
        obtain ⟨oa, os, rfl, hoa, hol⟩ := htl.keep (Same.ts S4) u (List.mem_of_getElem? hu)
        -- longer.extend([..])
        refine ⟨_, rfl, .inl ⟨rfl, _, SqL.of hm4⟩, ?_⟩
        refine ⟨_, rfl, _, _, rfl, rfl, (r + 1).toNat, (by rw [Int.toNat_of_nonneg (by omega)]), by omega, by omega, fun D hD => ?_⟩
        refine lc_range (lo := 0) (n := (r + 1).toNat) (fun i' H' => ∃ ds : List V, Same H4 H' ∧ H' D = some (.lst ds) ∧ ds.length = i' ∧ TL H' (i + 1) ds)
          ⟨[], same_upd hD, upd_same, rfl, fun v hv => nomatch hv⟩ ?_ ?_
        · rintro i' H5 hi' ⟨ds, S5, hd5, hld, hds⟩
          refine ⟨rfl, ?_⟩
          have hoa5 := S5 _ _ hoa
          refine ⟨_, rfl, _, rfl, (by show 1 ≤ sizeLine; decide), fun q hq => ?_⟩
          have S6 := same_upd (o := .tup [V.int (0 + (i' : Nat))]) hq
          refine cat_go (S6 _ _ hoa5) upd_same (by simp only [List.length_singleton]; omega) fun t H7 S7 h7 => ?_
          have S8 := S6.trans S7
          refine ⟨ds, S8 _ _ hd5, small1000 (by omega), ds ++ [.ref t], same_mut (S5.trans S8) hD, upd_same, by rw [List.length_append, hld]; rfl, ?_⟩
          have ts : TS H5 (upd H7 D (.lst (ds ++ [V.ref t]))) := (Same.ts S8).trans (TS.lst (S8 _ _ hd5))
          intro v hv
          rcases List.mem_append.mp hv with hv | hv
          · exact hds.keep ts v hv
          · rw [List.mem_singleton] at hv
            exact ⟨t, _, hv, TS.lst (S8 _ _ hd5) _ _ h7, by rw [List.length_append, List.length_singleton]; omega⟩
        · rintro H5 ⟨ds, S5, hd5, hld, hds⟩
          have hm5 := S5 _ _ hm4
          have ul : us.length ≤ 625 := by
            rw [hlu]
            have h1 : j * (r + 1).toNat ≤ 125 * 5 := Nat.mul_le_mul (by omega) (by omega)
            omega
          refine ⟨m, D, us, ds, rfl, rfl, hm5, hd5, by rw [sizeLine_eq]; omega, ?_⟩
          have S9 : Same H2 (upd H5 m (.lst (us ++ ds))) := same_mut (S4.trans S5) hm
          have ts5 : TS H5 (upd H5 m (.lst (us ++ ds))) := TS.lst hm5
          have ts4 : TS H4 (upd H5 m (.lst (us ++ ds))) := (Same.ts S5).trans ts5
          refine ⟨some (.ref oa), us ++ ds, rfl, S9, upd_same, by rw [List.length_append, hlu, hld, Nat.add_mul, Nat.one_mul], fun v hv => ?_⟩
          rcases List.mem_append.mp hv with hv | hv
          · exact hus.keep ts4 v hv
          · exact hds.keep ts5 v hv
      · rintro σ H4 ⟨v4', us, rfl, S4, hm4, hlu, hus⟩
        refine ⟨_, rfl, m, _, _, _, us, rfl, S2.trans S4, nm, hm4, ?_, hus⟩
        rw [hlu, hlen, List.take_add_one, hri]
        exact (nL_snoc r _).symm
    · rintro σ H2 ⟨l, v2, v3, v4, ws, rfl, S2, nl, hl, hlen, htl⟩
      rw [List.length_map, List.take_length] at hlen
      exact ⟨_, rfl, k l ws H2 S2 hl hlen⟩
end
end SLW
/-! Part SLHall. -/
set_option Elab.async false
set_option linter.all false
set_option maxRecDepth 100000
set_option maxHeartbeats 4000000
/-! The law's _law_hall. -/
namespace SLW
open PySem PySem.Spec PyProof.Rows L2 SLR
theorem pe_calK {X : Cx} {P : Program} {w : World} {K : PySem.W.Frag} {mg : Str → Option Value} {base : Heap} {k : Nat} {x : Str} {ps : List Str} {sp : Sp} {p pos : Pos} {e : Expr} {es : List Expr} {t : TA}
    (c : Cal P w K mg base k x ps sp) (hr : Room k X.A) (hg : Gl X x) (ha : PA X (e :: es) t) (h1 : X.prog = P := by rfl) (h2 : X.w = w := by rfl) (h3 : X.K = K := by rfl) (h4 : X.mg = mg := by rfl) (h5 : X.base = base := by rfl)
    (hdb : (x == ("__debug__" : Str)) = false := by decide)
    (he : starEach (e :: es) X.env = (false, eval e X.env) :: starEach es X.env := by rfl) (hpl : (backTo pos (starEach es X.env)).any (·.1) = false := by rfl) :
    PE X (.Call (.Name x p) (e :: es) [] pos) (tCall sp [] E0 t) := by
  subst h1 h2 h3 h4 h5
  exact pe_cal c hr hg ha hdb he hpl
/-- a loop whose test is read for every way on -/
theorem while_n {c : TT} {tb : TS} {D : Ends} {σ : L2.St} {H : Hp} (Pv : Nat → L2.St → Hp → Prop) (h0 : ∃ m, Pv m σ H)
    (hs : ∀ m σ H, Pv m σ H → ∀ Q : Bool → Hp → Prop, (∀ b H1, (if b = true then tb { D with nx := fun σ' H' => ∃ m', m' < m ∧ Pv m' σ' H', ct := fun σ' H' => ∃ m', m' < m ∧ Pv m' σ' H', bk := D.nx } σ H1 else D.nx σ H1) → Q b H1) → c σ H Q) :
    tWhile c tb D σ H := by
  refine ⟨Pv, h0, fun m σ H p => hs m σ H p _ fun b H1 q => ?_⟩
  cases b with
  | true => exact ⟨_, fun _ _ z => z, q⟩
  | false => exact q
theorem ps_weak {X : Cx} {st : Stmt} {t : TS} (t' : TS) (h : PS X st t) (k : ∀ D σ H, t' D σ H → t D σ H) : PS X st t' := ⟨fun pins s σ H D I z => h.run pins s σ H D I (k D σ H z)⟩
/-! tops and rooms, before they are servers -/
def OkR (raws : List (Int × Int)) : Prop := ∀ s ∈ raws, (1 ≤ s.1 ∧ s.1 ≤ 3) ∧ (1 ≤ s.2 ∧ s.2 ≤ 4)
def lessR (s : Int × Int) : Int × Int := (s.1, if s.2 - 1 > 1 then s.2 - 1 else 1)
def muR (raws : List (Int × Int)) : Nat := (raws.map fun s => s.2.toNat).sum
theorem okR_less {raws : List (Int × Int)} (h : OkR raws) : OkR (raws.map lessR) := by
  intro s hs
  obtain ⟨t, ht, rfl⟩ := List.mem_map.mp hs
  obtain ⟨h1, h2⟩ := h t ht
  refine ⟨h1, ?_⟩
  show 1 ≤ (if t.2 - 1 > 1 then t.2 - 1 else 1) ∧ (if t.2 - 1 > 1 then t.2 - 1 else 1) ≤ 4
  split <;> omega
theorem less_le (s : Int × Int) (h : 1 ≤ s.2) : (lessR s).2.toNat ≤ s.2.toNat ∧ (2 ≤ s.2 → (lessR s).2.toNat < s.2.toNat) := by
  show (if s.2 - 1 > 1 then s.2 - 1 else 1).toNat ≤ s.2.toNat ∧ (2 ≤ s.2 → (if s.2 - 1 > 1 then s.2 - 1 else 1).toNat < s.2.toNat)
  split <;> omega
theorem muR_le : ∀ {raws : List (Int × Int)}, OkR raws → muR (raws.map lessR) ≤ muR raws
  | [], _ => Nat.le_refl _
  | s :: t, h => by
    have h1 := muR_le (raws := t) fun x hx => h x (List.mem_cons_of_mem _ hx)
    have h2 := (less_le s (h s (List.mem_cons_self ..)).2.1).1
    unfold muR at h1 ⊢
    simp only [List.map_cons, List.sum_cons]
    omega
theorem muR_lt : ∀ {raws : List (Int × Int)}, OkR raws → (∃ s ∈ raws, 2 ≤ s.2) → muR (raws.map lessR) < muR raws
  | [], _, ⟨_, h, _⟩ => nomatch h
  | s :: t, h, ⟨x, hx, h2⟩ => by
    have ht : OkR t := fun x hx => h x (List.mem_cons_of_mem _ hx)
    have hs := less_le s (h s (List.mem_cons_self ..)).2.1
    have h1 := muR_le ht
    rcases List.mem_cons.mp hx with e | hx
    · have := hs.2 (e ▸ h2)
      unfold muR at h1 ⊢
      simp only [List.map_cons, List.sum_cons]
      omega
    · have h3 := muR_lt ht ⟨x, hx, h2⟩
      have := hs.1
      unfold muR at h3 ⊢
      simp only [List.map_cons, List.sum_cons]
      omega
theorem nL_le2 : ∀ rs : List Int, (∀ r ∈ rs, r ≤ 1) → nL rs ≤ 2 ^ rs.length
  | [], _ => Nat.le_refl _
  | r :: rs, h => by
    have h1 := nL_le2 rs fun q hq => h q (List.mem_cons_of_mem _ hq)
    have h2 : (r + 1).toNat ≤ 2 := by
      have := h r (List.mem_cons_self ..)
      omega
    unfold nL
    rw [List.length_cons, Nat.pow_succ, Nat.mul_comm (2 ^ rs.length)]
    exact Nat.mul_le_mul h2 h1
theorem big_room {raws : List (Int × Int)} (h3 : raws.length ≤ 3) (h : 9 < nL (raws.map (·.2))) : ∃ s ∈ raws, 2 ≤ s.2 := by
  by_cases e : ∃ s ∈ raws, 2 ≤ s.2
  · exact e
  · exfalso
    have h1 : nL (raws.map (·.2)) ≤ 2 ^ (raws.map (·.2)).length := by
      refine nL_le2 _ fun r hr => ?_
      obtain ⟨s, hs, rfl⟩ := List.mem_map.mp hr
      have : ¬ 2 ≤ s.2 := fun z => e ⟨s, hs, z⟩
      omega
    have h2 : 2 ^ (raws.map (·.2)).length ≤ 2 ^ 3 := Nat.pow_le_pow_right (by decide) (by rw [List.length_map]; exact h3)
    omega
theorem sum_b : ∀ {raws : List (Int × Int)}, OkR raws → 0 ≤ (raws.map (·.1)).sum ∧ (raws.map (·.1)).sum ≤ 3 * raws.length
  | [], _ => ⟨Int.le_refl _, Int.le_refl _⟩
  | s :: t, h => by
    have h1 := sum_b (raws := t) fun x hx => h x (List.mem_cons_of_mem _ hx)
    have h2 := (h s (List.mem_cons_self ..)).1
    rw [List.map_cons, List.sum_cons, List.length_cons]
    omega
theorem frac_b {p g t : Int} (hg : 0 < g) (e : p * g = t) (ht : 0 < t) : 1 ≤ p ∧ p ≤ t := by
  have h1 : 0 < p := by
    rcases Int.lt_or_le 0 p with h | h
    · exact h
    · have := Int.mul_le_mul_of_nonneg_right h (Int.le_of_lt hg)
      rw [Int.zero_mul] at this
      omega
  have h2 := Int.mul_le_mul_of_nonneg_left (show 1 ≤ g from hg) (Int.le_of_lt h1)
  rw [Int.mul_one] at h2
  omega
theorem many8 {i : Int} (h0 : 0 ≤ i) (h8 : i < 8) : ∃ n : Nat, atI [V.int 2, V.int 2, V.int 3, V.int 1, V.int 2, V.int 3, V.int 2, V.int 3] i = some (.int (n : Int)) ∧ 1 ≤ n ∧ n ≤ 3 := by
  have e : i = 0 ∨ i = 1 ∨ i = 2 ∨ i = 3 ∨ i = 4 ∨ i = 5 ∨ i = 6 ∨ i = 7 := by omega
  rcases e with rfl | rfl | rfl | rfl | rfl | rfl | rfl | rfl
  · exact ⟨2, rfl, by decide, by decide⟩
  · exact ⟨2, rfl, by decide, by decide⟩
  · exact ⟨3, rfl, by decide, by decide⟩
  · exact ⟨1, rfl, by decide, by decide⟩
  · exact ⟨2, rfl, by decide, by decide⟩
  · exact ⟨3, rfl, by decide, by decide⟩
  · exact ⟨2, rfl, by decide, by decide⟩
  · exact ⟨3, rfl, by decide, by decide⟩
theorem slack5 {i : Int} (h0 : 0 ≤ i) (h8 : i < 5) : ∃ z : Int, atI [V.int 0, V.int 0, V.int 1, V.int 7, V.int 40] i = some (.int z) ∧ 0 ≤ z ∧ z ≤ 40 := by
  have e : i = 0 ∨ i = 1 ∨ i = 2 ∨ i = 3 ∨ i = 4 := by omega
  rcases e with rfl | rfl | rfl | rfl | rfl
  · exact ⟨0, rfl, by decide, by decide⟩
  · exact ⟨0, rfl, by decide, by decide⟩
  · exact ⟨1, rfl, by decide, by decide⟩
  · exact ⟨7, rfl, by decide, by decide⟩
  · exact ⟨40, rfl, by decide, by decide⟩
def RawT (H : Hp) (l : Addr) (raws : List (Int × Int)) : Prop := ∃ acc, H l = some (.lst acc) ∧ Paired (FracT H) acc raws ∧ OkR raws ∧ 1 ≤ raws.length ∧ raws.length ≤ 3
theorem rep1 {α : Type} (u : α) : ∀ n : Nat, (List.replicate n [u]).flatten = List.replicate n u
  | 0 => rfl
  | n + 1 => by
    rw [List.replicate_succ, List.flatten_cons, rep1 u n, List.replicate_succ]
    rfl
theorem take_get {α β : Type} (f : α → β) {l : List α} {i : Nat} {x : α} (h : l[i]? = some x) : (l.take (i + 1)).map f = (l.take i).map f ++ [f x] := by
  rw [List.take_add_one, h, List.map_append]
  rfl
section
variable {P : Program} {w : World} {K : PySem.W.Frag} {mg : Str → Option Value} {base : Heap}
abbrev nHall : List Str := ["_law_tape_here", "_law_most", "_law_many", "_law_servers", "_law_come", "_law_whole", "_law_speeds", "_law_k", "_law_top", "_law_room"]
theorem scHall : FnScope nHall ["_law_tape_here", "_law_most"] (defScope (topS 44)) := ⟨rfl, rfl, rfl, by decide +kernel, rfl, by decide +kernel, by decide +kernel⟩
def tAlike (d sl : Addr) (H : Hp) : TS := fun D σ H' => ∃ (n : Nat) (l : Addr) (raws : List (Int × Int)), σ = [some (.ref d), some (.int 9), some (.int (n : Int)), some (.ref l), none, none, none, none, none, none] ∧ But d H H' ∧ TapeT H' d sl ∧ RawT H' l raws ∧ raws.length = n ∧
  ∀ l' raws' H2, But d H H2 → TapeT H2 d sl → RawT H2 l' raws' → D.nx [some (.ref d), some (.int 9), some (.int (n : Int)), some (.ref l'), none, none, none, none, none, none] H2
def spHall : Sp := fun vs H Q _ => ∃ (d sl : Addr), vs = [.ref d, .int 9] ∧ TapeT H d sl ∧ ∀ (p : Addr) (c sv : V) (b : Bool) (ss : List SL.Srv) (H' : Hp), But d H H' → TapeT H' d sl → H' p = some (.tup [c, sv, .bl b]) → SrvsT H' sv ss → SL.Hok ss → Q (.ref p) H'
theorem c_hall (F : Fn K mg "_law_hall" (topS 44) ["_law_tape_here", "_law_most"]) (T : Txt mg) (CD : Cal P w K mg base 1 "_law_draw" ["_law_tape_here", "_law_many"] spDraw) (CA : Cal P w K mg base 1 "_law_all_lines" ["_law_rooms"] spAllL)
    (CF : Cal P w K mg base 1 "_law_frac" ["_law_top", "_law_bottom"] spFractionOf) : Cal P w K mg base 2 "_law_hall" ["_law_tape_here", "_law_most"] spHall := by
  refine F.cal scHall (fun vs H Q E h => ?_) (fun f cdv A outer s H vs Q E hr h => ?_)
  · obtain ⟨d, sl, rfl, _⟩ := h
    rfl
  · obtain ⟨d, sl, rfl, hT, k⟩ := h
    refine ⟨_, pss_cons (ps_set (i := 2) scHall.nd rfl (.inl rfl) (pe_atL K (pe_lst (pa_cons pe_int (pa_cons pe_int (pa_cons pe_int (pa_cons pe_int (pa_cons pe_int (pa_cons pe_int (pa_cons pe_int (pa_cons pe_int pa_nil))))))))) (pe_cal CD hr (by rfl) (pa_cons (pv 0) (pa_cons pe_int pa_nil)))))
      (pss_cons (ps_setLc (i := 3) (own := [("_law_k", 7)]) (g := gName 7) (tt := tYes) (by rfl) scHall.nd rfl rfl (sw_true rfl rfl rfl (by decide +kernel)) (pi_range1 (by rfl) T.range (pa_cons (pv 2) pa_nil))
        (blkOk_by (N := nHall) (sc := defScope (topS 44)) (by decide +kernel)) (fun _ _ _ _ _ => pg_name (i := 7) scHall.nd rfl (Or.inl rfl)) (fun _ _ _ _ _ => pts_nil)
        (fun _ _ _ _ _ => pe_tup (pa_cons (pe_op op_add pe_int (pe_calK CD hr (by rfl) (pa_cons (pv 0) (pa_cons pe_int pa_nil)))) (pa_cons (pe_op op_add pe_int (pe_calK CD hr (by rfl) (pa_cons (pv 0) (pa_cons pe_int pa_nil)))) pa_nil))))
      (pss_cons (ps_weak (tAlike d sl H) (ps_if (pt_cmpR op_eq (pe_cal CD hr (by rfl) (pa_cons (pv 0) (pa_cons pe_int pa_nil))) pe_int (nomark _))
        (pss_one (ps_set (i := 3) scHall.nd rfl (.inl rfl) (pe_op op_rep (pe_lst (pa_cons (pe_atL K (pv 3) pe_int) pa_nil)) (pv 2)))) pss_nil) ?al)
      (pss_cons (ps_while PassesOwn.never (pt_cmpR op_gt (pe_callB call_len_seq (by rfl) T.len PySem.boot_len (pa_cons (pe_cal CA hr (by rfl) (pa_cons
            (pe_lc (own := [("_law_top", 8), ("_law_room", 9)]) (g := gTup K 2 (gCons (gName 8) (gCons (gName 9) gNil))) (tt := tYes) rfl scHall.nd (pi_list (pv 3)) (blkOk_by (N := nHall) (sc := defScope (topS 44)) (by decide +kernel))
              (fun _ _ _ _ _ => pg_tupK K rfl (pgs_cons (pg_name (i := 8) scHall.nd rfl (.inl rfl)) (pgs_cons (pg_name (i := 9) scHall.nd rfl (.inl rfl)) pgs_nil))) (fun _ _ _ _ _ => pts_nil) (fun _ _ _ _ _ => pv 9)) pa_nil)) pa_nil)) (pv 1) (nomark _))
          (pss_cons (ps_if (pt_cmpR op_eq (pe_callB (cr_max rfl) (by rfl) T.max (by decide +kernel) (pa_cons
              (pe_lc (own := [("_law_top", 8), ("_law_room", 9)]) (g := gTup K 2 (gCons (gName 8) (gCons (gName 9) gNil))) (tt := tYes) rfl scHall.nd (pi_list (pv 3)) (blkOk_by (N := nHall) (sc := defScope (topS 44)) (by decide +kernel))
                (fun _ _ _ _ _ => pg_tupK K rfl (pgs_cons (pg_name (i := 8) scHall.nd rfl (.inl rfl)) (pgs_cons (pg_name (i := 9) scHall.nd rfl (.inl rfl)) pgs_nil))) (fun _ _ _ _ _ => pts_nil) (fun _ _ _ _ _ => pv 9)) pa_nil)) pe_int (nomark _))
            (pss_one (ps_set (i := 3) scHall.nd rfl (.inl rfl) (pe_slice sl_list (pv 3) (po_some pe_int) po_none))) pss_nil)
          (pss_one (ps_setLc (i := 3) (own := [("_law_top", 8), ("_law_room", 9)]) (g := gTup K 2 (gCons (gName 8) (gCons (gName 9) gNil))) (tt := tYes) (by rfl) scHall.nd rfl rfl (sw_true rfl rfl rfl (by decide +kernel)) (pi_list (pv 3))
            (blkOk_by (N := nHall) (sc := defScope (topS 44)) (by decide +kernel))
            (fun _ _ _ _ _ => pg_tupK K rfl (pgs_cons (pg_name (i := 8) scHall.nd rfl (.inl rfl)) (pgs_cons (pg_name (i := 9) scHall.nd rfl (.inl rfl)) pgs_nil))) (fun _ _ _ _ _ => pts_nil)
            (fun _ _ _ _ _ => pe_tup (pa_cons (pv 8) (pa_cons (pe_callB (call_max2 rfl) (by rfl) T.max (by decide +kernel) (pa_cons pe_int (pa_cons (pe_op op_sub (pv 9) pe_int) pa_nil))) pa_nil)))))))
      (pss_cons (ps_set (i := 4) scHall.nd rfl (.inl rfl) (pe_op op_add pe_int (pe_cal CD hr (by rfl) (pa_cons (pv 0) (pa_cons pe_int pa_nil)))))
      (pss_cons (ps_set (i := 5) scHall.nd rfl (.inr rfl) (pe_op op_add (pe_op op_add (pv 4) (pe_callB (cr_sum rfl) (by rfl) T.sum (by decide +kernel) (pa_cons
            (pe_lc (own := [("_law_top", 8), ("_law_room", 9)]) (g := gTup K 2 (gCons (gName 8) (gCons (gName 9) gNil))) (tt := tYes) rfl scHall.nd (pi_list (pv 3)) (blkOk_by (N := nHall) (sc := defScope (topS 44)) (by decide +kernel))
              (fun _ _ _ _ _ => pg_tupK K rfl (pgs_cons (pg_name (i := 8) scHall.nd rfl (.inl rfl)) (pgs_cons (pg_name (i := 9) scHall.nd rfl (.inl rfl)) pgs_nil))) (fun _ _ _ _ _ => pts_nil) (fun _ _ _ _ _ => pv 8)) pa_nil)))
          (pe_atL K (pe_lst (pa_cons pe_int (pa_cons pe_int (pa_cons pe_int (pa_cons pe_int (pa_cons pe_int pa_nil)))))) (pe_cal CD hr (by rfl) (pa_cons (pv 0) (pa_cons pe_int pa_nil))))))
      (pss_cons (ps_set (i := 6) scHall.nd rfl (.inl rfl) (pe_callTy call_tuple_of (by rfl) T.tuple (by decide +kernel) (pa_cons
          (pe_lc (own := [("_law_top", 8), ("_law_room", 9)]) (g := gTup K 2 (gCons (gName 8) (gCons (gName 9) gNil))) (tt := tYes) rfl scHall.nd (pi_list (pv 3)) (blkOk_by (N := nHall) (sc := defScope (topS 44)) (by decide +kernel))
            (fun _ _ _ _ _ => pg_tupK K rfl (pgs_cons (pg_name (i := 8) scHall.nd rfl (.inl rfl)) (pgs_cons (pg_name (i := 9) scHall.nd rfl (.inl rfl)) pgs_nil))) (fun _ _ _ _ _ => pts_nil)
            (fun _ _ _ _ _ => pe_tup (pa_cons (pe_calK CF hr (by rfl) (pa_cons (pv 8) (pa_cons (pv 5) pa_nil))) (pa_cons (pv 9) pa_nil)))) pa_nil)))
      (pss_one (ps_ret (pe_tup (pa_cons (pe_cal CF hr (by rfl) (pa_cons (pv 4) (pa_cons (pv 5) pa_nil))) (pa_cons (pv 6) (pa_cons (pe_cmpR op_eq (pe_cal CD hr (by rfl) (pa_cons (pv 0) (pa_cons pe_int pa_nil))) pe_int (nomark _)) pa_nil)))))))))))), ?main⟩
    case al =>
      rintro D σ H1 ⟨n, l, raws, rfl, B, T1, hR, hn, kk⟩
      obtain ⟨acc, hl, hp, hok, h1, h3⟩ := id hR
      refine ⟨_, rfl, d, sl, 8, rfl, T1, by decide, by decide, fun x H2 B2 T2 hx0 hx8 => ?_⟩
      have hl2 := B2 _ _ (T1.ne hl) hl
      have hp2 := Paired.mapP hp fun _ _ z => FracT.keep (T1.ts B2) z
      refine ⟨rfl, _, rfl, iteD (fun _ => ?_) (fun _ => ?_)⟩
      · obtain ⟨s0, hs0⟩ : ∃ s0, raws[0]? = some s0 := ⟨_, List.getElem?_eq_getElem (by omega)⟩
        obtain ⟨u, hu, hus⟩ := pget2 hp2 hs0
        refine ⟨_, rfl, _, _, _, _, rfl, rfl, SqL.of hl2, at_nat (j := 0) hu, (by show 1 ≤ sizeLine; decide), fun p hpn => ?_⟩
        have S3 := same_upd (o := .lst [u]) hpn
        refine ⟨_, rfl, p, _, _, rfl, rfl, upd_same, by omega, by omega, ?_, fun q hq => ?_⟩
        · rw [List.length_singleton, sizeLine_eq]
          omega
        · have S4 := S3.trans (same_upd (o := .lst (List.replicate (n : Int).toNat [u]).flatten) hq)
          have er : (List.replicate (n : Int).toNat [u]).flatten = List.replicate n u := by
            rw [Int.toNat_natCast]
            exact rep1 u n
          have pr : ∀ n : Nat, Paired (FracT H2) (List.replicate n u) (List.replicate n s0) := by
            intro n
            induction n with
            | zero => exact .nil
            | succ n ih => exact .cons hus ih
          refine kk q (List.replicate n s0) _ ((B.trans B2).trans (But.same S4)) (T2.keep S4) ⟨List.replicate n u, ?_, Paired.mapP (pr n) fun _ _ z => FracT.keep (Same.ts S4) z, ?_, ?_, ?_⟩
          · rw [← er]
            exact upd_same
          · intro s hs
            rw [List.eq_of_mem_replicate hs]
            exact hok s0 (List.mem_of_getElem? hs0)
          · rw [List.length_replicate]
            omega
          · rw [List.length_replicate]
            omega
      · exact kk l raws H2 (B.trans B2) T2 ⟨acc, hl2, hp2, hok, h1, h3⟩
    case main =>
      refine ⟨(by show 8 ≤ sizeLine; decide), fun l0 hl0 => ?_⟩
      have S0 := same_upd (o := .lst [V.int 2, V.int 2, V.int 3, V.int 1, V.int 2, V.int 3, V.int 2, V.int 3]) hl0
      have T0 := hT.keep S0
      refine ⟨_, rfl, d, sl, 8, rfl, T0, by decide, by decide, fun i0 H1 B1 T1 h0 h8 => ?_⟩
      obtain ⟨n, hat, hn1, hn3⟩ := many8 h0 h8
      have B1' : But d H H1 := (But.same S0).trans B1
      refine ⟨_, _, _, _, rfl, rfl, SqL.of (B1 _ _ (T0.ne upd_same) upd_same), hat, ?_⟩
      -- servers = [..]
      refine ⟨_, rfl, n, rfl, by omega, by omega, fun D hD => ?_⟩
      refine lc_range (lo := 0) (n := n) (fun i H' => But d H1 H' ∧ TapeT H' d sl ∧ ∃ acc raws, H' D = some (.lst acc) ∧ Paired (FracT H') acc raws ∧ raws.length = i ∧ OkR raws)
        ⟨But.same (same_upd hD), T1.keep (same_upd hD), [], [], upd_same, .nil, rfl, fun s hs => nomatch hs⟩ ?_ ?_
      · rintro i H' hi ⟨B, T', acc, raws, hd, hp, hlen, hok⟩
        refine ⟨rfl, ?_⟩
        refine ⟨_, rfl, d, sl, 3, rfl, T', by decide, by decide, fun x H2 B2 T2 hx0 hx3 => ?_⟩
        refine ⟨_, _, rfl, rfl, _, rfl, d, sl, 4, rfl, T2, by decide, by decide, fun y H3 B3 T3 hy0 hy4 => ?_⟩
        refine ⟨_, _, rfl, rfl, (by show 2 ≤ sizeLine; decide), fun q hq => ?_⟩
        have S4 := same_upd (o := .tup [V.int (1 + x), V.int (1 + y)]) hq
        have B4 := B2.trans B3
        have hd4 := S4 _ _ (B4 _ _ (T'.ne hd) hd)
        have al : acc.length ≤ 1000 := by
          rw [plen hp]
          omega
        have ts : TS H' (upd (upd H3 q (.tup [V.int (1 + x), V.int (1 + y)])) D (.lst (acc ++ [V.ref q]))) := ((T'.ts B4).trans (Same.ts S4)).trans (TS.lst hd4)
        refine ⟨acc, hd4, small1000 al, ((B.trans B4).trans (But.same S4)).mut hD, T1.mut (T3.keep S4) hD, acc ++ [.ref q], raws ++ [(1 + x, 1 + y)], upd_same, Paired.snoc (Paired.mapP hp fun _ _ z => FracT.keep ts z) ⟨q, rfl, TS.lst hd4 _ _ upd_same⟩, by rw [List.length_append, hlen]; rfl, fun s hs => ?_⟩
        rcases List.mem_append.mp hs with hs | hs
        · exact hok s hs
        · rw [List.mem_singleton] at hs
          subst hs
          exact ⟨⟨by show 1 ≤ 1 + x; omega, by show 1 + x ≤ 3; omega⟩, by show 1 ≤ 1 + y; omega, by show 1 + y ≤ 4; omega⟩
      · rintro H2 ⟨B2, T2, acc, raws, hd2, hp2, hlen, hok⟩
        refine ⟨n, D, raws, rfl, B1'.trans B2, T2, ⟨acc, hd2, hp2, hok, by omega, by omega⟩, hlen, fun l1 raws1 H3 B3 T3 hR3 => ?_⟩
        clear hok hp2 hd2 hlen
        -- while too many LINES
        refine while_n (fun m σ H' => ∃ (l : Addr) (raws : List (Int × Int)), σ = [some (.ref d), some (.int 9), some (.int (n : Int)), some (.ref l), none, none, none, none, none, none] ∧ But d H H' ∧ TapeT H' d sl ∧ RawT H' l raws ∧ m = muR raws)
          ⟨_, l1, raws1, rfl, B3, T3, hR3, rfl⟩ ?_
        rintro m σ H4 ⟨l, raws, rfl, B4, T4, ⟨acc, hl, hp, hok, r1, r3⟩, rfl⟩ Qb kb
        refine ⟨_, rfl, l, rfl, ⟨_, SqL.of hl⟩, fun D5 hD5 => ?_⟩
        refine lc_list (K := K) (a := l) (xs := acc) (fun i H' => Same H4 H' ∧ H' D5 = some (.lst (((raws.take i).map (·.2)).map V.int))) ⟨same_upd hD5, upd_same⟩ (fun i H' _ hP => SqL.of (hP.1 _ _ hl)) ?_ ?_
        · rintro i x H' hx ⟨S, hd⟩
          obtain ⟨⟨a, b⟩, hs, u, rfl, hu⟩ := pget hp hx
          refine ⟨u, _, rfl, SqT.of (S _ _ hu), rfl, _, _, rfl, _, _, rfl, rfl, ?_⟩
          refine ⟨rfl, ?_⟩
          refine ⟨_, rfl, _, hd, ?_, same_mut S hD5, ?_⟩
          · rw [List.length_map, List.length_map, List.length_take]
            exact small1000 (by omega)
          · rw [upd_same, take_get _ hs, List.map_append]
            rfl
        · rintro H5 ⟨S5, hd5⟩
          rw [plen hp, List.take_length] at hd5
          refine ⟨D5, raws.map (·.2), rfl, hd5, by rw [List.length_map]; exact r3, fun r hr => ?_, fun lw ws H6 S6 hlw hlen => ?_⟩
          · obtain ⟨t, ht, rfl⟩ := List.mem_map.mp hr
            have := (hok t ht).2
            omega
          have S46 := S5.trans S6
          have hl6 := S46 _ _ hl
          have hp6 := Paired.mapP hp fun _ _ z => FracT.keep (Same.ts S46) z
          refine ⟨_, _, rfl, .inl (SqL.of hlw), _, rfl, _, _, rfl, rfl, _, rfl, kb _ _ (iteD (fun h => ?_) (fun h => ?_))⟩
          · have hbig := big_room r3 (by omega)
            refine ⟨_, rfl, l, rfl, ⟨_, SqL.of hl6⟩, fun D7 hD7 => ?_⟩
            refine lc_list (K := K) (a := l) (xs := acc) (fun i H' => Same H6 H' ∧ H' D7 = some (.lst (((raws.take i).map (·.2)).map V.int))) ⟨same_upd hD7, upd_same⟩ (fun i H' _ hP => SqL.of (hP.1 _ _ hl6)) ?_ ?_
            · rintro i x H' hx ⟨S, hd⟩
              obtain ⟨⟨a, b⟩, hs, u, rfl, hu⟩ := pget hp6 hx
              refine ⟨u, _, rfl, SqT.of (S _ _ hu), rfl, _, _, rfl, _, _, rfl, rfl, ?_⟩
              refine ⟨rfl, ?_⟩
              refine ⟨_, rfl, _, hd, ?_, same_mut S hD7, ?_⟩
              · rw [List.length_map, List.length_map, List.length_take]
                exact small1000 (by omega)
              · rw [upd_same, take_get _ hs, List.map_append]
                rfl
            · rintro H7 ⟨S7, hd7⟩
              rw [plen hp, List.take_length] at hd7
              refine ⟨D7, raws.map (·.2), rfl, SqL.of hd7, by rw [List.length_map]; omega, fun mx hmx hge => ?_⟩
              refine ⟨rfl, _, rfl, iteN (fun z => ?_) ?_⟩
              · injection z with z
                obtain ⟨t, ht, h2⟩ := hbig
                have := hge _ (List.mem_map_of_mem (f := fun x : Int × Int => x.2) ht)
                omega
              have hl7 := S7 _ _ hl6
              have hp7 := Paired.mapP hp6 fun _ _ z => FracT.keep (Same.ts S7) z
              refine ⟨_, rfl, l, rfl, ⟨_, SqL.of hl7⟩, fun D8 hD8 => ?_⟩
              refine lc_list (K := K) (a := l) (xs := acc) (fun i H' => Same H7 H' ∧ ∃ ac, H' D8 = some (.lst ac) ∧ Paired (FracT H') ac ((raws.take i).map lessR)) ⟨same_upd hD8, [], upd_same, .nil⟩ (fun i H' _ hP => SqL.of (hP.1 _ _ hl7)) ?_ ?_
              · rintro i x H' hx ⟨S, ac, hd, hac⟩
                obtain ⟨⟨a, b⟩, hs, u, rfl, hu⟩ := pget hp7 hx
                refine ⟨u, _, rfl, SqT.of (S _ _ hu), rfl, _, _, rfl, _, _, rfl, rfl, ?_⟩
                refine ⟨rfl, ?_⟩
                refine ⟨_, rfl, _, rfl, _, _, rfl, rfl, _, _, rfl, (by show 2 ≤ sizeLine; decide), fun q hq => ?_⟩
                have S9 := same_upd (o := .tup [V.int a, V.int (if b - 1 > 1 then b - 1 else 1)]) hq
                have hd9 := S9 _ _ hd
                have ts : TS H' (upd (upd H' q (.tup [V.int a, V.int (if b - 1 > 1 then b - 1 else 1)])) D8 (.lst (ac ++ [V.ref q]))) := (Same.ts S9).trans (TS.lst hd9)
                refine ⟨ac, hd9, ?_, same_mut (S.trans S9) hD8, ac ++ [.ref q], upd_same, ?_⟩
                · rw [plen hac, List.length_map, List.length_take]
                  exact small1000 (by omega)
                · rw [take_get _ hs]
                  exact Paired.snoc (Paired.mapP hac fun _ _ z => FracT.keep ts z) ⟨q, rfl, TS.lst hd9 _ _ upd_same⟩
              · rintro H9 ⟨S9, ac, hd9, hac⟩
                rw [plen hp, List.take_length] at hac
                have SA := (S46.trans S7).trans S9
                exact ⟨_, muR_lt hok hbig, D8, raws.map lessR, rfl, B4.trans (But.same SA), T4.keep SA, ⟨ac, hd9, hac, okR_less hok, by rw [List.length_map]; exact r1, by rw [List.length_map]; exact r3⟩, rfl⟩
          · have few : nL (raws.map (·.2)) ≤ 9 := by omega
            have B6 := B4.trans (But.same S46)
            have T6 := T4.keep S46
            refine ⟨_, rfl, d, sl, 5, rfl, T6, by decide, by decide, fun c H7 B7 T7 hc0 hc5 => ?_⟩
            have hl7 := B7 _ _ (T6.ne hl6) hl6
            have hp7 := Paired.mapP hp6 fun _ _ z => FracT.keep (T6.ts B7) z
            refine ⟨_, _, rfl, rfl, ?_⟩
            -- whole
            refine ⟨_, rfl, _, rfl, l, rfl, ⟨_, SqL.of hl7⟩, fun D8 hD8 => ?_⟩
            refine lc_list (K := K) (a := l) (xs := acc) (fun i H' => Same H7 H' ∧ H' D8 = some (.lst (((raws.take i).map (·.1)).map V.int))) ⟨same_upd hD8, upd_same⟩ (fun i H' _ hP => SqL.of (hP.1 _ _ hl7)) ?_ ?_
            · rintro i x H' hx ⟨S, hd⟩
              obtain ⟨⟨a, b⟩, hs, u, rfl, hu⟩ := pget hp7 hx
              refine ⟨u, _, rfl, SqT.of (S _ _ hu), rfl, _, _, rfl, _, _, rfl, rfl, ?_⟩
              refine ⟨rfl, ?_⟩
              refine ⟨_, rfl, _, hd, ?_, same_mut S hD8, ?_⟩
              · rw [List.length_map, List.length_map, List.length_take]
                exact small1000 (by omega)
              · rw [upd_same, take_get _ hs, List.map_append]
                rfl
            · rintro H8 ⟨S8, hd8⟩
              rw [plen hp, List.take_length] at hd8
              have T8 := T7.keep S8
              refine ⟨D8, raws.map (·.1), rfl, SqL.of hd8, _, _, rfl, rfl, (by show 5 ≤ sizeLine; decide), fun l5 hl5 => ?_⟩
              have Sl5 := same_upd (o := .lst [V.int 0, V.int 0, V.int 1, V.int 7, V.int 40]) hl5
              have T8' := T8.keep Sl5
              refine ⟨_, rfl, d, sl, 5, rfl, T8', by decide, by decide, fun i5 H9 B9 T9 h50 h55 => ?_⟩
              obtain ⟨z5, hat5, hz0, hz40⟩ := slack5 h50 h55
              refine ⟨_, _, _, _, rfl, rfl, SqL.of (B9 _ _ (T8'.ne upd_same) upd_same), hat5, _, _, rfl, rfl, ?_⟩
              have B79 : But d H7 H9 := (But.same (S8.trans Sl5)).trans B9
              have hl9 := B79 _ _ (T7.ne hl7) hl7
              have hp9 := Paired.mapP hp7 fun _ _ z => FracT.keep (T7.ts B79) z
              have hsum := sum_b hok
              have hw1 : 0 < 1 + c + (raws.map (·.1)).sum + z5 := by omega
              have hw2 : 1 + c + (raws.map (·.1)).sum + z5 ≤ 54 := by omega
              have B69 := (B6.trans B7).trans B79
              -- speeds
              refine ⟨_, rfl, l, rfl, ⟨_, SqL.of hl9⟩, fun D10 hD10 => ?_⟩
              refine lc_list (K := K) (a := l) (xs := acc) (fun i H' => Same H9 H' ∧ ∃ ac ss, H' D10 = some (.lst ac) ∧ Paired (SrvT H') ac ss ∧ ss.map (·.2) = (raws.take i).map (·.2) ∧ (∀ s ∈ ss, (1 ≤ s.1.1 ∧ s.1.1 ≤ 1000) ∧ (1 ≤ s.1.2 ∧ s.1.2 ≤ 1000) ∧ (1 ≤ s.2 ∧ s.2 ≤ 6)))
                ⟨same_upd hD10, [], [], upd_same, .nil, rfl, fun s hs => nomatch hs⟩ (fun i H' _ hP => SqL.of (hP.1 _ _ hl9)) ?_ ?_
              · rintro i x H' hx ⟨S, ac, ss, hd, hac, hrm, hbd⟩
                obtain ⟨⟨a, b⟩, hs, u, rfl, hu⟩ := pget hp9 hx
                have hob := hok _ (List.mem_of_getElem? hs)
                refine ⟨u, _, rfl, SqT.of (S _ _ hu), rfl, _, _, rfl, _, _, rfl, rfl, ?_⟩
                refine ⟨rfl, ?_⟩
                refine ⟨_, rfl, _, rfl, a, 1 + c + (raws.map (·.1)).sum + z5, rfl, by omega, hw1, by omega, fun fv H11 p' q' g S11 hf hg e1 e2 => ?_⟩
                refine ⟨_, rfl, (by show 2 ≤ sizeLine; decide), fun q hq => ?_⟩
                have S12 := same_upd (o := .tup [fv, V.int b]) hq
                have S13 := S11.trans S12
                have hd9 := S13 _ _ hd
                have ts : TS H' (upd (upd H11 q (.tup [fv, V.int b])) D10 (.lst (ac ++ [V.ref q]))) := (Same.ts S13).trans (TS.lst hd9)
                have tf : TS H11 (upd (upd H11 q (.tup [fv, V.int b])) D10 (.lst (ac ++ [V.ref q]))) := (Same.ts S12).trans (TS.lst hd9)
                refine ⟨ac, hd9, ?_, same_mut (S.trans S13) hD10, ac ++ [.ref q], ss ++ [((p', q'), b)], upd_same, Paired.snoc (Paired.mapP hac fun _ _ z => SrvT.keep ts z) ⟨q, fv, rfl, TS.lst hd9 _ _ upd_same, hf.keep tf⟩, ?_, fun s hs' => ?_⟩
                · have e3 := congrArg List.length hrm
                  rw [List.length_map, List.length_map, List.length_take] at e3
                  rw [plen hac]
                  exact small1000 (by omega)
                · rw [List.map_append, hrm, take_get _ hs]
                  rfl
                · rcases List.mem_append.mp hs' with hs' | hs'
                  · exact hbd s hs'
                  · rw [List.mem_singleton] at hs'
                    subst hs'
                    have f1 := frac_b hg e1 (by omega)
                    have f2 := frac_b hg e2 hw1
                    exact ⟨⟨f1.1, by show p' ≤ 1000; omega⟩, ⟨f2.1, by show q' ≤ 1000; omega⟩, hob.2.1, by show b ≤ 6; omega⟩
              · rintro H10 ⟨S10, ac, ss, hd10, hac, hrm, hbd⟩
                rw [plen hp, List.take_length] at hrm
                refine ⟨D10, _, rfl, .inl ⟨SqL.of hd10, fun t ht => ?_⟩⟩
                have St := same_upd (o := .tup ac) ht
                refine ⟨_, rfl, _, rfl, 1 + c, 1 + c + (raws.map (·.1)).sum + z5, rfl, by omega, hw1, by omega, fun fv H11 p' q' g S11 hf hg e1 e2 => ?_⟩
                have S14 := (S10.trans St).trans S11
                have T11 := T9.keep S14
                refine ⟨_, rfl, _, rfl, d, sl, 4, rfl, T11, by decide, by decide, fun x H12 B12 T12 hx0 hx4 => ?_⟩
                refine ⟨rfl, (by show 3 ≤ sizeLine; decide), fun p hpn => ?_⟩
                have S15 := same_upd (o := .tup [fv, V.ref t, V.bl (decide (V.int x = V.int 0))]) hpn
                have elen : ss.length = raws.length := by
                  have := congrArg List.length hrm
                  rw [List.length_map, List.length_map] at this
                  exact this
                have tsT : TS (upd H10 t (.tup ac)) (upd H12 p (.tup [fv, V.ref t, V.bl (decide (V.int x = V.int 0))])) := ((Same.ts S11).trans (T11.ts B12)).trans (Same.ts S15)
                refine k p fv (.ref t) _ ss _ (((B69.trans (But.same S14)).trans B12).trans (But.same S15)) (T12.keep S15) upd_same ⟨t, ac, rfl, tsT _ _ upd_same, Paired.mapP hac fun _ _ z => SrvT.keep ((Same.ts St).trans tsT) z⟩ ⟨by omega, by omega, hbd, ?_⟩
                rw [nL_lines, hrm]
                exact few
end
end SLW
/-! Part SLLaw. -/
set_option Elab.async false
set_option linter.all false
set_option maxRecDepth 100000
set_option maxHeartbeats 4000000
/-! The law. -/
namespace SLW
open PySem PySem.Spec PyProof.Rows L2 SLR
theorem turn_len {o : List Nat} (ss : List SL.Srv) : (SL.turnS o ss).length = o.length := by
  unfold SL.turnS
  rw [List.length_map]
theorem turn_perm {ss : List SL.Srv} {o : List Nat} (h : SL.Ord ss.length o) : (SL.turnS o ss).Perm ss := by
  have p : o.Perm (List.range ss.length) := (List.perm_ext_iff_of_nodup h.nd List.nodup_range).mpr fun k => ⟨fun z => List.mem_range.mpr (h.lt k z), fun z => h.all k (List.mem_range.mp z)⟩
  have e : (List.range ss.length).map (SL.gs ss) = ss := by
    apply List.ext_getElem?
    intro j
    rw [List.getElem?_map]
    by_cases hj : j < ss.length
    · rw [List.getElem?_range hj, List.getElem?_eq_getElem hj]
      unfold SL.gs
      rw [Option.map_some, List.getD_eq_getElem?_getD, List.getElem?_eq_getElem hj]
      rfl
    · have e1 : (List.range ss.length)[j]? = none := List.getElem?_eq_none (by rw [List.length_range]; omega)
      have e2 : ss[j]? = none := List.getElem?_eq_none (by omega)
      rw [e1, e2]
      rfl
  have q := p.map (SL.gs ss)
  rw [e] at q
  exact q
theorem hok_turn {ss : List SL.Srv} {o : List Nat} (hk : SL.Hok ss) (h : SL.Ord ss.length o) : SL.Hok (SL.turnS o ss) := by
  have p := turn_perm h
  have e := p.length_eq
  refine ⟨by rw [e]; exact hk.n1, by rw [e]; exact hk.n3, fun s hs => hk.sv s (p.mem_iff.mp hs), ?_⟩
  have := hk.few
  rw [nL_lines] at this ⊢
  rw [nL_perm (p.map (·.2))]
  exact this
theorem words4 {i : Int} (h0 : 0 ≤ i) (h4 : i < 4) : ∃ r : SL.Rl, atI [V.str "random", V.str "two", V.str "least", V.str "quick"] i = some (.str (rw_ r)) := by
  have e : i = 0 ∨ i = 1 ∨ i = 2 ∨ i = 3 := by omega
  rcases e with rfl | rfl | rfl | rfl
  · exact ⟨.random, rfl⟩
  · exact ⟨.two, rfl⟩
  · exact ⟨.least, rfl⟩
  · exact ⟨.quick, rfl⟩
theorem shift8 {i : Int} (h0 : 0 ≤ i) (h8 : i < 8) : ∃ n : Int, atI [V.int 0, V.int 1, V.int 2, V.int 3, V.int 1, V.int 2, V.int 3, V.int 1] i = some (.int n) := by
  have e : i = 0 ∨ i = 1 ∨ i = 2 ∨ i = 3 ∨ i = 4 ∨ i = 5 ∨ i = 6 ∨ i = 7 := by omega
  rcases e with rfl | rfl | rfl | rfl | rfl | rfl | rfl | rfl
  all_goals exact ⟨_, rfl⟩
theorem st_turn {ss : List SL.Srv} {o : List Nat} {r1 r2 : SL.Rl} {res : Option (List SL.Mv)} (O : SL.Ord ss.length o) (h : STells (SL.turnS o ss) r1 r2 res) : SL.Tells (SL.both (SL.turnS o ss) r1 r2) SL.bad (SL.moves ss.length) (SL.voids ss.length) res := by
  unfold STells at h
  rw [turn_len, O.len] at h
  exact h
theorem two_of {ss : List SL.Srv} (h1 : 1 ≤ ss.length) (h : SL.alike ss = false) : 2 ≤ ss.length := by
  match ss, h1, h with
  | [s], _, h =>
    exfalso
    have : SL.alike [s] = true := by
      unfold SL.alike SL.gs
      simp
    rw [this] at h
    cases h
  | _ :: _ :: _, _, _ => simp
theorem gs0 {ss : List SL.Srv} (h1 : 1 ≤ ss.length) : ss[0]? = some (SL.gs ss 0) := by
  unfold SL.gs
  rw [List.getD_eq_getElem?_getD, List.getElem?_eq_getElem (by omega)]
  rfl
section
variable {P : Program} {w : World} {K : PySem.W.Frag} {mg : Str → Option Value} {base : Heap}
abbrev nLaw : List Str := ["_law_script", "_law_tape_here", "_law_k", "_law_come", "_law_servers", "_law_moved", "_law_hall_here", "_law_order_here", "_law_turned", "_law_words", "_law_at", "_law_one", "_law_other", "_law_first", "_law_second", "_law_run", "_law_alike", "_law_move", "_law_server"]
theorem scLaw : FnScope nLaw ["_law_script"] (defScope (topS 56)) := ⟨rfl, rfl, rfl, by decide +kernel, rfl, by decide +kernel, by decide +kernel⟩
def spLaw (K : PySem.W.Frag) : Sp := fun vs H Q _ => ∃ (a : Addr) (ns : List Int), vs = [.ref a] ∧ SqL K H a (ns.map V.int) ∧ ns.length ≤ 63 ∧ ∀ H', Q (.bl true) H'
/-- what both searches tell, side by side -/
def Out (ss : List SL.Srv) (o : List Nat) (r1 r2 : SL.Rl) (H : Hp) (pa pb : Addr) : Prop :=
  (∃ ya yb, H pa = some (.tup [.str "never", ya]) ∧ H pb = some (.tup [.str "never", yb])) ∨
  ∃ (qa qb : Addr) (ws1 ws2 : List V) (run2 : List SL.Mv), H pa = some (.tup [.str "worse", .ref qa]) ∧ H qa = some (.tup ws1) ∧ H pb = some (.tup [.str "worse", .ref qb]) ∧ H qb = some (.tup ws2) ∧ Paired (MoveT H) ws2 run2 ∧ run2.length ≤ 10000 ∧ ws1.length = run2.length ∧
    (∀ mv ∈ run2, mv ∈ SL.moves ss.length) ∧ (SL.alike ss = false → SL.bad (SL.go (SL.both ss r1 r2) (SL.voids ss.length, 0) (run2.map (SL.called o))).1 (SL.go (SL.both ss r1 r2) (SL.voids ss.length, 0) (run2.map (SL.called o))).2 = true)
/-- the reading of: first, second = .. -/
def tNev : TS := fun D σ H => ∃ (x0 x1 : V) (v2 v3 v5 v9 v10 v13 v14 v15 v16 : Option V) (x4 x6 x7 x8 x11 x12 : V) (ss : List SL.Srv) (o : List Nat) (r1 r2 : SL.Rl),
  σ = [some x0, some x1, v2, v3, some x4, v5, some x6, some x7, some x8, v9, v10, some x11, some x12, v13, v14, v15, v16, none, none] ∧ HallT H x6 ss ∧ HallT H x8 (SL.turnS o ss) ∧ RuleT H x11 r1 ∧ RuleT H x12 r2 ∧ SL.Hok ss ∧ o ∈ SL.orders ss.length ∧
  ∀ pa pb H', Same H H' → Out ss o r1 r2 H' pa pb → D.nx [some x0, some x1, v2, v3, some x4, v5, some x6, some x7, some x8, v9, v10, some x11, some x12, some (.ref pa), some (.ref pb), v15, v16, none, none] H'
/-- the reading of: if first[0] == "worse": .. -/
def tShow : TS := fun D σ H => ∃ (x0 x1 : V) (v2 v3 v5 v8 v9 v10 v15 v16 : Option V) (x4 x6 x7 x11 x12 : V) (pa pb : Addr) (ss : List SL.Srv) (o : List Nat) (r1 r2 : SL.Rl),
  σ = [some x0, some x1, v2, v3, some x4, v5, some x6, some x7, v8, v9, v10, some x11, some x12, some (.ref pa), some (.ref pb), v15, v16, none, none] ∧ SrvsT H x4 ss ∧ HallT H x6 ss ∧ IntsT H x7 (natsI o) ∧ RuleT H x11 r1 ∧ RuleT H x12 r2 ∧ SL.Hok ss ∧ o ∈ SL.orders ss.length ∧ Out ss o r1 r2 H pa pb ∧
  ∀ v15' v16' H', Same H H' → D.nx [some x0, some x1, v2, v3, some x4, v5, some x6, some x7, v8, v9, v10, some x11, some x12, some (.ref pa), some (.ref pb), v15', v16', none, none] H'
theorem c_law {f : Addr} {fd : FuncData} (F : Fun K "law" "law" (topS 56) f fd) (T : Txt mg) (C1 : Cal P w K mg base 1 "_law_tape" ["_law_script"] (spTape K)) (CH : Cal P w K mg base 2 "_law_hall" ["_law_tape_here", "_law_most"] spHall)
    (CO : Cal P w K mg base 2 "_law_order" ["_law_tape_here", "_law_many"] spOrder) (CT : Cal P w K mg base 1 "hall_turned" ["hall", "order"] spTurned) (CD : Cal P w K mg base 1 "_law_draw" ["_law_tape_here", "_law_many"] spDraw)
    (CN : Cal P w K mg base 11 "never_worse" ["hall", "one", "other"] spNever) (CC : Cal P w K mg base 1 "_law_called" ["_law_order_here", "_law_move"] spCalled) (CS : Cal P w K mg base 4 "_law_shows" ["_law_hall_here", "_law_one", "_law_other", "_law_run"] spShows) :
    FnOk P w K mg base CX0 12 f fd ["_law_script"] (spLaw K) := by
  refine F.ok scLaw (fun vs H Q E h => ?_) (fun cdv A outer s H vs Q E hr h => ?_)
  · obtain ⟨a, ns, rfl, _⟩ := h
    rfl
  · obtain ⟨a, ns, rfl, hS, hlen, k⟩ := h
    have hr1 : Room 1 _ := hr.mono (by decide)
    have hr2 : Room 2 _ := hr.mono (by decide)
    have hr4 : Room 4 _ := hr.mono (by decide)
    refine ⟨_, pss_cons (ps_set (i := 1) scLaw.nd rfl (.inl rfl) (pe_cal C1 hr1 (by rfl) (pa_cons (pv 0) pa_nil)))
      (pss_cons (ps_for PassesOwn.never rfl (pi_range1 (by rfl) T.range (pa_cons pe_int pa_nil)) (pg_name (i := 2) scLaw.nd rfl (.inl rfl))
        (pss_cons (ps_asg (pe_cal CH hr2 (by rfl) (pa_cons (pv 1) (pa_cons pe_int pa_nil))) (pg_tup rfl (pgs_cons (pg_name (i := 3) scLaw.nd rfl (.inl rfl)) (pgs_cons (pg_name (i := 4) scLaw.nd rfl (.inr rfl)) (pgs_cons (pg_name (i := 5) scLaw.nd rfl (.inl rfl)) pgs_nil)))))
        (pss_cons (ps_set (i := 6) scLaw.nd rfl (.inl rfl) (pe_tup (pa_cons (pv 3) (pa_cons (pv 4) (pa_cons pe_bl pa_nil)))))
        (pss_cons (ps_set (i := 7) scLaw.nd rfl (.inr rfl) (pe_cal CO hr2 (by rfl) (pa_cons (pv 1) (pa_cons (pe_callB call_len_seq (by rfl) T.len PySem.boot_len (pa_cons (pv 4) pa_nil)) pa_nil))))
        (pss_cons (ps_set (i := 8) scLaw.nd rfl (.inl rfl) (pe_cal CT hr1 (by rfl) (pa_cons (pv 6) (pa_cons (pv 7) pa_nil))))
        (pss_cons (ps_set (i := 9) scLaw.nd rfl (.inl rfl) (pe_lst (pa_cons pe_str (pa_cons pe_str (pa_cons pe_str (pa_cons pe_str pa_nil))))))
        (pss_cons (ps_set (i := 10) scLaw.nd rfl (.inl rfl) (pe_cal CD hr1 (by rfl) (pa_cons (pv 1) (pa_cons pe_int pa_nil))))
        (pss_cons (ps_set (i := 11) scLaw.nd rfl (.inl rfl) (pe_tup (pa_cons (pe_atL K (pv 9) (pv 10)) pa_nil)))
        (pss_cons (ps_set (i := 12) scLaw.nd rfl (.inl rfl) (pe_tup (pa_cons (pe_atL K (pv 9) (pe_op op_mod (pe_op op_add (pv 10)
            (pe_atL K (pe_lst (pa_cons pe_int (pa_cons pe_int (pa_cons pe_int (pa_cons pe_int (pa_cons pe_int (pa_cons pe_int (pa_cons pe_int (pa_cons pe_int pa_nil))))))))) (pe_cal CD hr1 (by rfl) (pa_cons (pv 1) (pa_cons pe_int pa_nil))))) pe_int)) pa_nil)))
        (pss_cons (ps_weak tNev (ps_par (i := 13) (j := 14) rfl scLaw.nd rfl rfl (by decide) rfl rfl (pa_cons (pe_cal CN hr (by rfl) (pa_cons (pv 6) (pa_cons (pv 11) (pa_cons (pv 12) pa_nil)))) (pa_cons (pe_cal CN hr (by rfl) (pa_cons (pv 8) (pa_cons (pv 11) (pa_cons (pv 12) pa_nil)))) pa_nil)) (by rfl)) ?nev)
        (pss_cons (ps_if (pt_cmpR op_ne (pe_at K (pv 13) pe_int) (pe_at K (pv 14) pe_int) (nomark _)) (pss_one (ps_ret pe_bl)) pss_nil)
        (pss_one (ps_weak tShow (ps_if (pt_cmpR op_eq (pe_at K (pv 13) pe_int) pe_str (nomark _))
          (pss_cons (ps_set (i := 15) scLaw.nd rfl (.inl rfl) (pe_callTy call_tuple_of (by rfl) T.tuple (by decide +kernel) (pa_cons
              (pe_lc (own := [("_law_move", 17)]) (g := gName 17) (tt := tYes) rfl scLaw.nd (pi_tup (pe_at K (pv 14) pe_int)) (blkOk_by (N := nLaw) (sc := defScope (topS 56)) (by decide +kernel))
                (fun _ _ _ _ _ => pg_name (i := 17) scLaw.nd rfl (Or.inl rfl)) (fun _ _ _ _ _ => pts_nil)
                (fun _ _ _ _ _ => pe_calK CC hr1 (by rfl) (pa_cons (pv 7) (pa_cons (pv 17) pa_nil)))) pa_nil)))
          (pss_cons (ps_set (i := 16) scLaw.nd rfl (.inl rfl) (pe_cmpR (op_eqK K hr.units)
              (pe_lc (own := [("_law_server", 18)]) (g := gName 18) rfl scLaw.nd (pi_tup (pv 4)) (blkOk_by (N := nLaw) (sc := defScope (topS 56)) (by decide +kernel))
                (fun _ _ _ _ _ => pg_name (i := 18) scLaw.nd rfl (Or.inl rfl)) (fun _ _ _ _ _ => pts_one (pt_cmpR (op_neK K hr.units) (pv 18) (pe_at K (pv 4) pe_int) (nomark _)))
                (fun _ _ _ _ _ => pv 18)) (pe_lst pa_nil) (nomark _)))
          (pss_one (ps_if (PW.pt (pw_or (pt_cmpR op_ne (pe_callB call_len_seq (by rfl) T.len PySem.boot_len (pa_cons (pe_at K (pv 13) pe_int) pa_nil)) (pe_callB call_len_seq (by rfl) T.len PySem.boot_len (pa_cons (pv 15) pa_nil)) (nomark _))
              (pw_or1 (PW.pt (pw_and (pt_not (pt_val (pv 16))) (pw_and1 (pt_not (pt_val (pe_cal CS hr4 (by rfl) (pa_cons (pv 6) (pa_cons (pv 11) (pa_cons (pv 12) (pa_cons (pv 15) pa_nil)))))))))))))
            (pss_one (ps_ret pe_bl)) pss_nil)))) pss_nil) ?shw)))))))))))))
      (pss_one (ps_ret pe_bl))), ?main⟩
    case nev =>
      rintro D σ H12 ⟨x0, x1, v2, v3, v5, v9, v10, v13, v14, v15, v16, x4, x6, x7, x8, x11, x12, ss, o, r1, r2, rfl, hh12, ht12, ru1, ru2, hk, ho, kk⟩
      have O := SL.ord_of hk.n1 hk.n3 o ho
      have hkt := hok_turn hk O
      refine ⟨_, rfl, _, rfl, _, rfl, x6, x11, x12, ss, r1, r2, rfl, hh12, ru1, ru2, hk, fun pa ya H13 S13 hpa st1 => ?_, fun pa qa ws1 run1 H13 S13 hpa hqa hw1 l1 st1 => ?_⟩
      · refine ⟨_, rfl, _, rfl, _, rfl, x8, x11, x12, SL.turnS o ss, r1, r2, rfl, ht12.keep (Same.ts S13), ru1.keep (Same.ts S13), ru2.keep (Same.ts S13), hkt, fun pb yb H14 S14 hpb st2 => ?_, fun pb qb ws2 run2 H14 S14 hpb hqb hw2 l2 st2 => ?_⟩
        · exact ⟨_, _, rfl, kk pa pb H14 (S13.trans S14) (.inl ⟨ya, yb, S14 _ _ hpa, hpb⟩)⟩
        · exfalso
          have := (SL.turned_same hk ho r1 r2 st1 (st_turn O st2)).1
          cases this
      · refine ⟨_, rfl, _, rfl, _, rfl, x8, x11, x12, SL.turnS o ss, r1, r2, rfl, ht12.keep (Same.ts S13), ru1.keep (Same.ts S13), ru2.keep (Same.ts S13), hkt, fun pb yb H14 S14 hpb st2 => ?_, fun pb qb ws2 run2 H14 S14 hpb hqb hw2 l2 st2 => ?_⟩
        · exfalso
          have := (SL.turned_same hk ho r1 r2 st1 (st_turn O st2)).1
          cases this
        · have hmv2 : ∀ mv ∈ run2, mv ∈ SL.moves ss.length := (st_turn O st2).1.1
          have law := (SL.turned_same hk ho r1 r2 st1 (st_turn O st2)).2 _ _ rfl rfl
          exact ⟨_, _, rfl, kk pa pb H14 (S13.trans S14) (.inr ⟨qa, qb, ws1, ws2, run2, S14 _ _ hpa, S14 _ _ hqa, hpb, hqb, hw2, l2, (plen hw1).trans law.1, hmv2, law.2⟩)⟩
    case shw =>
      rintro D σ H14 ⟨x0, x1, v2, v3, v5, v8, v9, v10, v15, v16, x4, x6, x7, x11, x12, pa, pb, ss, o, r1, r2, rfl, hsv, hh, hov, ru1, ru2, hk, ho, out, kk⟩
      have n1 := hk.n1
      have n3 := hk.n3
      have O := SL.ord_of hk.n1 hk.n3 o ho
      rcases out with ⟨ya, yb, hpa, hpb⟩ | ⟨qa, qb, ws1, ws2, run2, hpa, hqa, hpb, hqb, hw2, l2, len12, hmv2, bad2⟩
      · refine ⟨_, rfl, _, _, _, _, rfl, rfl, SqT.of hpa, rfl, rfl, _, rfl, iteN (by decide +kernel) ?_⟩
        exact kk _ _ _ (Same.refl _)
      · obtain ⟨sa, vs, rfl, hsa, hps⟩ := id hsv
        have hpl := plen hps
        refine ⟨_, rfl, _, _, _, _, rfl, rfl, SqT.of hpa, rfl, rfl, _, rfl, iteY rfl ?_⟩
        -- the run, called
        refine ⟨_, rfl, _, _, _, _, rfl, rfl, SqT.of hpb, rfl, qb, rfl, ⟨_, SqT.of hqb⟩, fun D hD => ?_⟩
        refine lc_tup (K := K) (a := qb) (xs := ws2) (fun i H' => Same H14 H' ∧ ∃ acc, H' D = some (.lst acc) ∧ Paired (MoveT H') acc ((run2.take i).map (SL.called o))) ⟨same_upd hD, [], upd_same, .nil⟩ (fun i H' _ hP => SqT.of (hP.1 _ _ hqb)) ?_ ?_
        · rintro i y' H' hx ⟨S, acc, hd, hac⟩
          obtain ⟨mv, hm, hmt⟩ := pget hw2 hx
          have hmm := hmv2 mv (List.mem_of_getElem? hm)
          refine ⟨rfl, ?_⟩
          refine ⟨_, rfl, _, rfl, x7, _, o, mv, rfl, hov.keep (Same.ts S), hmt.keep (Same.ts S), by rw [O.len]; exact SL.moves_ok hk.n1 hk.n3 hmm, by rw [O.len]; omega, fun v H'' S'' hv => ?_⟩
          have hd2 := S'' _ _ hd
          have ts : TS H'' (upd H'' D (.lst (acc ++ [v]))) := TS.lst hd2
          refine ⟨acc, hd2, ?_, same_mut (S.trans S'') hD, acc ++ [v], upd_same, ?_⟩
          · have e1 := plen hac
            rw [List.length_map, List.length_take] at e1
            rw [sizeLine_eq]
            omega
          · rw [take_get _ hm]
            exact Paired.snoc (Paired.mapP hac fun _ _ z => MoveT.keep ((Same.ts S'').trans ts) z) (hv.keep ts)
        · rintro H15 ⟨S15, acc, hd15, hac⟩
          rw [plen hw2, List.take_length] at hac
          refine ⟨D, _, rfl, .inl ⟨SqL.of hd15, fun t ht => ?_⟩⟩
          have St := S15.trans (same_upd (o := .tup acc) ht)
          have hrun : RunT (upd H15 t (.tup acc)) (.ref t) (run2.map (SL.called o)) := ⟨t, acc, rfl, upd_same, Paired.mapP hac fun _ _ z => MoveT.keep (Same.ts (same_upd ht)) z⟩
          have hsa16 := St _ _ hsa
          have hps16 := Paired.mapP hps fun _ _ z => SrvT.keep (Same.ts St) z
          have hta : (upd H15 t (.tup acc)) t = some (.tup acc) := upd_same
          -- alike
          refine ⟨_, rfl, sa, rfl, ⟨_, SqT.of hsa16⟩, fun D2 hD2 => ?_⟩
          obtain ⟨u0, hu0, hs0⟩ := pget2 hps16 (gs0 n1)
          refine lc_tup (K := K) (a := sa) (xs := vs) (fun i H' => Same (upd H15 t (.tup acc)) H' ∧ ∃ ac, H' D2 = some (.lst ac) ∧ Paired (SrvT (upd H15 t (.tup acc))) ac ((ss.take i).filter fun s => !decide (s = SL.gs ss 0))) ⟨same_upd hD2, [], upd_same, .nil⟩ (fun i H' _ hP => SqT.of (hP.1 _ _ hsa16)) ?_ ?_
          · rintro i y' H' hx ⟨S, ac, hl, hacc⟩
            obtain ⟨s', hs', hst⟩ := pget hps16 hx
            have hi : i < ss.length := (List.getElem?_eq_some_iff.mp hs').1
            have e0 : (ss.take (i + 1)).filter (fun s => !decide (s = SL.gs ss 0)) = (ss.take i).filter (fun s => !decide (s = SL.gs ss 0)) ++ (if s' = SL.gs ss 0 then [] else [s']) := by
              rw [List.take_add_one, hs', List.filter_append]
              congr 1
              by_cases e : s' = SL.gs ss 0
              · rw [if_pos e]
                show List.filter _ [s'] = []
                rw [List.filter_cons_of_neg (by simp [e])]
                rfl
              · rw [if_neg e]
                show List.filter _ [s'] = [s']
                rw [List.filter_cons_of_pos (by simp [e])]
                rfl
            have al : ac.length ≤ 1000 := by
              rw [plen hacc]
              have h2 := List.length_filter_le (fun s => !decide (s = SL.gs ss 0)) (ss.take i)
              rw [List.length_take] at h2
              omega
            refine ⟨rfl, _, rfl, _, rfl, _, _, _, _, rfl, rfl, SqT.of (S _ _ hsa16), at_nat (j := 0) hu0, _, _, (hst.keep (Same.ts S)).dp, (hs0.keep (Same.ts S)).dp, dS_shaped _, dS_shaped _, _, rfl, ?_⟩
            rw [dS_eqv, e0]
            by_cases e : s' = SL.gs ss 0
            · rw [decide_eq_true e, if_pos e, List.append_nil]
              exact iteF ⟨S, ac, hl, hacc⟩
            · rw [decide_eq_false e, if_neg e]
              refine iteT ?_
              exact ⟨_, rfl, ac, hl, small1000 al, same_mut S hD2, _, upd_same, Paired.snoc hacc hst⟩
          · rintro H17 ⟨S17, ac, hd17, hac17⟩
            rw [hpl, List.take_length] at hac17
            refine ⟨Nat.zero_le _, fun pn hpn => ?_⟩
            have S18 := same_upd (o := .lst []) hpn
            have SA := S17.trans S18
            refine ⟨.list ((unl ss).map dS), .list [], .lst (SqL.of (S18 _ _ hd17)) (dp_srvs (Paired.mapP hac17 fun _ _ z => z.keep (Same.ts SA))), .lst (SqL.of upd_same) .nil, dSs_shaped _, rfl, ?_⟩
            rw [eqv_nil, unl_empty]
            have SB := St.trans SA
            have ela : (ws1.length : Int) = (acc.length : Int) := by
              rw [plen hac, List.length_map, len12]
            refine ⟨_, rfl, _, _, _, _, rfl, rfl, SqT.of (SB _ _ hpa), rfl, qa, ws1, rfl, .inr (SqT.of (SB _ _ hqa)), _, rfl, t, acc, rfl, .inr (SqT.of (SA _ _ hta)), rfl, _, rfl, iteNS (congrArg V.int ela) ?_⟩
            refine ⟨_, rfl, _, rfl, ?_⟩
            cases ea : SL.alike ss with
            | true => exact iteF (iteF (kk _ _ _ SB))
            | false =>
              refine iteT ?_
              refine ⟨_, rfl, _, rfl, _, rfl, _, rfl, x6, x11, x12, .ref t, ss, r1, r2, run2.map (SL.called o), rfl, hh.keep (Same.ts SB), ru1.keep (Same.ts SB), ru2.keep (Same.ts SB), hrun.keep (Same.ts SA), hk, two_of n1 ea, fun mv hmv => ?_, fun H19 S19 => ?_⟩
              · obtain ⟨mv', hm', rfl⟩ := List.mem_map.mp hmv
                exact (SL.called_moves hk.n1 hk.n3 o ho).1 mv' (hmv2 mv' hm')
              · rw [bad2 ea]
                exact ⟨_, rfl, iteF (kk _ _ _ (SB.trans S19))⟩
    case main =>
      refine ⟨_, rfl, a, ns, rfl, hS, hlen, fun d sl H1 S1 nd T1 => ?_⟩
      refine ⟨3, rfl, by decide, by decide, ?_⟩
      refine for_range (lo := 0) (n := 3) (fun i σ H' => ∃ v2 v3 v4 v5 v6 v7 v8 v9 v10 v11 v12 v13 v14 v15 v16 : Option V, σ = [some (.ref a), some (.ref d), v2, v3, v4, v5, v6, v7, v8, v9, v10, v11, v12, v13, v14, v15, v16, none, none] ∧ TapeT H' d sl)
        ⟨none, none, none, none, none, none, none, none, none, none, none, none, none, none, none, rfl, T1⟩ ?_ ?_
      · rintro i σ H2 hi ⟨v2, v3, v4, v5, v6, v7, v8, v9, v10, v11, v12, v13, v14, v15, v16, rfl, T2⟩
        refine ⟨_, rfl, d, sl, rfl, T2, fun p c sv b ss H3 B3 T3 hp hsv hk => ?_⟩
        have n1 := hk.n1
        have n3 := hk.n3
        obtain ⟨sa, vs, rfl, hsa, hps⟩ := id hsv
        have hpl := plen hps
        refine ⟨p, _, rfl, SqT.of hp, rfl, _, _, rfl, _, _, rfl, _, _, rfl, rfl, ?_⟩
        refine ⟨_, rfl, _, rfl, (by show 3 ≤ sizeLine; decide), fun q hq => ?_⟩
        have S4 := same_upd (o := .tup [c, .ref sa, .bl false]) hq
        have T4 := T3.keep S4
        have hh : HallT (upd H3 q (.tup [c, .ref sa, .bl false])) (.ref q) ss := ⟨q, c, .ref sa, rfl, upd_same, hsv.keep (Same.ts S4)⟩
        refine ⟨_, rfl, _, rfl, sa, vs, rfl, .inr (SqT.of (S4 _ _ hsa)), d, sl, vs.length, rfl, T4, by omega, by omega, fun ov o H5 B5 T5 ho hov => ?_⟩
        rw [hpl] at ho
        have O := SL.ord_of hk.n1 hk.n3 o ho
        have ts45 := T4.ts B5
        have hh5 := hh.keep ts45
        refine ⟨_, rfl, _, rfl, .ref q, ov, ss, o, rfl, hh5, hov, O.lt, by rw [O.len]; omega, fun tv H6 S6 htv => ?_⟩
        refine ⟨(by show 4 ≤ sizeLine; decide), fun wl hwl => ?_⟩
        have S7 := same_upd (o := .lst [V.str "random", V.str "two", V.str "least", V.str "quick"]) hwl
        have T7 := (T5.keep S6).keep S7
        refine ⟨_, rfl, d, sl, 4, rfl, T7, by decide, by decide, fun x H8 B8 T8 hx0 hx4 => ?_⟩
        have hw8 := B8 _ _ (T7.ne upd_same) upd_same
        obtain ⟨r1, hat1⟩ := words4 hx0 hx4
        refine ⟨_, rfl, _, rfl, _, _, _, _, rfl, rfl, SqL.of hw8, hat1, (by show 1 ≤ sizeLine; decide), fun p1 hp1 => ?_⟩
        have S9 := same_upd (o := .tup [V.str (rw_ r1)]) hp1
        refine ⟨_, rfl, _, rfl, (by show 8 ≤ sizeLine; decide), fun l8 hl8 => ?_⟩
        have S10 := same_upd (o := .lst [V.int 0, V.int 1, V.int 2, V.int 3, V.int 1, V.int 2, V.int 3, V.int 1]) hl8
        have T10 := T8.keep (S9.trans S10)
        refine ⟨_, rfl, d, sl, 8, rfl, T10, by decide, by decide, fun y H11 B11 T11 hy0 hy8 => ?_⟩
        obtain ⟨z, hz⟩ := shift8 hy0 hy8
        obtain ⟨r2, hat2⟩ := words4 (i := (x + z) % 4) (Int.emod_nonneg _ (by decide)) (Int.emod_lt_of_pos _ (by decide))
        have hw10 := (S9.trans S10) _ _ hw8
        refine ⟨_, _, _, _, rfl, rfl, SqL.of (B11 _ _ (T10.ne upd_same) upd_same), hz, _, _, rfl, rfl, _, _, rfl, rfl, (by show (0 : Int) < 4; decide), _, _, _, _, rfl, rfl, SqL.of (B11 _ _ (T10.ne hw10) hw10), hat2, (by show 1 ≤ sizeLine; decide), fun p2 hp2 => ?_⟩
        have S12 := same_upd (o := .tup [V.str (rw_ r2)]) hp2
        have tsA := (Same.ts S10).trans ((T10.ts B11).trans (Same.ts S12))
        have ts6 := ((Same.ts S7).trans ((T7.ts B8).trans (Same.ts S9))).trans tsA
        have ts5 := (Same.ts S6).trans ts6
        have hh12 := hh5.keep ts5
        have ht12 := htv.keep ts6
        have ho12 := hov.keep ts5
        have hsa12 := ts5 _ _ (ts45 _ _ (S4 _ _ hsa))
        have hps12 := Paired.mapP hps fun _ _ z => SrvT.keep ((Same.ts S4).trans (ts45.trans ts5)) z
        have T12 := T11.keep S12
        have ru1 : RuleT (upd H11 p2 (.tup [V.str (rw_ r2)])) (.ref p1) r1 := ⟨p1, rfl, tsA _ _ upd_same⟩
        have ru2 : RuleT (upd H11 p2 (.tup [V.str (rw_ r2)])) (.ref p2) r2 := ⟨p2, rfl, upd_same⟩
        refine ⟨_, _, _, _, _, _, _, _, _, _, _, .ref sa, .ref q, ov, tv, .ref p1, .ref p2, ss, o, r1, r2, rfl, hh12, ht12, ru1, ru2, hk, ho, fun pa pb H14 S14 out => ?_⟩
        have sv14 : SrvsT H14 (.ref sa) ss := ⟨sa, vs, rfl, S14 _ _ hsa12, Paired.mapP hps12 fun _ _ z => z.keep (Same.ts S14)⟩
        have h14 := hh12.keep (Same.ts S14)
        have o14 := ho12.keep (Same.ts S14)
        have ru14 := ru1.keep (Same.ts S14)
        have ru24 := ru2.keep (Same.ts S14)
        have T14 := T12.keep S14
        rcases id out with ⟨ya, yb, hpa, hpb⟩ | ⟨qa, qb, ws1, ws2, run2, hpa, hqa, hpb, hqb, _⟩
        · refine ⟨_, rfl, _, _, _, _, rfl, rfl, SqT.of hpa, rfl, _, rfl, _, _, _, _, rfl, rfl, SqT.of hpb, rfl, rfl, _, rfl, iteNS rfl ?_⟩
          exact ⟨_, _, _, _, _, _, _, _, _, _, .ref sa, .ref q, ov, .ref p1, .ref p2, pa, pb, ss, o, r1, r2, rfl, sv14, h14, o14, ru14, ru24, hk, ho, out, fun _ _ H' S' => ⟨_, _, _, _, _, _, _, _, _, _, _, _, _, _, _, rfl, T14.keep S'⟩⟩
        · refine ⟨_, rfl, _, _, _, _, rfl, rfl, SqT.of hpa, rfl, _, rfl, _, _, _, _, rfl, rfl, SqT.of hpb, rfl, rfl, _, rfl, iteNS rfl ?_⟩
          exact ⟨_, _, _, _, _, _, _, _, _, _, .ref sa, .ref q, ov, .ref p1, .ref p2, pa, pb, ss, o, r1, r2, rfl, sv14, h14, o14, ru14, ru24, hk, ho, out, fun _ _ H' S' => ⟨_, _, _, _, _, _, _, _, _, _, _, _, _, _, _, rfl, T14.keep S'⟩⟩
      · rintro σ H2 ⟨v2, v3, v4, v5, v6, v7, v8, v9, v10, v11, v12, v13, v14, v15, v16, rfl, T2⟩
        exact k H2
end
end SLW
/-! Part SLEnd. -/
set_option Elab.async false
set_option linter.all false
set_option maxRecDepth 100000
set_option maxHeartbeats 4000000
/-! What the top has written, each a fact that the head's end finds; from them the law's promise. -/
namespace SLW
open PySem PySem.Spec PyProof.Rows L2 SLR
section
variable {K : PySem.W.Frag} {h : Heap} {mg : Str → Option Value} {f : Addr} {oc : Value} {od an : Option Addr} {osl : Array (Option Value)} {kV doc pm cdv ct : Value}
theorem fn_of {x : Str} {st : Stmt} {ps : List Str} (X : K.In h) (G : h.Ns mainGlobals mg) (a : PySem.W.nsIn K mainGlobals x = some (some (.ref f)))
    (l : K.lookup f = some ⟨oc, od, .func (PySem.W.fnOf x x (defArgs st) (defBody st) (defScope st) .none kV doc pm an cdv ct), osl⟩) (c : PySem.W.codeIn K cdv x = true) (k : PySem.W.keepIn K (.ref f) = true)
    (b : ∀ (kV doc pm : Value) (an : Option Addr) (cdv ct : Value) (us : List Value), us.length = ps.length → bindArgs (PySem.W.fnOf x x (defArgs st) (defBody st) (defScope st) .none kV doc pm an cdv ct) ⟨us, []⟩ = pure (ps.zip us)) : Fn K mg x st ps :=
  ⟨f, _, fun_mk l c k, PySem.W.mg_of X G a, (fun_mk l c k).binds b⟩
theorem fm_of {C : Addr} {x q : Str} {st : Stmt} {ps : List Str} (a : PySem.W.findIn K (.ref C) x = some (some (.ref f))) (i : PySem.W.isFn K (.ref f) = true)
    (l : K.lookup f = some ⟨oc, od, .func (PySem.W.fnOf x q (defArgs st) (defBody st) (defScope st) .none kV doc pm an cdv ct), osl⟩) (c : PySem.W.codeIn K cdv q = true) (k : PySem.W.keepIn K (.ref f) = true)
    (b : ∀ (kV doc pm : Value) (an : Option Addr) (cdv ct : Value) (us : List Value), us.length = ps.length → bindArgs (PySem.W.fnOf x q (defArgs st) (defBody st) (defScope st) .none kV doc pm an cdv ct) ⟨us, []⟩ = pure (ps.zip us)) : Fm K C x q st ps :=
  ⟨f, _, fun_mk l c k, ⟨a, i, k⟩, (fun_mk l c k).binds b⟩
end
theorem all_mk {l : PySem.W.OpenLaw} {w : World} {K : PySem.W.Frag} {h : Heap} {mg : Str → Option Value} {fa C : Addr} (X : K.In h) (G : h.Ns mainGlobals mg) (hfa : mg "law" = some (.ref fa))
    {f5 : Addr} {od5 an5 : Option Addr} {sl5 : Array (Option Value)} {oc5 kV5 dc5 pm5 cd5 ct5 : Value}
    (a5 : PySem.W.nsIn K mainGlobals "common" = some (some (.ref f5)))
    (l5 : K.lookup f5 = some ⟨oc5, od5, .func (PySem.W.fnOf "common" "common" (defArgs (topS 5)) (defBody (topS 5)) (defScope (topS 5)) .none kV5 dc5 pm5 an5 cd5 ct5), sl5⟩)
    (c5 : PySem.W.codeIn K cd5 "common" = true)
    (k5 : PySem.W.keepIn K (.ref f5) = true)
    {f6 : Addr} {od6 an6 : Option Addr} {sl6 : Array (Option Value)} {oc6 kV6 dc6 pm6 cd6 ct6 : Value}
    (a6 : PySem.W.nsIn K mainGlobals "fraction_of" = some (some (.ref f6)))
    (l6 : K.lookup f6 = some ⟨oc6, od6, .func (PySem.W.fnOf "fraction_of" "fraction_of" (defArgs (topS 6)) (defBody (topS 6)) (defScope (topS 6)) .none kV6 dc6 pm6 an6 cd6 ct6), sl6⟩)
    (c6 : PySem.W.codeIn K cd6 "fraction_of" = true)
    (k6 : PySem.W.keepIn K (.ref f6) = true)
    {f7 : Addr} {od7 an7 : Option Addr} {sl7 : Array (Option Value)} {oc7 kV7 dc7 pm7 cd7 ct7 : Value}
    (a7 : PySem.W.nsIn K mainGlobals "divided" = some (some (.ref f7)))
    (l7 : K.lookup f7 = some ⟨oc7, od7, .func (PySem.W.fnOf "divided" "divided" (defArgs (topS 7)) (defBody (topS 7)) (defScope (topS 7)) .none kV7 dc7 pm7 an7 cd7 ct7), sl7⟩)
    (c7 : PySem.W.codeIn K cd7 "divided" = true)
    (k7 : PySem.W.keepIn K (.ref f7) = true)
    {f8 : Addr} {od8 an8 : Option Addr} {sl8 : Array (Option Value)} {oc8 kV8 dc8 pm8 cd8 ct8 : Value}
    (a8 : PySem.W.nsIn K mainGlobals "is_less" = some (some (.ref f8)))
    (l8 : K.lookup f8 = some ⟨oc8, od8, .func (PySem.W.fnOf "is_less" "is_less" (defArgs (topS 8)) (defBody (topS 8)) (defScope (topS 8)) .none kV8 dc8 pm8 an8 cd8 ct8), sl8⟩)
    (c8 : PySem.W.codeIn K cd8 "is_less" = true)
    (k8 : PySem.W.keepIn K (.ref f8) = true)
    {f10 : Addr} {od10 an10 : Option Addr} {sl10 : Array (Option Value)} {oc10 kV10 dc10 pm10 cd10 ct10 : Value}
    (a10 : PySem.W.nsIn K mainGlobals "is_alike" = some (some (.ref f10)))
    (l10 : K.lookup f10 = some ⟨oc10, od10, .func (PySem.W.fnOf "is_alike" "is_alike" (defArgs (topS 10)) (defBody (topS 10)) (defScope (topS 10)) .none kV10 dc10 pm10 an10 cd10 ct10), sl10⟩)
    (c10 : PySem.W.codeIn K cd10 "is_alike" = true)
    (k10 : PySem.W.keepIn K (.ref f10) = true)
    {f11 : Addr} {od11 an11 : Option Addr} {sl11 : Array (Option Value)} {oc11 kV11 dc11 pm11 cd11 ct11 : Value}
    (a11 : PySem.W.nsIn K mainGlobals "hall_turned" = some (some (.ref f11)))
    (l11 : K.lookup f11 = some ⟨oc11, od11, .func (PySem.W.fnOf "hall_turned" "hall_turned" (defArgs (topS 11)) (defBody (topS 11)) (defScope (topS 11)) .none kV11 dc11 pm11 an11 cd11 ct11), sl11⟩)
    (c11 : PySem.W.codeIn K cd11 "hall_turned" = true)
    (k11 : PySem.W.keepIn K (.ref f11) = true)
    {f14 : Addr} {od14 an14 : Option Addr} {sl14 : Array (Option Value)} {oc14 kV14 dc14 pm14 cd14 ct14 : Value}
    (a14 : PySem.W.nsIn K mainGlobals "shorter" = some (some (.ref f14)))
    (l14 : K.lookup f14 = some ⟨oc14, od14, .func (PySem.W.fnOf "shorter" "shorter" (defArgs (topS 14)) (defBody (topS 14)) (defScope (topS 14)) .none kV14 dc14 pm14 an14 cd14 ct14), sl14⟩)
    (c14 : PySem.W.codeIn K cd14 "shorter" = true)
    (k14 : PySem.W.keepIn K (.ref f14) = true)
    {f15 : Addr} {od15 an15 : Option Addr} {sl15 : Array (Option Value)} {oc15 kV15 dc15 pm15 cd15 ct15 : Value}
    (a15 : PySem.W.nsIn K mainGlobals "shortest" = some (some (.ref f15)))
    (l15 : K.lookup f15 = some ⟨oc15, od15, .func (PySem.W.fnOf "shortest" "shortest" (defArgs (topS 15)) (defBody (topS 15)) (defScope (topS 15)) .none kV15 dc15 pm15 an15 cd15 ct15), sl15⟩)
    (c15 : PySem.W.codeIn K cd15 "shortest" = true)
    (k15 : PySem.W.keepIn K (.ref f15) = true)
    {f16 : Addr} {od16 an16 : Option Addr} {sl16 : Array (Option Value)} {oc16 kV16 dc16 pm16 cd16 ct16 : Value}
    (a16 : PySem.W.nsIn K mainGlobals "quickest" = some (some (.ref f16)))
    (l16 : K.lookup f16 = some ⟨oc16, od16, .func (PySem.W.fnOf "quickest" "quickest" (defArgs (topS 16)) (defBody (topS 16)) (defScope (topS 16)) .none kV16 dc16 pm16 an16 cd16 ct16), sl16⟩)
    (c16 : PySem.W.codeIn K cd16 "quickest" = true)
    (k16 : PySem.W.keepIn K (.ref f16) = true)
    {f17 : Addr} {od17 an17 : Option Addr} {sl17 : Array (Option Value)} {oc17 kV17 dc17 pm17 cd17 ct17 : Value}
    (a17 : PySem.W.nsIn K mainGlobals "sent_to" = some (some (.ref f17)))
    (l17 : K.lookup f17 = some ⟨oc17, od17, .func (PySem.W.fnOf "sent_to" "sent_to" (defArgs (topS 17)) (defBody (topS 17)) (defScope (topS 17)) .none kV17 dc17 pm17 an17 cd17 ct17), sl17⟩)
    (c17 : PySem.W.codeIn K cd17 "sent_to" = true)
    (k17 : PySem.W.keepIn K (.ref f17) = true)
    {f23 : Addr} {od23 an23 : Option Addr} {sl23 : Array (Option Value)} {oc23 kV23 dc23 pm23 cd23 ct23 : Value}
    (a23 : PySem.W.nsIn K mainGlobals "first_stand" = some (some (.ref f23)))
    (l23 : K.lookup f23 = some ⟨oc23, od23, .func (PySem.W.fnOf "first_stand" "first_stand" (defArgs (topS 23)) (defBody (topS 23)) (defScope (topS 23)) .none kV23 dc23 pm23 an23 cd23 ct23), sl23⟩)
    (c23 : PySem.W.codeIn K cd23 "first_stand" = true)
    (k23 : PySem.W.keepIn K (.ref f23) = true)
    {f24 : Addr} {od24 an24 : Option Addr} {sl24 : Array (Option Value)} {oc24 kV24 dc24 pm24 cd24 ct24 : Value}
    (a24 : PySem.W.nsIn K mainGlobals "all_orders" = some (some (.ref f24)))
    (l24 : K.lookup f24 = some ⟨oc24, od24, .func (PySem.W.fnOf "all_orders" "all_orders" (defArgs (topS 24)) (defBody (topS 24)) (defScope (topS 24)) .none kV24 dc24 pm24 an24 cd24 ct24), sl24⟩)
    (c24 : PySem.W.codeIn K cd24 "all_orders" = true)
    (k24 : PySem.W.keepIn K (.ref f24) = true)
    {f25 : Addr} {od25 an25 : Option Addr} {sl25 : Array (Option Value)} {oc25 kV25 dc25 pm25 cd25 ct25 : Value}
    (a25 : PySem.W.nsIn K mainGlobals "lines_with" = some (some (.ref f25)))
    (l25 : K.lookup f25 = some ⟨oc25, od25, .func (PySem.W.fnOf "lines_with" "lines_with" (defArgs (topS 25)) (defBody (topS 25)) (defScope (topS 25)) .none kV25 dc25 pm25 an25 cd25 ct25), sl25⟩)
    (c25 : PySem.W.codeIn K cd25 "lines_with" = true)
    (k25 : PySem.W.keepIn K (.ref f25) = true)
    {f26 : Addr} {od26 an26 : Option Addr} {sl26 : Array (Option Value)} {oc26 kV26 dc26 pm26 cd26 ct26 : Value}
    (a26 : PySem.W.nsIn K mainGlobals "shifts_of" = some (some (.ref f26)))
    (l26 : K.lookup f26 = some ⟨oc26, od26, .func (PySem.W.fnOf "shifts_of" "shifts_of" (defArgs (topS 26)) (defBody (topS 26)) (defScope (topS 26)) .none kV26 dc26 pm26 an26 cd26 ct26), sl26⟩)
    (c26 : PySem.W.codeIn K cd26 "shifts_of" = true)
    (k26 : PySem.W.keepIn K (.ref f26) = true)
    {f27 : Addr} {od27 an27 : Option Addr} {sl27 : Array (Option Value)} {oc27 kV27 dc27 pm27 cd27 ct27 : Value}
    (a27 : PySem.W.nsIn K mainGlobals "asked" = some (some (.ref f27)))
    (l27 : K.lookup f27 = some ⟨oc27, od27, .func (PySem.W.fnOf "asked" "asked" (defArgs (topS 27)) (defBody (topS 27)) (defScope (topS 27)) .none kV27 dc27 pm27 an27 cd27 ct27), sl27⟩)
    (c27 : PySem.W.codeIn K cd27 "asked" = true)
    (k27 : PySem.W.keepIn K (.ref f27) = true)
    {f28 : Addr} {od28 an28 : Option Addr} {sl28 : Array (Option Value)} {oc28 kV28 dc28 pm28 cd28 ct28 : Value}
    (a28 : PySem.W.nsIn K mainGlobals "changed" = some (some (.ref f28)))
    (l28 : K.lookup f28 = some ⟨oc28, od28, .func (PySem.W.fnOf "changed" "changed" (defArgs (topS 28)) (defBody (topS 28)) (defScope (topS 28)) .none kV28 dc28 pm28 an28 cd28 ct28), sl28⟩)
    (c28 : PySem.W.codeIn K cd28 "changed" = true)
    (k28 : PySem.W.keepIn K (.ref f28) = true)
    {f29 : Addr} {od29 an29 : Option Addr} {sl29 : Array (Option Value)} {oc29 kV29 dc29 pm29 cd29 ct29 : Value}
    (a29 : PySem.W.nsIn K mainGlobals "moved_on" = some (some (.ref f29)))
    (l29 : K.lookup f29 = some ⟨oc29, od29, .func (PySem.W.fnOf "moved_on" "moved_on" (defArgs (topS 29)) (defBody (topS 29)) (defScope (topS 29)) .none kV29 dc29 pm29 an29 cd29 ct29), sl29⟩)
    (c29 : PySem.W.codeIn K cd29 "moved_on" = true)
    (k29 : PySem.W.keepIn K (.ref f29) = true)
    {f32 : Addr} {od32 an32 : Option Addr} {sl32 : Array (Option Value)} {oc32 kV32 dc32 pm32 cd32 ct32 : Value}
    (a32 : PySem.W.nsIn K mainGlobals "kept_lines" = some (some (.ref f32)))
    (l32 : K.lookup f32 = some ⟨oc32, od32, .func (PySem.W.fnOf "kept_lines" "kept_lines" (defArgs (topS 32)) (defBody (topS 32)) (defScope (topS 32)) .none kV32 dc32 pm32 an32 cd32 ct32), sl32⟩)
    (c32 : PySem.W.codeIn K cd32 "kept_lines" = true)
    (k32 : PySem.W.keepIn K (.ref f32) = true)
    {f33 : Addr} {od33 an33 : Option Addr} {sl33 : Array (Option Value)} {oc33 kV33 dc33 pm33 cd33 ct33 : Value}
    (a33 : PySem.W.nsIn K mainGlobals "all_moves" = some (some (.ref f33)))
    (l33 : K.lookup f33 = some ⟨oc33, od33, .func (PySem.W.fnOf "all_moves" "all_moves" (defArgs (topS 33)) (defBody (topS 33)) (defScope (topS 33)) .none kV33 dc33 pm33 an33 cd33 ct33), sl33⟩)
    (c33 : PySem.W.codeIn K cd33 "all_moves" = true)
    (k33 : PySem.W.keepIn K (.ref f33) = true)
    {f34 : Addr} {od34 an34 : Option Addr} {sl34 : Array (Option Value)} {oc34 kV34 dc34 pm34 cd34 ct34 : Value}
    (a34 : PySem.W.nsIn K mainGlobals "ask_rules" = some (some (.ref f34)))
    (l34 : K.lookup f34 = some ⟨oc34, od34, .func (PySem.W.fnOf "ask_rules" "ask_rules" (defArgs (topS 34)) (defBody (topS 34)) (defScope (topS 34)) .none kV34 dc34 pm34 an34 cd34 ct34), sl34⟩)
    (c34 : PySem.W.codeIn K cd34 "ask_rules" = true)
    (k34 : PySem.W.keepIn K (.ref f34) = true)
    {f35 : Addr} {od35 an35 : Option Addr} {sl35 : Array (Option Value)} {oc35 kV35 dc35 pm35 cd35 ct35 : Value}
    (a35 : PySem.W.nsIn K mainGlobals "both_moved" = some (some (.ref f35)))
    (l35 : K.lookup f35 = some ⟨oc35, od35, .func (PySem.W.fnOf "both_moved" "both_moved" (defArgs (topS 35)) (defBody (topS 35)) (defScope (topS 35)) .none kV35 dc35 pm35 an35 cd35 ct35), sl35⟩)
    (c35 : PySem.W.codeIn K cd35 "both_moved" = true)
    (k35 : PySem.W.keepIn K (.ref f35) = true)
    {f36 : Addr} {od36 an36 : Option Addr} {sl36 : Array (Option Value)} {oc36 kV36 dc36 pm36 cd36 ct36 : Value}
    (a36 : PySem.W.nsIn K mainGlobals "is_worse" = some (some (.ref f36)))
    (l36 : K.lookup f36 = some ⟨oc36, od36, .func (PySem.W.fnOf "is_worse" "is_worse" (defArgs (topS 36)) (defBody (topS 36)) (defScope (topS 36)) .none kV36 dc36 pm36 an36 cd36 ct36), sl36⟩)
    (c36 : PySem.W.codeIn K cd36 "is_worse" = true)
    (k36 : PySem.W.keepIn K (.ref f36) = true)
    {f39 : Addr} {od39 an39 : Option Addr} {sl39 : Array (Option Value)} {oc39 kV39 dc39 pm39 cd39 ct39 : Value}
    (a39 : PySem.W.nsIn K mainGlobals "never_worse" = some (some (.ref f39)))
    (l39 : K.lookup f39 = some ⟨oc39, od39, .func (PySem.W.fnOf "never_worse" "never_worse" (defArgs (topS 39)) (defBody (topS 39)) (defScope (topS 39)) .none kV39 dc39 pm39 an39 cd39 ct39), sl39⟩)
    (c39 : PySem.W.codeIn K cd39 "never_worse" = true)
    (k39 : PySem.W.keepIn K (.ref f39) = true)
    {f41 : Addr} {od41 an41 : Option Addr} {sl41 : Array (Option Value)} {oc41 kV41 dc41 pm41 cd41 ct41 : Value}
    (a41 : PySem.W.nsIn K mainGlobals "_law_tape" = some (some (.ref f41)))
    (l41 : K.lookup f41 = some ⟨oc41, od41, .func (PySem.W.fnOf "_law_tape" "_law_tape" (defArgs (topS 41)) (defBody (topS 41)) (defScope (topS 41)) .none kV41 dc41 pm41 an41 cd41 ct41), sl41⟩)
    (c41 : PySem.W.codeIn K cd41 "_law_tape" = true)
    (k41 : PySem.W.keepIn K (.ref f41) = true)
    {f42 : Addr} {od42 an42 : Option Addr} {sl42 : Array (Option Value)} {oc42 kV42 dc42 pm42 cd42 ct42 : Value}
    (a42 : PySem.W.nsIn K mainGlobals "_law_draw" = some (some (.ref f42)))
    (l42 : K.lookup f42 = some ⟨oc42, od42, .func (PySem.W.fnOf "_law_draw" "_law_draw" (defArgs (topS 42)) (defBody (topS 42)) (defScope (topS 42)) .none kV42 dc42 pm42 an42 cd42 ct42), sl42⟩)
    (c42 : PySem.W.codeIn K cd42 "_law_draw" = true)
    (k42 : PySem.W.keepIn K (.ref f42) = true)
    {f43 : Addr} {od43 an43 : Option Addr} {sl43 : Array (Option Value)} {oc43 kV43 dc43 pm43 cd43 ct43 : Value}
    (a43 : PySem.W.nsIn K mainGlobals "_law_frac" = some (some (.ref f43)))
    (l43 : K.lookup f43 = some ⟨oc43, od43, .func (PySem.W.fnOf "_law_frac" "_law_frac" (defArgs (topS 43)) (defBody (topS 43)) (defScope (topS 43)) .none kV43 dc43 pm43 an43 cd43 ct43), sl43⟩)
    (c43 : PySem.W.codeIn K cd43 "_law_frac" = true)
    (k43 : PySem.W.keepIn K (.ref f43) = true)
    {f44 : Addr} {od44 an44 : Option Addr} {sl44 : Array (Option Value)} {oc44 kV44 dc44 pm44 cd44 ct44 : Value}
    (a44 : PySem.W.nsIn K mainGlobals "_law_hall" = some (some (.ref f44)))
    (l44 : K.lookup f44 = some ⟨oc44, od44, .func (PySem.W.fnOf "_law_hall" "_law_hall" (defArgs (topS 44)) (defBody (topS 44)) (defScope (topS 44)) .none kV44 dc44 pm44 an44 cd44 ct44), sl44⟩)
    (c44 : PySem.W.codeIn K cd44 "_law_hall" = true)
    (k44 : PySem.W.keepIn K (.ref f44) = true)
    {f45 : Addr} {od45 an45 : Option Addr} {sl45 : Array (Option Value)} {oc45 kV45 dc45 pm45 cd45 ct45 : Value}
    (a45 : PySem.W.nsIn K mainGlobals "_law_all_lines" = some (some (.ref f45)))
    (l45 : K.lookup f45 = some ⟨oc45, od45, .func (PySem.W.fnOf "_law_all_lines" "_law_all_lines" (defArgs (topS 45)) (defBody (topS 45)) (defScope (topS 45)) .none kV45 dc45 pm45 an45 cd45 ct45), sl45⟩)
    (c45 : PySem.W.codeIn K cd45 "_law_all_lines" = true)
    (k45 : PySem.W.keepIn K (.ref f45) = true)
    {f46 : Addr} {od46 an46 : Option Addr} {sl46 : Array (Option Value)} {oc46 kV46 dc46 pm46 cd46 ct46 : Value}
    (a46 : PySem.W.nsIn K mainGlobals "_law_sent" = some (some (.ref f46)))
    (l46 : K.lookup f46 = some ⟨oc46, od46, .func (PySem.W.fnOf "_law_sent" "_law_sent" (defArgs (topS 46)) (defBody (topS 46)) (defScope (topS 46)) .none kV46 dc46 pm46 an46 cd46 ct46), sl46⟩)
    (c46 : PySem.W.codeIn K cd46 "_law_sent" = true)
    (k46 : PySem.W.keepIn K (.ref f46) = true)
    {f47 : Addr} {od47 an47 : Option Addr} {sl47 : Array (Option Value)} {oc47 kV47 dc47 pm47 cd47 ct47 : Value}
    (a47 : PySem.W.nsIn K mainGlobals "_law_put" = some (some (.ref f47)))
    (l47 : K.lookup f47 = some ⟨oc47, od47, .func (PySem.W.fnOf "_law_put" "_law_put" (defArgs (topS 47)) (defBody (topS 47)) (defScope (topS 47)) .none kV47 dc47 pm47 an47 cd47 ct47), sl47⟩)
    (c47 : PySem.W.codeIn K cd47 "_law_put" = true)
    (k47 : PySem.W.keepIn K (.ref f47) = true)
    {f48 : Addr} {od48 an48 : Option Addr} {sl48 : Array (Option Value)} {oc48 kV48 dc48 pm48 cd48 ct48 : Value}
    (a48 : PySem.W.nsIn K mainGlobals "_law_step" = some (some (.ref f48)))
    (l48 : K.lookup f48 = some ⟨oc48, od48, .func (PySem.W.fnOf "_law_step" "_law_step" (defArgs (topS 48)) (defBody (topS 48)) (defScope (topS 48)) .none kV48 dc48 pm48 an48 cd48 ct48), sl48⟩)
    (c48 : PySem.W.codeIn K cd48 "_law_step" = true)
    (k48 : PySem.W.keepIn K (.ref f48) = true)
    {f49 : Addr} {od49 an49 : Option Addr} {sl49 : Array (Option Value)} {oc49 kV49 dc49 pm49 cd49 ct49 : Value}
    (a49 : PySem.W.nsIn K mainGlobals "_law_kept" = some (some (.ref f49)))
    (l49 : K.lookup f49 = some ⟨oc49, od49, .func (PySem.W.fnOf "_law_kept" "_law_kept" (defArgs (topS 49)) (defBody (topS 49)) (defScope (topS 49)) .none kV49 dc49 pm49 an49 cd49 ct49), sl49⟩)
    (c49 : PySem.W.codeIn K cd49 "_law_kept" = true)
    (k49 : PySem.W.keepIn K (.ref f49) = true)
    {f51 : Addr} {od51 an51 : Option Addr} {sl51 : Array (Option Value)} {oc51 kV51 dc51 pm51 cd51 ct51 : Value}
    (a51 : PySem.W.nsIn K mainGlobals "_law_both" = some (some (.ref f51)))
    (l51 : K.lookup f51 = some ⟨oc51, od51, .func (PySem.W.fnOf "_law_both" "_law_both" (defArgs (topS 51)) (defBody (topS 51)) (defScope (topS 51)) .none kV51 dc51 pm51 an51 cd51 ct51), sl51⟩)
    (c51 : PySem.W.codeIn K cd51 "_law_both" = true)
    (k51 : PySem.W.keepIn K (.ref f51) = true)
    {f52 : Addr} {od52 an52 : Option Addr} {sl52 : Array (Option Value)} {oc52 kV52 dc52 pm52 cd52 ct52 : Value}
    (a52 : PySem.W.nsIn K mainGlobals "_law_is_bad" = some (some (.ref f52)))
    (l52 : K.lookup f52 = some ⟨oc52, od52, .func (PySem.W.fnOf "_law_is_bad" "_law_is_bad" (defArgs (topS 52)) (defBody (topS 52)) (defScope (topS 52)) .none kV52 dc52 pm52 an52 cd52 ct52), sl52⟩)
    (c52 : PySem.W.codeIn K cd52 "_law_is_bad" = true)
    (k52 : PySem.W.keepIn K (.ref f52) = true)
    {f53 : Addr} {od53 an53 : Option Addr} {sl53 : Array (Option Value)} {oc53 kV53 dc53 pm53 cd53 ct53 : Value}
    (a53 : PySem.W.nsIn K mainGlobals "_law_order" = some (some (.ref f53)))
    (l53 : K.lookup f53 = some ⟨oc53, od53, .func (PySem.W.fnOf "_law_order" "_law_order" (defArgs (topS 53)) (defBody (topS 53)) (defScope (topS 53)) .none kV53 dc53 pm53 an53 cd53 ct53), sl53⟩)
    (c53 : PySem.W.codeIn K cd53 "_law_order" = true)
    (k53 : PySem.W.keepIn K (.ref f53) = true)
    {f54 : Addr} {od54 an54 : Option Addr} {sl54 : Array (Option Value)} {oc54 kV54 dc54 pm54 cd54 ct54 : Value}
    (a54 : PySem.W.nsIn K mainGlobals "_law_called" = some (some (.ref f54)))
    (l54 : K.lookup f54 = some ⟨oc54, od54, .func (PySem.W.fnOf "_law_called" "_law_called" (defArgs (topS 54)) (defBody (topS 54)) (defScope (topS 54)) .none kV54 dc54 pm54 an54 cd54 ct54), sl54⟩)
    (c54 : PySem.W.codeIn K cd54 "_law_called" = true)
    (k54 : PySem.W.keepIn K (.ref f54) = true)
    {f55 : Addr} {od55 an55 : Option Addr} {sl55 : Array (Option Value)} {oc55 kV55 dc55 pm55 cd55 ct55 : Value}
    (a55 : PySem.W.nsIn K mainGlobals "_law_shows" = some (some (.ref f55)))
    (l55 : K.lookup f55 = some ⟨oc55, od55, .func (PySem.W.fnOf "_law_shows" "_law_shows" (defArgs (topS 55)) (defBody (topS 55)) (defScope (topS 55)) .none kV55 dc55 pm55 an55 cd55 ct55), sl55⟩)
    (c55 : PySem.W.codeIn K cd55 "_law_shows" = true)
    (k55 : PySem.W.keepIn K (.ref f55) = true)
    (aC : PySem.W.nsIn K mainGlobals "Pairs" = some (some (.ref C)))
    {fm0 : Addr} {odm0 anm0 : Option Addr} {slm0 : Array (Option Value)} {ocm0 kVm0 dcm0 pmm0 cdm0 ctm0 : Value}
    (am0 : PySem.W.findIn K (.ref C) "__init__" = some (some (.ref fm0)))
    (im0 : PySem.W.isFn K (.ref fm0) = true)
    (lm0 : K.lookup fm0 = some ⟨ocm0, odm0, .func (PySem.W.fnOf "__init__" "Pairs.__init__" (defArgs (inClass (topS 38) 0)) (defBody (inClass (topS 38) 0)) (defScope (inClass (topS 38) 0)) .none kVm0 dcm0 pmm0 anm0 cdm0 ctm0), slm0⟩)
    (cm0 : PySem.W.codeIn K cdm0 "Pairs.__init__" = true)
    (km0 : PySem.W.keepIn K (.ref fm0) = true)
    {fm1 : Addr} {odm1 anm1 : Option Addr} {slm1 : Array (Option Value)} {ocm1 kVm1 dcm1 pmm1 cdm1 ctm1 : Value}
    (am1 : PySem.W.findIn K (.ref C) "run_to" = some (some (.ref fm1)))
    (im1 : PySem.W.isFn K (.ref fm1) = true)
    (lm1 : K.lookup fm1 = some ⟨ocm1, odm1, .func (PySem.W.fnOf "run_to" "Pairs.run_to" (defArgs (inClass (topS 38) 1)) (defBody (inClass (topS 38) 1)) (defScope (inClass (topS 38) 1)) .none kVm1 dcm1 pmm1 anm1 cdm1 ctm1), slm1⟩)
    (cm1 : PySem.W.codeIn K cdm1 "Pairs.run_to" = true)
    (km1 : PySem.W.keepIn K (.ref fm1) = true)
    {fm2 : Addr} {odm2 anm2 : Option Addr} {slm2 : Array (Option Value)} {ocm2 kVm2 dcm2 pmm2 cdm2 ctm2 : Value}
    (am2 : PySem.W.findIn K (.ref C) "met" = some (some (.ref fm2)))
    (im2 : PySem.W.isFn K (.ref fm2) = true)
    (lm2 : K.lookup fm2 = some ⟨ocm2, odm2, .func (PySem.W.fnOf "met" "Pairs.met" (defArgs (inClass (topS 38) 2)) (defBody (inClass (topS 38) 2)) (defScope (inClass (topS 38) 2)) .none kVm2 dcm2 pmm2 anm2 cdm2 ctm2), slm2⟩)
    (cm2 : PySem.W.codeIn K cdm2 "Pairs.met" = true)
    (km2 : PySem.W.keepIn K (.ref fm2) = true)
    {fm3 : Addr} {odm3 anm3 : Option Addr} {slm3 : Array (Option Value)} {ocm3 kVm3 dcm3 pmm3 cdm3 ctm3 : Value}
    (am3 : PySem.W.findIn K (.ref C) "worse_run" = some (some (.ref fm3)))
    (im3 : PySem.W.isFn K (.ref fm3) = true)
    (lm3 : K.lookup fm3 = some ⟨ocm3, odm3, .func (PySem.W.fnOf "worse_run" "Pairs.worse_run" (defArgs (inClass (topS 38) 3)) (defBody (inClass (topS 38) 3)) (defScope (inClass (topS 38) 3)) .none kVm3 dcm3 pmm3 anm3 cdm3 ctm3), slm3⟩)
    (cm3 : PySem.W.codeIn K cdm3 "Pairs.worse_run" = true)
    (km3 : PySem.W.keepIn K (.ref fm3) = true)
    {fL : Addr} {odL anL : Option Addr} {slL : Array (Option Value)} {ocL kVL dcL pmL cdL ctL : Value}
    (aL : PySem.W.nsIn K mainGlobals "law" = some (some (.ref fL)))
    (lL : K.lookup fL = some ⟨ocL, odL, .func (PySem.W.fnOf "law" "law" (defArgs (topS 56)) (defBody (topS 56)) (defScope (topS 56)) .none kVL dcL pmL anL cdL ctL), slL⟩)
    (cL : PySem.W.codeIn K cdL "law" = true)
    (kL : PySem.W.keepIn K (.ref fL) = true)
    (pg : PySem.W.plainGet K C Str.empty = true)
    (hd : PySem.W.hasDictIn K C = true)
    (po : PySem.W.plainOver K C = true)
    (sa : PySem.W.findIn K (.ref C) "__setattr__" = some (some (.builtin "object.__setattr__")))
    (mk : PySem.W.makesIn K C = true)
    (kc : PySem.W.keepIn K (.ref C) = true)
    (n0_ : PySem.W.findIn K (.ref C) "hall" = some none)
    (n1_ : PySem.W.findIn K (.ref C) "one" = some none)
    (n2_ : PySem.W.findIn K (.ref C) "other" = some none)
    (n3_ : PySem.W.findIn K (.ref C) "line" = some none)
    (n4_ : PySem.W.findIn K (.ref C) "ahead_of" = some none)
    (n5_ : PySem.W.findIn K (.ref C) "least_of" = some none)
    (z0_ : PySem.W.nsIn K mainGlobals "abs" = some none)
    (z1_ : PySem.W.nsIn K mainGlobals "len" = some none)
    (z2_ : PySem.W.nsIn K mainGlobals "sum" = some none)
    (z3_ : PySem.W.nsIn K mainGlobals "min" = some none)
    (z4_ : PySem.W.nsIn K mainGlobals "max" = some none)
    (z5_ : PySem.W.nsIn K mainGlobals "all" = some none)
    (z6_ : PySem.W.nsIn K mainGlobals "int" = some none)
    (z7_ : PySem.W.nsIn K mainGlobals "list" = some none)
    (z8_ : PySem.W.nsIn K mainGlobals "tuple" = some none)
    (z9_ : PySem.W.nsIn K mainGlobals "range" = some none)
    (z10_ : PySem.W.nsIn K mainGlobals "sorted" = some none)
    (z11_ : PySem.W.nsIn K mainGlobals "reversed" = some none)
    {tk0 : Nat}
    (s0_ : PySem.W.nsIn K mainGlobals "AWAY" = some (some (.str "away" tk0)))
    {tk1 : Nat}
    (s1_ : PySem.W.nsIn K mainGlobals "TAKEN" = some (some (.str "taken" tk1)))
    {tk2 : Nat}
    (s2_ : PySem.W.nsIn K mainGlobals "SERVED" = some (some (.str "served" tk2)))
    {tk3 : Nat}
    (s3_ : PySem.W.nsIn K mainGlobals "NONE" = some (some (.str "none" tk3)))
    {tk4 : Nat}
    (s4_ : PySem.W.nsIn K mainGlobals "TURNS" = some (some (.str "turns" tk4)))
    : ∃ fd : FuncData, (∀ (s : Shared) (v : Value), BindsTo s fd ⟨[v], []⟩ [("_law_script", v)]) ∧ ∀ base : Heap, K.In base → base.Ns mainGlobals mg → FnOk l.prog w K mg base CX0 12 fa fd ["_law_script"] (spLaw K) := by
  have e := hfa.symm.trans (PySem.W.mg_of X G aL)
  cases e
  have T : Txt mg := ⟨PySem.W.mg_none_of X G z0_, PySem.W.mg_none_of X G z1_, PySem.W.mg_none_of X G z2_, PySem.W.mg_none_of X G z3_, PySem.W.mg_none_of X G z4_, PySem.W.mg_none_of X G z5_, PySem.W.mg_none_of X G z6_, PySem.W.mg_none_of X G z7_, PySem.W.mg_none_of X G z8_, PySem.W.mg_none_of X G z9_, PySem.W.mg_none_of X G z10_, PySem.W.mg_none_of X G z11_, ⟨_, PySem.W.mg_of X G s0_⟩, ⟨_, PySem.W.mg_of X G s1_⟩, ⟨_, PySem.W.mg_of X G s2_⟩, ⟨_, PySem.W.mg_of X G s3_⟩, ⟨_, PySem.W.mg_of X G s4_⟩⟩
  have PC : PCls K C := ⟨⟨pg, hd, po, sa⟩, n0_, n1_, n2_, n3_, n4_, n5_⟩
  have hC := PySem.W.mg_of X G aC
  have F5 : Fn K mg "common" (topS 5) ["one", "other"] := fn_of X G a5 l5 c5 k5 fun _ _ _ _ _ _ us hl => match us, hl with | [_, _], _ => rfl
  have F6 : Fn K mg "fraction_of" (topS 6) ["top", "bottom"] := fn_of X G a6 l6 c6 k6 fun _ _ _ _ _ _ us hl => match us, hl with | [_, _], _ => rfl
  have F7 : Fn K mg "divided" (topS 7) ["one", "other"] := fn_of X G a7 l7 c7 k7 fun _ _ _ _ _ _ us hl => match us, hl with | [_, _], _ => rfl
  have F8 : Fn K mg "is_less" (topS 8) ["one", "other"] := fn_of X G a8 l8 c8 k8 fun _ _ _ _ _ _ us hl => match us, hl with | [_, _], _ => rfl
  have F10 : Fn K mg "is_alike" (topS 10) ["hall"] := fn_of X G a10 l10 c10 k10 fun _ _ _ _ _ _ us hl => match us, hl with | [_], _ => rfl
  have F11 : Fn K mg "hall_turned" (topS 11) ["hall", "order"] := fn_of X G a11 l11 c11 k11 fun _ _ _ _ _ _ us hl => match us, hl with | [_, _], _ => rfl
  have F14 : Fn K mg "shorter" (topS 14) ["lines", "order"] := fn_of X G a14 l14 c14 k14 fun _ _ _ _ _ _ us hl => match us, hl with | [_, _], _ => rfl
  have F15 : Fn K mg "shortest" (topS 15) ["lines", "order"] := fn_of X G a15 l15 c15 k15 fun _ _ _ _ _ _ us hl => match us, hl with | [_, _], _ => rfl
  have F16 : Fn K mg "quickest" (topS 16) ["hall", "lines", "order"] := fn_of X G a16 l16 c16 k16 fun _ _ _ _ _ _ us hl => match us, hl with | [_, _, _], _ => rfl
  have F17 : Fn K mg "sent_to" (topS 17) ["hall", "rule", "stand", "order"] := fn_of X G a17 l17 c17 k17 fun _ _ _ _ _ _ us hl => match us, hl with | [_, _, _, _], _ => rfl
  have F23 : Fn K mg "first_stand" (topS 23) ["hall"] := fn_of X G a23 l23 c23 k23 fun _ _ _ _ _ _ us hl => match us, hl with | [_], _ => rfl
  have F24 : Fn K mg "all_orders" (topS 24) ["hall"] := fn_of X G a24 l24 c24 k24 fun _ _ _ _ _ _ us hl => match us, hl with | [_], _ => rfl
  have F25 : Fn K mg "lines_with" (topS 25) ["lines", "k", "many"] := fn_of X G a25 l25 c25 k25 fun _ _ _ _ _ _ us hl => match us, hl with | [_, _, _], _ => rfl
  have F26 : Fn K mg "shifts_of" (topS 26) ["hall", "lines"] := fn_of X G a26 l26 c26 k26 fun _ _ _ _ _ _ us hl => match us, hl with | [_, _], _ => rfl
  have F27 : Fn K mg "asked" (topS 27) ["hall", "rule", "stand", "order"] := fn_of X G a27 l27 c27 k27 fun _ _ _ _ _ _ us hl => match us, hl with | [_, _, _, _], _ => rfl
  have F28 : Fn K mg "changed" (topS 28) ["hall", "rule", "stand", "move"] := fn_of X G a28 l28 c28 k28 fun _ _ _ _ _ _ us hl => match us, hl with | [_, _, _, _], _ => rfl
  have F29 : Fn K mg "moved_on" (topS 29) ["hall", "rule", "stand", "move"] := fn_of X G a29 l29 c29 k29 fun _ _ _ _ _ _ us hl => match us, hl with | [_, _, _, _], _ => rfl
  have F32 : Fn K mg "kept_lines" (topS 32) ["hall", "lines"] := fn_of X G a32 l32 c32 k32 fun _ _ _ _ _ _ us hl => match us, hl with | [_, _], _ => rfl
  have F33 : Fn K mg "all_moves" (topS 33) ["hall"] := fn_of X G a33 l33 c33 k33 fun _ _ _ _ _ _ us hl => match us, hl with | [_], _ => rfl
  have F34 : Fn K mg "ask_rules" (topS 34) ["one", "other"] := fn_of X G a34 l34 c34 k34 fun _ _ _ _ _ _ us hl => match us, hl with | [_, _], _ => rfl
  have F35 : Fn K mg "both_moved" (topS 35) ["hall", "one", "other", "triple", "move"] := fn_of X G a35 l35 c35 k35 fun _ _ _ _ _ _ us hl => match us, hl with | [_, _, _, _, _], _ => rfl
  have F36 : Fn K mg "is_worse" (topS 36) ["triple"] := fn_of X G a36 l36 c36 k36 fun _ _ _ _ _ _ us hl => match us, hl with | [_], _ => rfl
  have F39 : Fn K mg "never_worse" (topS 39) ["hall", "one", "other"] := fn_of X G a39 l39 c39 k39 fun _ _ _ _ _ _ us hl => match us, hl with | [_, _, _], _ => rfl
  have F41 : Fn K mg "_law_tape" (topS 41) ["_law_script"] := fn_of X G a41 l41 c41 k41 fun _ _ _ _ _ _ us hl => match us, hl with | [_], _ => rfl
  have F42 : Fn K mg "_law_draw" (topS 42) ["_law_tape_here", "_law_many"] := fn_of X G a42 l42 c42 k42 fun _ _ _ _ _ _ us hl => match us, hl with | [_, _], _ => rfl
  have F43 : Fn K mg "_law_frac" (topS 43) ["_law_top", "_law_bottom"] := fn_of X G a43 l43 c43 k43 fun _ _ _ _ _ _ us hl => match us, hl with | [_, _], _ => rfl
  have F44 : Fn K mg "_law_hall" (topS 44) ["_law_tape_here", "_law_most"] := fn_of X G a44 l44 c44 k44 fun _ _ _ _ _ _ us hl => match us, hl with | [_, _], _ => rfl
  have F45 : Fn K mg "_law_all_lines" (topS 45) ["_law_rooms"] := fn_of X G a45 l45 c45 k45 fun _ _ _ _ _ _ us hl => match us, hl with | [_], _ => rfl
  have F46 : Fn K mg "_law_sent" (topS 46) ["_law_hall_here", "_law_rule", "_law_lines", "_law_order_here"] := fn_of X G a46 l46 c46 k46 fun _ _ _ _ _ _ us hl => match us, hl with | [_, _, _, _], _ => rfl
  have F47 : Fn K mg "_law_put" (topS 47) ["_law_lines", "_law_k", "_law_more"] := fn_of X G a47 l47 c47 k47 fun _ _ _ _ _ _ us hl => match us, hl with | [_, _, _], _ => rfl
  have F48 : Fn K mg "_law_step" (topS 48) ["_law_hall_here", "_law_rule", "_law_lines", "_law_move"] := fn_of X G a48 l48 c48 k48 fun _ _ _ _ _ _ us hl => match us, hl with | [_, _, _, _], _ => rfl
  have F49 : Fn K mg "_law_kept" (topS 49) ["_law_hall_here", "_law_lines"] := fn_of X G a49 l49 c49 k49 fun _ _ _ _ _ _ us hl => match us, hl with | [_, _], _ => rfl
  have F51 : Fn K mg "_law_both" (topS 51) ["_law_hall_here", "_law_one", "_law_other", "_law_triple", "_law_move"] := fn_of X G a51 l51 c51 k51 fun _ _ _ _ _ _ us hl => match us, hl with | [_, _, _, _, _], _ => rfl
  have F52 : Fn K mg "_law_is_bad" (topS 52) ["_law_triple"] := fn_of X G a52 l52 c52 k52 fun _ _ _ _ _ _ us hl => match us, hl with | [_], _ => rfl
  have F53 : Fn K mg "_law_order" (topS 53) ["_law_tape_here", "_law_many"] := fn_of X G a53 l53 c53 k53 fun _ _ _ _ _ _ us hl => match us, hl with | [_, _], _ => rfl
  have F54 : Fn K mg "_law_called" (topS 54) ["_law_order_here", "_law_move"] := fn_of X G a54 l54 c54 k54 fun _ _ _ _ _ _ us hl => match us, hl with | [_, _], _ => rfl
  have F55 : Fn K mg "_law_shows" (topS 55) ["_law_hall_here", "_law_one", "_law_other", "_law_run"] := fn_of X G a55 l55 c55 k55 fun _ _ _ _ _ _ us hl => match us, hl with | [_, _, _, _], _ => rfl
  have M0 : Fm K C "__init__" "Pairs.__init__" (inClass (topS 38) 0) ["self", "hall", "one", "other"] := fm_of am0 im0 lm0 cm0 km0 fun _ _ _ _ _ _ us hl => match us, hl with | [_, _, _, _], _ => rfl
  have M1 : Fm K C "run_to" "Pairs.run_to" (inClass (topS 38) 1) ["self", "at"] := fm_of am1 im1 lm1 cm1 km1 fun _ _ _ _ _ _ us hl => match us, hl with | [_, _], _ => rfl
  have M2 : Fm K C "met" "Pairs.met" (inClass (topS 38) 2) ["self", "at", "move", "triple"] := fm_of am2 im2 lm2 cm2 km2 fun _ _ _ _ _ _ us hl => match us, hl with | [_, _, _, _], _ => rfl
  have M3 : Fm K C "worse_run" "Pairs.worse_run" (inClass (topS 38) 3) ["self"] := fm_of am3 im3 lm3 cm3 km3 fun _ _ _ _ _ _ us hl => match us, hl with | [_], _ => rfl
  refine ⟨PySem.W.fnOf "law" "law" (defArgs (topS 56)) (defBody (topS 56)) (defScope (topS 56)) .none kVL dcL pmL anL cdL ctL, fun s v => .of_eq rfl, fun base _ _ => ?_⟩
  have FL := fun_mk (st := topS 56) lL cL kL
  have C5 := c_common (P := l.prog) (w := w) (base := base) F5 T
  have C6 := c_fractionOf (P := l.prog) (w := w) (base := base) F6 T C5
  have C7 := c_divided (P := l.prog) (w := w) (base := base) F7 T C6
  have C8 := c_isLess (P := l.prog) (w := w) (base := base) F8 T
  have C10 := c_isAlike (P := l.prog) (w := w) (base := base) F10 T
  have C11 := c_turned (P := l.prog) (w := w) (base := base) F11 T
  have C14 := c_shorter (P := l.prog) (w := w) (base := base) F14 T
  have C15 := c_shortest (P := l.prog) (w := w) (base := base) F15 T
  have C16 := c_quickest (P := l.prog) (w := w) (base := base) F16 T C7 C8
  have C17 := c_sentTo (P := l.prog) (w := w) (base := base) F17 T C14 C15 C16
  have C23 := c_first (P := l.prog) (w := w) (base := base) F23 T
  have C24 := c_orders (P := l.prog) (w := w) (base := base) F24 T
  have C25 := c_linesWith (P := l.prog) (w := w) (base := base) F25
  have C26 := c_shifts (P := l.prog) (w := w) (base := base) F26
  have C27 := c_asked (P := l.prog) (w := w) (base := base) F27 T C17 C25
  have C28 := c_changed (P := l.prog) (w := w) (base := base) F28 T C27 C25
  have C29 := c_movedOn (P := l.prog) (w := w) (base := base) F29 C28 C26
  have C32 := c_kept (P := l.prog) (w := w) (base := base) F32 T C10
  have C33 := c_moves (P := l.prog) (w := w) (base := base) F33 T C24
  have C34 := c_ask (P := l.prog) (w := w) (base := base) F34 T
  have C35 := c_both (P := l.prog) (w := w) (base := base) F35 T C29 C32
  have C36 := c_worse (P := l.prog) (w := w) (base := base) F36 T
  have CI := c_init (P := l.prog) (w := w) (base := base) M0 PC C23
  have CR := c_runTo (P := l.prog) (w := w) (base := base) M1 PC T
  have CM := c_met (P := l.prog) (w := w) (base := base) M2 PC T
  have CW := c_worseRun (P := l.prog) (w := w) (base := base) M3 PC T C33 C35 C36 CR CM
  have C39 := c_never (P := l.prog) (w := w) (base := base) F39 PC hC mk kc T C34 CI CW
  have C41 := c_tape (P := l.prog) (w := w) (base := base) F41
  have C42 := c_draw (P := l.prog) (w := w) (base := base) F42 T
  have C43 := c_lFrac (P := l.prog) (w := w) (base := base) F43 T
  have C45 := c_allL (P := l.prog) (w := w) (base := base) F45 T
  have C44 := c_hall (P := l.prog) (w := w) (base := base) F44 T C42 C45 C43
  have C46 := c_lSent (P := l.prog) (w := w) (base := base) F46 T
  have C47 := c_lPut (P := l.prog) (w := w) (base := base) F47
  have C48 := c_lStep (P := l.prog) (w := w) (base := base) F48 T C46 C47
  have C49 := c_lKept (P := l.prog) (w := w) (base := base) F49 T
  have C51 := c_lBoth (P := l.prog) (w := w) (base := base) F51 T C48 C49
  have C52 := c_lBad (P := l.prog) (w := w) (base := base) F52 T
  have C53 := c_order (P := l.prog) (w := w) (base := base) F53 T C42
  have C54 := c_called (P := l.prog) (w := w) (base := base) F54 T
  have C55 := c_shows (P := l.prog) (w := w) (base := base) F55 T C51 C52
  exact c_law FL T C41 C44 C53 C11 C42 C39 C54 C55
theorem walk {l : PySem.W.OpenLaw} {q : Program} {loose : List Str} {XP : (Str → Option Value) → Heap → Prop} {YP : World → Heap → Prop} {d : DefRec} {K : Params → PySem.W.Frag} (hn : l.most = some 63) (hdf : d.params.defaults = [])
    (hY : ∀ (w : World) (h : Heap), YP w h → (K w.params).In h)
    (F : ∀ (w : World) (mg : Str → Option Value) (fa : Addr) (h : Heap), (K w.params).In h → h.Ns mainGlobals mg → mg d.name = some (.ref fa) →
      ∃ fd : FuncData, (∀ (s : Shared) (u : Value), BindsTo s fd ⟨[u], []⟩ [("_law_script", u)]) ∧ ∀ base : Heap, (K w.params).In base → base.Ns mainGlobals mg → FnOk l.prog w (K w.params) mg base CX0 12 fa fd ["_law_script"] (spLaw (K w.params))) :
    PySem.W.WalkO q loose XP YP l.row.toRowW d [] (fun f vs => PySem.call f vs) :=
  L2.walk_of (n := 63) (k := 12) (x := "_law_script") (CX := fun _ => CX0) (sp := fun w => spLaw (K w.params)) hn (by decide) hdf ⟨rfl, by decide, by decide⟩ hY F (fun _ _ a ns hl _ hS => ⟨a, ns, rfl, hS, hl, fun _ => rfl⟩) fun _ _ _ _ _ z => z
end SLW
/-! Part End. -/
set_option Elab.async false
set_option linter.all false
open PySem PySem.W PyProof.Rows
set_option maxRecDepth 100000 in
set_option maxHeartbeats 0 in
theorem PySem.Challenge.cw_shorterline_k60_whole_servers_turned_holds : PySem.Challenge.rw_shorterline_k60_whole_servers_turned.Holds := by
  w_on; o_law; k_head; (case hw => w_witness2)
  k_fill
  refine SLW.walk (l := PySem.Challenge.rw_shorterline_k60_whole_servers_turned) rfl rfl (fun w h Y => PySem.W.kIn_of Y) ?F
  case F =>
    intro w mg fa h KX G hmg
    refine' SLW.all_mk KX G hmg ?a5 ?l5 ?c5 ?k5 ?a6 ?l6 ?c6 ?k6 ?a7 ?l7 ?c7 ?k7 ?a8 ?l8 ?c8 ?k8 ?a10 ?l10 ?c10 ?k10 ?a11 ?l11 ?c11 ?k11 ?a14 ?l14 ?c14 ?k14 ?a15 ?l15 ?c15 ?k15 ?a16 ?l16 ?c16 ?k16 ?a17 ?l17 ?c17 ?k17 ?a23 ?l23 ?c23 ?k23 ?a24 ?l24 ?c24 ?k24 ?a25 ?l25 ?c25 ?k25 ?a26 ?l26 ?c26 ?k26 ?a27 ?l27 ?c27 ?k27 ?a28 ?l28 ?c28 ?k28 ?a29 ?l29 ?c29 ?k29 ?a32 ?l32 ?c32 ?k32 ?a33 ?l33 ?c33 ?k33 ?a34 ?l34 ?c34 ?k34 ?a35 ?l35 ?c35 ?k35 ?a36 ?l36 ?c36 ?k36 ?a39 ?l39 ?c39 ?k39 ?a41 ?l41 ?c41 ?k41 ?a42 ?l42 ?c42 ?k42 ?a43 ?l43 ?c43 ?k43 ?a44 ?l44 ?c44 ?k44 ?a45 ?l45 ?c45 ?k45 ?a46 ?l46 ?c46 ?k46 ?a47 ?l47 ?c47 ?k47 ?a48 ?l48 ?c48 ?k48 ?a49 ?l49 ?c49 ?k49 ?a51 ?l51 ?c51 ?k51 ?a52 ?l52 ?c52 ?k52 ?a53 ?l53 ?c53 ?k53 ?a54 ?l54 ?c54 ?k54 ?a55 ?l55 ?c55 ?k55 ?aC ?am0 ?im0 ?lm0 ?cm0 ?km0 ?am1 ?im1 ?lm1 ?cm1 ?km1 ?am2 ?im2 ?lm2 ?cm2 ?km2 ?am3 ?im3 ?lm3 ?cm3 ?km3 ?aL ?lL ?cL ?kL ?pg ?hd ?po ?sa ?mk ?kc ?n0_ ?n1_ ?n2_ ?n3_ ?n4_ ?n5_ ?z0_ ?z1_ ?z2_ ?z3_ ?z4_ ?z5_ ?z6_ ?z7_ ?z8_ ?z9_ ?z10_ ?z11_ ?s0_ ?s1_ ?s2_ ?s3_ ?s4_
    (case a5 => k_is)
    (case l5 => k_is)
    (case c5 => k_is)
    (case k5 => k_is)
    (case a6 => k_is)
    (case l6 => k_is)
    (case c6 => k_is)
    (case k6 => k_is)
    (case a7 => k_is)
    (case l7 => k_is)
    (case c7 => k_is)
    (case k7 => k_is)
    (case a8 => k_is)
    (case l8 => k_is)
    (case c8 => k_is)
    (case k8 => k_is)
    (case a10 => k_is)
    (case l10 => k_is)
    (case c10 => k_is)
    (case k10 => k_is)
    (case a11 => k_is)
    (case l11 => k_is)
    (case c11 => k_is)
    (case k11 => k_is)
    (case a14 => k_is)
    (case l14 => k_is)
    (case c14 => k_is)
    (case k14 => k_is)
    (case a15 => k_is)
    (case l15 => k_is)
    (case c15 => k_is)
    (case k15 => k_is)
    (case a16 => k_is)
    (case l16 => k_is)
    (case c16 => k_is)
    (case k16 => k_is)
    (case a17 => k_is)
    (case l17 => k_is)
    (case c17 => k_is)
    (case k17 => k_is)
    (case a23 => k_is)
    (case l23 => k_is)
    (case c23 => k_is)
    (case k23 => k_is)
    (case a24 => k_is)
    (case l24 => k_is)
    (case c24 => k_is)
    (case k24 => k_is)
    (case a25 => k_is)
    (case l25 => k_is)
    (case c25 => k_is)
    (case k25 => k_is)
    (case a26 => k_is)
    (case l26 => k_is)
    (case c26 => k_is)
    (case k26 => k_is)
    (case a27 => k_is)
    (case l27 => k_is)
    (case c27 => k_is)
    (case k27 => k_is)
    (case a28 => k_is)
    (case l28 => k_is)
    (case c28 => k_is)
    (case k28 => k_is)
    (case a29 => k_is)
    (case l29 => k_is)
    (case c29 => k_is)
    (case k29 => k_is)
    (case a32 => k_is)
    (case l32 => k_is)
    (case c32 => k_is)
    (case k32 => k_is)
    (case a33 => k_is)
    (case l33 => k_is)
    (case c33 => k_is)
    (case k33 => k_is)
    (case a34 => k_is)
    (case l34 => k_is)
    (case c34 => k_is)
    (case k34 => k_is)
    (case a35 => k_is)
    (case l35 => k_is)
    (case c35 => k_is)
    (case k35 => k_is)
    (case a36 => k_is)
    (case l36 => k_is)
    (case c36 => k_is)
    (case k36 => k_is)
    (case a39 => k_is)
    (case l39 => k_is)
    (case c39 => k_is)
    (case k39 => k_is)
    (case a41 => k_is)
    (case l41 => k_is)
    (case c41 => k_is)
    (case k41 => k_is)
    (case a42 => k_is)
    (case l42 => k_is)
    (case c42 => k_is)
    (case k42 => k_is)
    (case a43 => k_is)
    (case l43 => k_is)
    (case c43 => k_is)
    (case k43 => k_is)
    (case a44 => k_is)
    (case l44 => k_is)
    (case c44 => k_is)
    (case k44 => k_is)
    (case a45 => k_is)
    (case l45 => k_is)
    (case c45 => k_is)
    (case k45 => k_is)
    (case a46 => k_is)
    (case l46 => k_is)
    (case c46 => k_is)
    (case k46 => k_is)
    (case a47 => k_is)
    (case l47 => k_is)
    (case c47 => k_is)
    (case k47 => k_is)
    (case a48 => k_is)
    (case l48 => k_is)
    (case c48 => k_is)
    (case k48 => k_is)
    (case a49 => k_is)
    (case l49 => k_is)
    (case c49 => k_is)
    (case k49 => k_is)
    (case a51 => k_is)
    (case l51 => k_is)
    (case c51 => k_is)
    (case k51 => k_is)
    (case a52 => k_is)
    (case l52 => k_is)
    (case c52 => k_is)
    (case k52 => k_is)
    (case a53 => k_is)
    (case l53 => k_is)
    (case c53 => k_is)
    (case k53 => k_is)
    (case a54 => k_is)
    (case l54 => k_is)
    (case c54 => k_is)
    (case k54 => k_is)
    (case a55 => k_is)
    (case l55 => k_is)
    (case c55 => k_is)
    (case k55 => k_is)
    (case aC => k_is)
    (case am0 => k_is)
    (case im0 => k_is)
    (case lm0 => k_is)
    (case cm0 => k_is)
    (case km0 => k_is)
    (case am1 => k_is)
    (case im1 => k_is)
    (case lm1 => k_is)
    (case cm1 => k_is)
    (case km1 => k_is)
    (case am2 => k_is)
    (case im2 => k_is)
    (case lm2 => k_is)
    (case cm2 => k_is)
    (case km2 => k_is)
    (case am3 => k_is)
    (case im3 => k_is)
    (case lm3 => k_is)
    (case cm3 => k_is)
    (case km3 => k_is)
    (case aL => k_is)
    (case lL => k_is)
    (case cL => k_is)
    (case kL => k_is)
    (case pg => k_is)
    (case hd => k_is)
    (case po => k_is)
    (case sa => k_is)
    (case mk => k_is)
    (case kc => k_is)
    (case n0_ => k_is)
    (case n1_ => k_is)
    (case n2_ => k_is)
    (case n3_ => k_is)
    (case n4_ => k_is)
    (case n5_ => k_is)
    (case z0_ => k_is)
    (case z1_ => k_is)
    (case z2_ => k_is)
    (case z3_ => k_is)
    (case z4_ => k_is)
    (case z5_ => k_is)
    (case z6_ => k_is)
    (case z7_ => k_is)
    (case z8_ => k_is)
    (case z9_ => k_is)
    (case z10_ => k_is)
    (case z11_ => k_is)
    (case s0_ => k_is)
    (case s1_ => k_is)
    (case s2_ => k_is)
    (case s3_ => k_is)
    (case s4_ => k_is)
